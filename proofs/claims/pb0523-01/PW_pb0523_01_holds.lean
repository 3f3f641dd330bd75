import PyProof.Rows.All
import Wide.All
import OpenK.AllK
import Wide.FinOn
import PySem.Challenge.RW_pb0523_01
open PySem PySem.W PyProof.Rows PySem.Spec PySem.Calls
set_option Elab.async false
set_option maxRecDepth 100000
set_option maxHeartbeats 0
namespace Mine
open_top hd for PySem.Challenge.rw_pb0523_01
abbrev PP : Program := PySem.Challenge.rw_pb0523_01.row.prog
section
section
variable {prog : Program} {w : World} {A : Around} {E : Value → Shared → Prop} {s : Shared} {env : Env} {h₀ : Heap} {x : Str} {target : Expr} {body : List Stmt} {Q : Flow → Shared → Prop}
/-- how a turn ends: the iterator stands, the rest says J -/
def TurnEnd (h₀ : Heap) (L : Addr) (q : Addr × Obj) (J : (Str → Option Value) → List (Addr × Obj) → Prop) (s₁ s₂ : Shared) : Prop :=
  ∃ h' tk m' nx, s₂ = { s₁ with heap := h', toks := tk } ∧ Fr h₀ L h' m' ∧ News h₀ L h' (q :: nx) ∧ (∀ p ∈ nx, p.1 ≠ q.1) ∧ J m' nx
def TurnPost (h₀ : Heap) (L : Addr) (q : Addr × Obj) (J : (Str → Option Value) → List (Addr × Obj) → Prop) (s₁ : Shared) (Q : Flow → Shared → Prop) (f : Flow) (s₂ : Shared) : Prop :=
  match f with
  | .ret v => Q (.ret v) s₂
  | .brk => Q .next s₂
  | _ => TurnEnd h₀ L q J s₁ s₂
theorem range_loop {r : Addr} {a₀ b₀ : Int} {t₀ u₀ v₀ : Tok} {n : Nat} {m₀ : Str → Option Value} {news : List (Addr × Obj)} (J : Nat → (Str → Option Value) → List (Addr × Obj) → Prop)
    (hh : A.handled = none) (hr : IsRange s.heap r a₀ b₀ 1 t₀ u₀ v₀) (hsmall : Builtin.Range.small a₀ b₀ 1 = true) (hsz : Builtin.Range.rangeSize a₀ b₀ 1 = (n : Int)) (F : Fr h₀ env.locals s.heap m₀) (N : News h₀ env.locals s.heap news) (hj : J 0 m₀ news)
    (turn : ∀ (i : Nat) (t : Tok) (m₁ : Str → Option Value) (nx : List (Addr × Obj)) (h : Heap) (tk : Nat) (I : Addr) (o : Obj), i < n → (∀ p ∈ nx, p.1 ≠ I) → J i m₁ nx → Fr h₀ env.locals h (fun y => if y = x then some (.int (a₀ + i) t) else m₁ y) → News h₀ env.locals h ((I, o) :: nx) →
      wpAny (model prog w) A (execs body env) (TurnPost h₀ env.locals (I, o) (J (i + 1)) { s with heap := h, toks := tk } Q) E { s with heap := h, toks := tk })
    (done : ∀ m₁ nx h tk, J n m₁ nx → Fr h₀ env.locals h m₁ → News h₀ env.locals h nx → Q .next { s with heap := h, toks := tk }) :
    wpAny (model prog w) A (pyIter (.ref r)) (fun it s₂ => LoopAtV prog w A h₀ env x body Q E it s₂) E s := by
  refine wpAny_pyIter_range hr hsmall ?_
  have hI0 : h₀.get? s.heap.objs.size = none := next_is_new F
  refine ⟨s.heap.objs.size, [s.heap.objs.size], [s.heap.objs.size], n, fun i v => ∃ t, v = .int (a₀ + i * 1) t, _, m₀, news, J, rfl, Walks.range hh _ a₀ 1 n, ?_, ?_, ?_, ?_, F.push _, fun p hp => ⟨Heap.get?_push_of_some _ (N p hp).1, (N p hp).2⟩, hj, ?_, ?_⟩
  · intro hm
    exact absurd F.ns.lt ((List.mem_singleton.mp hm) ▸ Nat.lt_irrefl _)
  · intro b hb
    rw [List.mem_singleton.mp hb]; exact hI0
  · intro p hp hI
    exact absurd (Heap.lt_size (N p hp).1) ((List.mem_singleton.mp hI) ▸ Nat.lt_irrefl _)
  · show IsRangeIter _ _ _ _ _
    rw [hsz]; simpa using Heap.get?_push_size _ rfl
  · rintro i v m₁ nx s₁ own ⟨h, tk, rfl⟩ hin ⟨t, rfl⟩ hJ hoff hown hget hall hst F₁ N₁
    have hio : (s.heap.objs.size, _) ∈ own := hall _ (List.mem_singleton.mpr rfl) hI0 _ hst
    generalize ho : ({ cls := _, data := _ } : Obj) = o at hio
    have e1 : a₀ + (i : Int) * 1 = a₀ + (i : Int) := by omega
    rw [e1] at F₁
    have hne : ∀ p ∈ nx, p.1 ≠ s.heap.objs.size := fun p hp e => hoff p hp (List.mem_singleton.mpr e)
    refine wpAny_mono (turn i t m₁ nx h tk s.heap.objs.size o hin hne hJ F₁ ?_) (fun f s₂ p => ?_) fun _ _ e => e
    · intro p hp
      rcases List.mem_cons.mp hp with rfl | hp
      · exact N₁ _ (List.mem_append.mpr (.inl hio))
      · exact N₁ _ (List.mem_append.mpr (.inr hp))
    · have fin : TurnEnd h₀ env.locals (s.heap.objs.size, o) (J (i + 1)) { s with heap := h, toks := tk } s₂ → LoopStepU h₀ env.locals [s.heap.objs.size] own (J (i + 1)) { s with heap := h, toks := tk } .next s₂ := by
        rintro ⟨h', tk', m', nx', e, F', N', hn, hj'⟩
        refine ⟨rfl, h', tk', m', nx', e, F', fun p hp => ?_, fun p hp hI => hn p hp (List.mem_singleton.mp hI), hj'⟩
        rcases List.mem_append.mp hp with hp | hp
        · have h1 : p.1 = s.heap.objs.size := List.mem_singleton.mp (hown p hp)
          have h2 := hget p hp
          rw [h1] at h2
          have h3 := hget _ hio
          have h4 : p = (s.heap.objs.size, o) := Prod.ext h1 (Option.some.inj (h2.symm.trans h3))
          rw [h4]
          exact N' _ (.head _)
        · exact N' _ (.tail _ hp)
      cases f with
      | ret v => exact .ret p
      | brk => exact .brk p
      | next => exact .next (fin p)
      | cont => exact .cont (fin p)
  · rintro h' tk m' news' F' N' _ hJ
    exact done m' news' h' tk hJ F' N'

theorem seq_loop {ax I : Addr} {lo : Obj} {n : Nat} {P : Nat → Value → Prop} {St : Nat → Heap → Prop} {m₀ : Str → Option Value} {news : List (Addr × Obj)} (J : Nat → (Str → Option Value) → List (Addr × Obj) → Prop)
    {hp : Heap} {tk0 : Nat} (W : Walks prog w A I [I, ax] [I] n P St) (hgo : ∀ i v (s : Shared) (Q : Unit → Shared → Prop) (E : Value → Shared → Prop), St i s.heap → Q () s → wpAny (model prog w) A (letOwnedTupleGo target (.ref I) v) Q E s)
    (hob : ∀ i h, St i h → ∃ o, h.get? I = some o) (hI0 : h₀.get? I = none) (hne : ax ≠ I) (hIL : env.locals ≠ I) (hnI : ∀ p ∈ news, p.1 ≠ I) (hst : St 0 hp)
    (hm : (ax, lo) ∈ news) (F : Fr h₀ env.locals hp m₀) (N : News h₀ env.locals hp news) (hj : J 0 m₀ news)
    (turn : ∀ (i : Nat) (v : Value) (m₁ : Str → Option Value) (nx : List (Addr × Obj)) (h : Heap) (tk : Nat) (I : Addr) (o : Obj), i < n → P i v → (∀ p ∈ nx, p.1 ≠ I) → (ax, lo) ∈ nx → J i m₁ nx → Fr h₀ env.locals h m₁ → News h₀ env.locals h ((I, o) :: nx) →
      wpAny (model prog w) A (assign target env v) (fun _ s₃ => wpAny (model prog w) A (execs body env) (TurnPost h₀ env.locals (I, o) (fun m' nx' => (ax, lo) ∈ nx' ∧ J (i + 1) m' nx') { s with heap := h, toks := tk } Q) E s₃) E { s with heap := h, toks := tk })
    (done : ∀ m₁ nx h tk, J n m₁ nx → Fr h₀ env.locals h m₁ → News h₀ env.locals h nx → Q .next { s with heap := h, toks := tk }) :
    TurnsAt prog w A h₀ env target body Q E (.ref I) { s with heap := hp, toks := tk0 } := by
  have hax := N _ hm
  refine ⟨I, [I, ax], [I], n, _, _, St, m₀, news, fun i m nx => (ax, lo) ∈ nx ∧ J i m nx, rfl, KTurns.ofWalks W hgo, ?_, ?_, ?_, hst, F, N, ⟨hm, hj⟩, ?_, ?_⟩
  · intro hI
    rcases List.mem_cons.mp hI with e | hI
    · exact hIL e
    · exact hax.2.1 (List.mem_singleton.mp hI).symm
  · intro b hb
    rw [List.mem_singleton.mp hb]; exact hI0
  · intro p hp hI
    exact hnI p hp (List.mem_singleton.mp hI)
  · rintro i v m₁ nx h tk own hin hP ⟨hmx, hJ⟩ hoff hown hget hall hst₁ F₁ N₁
    obtain ⟨o, ho⟩ := hob _ _ hst₁
    have hio : (I, o) ∈ own := hall _ (List.mem_cons_self ..) hI0 _ ho
    have hne' : ∀ p ∈ nx, p.1 ≠ I := fun p hp e => hoff p hp (List.mem_singleton.mpr e)
    have hlo : h.get? ax = some lo := (N₁ _ (List.mem_append.mpr (.inr hmx))).1
    refine wpAny_mono (turn i v m₁ nx h tk I o hin hP hne' hmx hJ F₁ ?_) (fun _ s₃ h₃ => wpAny_mono h₃ (fun f s₂ p => ?_) fun _ _ e => e) fun _ _ e => e
    · intro p hp
      rcases List.mem_cons.mp hp with rfl | hp
      · exact N₁ _ (List.mem_append.mpr (.inl hio))
      · exact N₁ _ (List.mem_append.mpr (.inr hp))
    · have fin : TurnEnd h₀ env.locals (I, o) (fun m' nx' => (ax, lo) ∈ nx' ∧ J (i + 1) m' nx') { s with heap := h, toks := tk } s₂ → LoopStepU h₀ env.locals [I] own (fun m nx => (ax, lo) ∈ nx ∧ J (i + 1) m nx) { s with heap := h, toks := tk } .next s₂ := by
        rintro ⟨h', tk', m', nx', e, F', N', hn, hmx', hj'⟩
        refine ⟨rfl, h', tk', m', nx', e, F', fun p hp => ?_, fun p hp hI => hn p hp (List.mem_singleton.mp hI), hmx', hj'⟩
        rcases List.mem_append.mp hp with hp | hp
        · have h2 := hget p hp
          rcases List.mem_cons.mp (hown p hp) with h1 | h1
          · rw [h1] at h2
            have h4 : p = (I, o) := Prod.ext h1 (Option.some.inj (h2.symm.trans ho))
            rw [h4]
            exact N' _ (.head _)
          · have h1 := List.mem_singleton.mp h1
            rw [h1] at h2
            have h4 : p = (ax, lo) := Prod.ext h1 (Option.some.inj (h2.symm.trans hlo))
            rw [h4]
            exact N' _ (.tail _ hmx')
        · exact N' _ (.tail _ hp)
      cases f with
      | ret v => exact .ret p
      | brk => exact .brk p
      | next => exact .next (fin p)
      | cont => exact .cont (fin p)
  · rintro h' tk m' news' F' N' _ ⟨_, hJ⟩
    exact done m' news' h' tk hJ F' N'

theorem tuple_loop {ax : Addr} {lo : Obj} {vs : List Value} {n : Nat} {m₀ : Str → Option Value} {news : List (Addr × Obj)} (J : Nat → (Str → Option Value) → List (Addr × Obj) → Prop)
    (hh : A.handled = none) (F : Fr h₀ env.locals s.heap m₀) (N : News h₀ env.locals s.heap news) (hm : (ax, lo) ∈ news) (hc : lo.cls = .type "tuple") (hd : lo.data = .seq vs.toArray n) (hj : J 0 m₀ news)
    (turn : ∀ (i : Nat) (v : Value) (m₁ : Str → Option Value) (nx : List (Addr × Obj)) (h : Heap) (tk : Nat) (I : Addr) (o : Obj), i < vs.length → vs[i]? = some v → (∀ p ∈ nx, p.1 ≠ I) → (ax, lo) ∈ nx → J i m₁ nx → Fr h₀ env.locals h m₁ → News h₀ env.locals h ((I, o) :: nx) →
      wpAny (model prog w) A (assign target env v) (fun _ s₃ => wpAny (model prog w) A (execs body env) (TurnPost h₀ env.locals (I, o) (fun m' nx' => (ax, lo) ∈ nx' ∧ J (i + 1) m' nx') { s with heap := h, toks := tk } Q) E s₃) E { s with heap := h, toks := tk })
    (done : ∀ m₁ nx h tk, J vs.length m₁ nx → Fr h₀ env.locals h m₁ → News h₀ env.locals h nx → Q .next { s with heap := h, toks := tk }) :
    wpAny (model prog w) A (pyIter (.ref ax)) (fun it s₂ => TurnsAt prog w A h₀ env target body Q E it s₂) E s := by
  have hax := N _ hm
  have hl : s.heap.IsTuple ax vs.toArray := ⟨lo, hax.1, hc, n, hd⟩
  have hne : ax ≠ s.heap.objs.size := Nat.ne_of_lt (Heap.lt_size hax.1)
  refine wpAny_pyIter_tuple hl ?_
  refine seq_loop (tk0 := s.toks) (n := vs.length) (P := fun i v => vs[i]? = some v) (St := fun i h => h.IsTupleIter s.heap.objs.size ax i ∧ h.IsTuple ax vs.toArray) J ?_ (fun i v s Q E st q => letGo_tupleiter st.1 q) (fun i h st => ?_) (next_is_new F) hne (fun e => absurd F.ns.lt (e ▸ Nat.lt_irrefl _)) (fun p hp e => absurd (Heap.lt_size (N p hp).1) (e ▸ Nat.lt_irrefl _)) ?_ hm (F.push _) (fun p hp => ⟨Heap.get?_push_of_some _ (N p hp).1, (N p hp).2⟩) hj turn done
  · have W := Walks.tuple (prog := prog) (w := w) hh s.heap.objs.size ax hne vs.toArray
    simpa using W
  · obtain ⟨it, hit, _⟩ := st.1
    exact ⟨it, hit⟩
  · exact ⟨⟨_, Heap.get?_push_size _ rfl, rfl, rfl⟩, hl.at fun o e => Heap.get?_push_of_some _ e⟩
theorem list_loop {ax : Addr} {lo : Obj} {vs : List Value} {n : Nat} {m₀ : Str → Option Value} {news : List (Addr × Obj)} (J : Nat → (Str → Option Value) → List (Addr × Obj) → Prop)
    (hh : A.handled = none) (F : Fr h₀ env.locals s.heap m₀) (N : News h₀ env.locals s.heap news) (hm : (ax, lo) ∈ news) (hc : lo.cls = .type "list") (hd : lo.data = .seq vs.toArray n) (hj : J 0 m₀ news)
    (turn : ∀ (i : Nat) (v : Value) (m₁ : Str → Option Value) (nx : List (Addr × Obj)) (h : Heap) (tk : Nat) (I : Addr) (o : Obj), i < vs.length → vs[i]? = some v → (∀ p ∈ nx, p.1 ≠ I) → (ax, lo) ∈ nx → J i m₁ nx → Fr h₀ env.locals h m₁ → News h₀ env.locals h ((I, o) :: nx) →
      wpAny (model prog w) A (assign target env v) (fun _ s₃ => wpAny (model prog w) A (execs body env) (TurnPost h₀ env.locals (I, o) (fun m' nx' => (ax, lo) ∈ nx' ∧ J (i + 1) m' nx') { s with heap := h, toks := tk } Q) E s₃) E { s with heap := h, toks := tk })
    (done : ∀ m₁ nx h tk, J vs.length m₁ nx → Fr h₀ env.locals h m₁ → News h₀ env.locals h nx → Q .next { s with heap := h, toks := tk }) :
    wpAny (model prog w) A (pyIter (.ref ax)) (fun it s₂ => TurnsAt prog w A h₀ env target body Q E it s₂) E s := by
  have hax := N _ hm
  have hl : s.heap.IsList ax vs.toArray := ⟨lo, hax.1, hc, n, hd⟩
  have hne : ax ≠ s.heap.objs.size := Nat.ne_of_lt (Heap.lt_size hax.1)
  refine wpAny_pyIter_list hl ?_
  refine seq_loop (tk0 := s.toks) (n := vs.length) (P := fun i v => vs[i]? = some v) (St := fun i h => h.IsListIter s.heap.objs.size ax i ∧ h.IsList ax vs.toArray) J ?_ (fun i v s Q E st q => letGo_listiter st.1 q) (fun i h st => ?_) (next_is_new F) hne (fun e => absurd F.ns.lt (e ▸ Nat.lt_irrefl _)) (fun p hp e => absurd (Heap.lt_size (N p hp).1) (e ▸ Nat.lt_irrefl _)) ?_ hm (F.push _) (fun p hp => ⟨Heap.get?_push_of_some _ (N p hp).1, (N p hp).2⟩) hj turn done
  · have W := Walks.list (prog := prog) (w := w) hh s.heap.objs.size ax hne vs.toArray
    simpa using W
  · obtain ⟨it, hit, _⟩ := st.1
    exact ⟨it, hit⟩
  · exact ⟨⟨_, Heap.get?_push_size _ rfl, rfl, rfl⟩, hl.at fun o e => Heap.get?_push_of_some _ e⟩
end
theorem fr_mask {h₀ h : Heap} {L : Addr} {m m₀ : Str → Option Value} (names : List Str) (hm : ∀ y, names.contains y = false → m y = m₀ y) (F : Fr h₀ L h m) : Fr h₀ L h (fun y => if names.contains y then m y else m₀ y) := by
  have e : (fun y => if names.contains y then m y else m₀ y) = m := by
    funext y
    by_cases hy : names.contains y = true
    · simp only [hy, if_true]
    · have hy' : names.contains y = false := by simpa using hy
      simp only [hy', Bool.false_eq_true, if_false]
      exact (hm y hy').symm
  rw [e]; exact F
section
variable {prog : Program} {w : World} {A : Around} {E : Value → Shared → Prop} {s : Shared} {env : Env} {h₀ : Heap} {x : Str} {target : Expr} {body : List Stmt} {Q : Flow → Shared → Prop}
/-- a loop over a tuple whose turn turns one object d, some names and makes what it drops -/
theorem tuple_acc (names : List Str) {ax d : Addr} {lo o₀ : Obj} {vs : List Value} {n : Nat} {m₀ : Str → Option Value} {rest : List (Addr × Obj)} (Ob : Nat → Obj → Prop)
    (hh : A.handled = none) (F : Fr h₀ env.locals s.heap m₀) (N : News h₀ env.locals s.heap ((ax, lo) :: (d, o₀) :: rest)) (hc : lo.cls = .type "tuple") (hd : lo.data = .seq vs.toArray n) (hO : Ob 0 o₀)
    (turn : ∀ (i : Nat) (v : Value) (o₁ : Obj) (u : Str → Option Value) (h : Heap) (tk : Nat) (I : Addr) (o : Obj), i < vs.length → vs[i]? = some v → Ob i o₁ → ax ≠ I → d ≠ I → (∀ p ∈ rest, p.1 ≠ I) →
      Fr h₀ env.locals h (fun y => if names.contains y then u y else m₀ y) → News h₀ env.locals h ((I, o) :: (ax, lo) :: (d, o₁) :: rest) →
      wpAny (model prog w) A (assign target env v) (fun _ s₃ => wpAny (model prog w) A (execs body env) (TurnPost h₀ env.locals (I, o) (fun m' nx' => (ax, lo) ∈ nx' ∧ (∀ y, names.contains y = false → m' y = m₀ y) ∧ ∃ o', Ob (i + 1) o' ∧ nx' = (ax, lo) :: (d, o') :: rest) { s with heap := h, toks := tk } Q) E s₃) E { s with heap := h, toks := tk })
    (done : ∀ (o₁ : Obj) (u : Str → Option Value) (h : Heap) (tk : Nat), Ob vs.length o₁ → Fr h₀ env.locals h (fun y => if names.contains y then u y else m₀ y) → News h₀ env.locals h ((ax, lo) :: (d, o₁) :: rest) → Q .next { s with heap := h, toks := tk }) :
    wpAny (model prog w) A (pyIter (.ref ax)) (fun it s₂ => TurnsAt prog w A h₀ env target body Q E it s₂) E s := by
  refine tuple_loop (vs := vs) (n := n) (fun i m nx => (∀ y, names.contains y = false → m y = m₀ y) ∧ ∃ o', Ob i o' ∧ nx = (ax, lo) :: (d, o') :: rest) hh F N (.head _) hc hd ⟨fun _ _ => rfl, o₀, hO, rfl⟩ ?_ ?_
  · rintro i v m₁ nx h tk I o hi hv hne hmem ⟨hm, o₁, hO₁, rfl⟩ F₁ N₁
    exact turn i v o₁ m₁ h tk I o hi hv hO₁ (hne _ (.head _)) (hne _ (.tail _ (.head _))) (fun p hp => hne p (.tail _ (.tail _ hp))) (fr_mask names hm F₁) N₁
  · rintro m₁ nx h tk ⟨hm, o₁, hO₁, rfl⟩ F₁ N₁
    exact done o₁ m₁ h tk hO₁ (fr_mask names hm F₁) N₁
end
theorem turn_acc {names : List Str} {m₀ m' : Str → Option Value} {ax d I : Addr} {lo o o' : Obj} {rest all : List (Addr × Obj)} {Ob : Nat → Obj → Prop} {i : Nat} {L : Addr} {h₀ h' : Heap} {tk : Nat} {s₁ : Shared} {Q : Flow → Shared → Prop}
    (F : Fr h₀ L h' m') (N : News h₀ L h' all) (h1 : (I, o) ∈ all) (h2 : (ax, lo) ∈ all) (h3 : (d, o') ∈ all) (h4 : ∀ q ∈ rest, q ∈ all) (n1 : ax ≠ I) (n2 : d ≠ I) (n3 : ∀ p ∈ rest, p.1 ≠ I) (hm : ∀ y, names.contains y = false → m' y = m₀ y) (hO : Ob (i + 1) o') :
    TurnPost h₀ L (I, o) (fun m' nx' => (ax, lo) ∈ nx' ∧ (∀ y, names.contains y = false → m' y = m₀ y) ∧ ∃ o', Ob (i + 1) o' ∧ nx' = (ax, lo) :: (d, o') :: rest) s₁ Q .next { s₁ with heap := h', toks := tk } := by
  refine ⟨h', tk, m', (ax, lo) :: (d, o') :: rest, rfl, F, ?_, ?_, .head _, hm, o', hO, rfl⟩
  · intro q hq
    rcases List.mem_cons.mp hq with rfl | hq
    · exact N _ h1
    · rcases List.mem_cons.mp hq with rfl | hq
      · exact N _ h2
      · rcases List.mem_cons.mp hq with rfl | hq
        · exact N _ h3
        · exact N _ (h4 q hq)
  · intro q hq
    rcases List.mem_cons.mp hq with rfl | hq
    · exact n1
    · rcases List.mem_cons.mp hq with rfl | hq
      · exact n2
      · exact n3 q hq
section
variable {prog : Program} {w : World} {A : Around} {E : Value → Shared → Prop} {s : Shared} {env : Env} {h₀ : Heap} {x : Str} {target : Expr} {body : List Stmt} {Q : Flow → Shared → Prop}
theorem fr_mask1 {h : Heap} {L : Addr} {m m₀ : Str → Option Value} {v : Option Value} (names : List Str) (hm : ∀ y, names.contains y = false → m y = m₀ y) (F : Fr h₀ L h (fun y => if y = x then v else m y)) : Fr h₀ L h (fun y => if y = x then v else if names.contains y then m y else m₀ y) := by
  have e : (fun y => if y = x then v else if names.contains y then m y else m₀ y) = (fun y => if y = x then v else m y) := by
    funext y
    by_cases hy : names.contains y = true
    · simp only [hy, if_true]
    · have hy' : names.contains y = false := by simpa using hy
      simp only [hy', Bool.false_eq_true, if_false, hm y hy']
  rw [e]; exact F
theorem fr_mask2 {h : Heap} {L : Addr} {m m₀ : Str → Option Value} {p q : Str} {a b : Value} (names : List Str) (hm : ∀ y, names.contains y = false → m y = m₀ y) (hp : m p = some a) (hq : m q = some b) (F : Fr h₀ L h m) :
    Fr h₀ L h (fun y => if y = p then some a else if y = q then some b else if names.contains y then m y else m₀ y) := by
  have e : (fun y => if y = p then some a else if y = q then some b else if names.contains y then m y else m₀ y) = m := by
    funext y
    by_cases h1 : y = p
    · rw [if_pos h1, h1, hp]
    · rw [if_neg h1]
      by_cases h2 : y = q
      · rw [if_pos h2, h2, hq]
      · rw [if_neg h2]
        by_cases hy : names.contains y = true
        · rw [if_pos hy]
        · rw [if_neg hy]
          exact (hm y (by simpa using hy)).symm
  rw [e]; exact F
/-- a loop over a range whose turn turns some names and makes what it drops -/
theorem range_names (names : List Str) {r : Addr} {a₀ b₀ : Int} {t₀ u₀ v₀ : Tok} {n : Nat} {m₀ : Str → Option Value} {rest : List (Addr × Obj)}
    (hh : A.handled = none) (hr : IsRange s.heap r a₀ b₀ 1 t₀ u₀ v₀) (hsmall : Builtin.Range.small a₀ b₀ 1 = true) (hsz : Builtin.Range.rangeSize a₀ b₀ 1 = (n : Int)) (F : Fr h₀ env.locals s.heap m₀) (N : News h₀ env.locals s.heap rest)
    (turn : ∀ (i : Nat) (t : Tok) (u : Str → Option Value) (h : Heap) (tk : Nat) (I : Addr) (o : Obj), i < n → (∀ p ∈ rest, p.1 ≠ I) → Fr h₀ env.locals h (fun y => if y = x then some (.int (a₀ + i) t) else if names.contains y then u y else m₀ y) → News h₀ env.locals h ((I, o) :: rest) →
      wpAny (model prog w) A (execs body env) (TurnPost h₀ env.locals (I, o) (fun m' nx' => (∀ y, names.contains y = false → m' y = m₀ y) ∧ nx' = rest) { s with heap := h, toks := tk } Q) E { s with heap := h, toks := tk })
    (done : ∀ (u : Str → Option Value) (h : Heap) (tk : Nat), Fr h₀ env.locals h (fun y => if names.contains y then u y else m₀ y) → News h₀ env.locals h rest → Q .next { s with heap := h, toks := tk }) :
    wpAny (model prog w) A (pyIter (.ref r)) (fun it s₂ => LoopAtV prog w A h₀ env x body Q E it s₂) E s := by
  refine range_loop (fun _ m nx => (∀ y, names.contains y = false → m y = m₀ y) ∧ nx = rest) hh hr hsmall hsz F N ⟨fun _ _ => rfl, rfl⟩ ?_ ?_
  · rintro i t m₁ nx h tk I o hi hne ⟨hm, rfl⟩ F₁ N₁
    exact turn i t m₁ h tk I o hi hne (fr_mask1 names hm F₁) N₁
  · rintro m₁ nx h tk ⟨hm, rfl⟩ F₁ N₁
    exact done m₁ h tk (fr_mask names hm F₁) N₁
theorem turn_names {names : List Str} {m₀ m' : Str → Option Value} {I : Addr} {o : Obj} {rest all : List (Addr × Obj)} {L : Addr} {h' : Heap} {tk : Nat} {s₁ : Shared}
    (F : Fr h₀ L h' m') (N : News h₀ L h' all) (h1 : (I, o) ∈ all) (h4 : ∀ q ∈ rest, q ∈ all) (n3 : ∀ p ∈ rest, p.1 ≠ I) (hm : ∀ y, names.contains y = false → m' y = m₀ y) :
    TurnPost h₀ L (I, o) (fun m' nx' => (∀ y, names.contains y = false → m' y = m₀ y) ∧ nx' = rest) s₁ Q .next { s₁ with heap := h', toks := tk } := by
  refine ⟨h', tk, m', rest, rfl, F, ?_, n3, hm, rfl⟩
  intro q hq
  rcases List.mem_cons.mp hq with rfl | hq
  · exact N _ h1
  · exact N _ (h4 q hq)
/-- a loop over a list of the ledger whose turn turns two ints and some names -/
theorem list_two (names : List Str) (p q : Str) (f g : Nat → Int) {ax : Addr} {lo : Obj} {vs : List Value} {n : Nat} {m₀ : Str → Option Value} {rest : List (Addr × Obj)} {te tw : Tok}
    (hh : A.handled = none) (F : Fr h₀ env.locals s.heap m₀) (N : News h₀ env.locals s.heap ((ax, lo) :: rest)) (hc : lo.cls = .type "list") (hd : lo.data = .seq vs.toArray n) (hp : m₀ p = some (.int (f 0) te)) (hq : m₀ q = some (.int (g 0) tw))
    (turn : ∀ (i : Nat) (v : Value) (te tw : Tok) (u : Str → Option Value) (h : Heap) (tk : Nat) (I : Addr) (o : Obj), i < vs.length → vs[i]? = some v → ax ≠ I → (∀ p ∈ rest, p.1 ≠ I) →
      Fr h₀ env.locals h (fun y => if y = p then some (.int (f i) te) else if y = q then some (.int (g i) tw) else if names.contains y then u y else m₀ y) → News h₀ env.locals h ((I, o) :: (ax, lo) :: rest) →
      wpAny (model prog w) A (assign target env v) (fun _ s₃ => wpAny (model prog w) A (execs body env) (TurnPost h₀ env.locals (I, o) (fun m' nx' => (ax, lo) ∈ nx' ∧ ((∀ y, names.contains y = false → m' y = m₀ y) ∧ (∃ te, m' p = some (.int (f (i + 1)) te)) ∧ (∃ tw, m' q = some (.int (g (i + 1)) tw)) ∧ nx' = (ax, lo) :: rest)) { s with heap := h, toks := tk } Q) E s₃) E { s with heap := h, toks := tk })
    (done : ∀ (te tw : Tok) (u : Str → Option Value) (h : Heap) (tk : Nat), Fr h₀ env.locals h (fun y => if y = p then some (.int (f vs.length) te) else if y = q then some (.int (g vs.length) tw) else if names.contains y then u y else m₀ y) → News h₀ env.locals h ((ax, lo) :: rest) → Q .next { s with heap := h, toks := tk }) :
    wpAny (model prog w) A (pyIter (.ref ax)) (fun it s₂ => TurnsAt prog w A h₀ env target body Q E it s₂) E s := by
  refine list_loop (vs := vs) (n := n) (fun i m nx => (∀ y, names.contains y = false → m y = m₀ y) ∧ (∃ te, m p = some (.int (f i) te)) ∧ (∃ tw, m q = some (.int (g i) tw)) ∧ nx = (ax, lo) :: rest) hh F N (.head _) hc hd ⟨fun _ _ => rfl, ⟨te, hp⟩, ⟨tw, hq⟩, rfl⟩ ?_ ?_
  · rintro i v m₁ nx h tk I o hi hv hne hmem ⟨hm, ⟨te, h1⟩, ⟨tw, h2⟩, rfl⟩ F₁ N₁
    exact turn i v te tw m₁ h tk I o hi hv (hne _ (.head _)) (fun p hp => hne p (.tail _ hp)) (fr_mask2 names hm h1 h2 F₁) N₁
  · rintro m₁ nx h tk ⟨hm, ⟨te, h1⟩, ⟨tw, h2⟩, rfl⟩ F₁ N₁
    exact done te tw m₁ h tk (fr_mask2 names hm h1 h2 F₁) N₁
theorem turn_two {names : List Str} {p q : Str} {f g : Nat → Int} {i : Nat} {m₀ m' : Str → Option Value} {ax I : Addr} {lo o : Obj} {rest all : List (Addr × Obj)} {L : Addr} {h' : Heap} {tk : Nat} {s₁ : Shared}
    (F : Fr h₀ L h' m') (N : News h₀ L h' all) (h1 : (I, o) ∈ all) (h2 : (ax, lo) ∈ all) (h4 : ∀ q ∈ rest, q ∈ all) (n1 : ax ≠ I) (n3 : ∀ p ∈ rest, p.1 ≠ I) (hm : ∀ y, names.contains y = false → m' y = m₀ y) (hp : ∃ te, m' p = some (.int (f (i + 1)) te)) (hq : ∃ tw, m' q = some (.int (g (i + 1)) tw)) :
    TurnPost h₀ L (I, o) (fun m' nx' => (ax, lo) ∈ nx' ∧ ((∀ y, names.contains y = false → m' y = m₀ y) ∧ (∃ te, m' p = some (.int (f (i + 1)) te)) ∧ (∃ tw, m' q = some (.int (g (i + 1)) tw)) ∧ nx' = (ax, lo) :: rest)) s₁ Q .next { s₁ with heap := h', toks := tk } := by
  refine ⟨h', tk, m', (ax, lo) :: rest, rfl, F, ?_, ?_, .head _, hm, hp, hq, rfl⟩
  · intro q hq
    rcases List.mem_cons.mp hq with rfl | hq
    · exact N _ h1
    · rcases List.mem_cons.mp hq with rfl | hq
      · exact N _ h2
      · exact N _ (h4 q hq)
  · intro q hq
    rcases List.mem_cons.mp hq with rfl | hq
    · exact n1
    · exact n3 q hq
/-- a goal that the walk leaves alone -/
structure Halt (P : Prop) : Prop where
  out : P
end
end
section
local macro_rules | `(tactic| walk_at "none 0") => `(tactic| fail)
theorem upd_mem {d : Addr} {o o' : Obj} {l l' : List (Addr × Obj)} (U : Upd d o o' l l') : ∀ q ∈ l', q = (d, o') ∨ (q ∈ l ∧ q.1 ≠ d) := by
  obtain ⟨pre, post, rfl, rfl, h1, h2⟩ := U.split
  intro q hq
  rcases List.mem_append.mp hq with h | h
  · exact .inr ⟨List.mem_append.mpr (.inl h), h1 q h⟩
  · rcases List.mem_cons.mp h with h | h
    · exact .inl h
    · exact .inr ⟨List.mem_append.mpr (.inr (.tail _ h)), h2 q h⟩
def off (d : Addr) (l : List (Addr × Obj)) : List (Addr × Obj) := l.filter fun q => decide (q.1 ≠ d)
theorem off_ne {d : Addr} {l : List (Addr × Obj)} : ∀ q ∈ off d l, q.1 ≠ d := fun q h => by simpa using (List.mem_filter.mp h).2
theorem off_ne2 {d e : Addr} {l : List (Addr × Obj)} : ∀ q ∈ off e (off d l), q.1 ≠ d := fun q h => off_ne q (List.mem_filter.mp h).1
theorem off_mem {d : Addr} {l : List (Addr × Obj)} {q : Addr × Obj} (h : q ∈ l) (hn : q.1 ≠ d) : q ∈ off d l := List.mem_filter.mpr ⟨h, by simpa using hn⟩
theorem off_sub {d : Addr} {l : List (Addr × Obj)} : ∀ q ∈ off d l, q ∈ l := fun _ h => (List.mem_filter.mp h).1
theorem news_upd1 {h₀ h : Heap} {L d : Addr} {o o' : Obj} {l l' : List (Addr × Obj)} (H : News h₀ L h ((d, o') :: off d l)) (U : Upd d o o' l l') : News h₀ L h l' := by
  intro q hq
  rcases upd_mem U q hq with rfl | ⟨h1, h2⟩
  · exact H _ (.head _)
  · exact H _ (.tail _ (off_mem h1 h2))
theorem news_upd2 {h₀ h : Heap} {L d e : Addr} {o o' x x' : Obj} {l l' l'' : List (Addr × Obj)} (H : News h₀ L h ((d, o') :: (e, x') :: off e (off d l))) (U : Upd d o o' l l') (V : Upd e x x' l' l'') : News h₀ L h l'' := by
  intro q hq
  rcases upd_mem V q hq with rfl | ⟨h1, h2⟩
  · exact H _ (.tail _ (.head _))
  · rcases upd_mem U q h1 with rfl | ⟨h3, h4⟩
    · exact H _ (.head _)
    · exact H _ (.tail _ (.tail _ (off_mem (off_mem h3 h4) h2)))
theorem news_in1 {h₀ h : Heap} {L d : Addr} {o : Obj} {l : List (Addr × Obj)} (N : News h₀ L h l) (hm : (d, o) ∈ l) : News h₀ L h ((d, o) :: off d l) := by
  intro q hq
  rcases List.mem_cons.mp hq with rfl | h
  · exact N _ hm
  · exact N _ (off_sub q h)
theorem news_in2 {h₀ h : Heap} {L d e : Addr} {o x : Obj} {l : List (Addr × Obj)} (N : News h₀ L h l) (hm : (d, o) ∈ l) (he : (e, x) ∈ l) : News h₀ L h ((d, o) :: (e, x) :: off e (off d l)) := by
  intro q hq
  rcases List.mem_cons.mp hq with rfl | h
  · exact N _ hm
  · rcases List.mem_cons.mp h with rfl | h
    · exact N _ he
    · exact N _ (off_sub q (off_sub q h))

section
variable {prog : Program} {w : World} {A : Around} {E : Value → Shared → Prop} {s : Shared} {h₀ : Heap} {L D : Addr} {m : Str → Option Value} {news news' : List (Addr × Obj)} {n : Nat}
theorem my_len {vs : List Value} {Q : Value → Shared → Prop} (N : News h₀ L s.heap news) (hm : (D, listOf vs.toArray n) ∈ news) (hz : vs.length < 1000)
    (h : Q (.int vs.length (s.toks + 1)) { s with toks := s.toks + 1 + 1 }) : wpAny (model prog w) A (call (.builtin "len") [.ref D]) Q E s :=
  len_list (News.isList N hm) (by simp only [List.size_toArray]; omega) (by simpa using h)
theorem my_pop0 {y : Value} {q : List Value} {u : Tok} {Q : Value → Shared → Prop} (F : Fr h₀ L s.heap m) (N : News h₀ L s.heap news)
    (U : Upd D (listOf (y :: q).toArray n) (listOf q.toArray (n + 1)) news news') (hz : q.length < 1000)
    (h : ∀ h', Fr h₀ L h' m → News h₀ L h' news' → Q y { s with heap := h' }) : wpAny (model prog w) A (call (.builtin "list.pop") [.ref D, .int 0 u]) Q E s :=
  kl_popAt (p := []) (k := 0) F N rfl (by unfold seqIndex?; simp) rfl U (by rw [PySem.sizeLine_eq]; simp; omega) h
end
theorem allLt_ne {d : Addr} {l : List (Addr × Obj)} (h : AllLt d l) : ∀ q ∈ l, q.1 ≠ d := fun q hq => Nat.ne_of_lt (ktn_ltOf h q hq)
theorem mem_fold {q : Addr × Obj} {l : List (Addr × Obj)} (h : q ∈ l) : List.Mem q l := h
local macro_rules | `(tactic| k_all) => `(tactic| first | (with_reducible assumption) | (refine allLt_ne ?_; first | (with_reducible assumption) | exact And.right (by with_reducible assumption) | exact And.right (And.right (by with_reducible assumption)) | exact And.right (And.right (And.right (by with_reducible assumption))) | exact And.right (And.right (And.right (And.right (by with_reducible assumption)))) | exact And.right (And.right (And.right (And.right (And.right (by with_reducible assumption))))) | exact And.right (And.right (And.right (And.right (And.right (And.right (by with_reducible assumption)))))) | exact And.right (And.right (And.right (And.right (And.right (And.right (And.right (by with_reducible assumption))))))) | exact And.right (And.right (And.right (And.right (And.right (And.right (And.right (And.right (by with_reducible assumption))))))))) | exact List.forall_mem_nil _ | (refine' List.forall_mem_cons.mpr ⟨?a, ?b⟩; (case a => k_ne); (case b => k_all)))
local macro_rules | `(tactic| k_mem) => `(tactic| (refine mem_fold ?_; with_reducible assumption))
local macro_rules | `(tactic| ktr_room) => `(tactic| ((try simp only [depth_under_make, depth_under_kw, depth_in1, depth_deeper, depth_caller]); (try dsimp only [ktrTop]); omega))
local macro_rules | `(tactic| ktr_units) => `(tactic| ((try simp only [units_in1, units_deeper, Around.mark_units, units_caller]); (try dsimp only [ktrTop]); omega))
local macro_rules | `(tactic| k_room) => `(tactic| ktr_room)
local macro_rules | `(tactic| walk_at "call builtin:len") => `(tactic| (k_here; (with_reducible show wpAny _ _ (call (Value.builtin "len") [Value.ref _]) _ _ _); k_dflt (refine' my_len ?N ?m ?z ?_; (case N => k_asm); (case m => k_mem); (case z => first | assumption | (simp only [List.length_cons, List.length_append, List.length_nil] at *; omega)); k_whole); (try simp only [List.length_cons, List.length_append, List.length_nil])))
local macro_rules | `(tactic| walk_at "call builtin:list.pop") => `(tactic| (k_here; k_dflt (refine' my_pop0 ?F ?N ?U ?z ?_; (case F => k_asm); (case N => k_asm); (case U => k_upd); (case z => first | assumption | (simp only [List.length_cons, List.length_append, List.length_nil] at *; omega)); k_whole); intro h' F' N'))

abbrev boxO (l : Addr) (k c : Int) (tk tc : Tok) (n : Nat) : Obj := listOf [.ref l, .int k tk, .int c tc].toArray n
abbrev IsInts (vs : List Value) : Prop := ∃ ns, IntsAre vs ns

theorem take_r {w : World} {p : Program} {loose : List Str} {mean : ExcName → Option Value} {mg mb : Str → Option Value}
    {dp un : Nat} {gd : Option (List Code)} {cn : Str} {cs : Scope} {a : Addr} {ccd : Value} {cl : List (Str × Addr)} {outer : List Env} {A₀ : Around} {base h₀ : Heap} {L : Addr} {m : Str → Option Value} {s : Shared} {Q E : Value → Shared → Prop}
    (B : Below A₀ base outer h₀) (F : Fr h₀ L s.heap m) (X : (hd.heap_39 w.params).In h₀) (T : Top p loose mean mg mb h₀) (hk : cs.kind = .function) (hdp : dp + 2 < recursionLimit) (hun : un + 16 < cLine)
    {b l : Addr} {k c wide : Int} {tk tc tw : Tok} {n nl : Nat} {vs : List Value} {rest : List (Addr × Obj)}
    (N : News h₀ L s.heap ((b, boxO l k c tk tc n) :: (l, listOf vs.toArray nl) :: rest)) (hbl : @LT.lt Nat _ l b) (hb : ∀ q ∈ rest, q.1 ≠ b) (hl : ∀ q ∈ rest, q.1 ≠ l)
    (hi : IsInts vs) (hn : vs.length ≤ 50) (hk0 : 0 ≤ k) (hk1 : k ≤ 100) (hw0 : 0 < wide)
    (ret : ∀ (r : Int) (t : Tok) (vs' : List Value) (nl' n' : Nat) (tk' : Tok) (h' : Heap) (tks : Nat), 0 ≤ r → r < wide → IsInts vs' → vs'.length ≤ 50 → Fr h₀ L h' m →
      News h₀ L h' ((b, boxO l (k + 1) c tk' tc n') :: (l, listOf vs'.toArray nl') :: rest) → Q (.int r t) { s with heap := h', toks := tks }) :
    wpAny (model PP w) (ktrTop dp un gd cn cs L a ccd cl outer) (call (.ref 231) [.ref b, .int wide tw]) Q E s := by
  w_on
  obtain ⟨ns, hi⟩ := hi
  cases hi with
  | nil =>
    refine wpAny_call ?_
    k_dflt cell_enter
    k_steps
    all_goals (exact ret _ _ _ _ _ _ _ _ (Int.fmod_nonneg_of_pos _ hw0) (Int.fmod_lt_of_pos _ hw0) ⟨_, IntsAre.nil⟩ (Nat.zero_le _) (by k_asm) (by k_asm))
  | cons x tx hi' =>
    simp only [List.length_cons] at hn
    refine wpAny_call ?_
    k_dflt cell_enter
    k_steps
    all_goals (exact ret _ _ _ _ _ _ _ _ (Int.fmod_nonneg_of_pos _ hw0) (Int.fmod_lt_of_pos _ hw0) ⟨_, hi'⟩ (by omega) (by k_asm) (by k_asm))

theorem take_u {w : World} {p : Program} {loose : List Str} {mean : ExcName → Option Value} {mg mb : Str → Option Value}
    {dp un : Nat} {gd : Option (List Code)} {cn : Str} {cs : Scope} {a : Addr} {ccd : Value} {cl : List (Str × Addr)} {outer : List Env} {A₀ : Around} {base h₀ : Heap} {L : Addr} {m : Str → Option Value} {s : Shared} {Q E : Value → Shared → Prop}
    (B : Below A₀ base outer h₀) (F : Fr h₀ L s.heap m) (X : (hd.heap_39 w.params).In h₀) (T : Top p loose mean mg mb h₀) (hk : cs.kind = .function) (hdp : dp + 2 < recursionLimit) (hun : un + 16 < cLine)
    {b l : Addr} {k c wide : Int} {tk tc tw : Tok} {n nl : Nat} {vs : List Value} {news : List (Addr × Obj)}
    (N : News h₀ L s.heap news) (mb' : (b, boxO l k c tk tc n) ∈ news) (ml : (l, listOf vs.toArray nl) ∈ news) (hbl : @LT.lt Nat _ l b)
    (hi : IsInts vs) (hn : vs.length ≤ 50) (hk0 : 0 ≤ k) (hk1 : k ≤ 100) (hw0 : 0 < wide)
    (ret : ∀ (r : Int) (t : Tok) (vs' : List Value) (nl' n' : Nat) (tk' : Tok) (h' : Heap) (tks : Nat), 0 ≤ r → r < wide → IsInts vs' → vs'.length ≤ 50 → Fr h₀ L h' m →
      (∀ news1 news2, Upd b (boxO l k c tk tc n) (boxO l (k + 1) c tk' tc n') news news1 → Upd l (listOf vs.toArray nl) (listOf vs'.toArray nl') news1 news2 → News h₀ L h' news2) → Q (.int r t) { s with heap := h', toks := tks }) :
    wpAny (model PP w) (ktrTop dp un gd cn cs L a ccd cl outer) (call (.ref 231) [.ref b, .int wide tw]) Q E s := by
  exact take_r B F X T hk hdp hun (news_in2 N mb' ml) hbl off_ne2 off_ne hi hn hk0 hk1 hw0
    fun r t vs' nl' n' tk' h' tks h1 h2 h3 h4 F' N' => ret r t vs' nl' n' tk' h' tks h1 h2 h3 h4 F' fun _ _ U V => news_upd2 N' U V

abbrev pInst (pd : Addr) : Obj := instObj 66 pd
abbrev pDict (w : World) (k1 k2 k3 k4 : Tok) (B l r t : Int) (t1 t2 t3 t4 : Tok) : Obj :=
  dictOf [⟨PyData.keyHash w.params (Str.ofString "burst"), .str (Str.ofString "burst") k1, .int B t1⟩, ⟨PyData.keyHash w.params (Str.ofString "left"), .str (Str.ofString "left") k2, .int l t2⟩,
    ⟨PyData.keyHash w.params (Str.ofString "rest"), .str (Str.ofString "rest") k3, .int r t3⟩, ⟨PyData.keyHash w.params (Str.ofString "seen_at"), .str (Str.ofString "seen_at") k4, .int t t4⟩] 4
def EarnP (Bu le re win way gap le' re' : Int) : Prop :=
  (Bu ≤ le + (re + 5 * win * gap).fdiv (4 * way) ∧ le' = Bu ∧ re' = 0) ∨ (le + (re + 5 * win * gap).fdiv (4 * way) < Bu ∧ le' = le + (re + 5 * win * gap).fdiv (4 * way) ∧ re' = (re + 5 * win * gap).fmod (4 * way))
theorem earn_r {w : World} {p : Program} {loose : List Str} {mean : ExcName → Option Value} {mg mb : Str → Option Value}
    {dp un : Nat} {gd : Option (List Code)} {cn : Str} {cs : Scope} {a : Addr} {ccd : Value} {cl : List (Str × Addr)} {outer : List Env} {A₀ : Around} {base h₀ : Heap} {L : Addr} {m : Str → Option Value} {s : Shared} {Q E : Value → Shared → Prop}
    (B : Below A₀ base outer h₀) (F : Fr h₀ L s.heap m) (X : (hd.heap_39 w.params).In h₀) (T : Top p loose mean mg mb h₀) (hk : cs.kind = .function) (hdp : dp + 2 < recursionLimit) (hun : un + 16 < cLine)
    {pa pd : Addr} {k1 k2 k3 k4 : Tok} {Bu le re t0 : Int} {t1 t2 t3 t4 : Tok} {rest : List (Addr × Obj)}
    (N : News h₀ L s.heap ((pd, pDict w k1 k2 k3 k4 Bu le re t0 t1 t2 t3 t4) :: (pa, pInst pd) :: rest)) (hpa : @LT.lt Nat _ pd pa) (hap : ∀ q ∈ rest, q.1 ≠ pd)
    {win way now : Int} {u1 u2 u3 : Tok} (hw0 : 0 ≤ win) (hw1 : win ≤ 100000) (hy0 : 1 ≤ way) (hy1 : way ≤ 100000)
    (ret : ∀ (le' re' : Int) (r2 r3 r4 : Tok) (h' : Heap) (tks : Nat), EarnP Bu le re win way (now - t0) le' re' → Fr h₀ L h' m →
      News h₀ L h' ((pd, pDict w k1 k2 k3 k4 Bu le' re' now t1 r2 r3 r4) :: (pa, pInst pd) :: rest) → Q .none { s with heap := h', toks := tks }) :
    wpAny (model PP w) (ktrTop dp un gd cn cs L a ccd cl outer) (call (.ref 42) [.ref pa, .int win u1, .int way u2, .int now u3]) Q E s := by
  w_on
  refine wpAny_call ?_
  k_dflt cell_enter
  k_steps
  all_goals (simp only [if_neg (show ¬ (1 : Int) > way by omega)] at *)
  all_goals (refine ret _ _ _ _ _ _ _ ?_ (by k_asm) (by k_asm))
  · exact Or.inl ⟨by assumption, rfl, rfl⟩
  · exact Or.inr ⟨by omega, rfl, rfl⟩
theorem earn_u {w : World} {p : Program} {loose : List Str} {mean : ExcName → Option Value} {mg mb : Str → Option Value}
    {dp un : Nat} {gd : Option (List Code)} {cn : Str} {cs : Scope} {a : Addr} {ccd : Value} {cl : List (Str × Addr)} {outer : List Env} {A₀ : Around} {base h₀ : Heap} {L : Addr} {m : Str → Option Value} {s : Shared} {Q E : Value → Shared → Prop}
    (B : Below A₀ base outer h₀) (F : Fr h₀ L s.heap m) (X : (hd.heap_39 w.params).In h₀) (T : Top p loose mean mg mb h₀) (hk : cs.kind = .function) (hdp : dp + 2 < recursionLimit) (hun : un + 16 < cLine)
    {pa pd : Addr} {k1 k2 k3 k4 : Tok} {Bu le re t0 : Int} {t1 t2 t3 t4 : Tok} {news : List (Addr × Obj)}
    (N : News h₀ L s.heap news) (mp : (pa, pInst pd) ∈ news) (md : (pd, pDict w k1 k2 k3 k4 Bu le re t0 t1 t2 t3 t4) ∈ news) (hpa : @LT.lt Nat _ pd pa)
    {win way now : Int} {u1 u2 u3 : Tok} (hw0 : 0 ≤ win) (hw1 : win ≤ 100000) (hy0 : 1 ≤ way) (hy1 : way ≤ 100000)
    (ret : ∀ (le' re' : Int) (r2 r3 r4 : Tok) (h' : Heap) (tks : Nat), EarnP Bu le re win way (now - t0) le' re' → Fr h₀ L h' m →
      (∀ news1, Upd pd (pDict w k1 k2 k3 k4 Bu le re t0 t1 t2 t3 t4) (pDict w k1 k2 k3 k4 Bu le' re' now t1 r2 r3 r4) news news1 → News h₀ L h' news1) → Q .none { s with heap := h', toks := tks }) :
    wpAny (model PP w) (ktrTop dp un gd cn cs L a ccd cl outer) (call (.ref 42) [.ref pa, .int win u1, .int way u2, .int now u3]) Q E s := by
  have N1 : News h₀ L s.heap ((pd, pDict w k1 k2 k3 k4 Bu le re t0 t1 t2 t3 t4) :: (pa, pInst pd) :: off pd news) := by
    intro q hq
    rcases List.mem_cons.mp hq with rfl | h
    · exact N _ md
    · rcases List.mem_cons.mp h with rfl | h
      · exact N _ mp
      · exact N _ (off_sub q h)
  refine earn_r B F X T hk hdp hun N1 hpa off_ne hw0 hw1 hy0 hy1 ?_
  intro le' re' r2 r3 r4 h' tks h1 F' N'
  refine ret le' re' r2 r3 r4 h' tks h1 F' fun _ U => news_upd1 (fun q hq => N' q ?_) U
  rcases List.mem_cons.mp hq with rfl | h
  · exact .head _
  · exact .tail _ (.tail _ h)
end
section
local macro_rules | `(tactic| walk_at "none 0") => `(tactic| fail)
local macro_rules | `(tactic| walk_at "none 1") => `(tactic| fail)
local macro_rules | `(tactic| walk_at "none 2") => `(tactic| fail)
local macro_rules | `(tactic| walk_at "none 3") => `(tactic| fail)
theorem fdiv_two {Y d : Int} (hd : 0 < d) : d * Y.fdiv d ≤ Y ∧ Y < d * Y.fdiv d + d := by
  rw [Int.fdiv_eq_ediv_of_nonneg _ (by omega)]
  have h1 := Int.mul_ediv_add_emod Y d
  have h2 := Int.emod_nonneg Y (show d ≠ 0 by omega)
  have h3 := Int.emod_lt_of_pos Y hd
  generalize d * (Y / d) = z at *
  omega
/-- what the wait is: none, or the least that pays what is lacking -/
def WaitP (le re size win way W : Int) : Prop := (size ≤ le ∧ W = 0) ∨ (le < size ∧ W = ((size - le) * (4 * way) - re + 5 * win - 1).fdiv (5 * win))
theorem wait_u {w : World} {p : Program} {loose : List Str} {mean : ExcName → Option Value} {mg mb : Str → Option Value}
    {dp un : Nat} {gd : Option (List Code)} {cn : Str} {cs : Scope} {a : Addr} {ccd : Value} {cl : List (Str × Addr)} {outer : List Env} {A₀ : Around} {base h₀ : Heap} {L : Addr} {m : Str → Option Value} {s : Shared} {Q E : Value → Shared → Prop}
    (B : Below A₀ base outer h₀) (F : Fr h₀ L s.heap m) (X : (hd.heap_39 w.params).In h₀) (T : Top p loose mean mg mb h₀) (hk : cs.kind = .function) (hdp : dp + 2 < recursionLimit) (hun : un + 16 < cLine)
    {pa pd : Addr} {k1 k2 k3 k4 : Tok} {Bu le re t0 : Int} {t1 t2 t3 t4 : Tok} {news : List (Addr × Obj)}
    (N : News h₀ L s.heap news) (mp : (pa, pInst pd) ∈ news) (md : (pd, pDict w k1 k2 k3 k4 Bu le re t0 t1 t2 t3 t4) ∈ news)
    {size win way : Int} {u1 u2 u3 : Tok} (hw0 : 1 ≤ win) (hw1 : win ≤ 100000) (hy0 : 1 ≤ way) (hy1 : way ≤ 100000)
    (ret : ∀ (W : Int) (t : Tok) (h' : Heap) (tks : Nat), WaitP le re size win way W → Fr h₀ L h' m → News h₀ L h' news → Q (.int W t) { s with heap := h', toks := tks }) :
    wpAny (model PP w) (ktrTop dp un gd cn cs L a ccd cl outer) (call (.ref 63) [.ref pa, .int size u1, .int win u2, .int way u3]) Q E s := by
  w_on
  refine wpAny_call ?_
  k_dflt cell_enter
  k_steps
  · exact ret _ _ _ _ (Or.inl ⟨by assumption, rfl⟩) (by k_asm) (by k_asm)
  · simp only [if_neg (show ¬ (1 : Int) > way by omega), if_neg (show ¬ (1 : Int) > win by omega)] at *
    exact ret _ _ _ _ (Or.inr ⟨by omega, rfl⟩) (by k_asm) (by k_asm)

theorem waitP_pos {le re size win way W : Int} (h : WaitP le re size win way W) (hlt : le < size) (hr0 : 0 ≤ re) (hr1 : re < 4 * way) (hw : 1 ≤ win) :
    1 ≤ W ∧ 5 * win * (W - 1) < (size - le) * (4 * way) - re ∧ (size - le) * (4 * way) - re ≤ 5 * win * W := by
  rcases h with ⟨h, _⟩ | ⟨_, h⟩
  · omega
  · have hX : 1 ≤ (size - le) * (4 * way) - re := by
      have : 1 * (4 * way) ≤ (size - le) * (4 * way) := Int.mul_le_mul_of_nonneg_right (by omega) (by omega)
      omega
    generalize hx : (size - le) * (4 * way) - re = x at *
    have hd : (0 : Int) < 5 * win := by omega
    have h2 := fdiv_two (Y := x + 5 * win - 1) hd
    rw [← h] at h2
    have e : 5 * win * (W - 1) = 5 * win * W - 5 * win := by rw [Int.mul_sub, Int.mul_one]
    refine ⟨?_, by omega, by omega⟩
    rcases Int.lt_or_le 0 W with h3 | h3
    · omega
    · have : 5 * win * W ≤ 5 * win * 0 := Int.mul_le_mul_of_nonneg_left h3 (by omega)
      omega
theorem waitP_zero {le re size win way W : Int} (h : WaitP le re size win way W) (hle : size ≤ le) : W = 0 := by
  rcases h with ⟨_, h⟩ | ⟨h, _⟩
  · exact h
  · omega
theorem late_no {Bu le re size win way now late le' re' : Int} (h : EarnP Bu le re win way (now + late - now) le' re') (hx : 5 * win * late < (size - le) * (4 * way) - re) (hy : 1 ≤ way) : le' < size := by
  have e : now + late - now = late := by omega
  rw [e] at h
  have hd : (0 : Int) < 4 * way := by omega
  have h2 := fdiv_two (Y := re + 5 * win * late) hd
  have h3 : (re + 5 * win * late).fdiv (4 * way) < size - le := by
    rcases Int.lt_or_le ((re + 5 * win * late).fdiv (4 * way)) (size - le) with h3 | h3
    · exact h3
    · have h4 : 4 * way * (size - le) ≤ 4 * way * (re + 5 * win * late).fdiv (4 * way) := Int.mul_le_mul_of_nonneg_left h3 (by omega)
      rw [Int.mul_comm (4 * way) (size - le)] at h4
      omega
  rcases h with ⟨h, h5, _⟩ | ⟨_, h5, _⟩ <;> omega
theorem late_yes {Bu le re size win way now late le' re' : Int} (h : EarnP Bu le re win way (now + late - now) le' re') (hx : (size - le) * (4 * way) - re ≤ 5 * win * late) (hy : 1 ≤ way) (hb : size ≤ Bu) : size ≤ le' := by
  have e : now + late - now = late := by omega
  rw [e] at h
  have hd : (0 : Int) < 4 * way := by omega
  have h2 := fdiv_two (Y := re + 5 * win * late) hd
  have h3 : size - le ≤ (re + 5 * win * late).fdiv (4 * way) := by
    rcases Int.lt_or_le ((re + 5 * win * late).fdiv (4 * way)) (size - le) with h3 | h3
    · have h4 : 4 * way * ((re + 5 * win * late).fdiv (4 * way) + 1) ≤ 4 * way * (size - le) := Int.mul_le_mul_of_nonneg_left h3 (by omega)
      rw [Int.mul_add, Int.mul_one, Int.mul_comm (4 * way) (size - le)] at h4
      omega
    · exact h3
  rcases h with ⟨h, h5, _⟩ | ⟨_, h5, _⟩ <;> omega

local macro_rules | `(tactic| k_all) => `(tactic| first | (with_reducible assumption) | (refine allLt_ne ?_; first | (with_reducible assumption) | exact And.right (by with_reducible assumption) | exact And.right (And.right (by with_reducible assumption)) | exact And.right (And.right (And.right (by with_reducible assumption))) | exact And.right (And.right (And.right (And.right (by with_reducible assumption)))) | exact And.right (And.right (And.right (And.right (And.right (by with_reducible assumption))))) | exact And.right (And.right (And.right (And.right (And.right (And.right (by with_reducible assumption)))))) | exact And.right (And.right (And.right (And.right (And.right (And.right (And.right (by with_reducible assumption))))))) | exact And.right (And.right (And.right (And.right (And.right (And.right (And.right (And.right (by with_reducible assumption))))))))) | exact List.forall_mem_nil _ | (refine' List.forall_mem_cons.mpr ⟨?a, ?b⟩; (case a => k_ne); (case b => k_all)))
local macro_rules | `(tactic| k_mem) => `(tactic| (refine mem_fold ?_; with_reducible assumption))
local macro_rules | `(tactic| ktr_room) => `(tactic| ((try simp only [depth_under_make, depth_under_kw, depth_in1, depth_deeper, depth_caller]); (try dsimp only [ktrTop]); omega))
local macro_rules | `(tactic| ktr_units) => `(tactic| ((try simp only [units_in1, units_deeper, Around.mark_units, units_caller]); (try dsimp only [ktrTop]); omega))
local macro_rules | `(tactic| k_room) => `(tactic| ktr_room)
local macro_rules | `(tactic| walk_at "call ref") => `(tactic| (k_here; k_dflt (refine' wait_u ?B ?F ?X ?T ?hk ?hdp ?hun ?N ?mp ?md ?a1 ?a2 ?a3 ?a4 ?_; (case B => k_asm); (case F => k_asm); (case X => k_asm); (case T => k_asm); (case hk => first | exact rfl | assumption); (case hdp => ktr_room); (case hun => ktr_units); (case N => k_asm); (case mp => k_mem); (case md => k_mem); (case a1 => omega); (case a2 => omega); (case a3 => omega); (case a4 => omega); k_whole); (intro W9 t9 h' tk9 hW9 F' N'; (first | (have hW8 := waitP_pos hW9 (by assumption) (by assumption) (by assumption) (by assumption); clear hW9; obtain ⟨hWa, hWb, hWc⟩ := hW8) | (have hW8 := waitP_zero hW9 (by assumption); subst hW8)); (try k_sweep))))
local macro_rules | `(tactic| walk_at "call ref") => `(tactic| (k_here; k_dflt (refine' earn_u ?B ?F ?X ?T ?hk ?hdp ?hun ?N ?mp ?md ?hpa ?a1 ?a2 ?a3 ?a4 ?_; (case B => k_asm); (case F => k_asm); (case X => k_asm); (case T => k_asm); (case hk => first | exact rfl | assumption); (case hdp => ktr_room); (case hun => ktr_units); (case N => k_asm); (case mp => k_mem); (case md => k_mem); (case hpa => omega); (case a1 => omega); (case a2 => omega); (case a3 => omega); (case a4 => omega); k_whole); (intro le9 re9 r29 r39 r49 h' tk9 hE9 F' H9; (have N' := H9 _ (by k_upd)); clear H9; (with_reducible first | (have hE8 := late_no hE9 (by assumption) (by assumption)) | (have hE8 := late_yes hE9 (by assumption) (by assumption) (by assumption))); clear hE9; (try k_sweep))))

def tellsO (i : Nat) (o : Obj) : Prop := ∃ n, o = listOf (match i with | 0 => #[] | 1 => #[.bool false] | _ => #[.bool false, .bool true]) n
local macro_rules | `(tactic| walk_at "compareOp Eq ref ref") => `(tactic| (k_here; (with_reducible show wpAny _ _ (compareOp CmpOp.Eq (Value.ref _) (Value.ref _)) _ _ _); k_dflt (refine' eq_dataH (by ke_read) (by ke_read) (by ke_shaped) (by ke_shaped) ?u ?_; (case u => ktr_units)); ke_norm))
theorem least_u {w : World} {p : Program} {loose : List Str} {mean : ExcName → Option Value} {mg mb : Str → Option Value}
    {dp un : Nat} {gd : Option (List Code)} {cn : Str} {cs : Scope} {a : Addr} {ccd : Value} {cl : List (Str × Addr)} {outer : List Env} {A₀ : Around} {base h₀ : Heap} {L : Addr} {m : Str → Option Value} {s : Shared} {Q E : Value → Shared → Prop}
    (B : Below A₀ base outer h₀) (F : Fr h₀ L s.heap m) (X : (hd.heap_39 w.params).In h₀) (T : Top p loose mean mg mb h₀) (hk : cs.kind = .function) (hdp : dp + 6 < recursionLimit) (hun : un + 200 < cLine)
    {pa pd : Addr} {k1 k2 k3 k4 : Tok} {Bu le re t0 : Int} {t1 t2 t3 t4 : Tok} {news : List (Addr × Obj)}
    (N : News h₀ L s.heap news) (mp : (pa, pInst pd) ∈ news) (md : (pd, pDict w k1 k2 k3 k4 Bu le re t0 t1 t2 t3 t4) ∈ news)
    {size win way now : Int} {u1 u2 u3 u4 : Tok} (hw0 : 1 ≤ win) (hw1 : win ≤ 100000) (hy0 : 1 ≤ way) (hy1 : way ≤ 100000) (hr0 : 0 ≤ re) (hr1 : re < 4 * way) (hb : size ≤ Bu)
    (ret : ∀ (h' : Heap) (tks : Nat), Fr h₀ L h' m → News h₀ L h' news → Q (.bool true) { s with heap := h', toks := tks }) :
    wpAny (model PP w) (ktrTop dp un gd cn cs L a ccd cl outer) (call (.ref 238) [.ref pa, .int size u1, .int win u2, .int way u3, .int now u4]) Q E s := by
  w_on
  by_cases hc : size ≤ le
  · refine wpAny_call ?_
    k_dflt cell_enter
    k_steps
    have e9 : decide (size ≤ le) = true := by simpa using hc
    rw [e9]
    exact ret _ _ (by k_asm) (by k_asm)
  · replace hc : le < size := by omega
    refine wpAny_call ?_
    k_dflt cell_enter
    k_steps
    · exfalso
      omega
    · rename_i F1 N1 l1
      (with_unfolding_all refine' tuple_acc (vs := [_, _]) (n := _) [Str.ofString "late", Str.ofString "twin"] tellsO ?hh ?F ?N ?hc ?hd ?hO ?turn ?done)
      case hh => rfl
      case F => exact F1
      case N => exact N1
      case hc => rfl
      case hd => rfl
      case hO => exact ⟨_, rfl⟩
      case turn =>
        intro i v o₁ u h tk I o hi hv hO hne1 hne2 hne3 F' N'
        replace hne1 := neN hne1
        replace hne2 := neN hne2
        dsimp only [envOf] at F' N'
        have hI : i = 0 ∨ i = 1 := by simp only [List.length_cons, List.length_nil] at hi; omega
        rcases hI with rfl | rfl
        · cases hv
          obtain ⟨n, rfl⟩ : ∃ n, o₁ = listOf #[] n := hO
          k_steps
          refine turn_acc (by k_asm) (by k_asm) (by k_mem) (by k_mem) (by k_mem) (fun q hq => by (repeat (first | exact hq | refine List.mem_cons_of_mem _ ?_))) hne1 hne2 hne3 ?_ ?_
          · intro y hy
            have hy' := hy
            simp only [List.contains_cons, List.contains_nil, Bool.or_false, Bool.or_eq_false_iff, beq_eq_false_iff_ne, ne_eq] at hy'
            simp only [hy, hy'.1, hy'.2, if_false, Bool.false_eq_true]
          · rename (_ : Int) < size => hE
            have e9 := decide_eq_false (Int.not_le.mpr hE)
            rw [e9]
            exact ⟨_, rfl⟩
        · cases hv
          obtain ⟨n, rfl⟩ : ∃ n, o₁ = listOf #[.bool false] n := hO
          k_steps
          refine turn_acc (by k_asm) (by k_asm) (by k_mem) (by k_mem) (by k_mem) (fun q hq => by (repeat (first | exact hq | refine List.mem_cons_of_mem _ ?_))) hne1 hne2 hne3 ?_ ?_
          · intro y hy
            have hy' := hy
            simp only [List.contains_cons, List.contains_nil, Bool.or_false, Bool.or_eq_false_iff, beq_eq_false_iff_ne, ne_eq] at hy'
            simp only [hy, hy'.1, hy'.2, if_false, Bool.false_eq_true]
          · rename size ≤ (_ : Int) => hE
            have e9 := decide_eq_true hE
            rw [e9]
            exact ⟨_, rfl⟩
      case done =>
        intro o₁ u h tk hO F' N'
        obtain ⟨n, rfl⟩ : ∃ n, o₁ = listOf #[.bool false, .bool true] n := hO
        dsimp only [envOf] at F' N'
        k_steps
        refine ret _ _ (by k_asm) (fun q hq => ?_)
        rename_i kN _ _
        refine kN q ?_
        (repeat (first | exact hq | refine List.mem_cons_of_mem _ ?_))
end
section
theorem news_inM {h₀ h : Heap} {L d e : Addr} {o x : Obj} {l : List (Addr × Obj)} (N : News h₀ L h l) (hm : (d, o) ∈ l) (he : (e, x) ∈ l) : News h₀ L h ((d, o) :: (e, x) :: off d l) := by
  intro q hq
  rcases List.mem_cons.mp hq with rfl | h
  · exact N _ hm
  · rcases List.mem_cons.mp h with rfl | h
    · exact N _ he
    · exact N _ (off_sub q h)
theorem news_outM {h₀ h : Heap} {L d : Addr} {o : Obj} {y : Addr × Obj} {l : List (Addr × Obj)} (N : News h₀ L h ((d, o) :: y :: l)) : News h₀ L h ((d, o) :: l) := by
  intro q hq
  rcases List.mem_cons.mp hq with rfl | h
  · exact N _ (.head _)
  · exact N _ (.tail _ (.tail _ h))
abbrev tInst (td : Addr) : Obj := instObj 220 td
abbrev tDict (w : World) (k1 k2 k3 k4 k5 : Tok) (la le sm v4 f : Int) (t1 t2 t3 t4 t5 : Tok) : Obj :=
  dictOf [⟨PyData.keyHash w.params (Str.ofString "latest"), .str (Str.ofString "latest") k1, .int la t1⟩, ⟨PyData.keyHash w.params (Str.ofString "least"), .str (Str.ofString "least") k2, .int le t2⟩, ⟨PyData.keyHash w.params (Str.ofString "smoothed8"), .str (Str.ofString "smoothed8") k3, .int sm t3⟩, ⟨PyData.keyHash w.params (Str.ofString "variance4"), .str (Str.ofString "variance4") k4, .int v4 t4⟩, ⟨PyData.keyHash w.params (Str.ofString "first_at"), .str (Str.ofString "first_at") k5, .int f t5⟩] 5
abbrev nInst (rd : Addr) : Obj := instObj 164 rd
abbrev nDict (w : World) (k1 k2 k3 k4 k5 k6 : Tok) (dg win fl cr : Int) (t1 t2 t5 t6 : Tok) : Obj :=
  dictOf [⟨PyData.keyHash w.params (Str.ofString "datagram"), .str (Str.ofString "datagram") k1, .int dg t1⟩, ⟨PyData.keyHash w.params (Str.ofString "window"), .str (Str.ofString "window") k2, .int win t2⟩, ⟨PyData.keyHash w.params (Str.ofString "threshold"), .str (Str.ofString "threshold") k3, .none⟩, ⟨PyData.keyHash w.params (Str.ofString "recovery_at"), .str (Str.ofString "recovery_at") k4, .none⟩, ⟨PyData.keyHash w.params (Str.ofString "in_flight"), .str (Str.ofString "in_flight") k5, .int fl t5⟩, ⟨PyData.keyHash w.params (Str.ofString "credit"), .str (Str.ofString "credit") k6, .int cr t6⟩] 6
local macro_rules | `(tactic| k_all) => `(tactic| first | (with_reducible assumption) | (refine allLt_ne ?_; first | (with_reducible assumption) | exact And.right (by with_reducible assumption) | exact And.right (And.right (by with_reducible assumption)) | exact And.right (And.right (And.right (by with_reducible assumption))) | exact And.right (And.right (And.right (And.right (by with_reducible assumption)))) | exact And.right (And.right (And.right (And.right (And.right (by with_reducible assumption))))) | exact And.right (And.right (And.right (And.right (And.right (And.right (by with_reducible assumption)))))) | exact And.right (And.right (And.right (And.right (And.right (And.right (And.right (by with_reducible assumption))))))) | exact And.right (And.right (And.right (And.right (And.right (And.right (And.right (And.right (by with_reducible assumption))))))))) | exact List.forall_mem_nil _ | (refine' List.forall_mem_cons.mpr ⟨?a, ?b⟩; (case a => k_ne); (case b => k_all)))
local macro_rules | `(tactic| k_mem) => `(tactic| (refine mem_fold ?_; with_reducible assumption))
local macro_rules | `(tactic| ktr_room) => `(tactic| ((try simp only [depth_under_make, depth_under_kw, depth_in1, depth_deeper, depth_caller]); (try dsimp only [ktrTop]); omega))
local macro_rules | `(tactic| ktr_units) => `(tactic| ((try simp only [units_in1, units_deeper, Around.mark_units, units_caller]); (try dsimp only [ktrTop]); omega))
local macro_rules | `(tactic| k_room) => `(tactic| ktr_room)

theorem smoothed_u {w : World} {p : Program} {loose : List Str} {mean : ExcName → Option Value} {mg mb : Str → Option Value}
    {dp un : Nat} {gd : Option (List Code)} {cn : Str} {cs : Scope} {a : Addr} {ccd : Value} {cl : List (Str × Addr)} {outer : List Env} {A₀ : Around} {base h₀ : Heap} {L : Addr} {m : Str → Option Value} {s : Shared} {Q E : Value → Shared → Prop}
    (B : Below A₀ base outer h₀) (F : Fr h₀ L s.heap m) (X : (hd.heap_39 w.params).In h₀) (T : Top p loose mean mg mb h₀) (hk : cs.kind = .function) (hdp : dp + 2 < recursionLimit) (hun : un + 16 < cLine)
    {ta td : Addr} {k1 k2 k3 k4 k5 : Tok} {la le sm v4 f way : Int} {t1 t2 t3 t4 t5 : Tok} {news : List (Addr × Obj)}
    (N : News h₀ L s.heap news) (mp : (ta, tInst td) ∈ news) (md : (td, tDict w k1 k2 k3 k4 k5 la le sm v4 f t1 t2 t3 t4 t5) ∈ news) (hs : sm = 8 * way)
    (ret : ∀ (t : Tok) (h' : Heap) (tks : Nat), Fr h₀ L h' m → News h₀ L h' news → Q (.int way t) { s with heap := h', toks := tks }) :
    wpAny (model PP w) (ktrTop dp un gd cn cs L a ccd cl outer) (call (.ref 196) [.ref ta]) Q E s := by
  w_on
  refine wpAny_call ?_
  k_dflt cell_enter
  k_steps
  have e9 : sm.fdiv 8 = way := by rw [Int.fdiv_eq_ediv_of_nonneg _ (by decide)]; omega
  rw [e9]
  exact ret _ _ _ (by k_asm) (by k_asm)

theorem sample_r {w : World} {p : Program} {loose : List Str} {mean : ExcName → Option Value} {mg mb : Str → Option Value}
    {dp un : Nat} {gd : Option (List Code)} {cn : Str} {cs : Scope} {a : Addr} {ccd : Value} {cl : List (Str × Addr)} {outer : List Env} {A₀ : Around} {base h₀ : Heap} {L : Addr} {m : Str → Option Value} {s : Shared} {Q E : Value → Shared → Prop}
    (B : Below A₀ base outer h₀) (F : Fr h₀ L s.heap m) (X : (hd.heap_39 w.params).In h₀) (T : Top p loose mean mg mb h₀) (hk : cs.kind = .function) (hdp : dp + 6 < recursionLimit) (hun : un + 200 < cLine)
    {ta td : Addr} {k1 k2 k3 k4 k5 : Tok} {la le sm v4 f way now : Int} {t1 t2 t3 t4 t5 u1 u2 u3 : Tok} {rest : List (Addr × Obj)}
    (N : News h₀ L s.heap ((td, tDict w k1 k2 k3 k4 k5 la le sm v4 f t1 t2 t3 t4 t5) :: (ta, tInst td) :: rest)) (hpa : @LT.lt Nat _ td ta) (hap : ∀ q ∈ rest, q.1 ≠ td) (hs : sm = 8 * way) (hl : le = way)
    (ret : ∀ (la' le' sm' v4' : Int) (r1 r2 r3 r4 : Tok) (h' : Heap) (tks : Nat), le' = way → sm' = 8 * way → Fr h₀ L h' m →
      News h₀ L h' ((td, tDict w k1 k2 k3 k4 k5 la' le' sm' v4' f r1 r2 r3 r4 t5) :: (ta, tInst td) :: rest) → Q .none { s with heap := h', toks := tks }) :
    wpAny (model PP w) (ktrTop dp un gd cn cs L a ccd cl outer) (call (.ref 210) [.ref ta, .int way u1, .int 0 u2, .none, .int now u3]) Q E s := by
  w_on
  subst hl hs
  refine wpAny_call ?_
  k_dflt cell_enter
  k_steps
  all_goals (refine ret _ _ _ _ _ _ _ _ _ _ ?_ ?_ (by k_asm) (by k_asm))
  all_goals first | (simp only [ite_self]; done) | (rw [Int.fdiv_eq_ediv_of_nonneg _ (by decide)]; omega)
theorem acked_r {w : World} {p : Program} {loose : List Str} {mean : ExcName → Option Value} {mg mb : Str → Option Value}
    {dp un : Nat} {gd : Option (List Code)} {cn : Str} {cs : Scope} {a : Addr} {ccd : Value} {cl : List (Str × Addr)} {outer : List Env} {A₀ : Around} {base h₀ : Heap} {L : Addr} {m : Str → Option Value} {s : Shared} {Q E : Value → Shared → Prop}
    (B : Below A₀ base outer h₀) (F : Fr h₀ L s.heap m) (X : (hd.heap_39 w.params).In h₀) (T : Top p loose mean mg mb h₀) (hk : cs.kind = .function) (hdp : dp + 6 < recursionLimit) (hun : un + 200 < cLine)
    {ra rd : Addr} {k1 k2 k3 k4 k5 k6 : Tok} {dg win fl cr size sent sm now : Int} {t1 t2 t5 t6 u1 u2 u3 u4 : Tok} {rest : List (Addr × Obj)}
    (N : News h₀ L s.heap ((rd, nDict w k1 k2 k3 k4 k5 k6 dg win fl cr t1 t2 t5 t6) :: (ra, nInst rd) :: rest)) (hpa : @LT.lt Nat _ rd ra) (hap : ∀ q ∈ rest, q.1 ≠ rd)
    (ret : ∀ (r2 r5 : Tok) (h' : Heap) (tks : Nat), Fr h₀ L h' m →
      News h₀ L h' ((rd, nDict w k1 k2 k3 k4 k5 k6 dg (win + size) (fl - size) cr t1 r2 r5 t6) :: (ra, nInst rd) :: rest) → Q .none { s with heap := h', toks := tks }) :
    wpAny (model PP w) (ktrTop dp un gd cn cs L a ccd cl outer) (call (.ref 133) [.ref ra, .int size u1, .int sent u2, .bool true, .int now u3, .int sm u4]) Q E s := by
  w_on
  refine wpAny_call ?_
  k_dflt cell_enter
  k_steps
  exact ret _ _ _ _ (by k_asm) (by k_asm)
theorem sample_u {w : World} {p : Program} {loose : List Str} {mean : ExcName → Option Value} {mg mb : Str → Option Value}
    {dp un : Nat} {gd : Option (List Code)} {cn : Str} {cs : Scope} {a : Addr} {ccd : Value} {cl : List (Str × Addr)} {outer : List Env} {A₀ : Around} {base h₀ : Heap} {L : Addr} {m : Str → Option Value} {s : Shared} {Q E : Value → Shared → Prop}
    (B : Below A₀ base outer h₀) (F : Fr h₀ L s.heap m) (X : (hd.heap_39 w.params).In h₀) (T : Top p loose mean mg mb h₀) (hk : cs.kind = .function) (hdp : dp + 6 < recursionLimit) (hun : un + 200 < cLine)
    {ta td : Addr} {k1 k2 k3 k4 k5 : Tok} {la le sm v4 f way now : Int} {t1 t2 t3 t4 t5 u1 u2 u3 : Tok} {news : List (Addr × Obj)}
    (N : News h₀ L s.heap news) (mp : (ta, tInst td) ∈ news) (md : (td, tDict w k1 k2 k3 k4 k5 la le sm v4 f t1 t2 t3 t4 t5) ∈ news) (hpa : @LT.lt Nat _ td ta) (hs : sm = 8 * way) (hl : le = way)
    (ret : ∀ (la' le' sm' v4' : Int) (r1 r2 r3 r4 : Tok) (h' : Heap) (tks : Nat), le' = way → sm' = 8 * way → Fr h₀ L h' m →
      (∀ news1, Upd td (tDict w k1 k2 k3 k4 k5 la le sm v4 f t1 t2 t3 t4 t5) (tDict w k1 k2 k3 k4 k5 la' le' sm' v4' f r1 r2 r3 r4 t5) news news1 → News h₀ L h' news1) → Q .none { s with heap := h', toks := tks }) :
    wpAny (model PP w) (ktrTop dp un gd cn cs L a ccd cl outer) (call (.ref 210) [.ref ta, .int way u1, .int 0 u2, .none, .int now u3]) Q E s := by
  refine sample_r B F X T hk hdp hun (news_inM N md mp) hpa off_ne hs hl ?_
  intro la' le' sm' v4' r1 r2 r3 r4 h' tks h1 h2 F' N'
  exact ret la' le' sm' v4' r1 r2 r3 r4 h' tks h1 h2 F' fun _ U => news_upd1 (news_outM N') U
theorem acked_u {w : World} {p : Program} {loose : List Str} {mean : ExcName → Option Value} {mg mb : Str → Option Value}
    {dp un : Nat} {gd : Option (List Code)} {cn : Str} {cs : Scope} {a : Addr} {ccd : Value} {cl : List (Str × Addr)} {outer : List Env} {A₀ : Around} {base h₀ : Heap} {L : Addr} {m : Str → Option Value} {s : Shared} {Q E : Value → Shared → Prop}
    (B : Below A₀ base outer h₀) (F : Fr h₀ L s.heap m) (X : (hd.heap_39 w.params).In h₀) (T : Top p loose mean mg mb h₀) (hk : cs.kind = .function) (hdp : dp + 6 < recursionLimit) (hun : un + 200 < cLine)
    {ra rd : Addr} {k1 k2 k3 k4 k5 k6 : Tok} {dg win fl cr size sent sm now : Int} {t1 t2 t5 t6 u1 u2 u3 u4 : Tok} {news : List (Addr × Obj)}
    (N : News h₀ L s.heap news) (mp : (ra, nInst rd) ∈ news) (md : (rd, nDict w k1 k2 k3 k4 k5 k6 dg win fl cr t1 t2 t5 t6) ∈ news) (hpa : @LT.lt Nat _ rd ra)
    (ret : ∀ (r2 r5 : Tok) (h' : Heap) (tks : Nat), Fr h₀ L h' m →
      (∀ news1, Upd rd (nDict w k1 k2 k3 k4 k5 k6 dg win fl cr t1 t2 t5 t6) (nDict w k1 k2 k3 k4 k5 k6 dg (win + size) (fl - size) cr t1 r2 r5 t6) news news1 → News h₀ L h' news1) → Q .none { s with heap := h', toks := tks }) :
    wpAny (model PP w) (ktrTop dp un gd cn cs L a ccd cl outer) (call (.ref 133) [.ref ra, .int size u1, .int sent u2, .bool true, .int now u3, .int sm u4]) Q E s := by
  refine acked_r B F X T hk hdp hun (news_inM N md mp) hpa off_ne ?_
  intro r2 r5 h' tks F' N'
  exact ret r2 r5 h' tks F' fun _ U => news_upd1 (news_outM N') U
end
section
local macro_rules | `(tactic| walk_at "none 0") => `(tactic| fail)
local macro_rules | `(tactic| walk_at "none 1") => `(tactic| fail)
local macro_rules | `(tactic| walk_at "none 2") => `(tactic| fail)
local macro_rules | `(tactic| walk_at "none 3") => `(tactic| fail)
local macro_rules | `(tactic| walk_at "none 4") => `(tactic| fail)
local macro_rules | `(tactic| walk_at "none 5") => `(tactic| fail)
local macro_rules | `(tactic| walk_at "none 6") => `(tactic| fail)
local macro_rules | `(tactic| walk_at "none 7") => `(tactic| fail)
abbrev tupO (x y : Int) (tx ty : Tok) (n : Nat) : Obj := { cls := .type "tuple", data := .seq [.int x tx, .int y ty].toArray n }
/-- the values are pairs of ints that the ledger bears -/
def Prs (led : List (Addr × Obj)) (vs : List Value) (ps : List (Int × Int)) : Prop :=
  vs.length = ps.length ∧ ∀ (i : Nat) (v : Value), vs[i]? = some v → ∃ (a : Addr) (x y : Int) (tx ty : Tok) (n : Nat), v = Value.ref a ∧ ps[i]? = some (x, y) ∧ (a, tupO x y tx ty n) ∈ led
theorem Prs.mono {led led' : List (Addr × Obj)} {vs : List Value} {ps : List (Int × Int)} (h : Prs led vs ps) (hs : ∀ q ∈ led, q ∈ led') : Prs led' vs ps :=
  ⟨h.1, fun i v hv => let ⟨a, x, y, tx, ty, n, h1, h2, h3⟩ := h.2 i v hv; ⟨a, x, y, tx, ty, n, h1, h2, hs _ h3⟩⟩
theorem Prs.drop {led : List (Addr × Obj)} {vs : List Value} {ps : List (Int × Int)} (h : Prs led vs ps) (k : Nat) : Prs led (vs.drop k) (ps.drop k) :=
  ⟨by rw [List.length_drop, List.length_drop, h.1], fun i v hv => by rw [List.getElem?_drop] at hv ⊢; exact h.2 _ v hv⟩
theorem Prs.nil {led : List (Addr × Obj)} : Prs led [] [] := ⟨rfl, fun i v hv => by simp at hv⟩
theorem Prs.snoc {led : List (Addr × Obj)} {vs : List Value} {ps : List (Int × Int)} (h : Prs led vs ps) {a : Addr} {x y : Int} {tx ty : Tok} {n : Nat} (hm : (a, tupO x y tx ty n) ∈ led) : Prs led (vs ++ [Value.ref a]) (ps ++ [(x, y)]) := by
  refine ⟨by rw [List.length_append, List.length_append, h.1]; simp, fun i v hv => ?_⟩
  rcases Nat.lt_or_ge i vs.length with hi | hi
  · rw [List.getElem?_append_left hi] at hv
    obtain ⟨a, x, y, tx, ty, n, h1, h2, h3⟩ := h.2 i v hv
    exact ⟨a, x, y, tx, ty, n, h1, by rw [List.getElem?_append_left (by rw [← h.1]; exact hi)]; exact h2, h3⟩
  · rw [List.getElem?_append_right hi] at hv
    have hi' : i - vs.length = 0 := by
      have := (List.getElem?_eq_some_iff.mp hv).1
      simp only [List.length_cons, List.length_nil] at this
      omega
    rw [hi'] at hv
    cases hv
    exact ⟨a, x, y, tx, ty, n, rfl, by rw [List.getElem?_append_right (by rw [← h.1]; exact hi), ← h.1, hi']; rfl, hm⟩
def sG (l : List (Int × Int)) : Int := (l.map (·.1)).sum
def sS (l : List (Int × Int)) : Int := (l.map (·.2)).sum
/-- between any two looks no more goes than the burst and what was earned -/
def Within (C B : Int) (ps : List (Int × Int)) : Prop :=
  ∀ i x y, ps[i]? = some (x, y) → ∀ j, C * (y + sS ((ps.drop (i + 1)).take j) - B) ≤ sG ((ps.drop (i + 1)).take j)
section
variable {prog : Program} {w : World} {A : Around} {E : Value → Shared → Prop} {s : Shared} {h₀ : Heap} {L D : Addr} {m : Str → Option Value} {news news' : List (Addr × Obj)} {n : Nat}
theorem my_item {value slice : PySem.Expr} {vs : List Value} {i : Nat} {u : Tok} {v : Value} {Q : Value → Shared → Prop} (N : News h₀ L s.heap news) (hm : (D, listOf vs.toArray n) ∈ news) (hv : vs[i]? = some v) (hz : i < 1000) (h : Q v s)
    (hs : subscripted slice false (.ref D) (.int (0 + (i : Int)) u) = operate [.ref D, .int (0 + (i : Int)) u] (getItem (.ref D) (.int (0 + (i : Int)) u))) (hg : ∀ r, letTemporaryGo value (.ref D) r = pure ()) :
    wpAny (model prog w) A (subscriptTail value slice (.ref D) (.int (0 + (i : Int)) u)) Q E s :=
  item_list (News.isList N hm) (by omega) (by omega) (by rw [show (0 + (i : Int)).toNat = i by omega]; simpa using hv) h hs hg
theorem my_pick (vs : List Value) (i : Nat) : kms_pick vs.toArray.toList (some (0 + (i : Int) + 1)) none = vs.drop (i + 1) := by
  unfold kms_pick kms_lo kms_hi
  have h1 : ¬ (0 + (i : Int) + 1 < 0) := by omega
  have h2 : (0 + (i : Int) + 1).toNat = i + 1 := by omega
  simp only [if_neg h1, h2]
  rw [kmk_drop_min, List.take_of_length_le]
  rw [List.length_drop]
  simp only [Nat.min_def]
  split <;> omega
end
local macro_rules | `(tactic| k_all) => `(tactic| first | (with_reducible assumption) | (refine allLt_ne ?_; first | (with_reducible assumption) | exact And.right (by with_reducible assumption) | exact And.right (And.right (by with_reducible assumption)) | exact And.right (And.right (And.right (by with_reducible assumption))) | exact And.right (And.right (And.right (And.right (by with_reducible assumption)))) | exact And.right (And.right (And.right (And.right (And.right (by with_reducible assumption))))) | exact And.right (And.right (And.right (And.right (And.right (And.right (by with_reducible assumption)))))) | exact And.right (And.right (And.right (And.right (And.right (And.right (And.right (by with_reducible assumption))))))) | exact And.right (And.right (And.right (And.right (And.right (And.right (And.right (And.right (by with_reducible assumption))))))))) | exact List.forall_mem_nil _ | (refine' List.forall_mem_cons.mpr ⟨?a, ?b⟩; (case a => k_ne); (case b => k_all)))
local macro_rules | `(tactic| k_mem) => `(tactic| (refine mem_fold ?_; with_reducible assumption))
local macro_rules | `(tactic| ktr_room) => `(tactic| ((try simp only [depth_under_make, depth_under_kw, depth_in1, depth_deeper, depth_caller]); (try dsimp only [ktrTop]); omega))
local macro_rules | `(tactic| ktr_units) => `(tactic| ((try simp only [units_in1, units_deeper, Around.mark_units, units_caller]); (try dsimp only [ktrTop]); omega))
local macro_rules | `(tactic| k_room) => `(tactic| ktr_room)

local macro_rules | `(tactic| walk_at "exec For Tuple") => `(tactic| (k_here; (rename Fr _ _ _ _ => lF'); (with_unfolding_all refine' For_turns lF' ?_; k_whole)))
local macro_rules | `(tactic| walk_at "subscriptTail Name Slice ref ref") => `(tactic| (k_here; k_dflt (refine' kms_slice_lit ?F ?N ?l ?p ?q ?e ?_ ?s ?t ?z; (case F => k_asm); (case N => k_asm); (case l => kmk_list); (case p => kmk_part); (case q => kmk_part); (case e => exact my_pick _ _); (case s => with_unfolding_all rfl); (case t => kmk_pure); (case z => rw [List.size_toArray, PySem.sizeLine_eq]; omega)); intro D' h' F' N' l1; (try k_lt l1); (try k_sweep)))
local macro_rules | `(tactic| walk_at "subscriptTail") => `(tactic| (k_here; (with_reducible show wpAny _ _ (subscriptTail _ _ (Value.ref _) (Value.int (0 + ((_ : Nat) : Int)) _)) _ _ _); k_dflt (refine' my_item ?N ?m ?v ?z ?_ ?hs ?hg; (case N => k_asm); (case m => k_mem); (case v => with_reducible assumption); (case z => omega); (case hs => with_unfolding_all rfl); (case hg => intro _; with_unfolding_all rfl); k_whole)))
local macro_rules | `(tactic| walk_at "pyIter ref") => `(tactic| (k_here; (with_reducible show wpAny _ _ (pyIter (Value.ref _)) (fun it s₂ => LoopAtV _ _ _ _ _ _ _ _ _ it s₂) _ _); refine Halt.out ?_))
local macro_rules | `(tactic| walk_at "pyIter ref") => `(tactic| (k_here; (with_reducible show wpAny _ _ (pyIter (Value.ref _)) (fun it s₂ => TurnsAt _ _ _ _ _ _ _ _ _ it s₂) _ _); refine Halt.out ?_))
local macro_rules | `(tactic| walk_at "call builtin:len") => `(tactic| (k_here; (with_reducible show wpAny _ _ (call (Value.builtin "len") [Value.ref _]) _ _ _); k_dflt (refine' my_len ?N ?m ?z ?_; (case N => k_asm); (case m => k_mem); (case z => omega); k_whole)))

theorem within_u {w : World} {p : Program} {loose : List Str} {mean : ExcName → Option Value} {mg mb : Str → Option Value}
    {dp un : Nat} {gd : Option (List Code)} {cn : Str} {cs : Scope} {a : Addr} {ccd : Value} {cl : List (Str × Addr)} {outer : List Env} {A₀ : Around} {base h₀ : Heap} {L : Addr} {m : Str → Option Value} {s : Shared} {Q E : Value → Shared → Prop}
    (B : Below A₀ base outer h₀) (F : Fr h₀ L s.heap m) (X : (hd.heap_39 w.params).In h₀) (T : Top p loose mean mg mb h₀) (hk : cs.kind = .function) (hdp : dp + 6 < recursionLimit) (hun : un + 200 < cLine)
    {lo : Addr} {n : Nat} {vs : List Value} {ps : List (Int × Int)} {Bu way : Int} {u1 u2 : Tok} {news : List (Addr × Obj)}
    (N : News h₀ L s.heap news) (ml : (lo, listOf vs.toArray n) ∈ news) (hp : Prs news vs ps) (hz : vs.length ≤ 12) (hy0 : 1 ≤ way) (hy1 : way ≤ 100000) (hW : Within (4 * way) Bu ps)
    (ret : ∀ (h' : Heap) (tks : Nat), Fr h₀ L h' m → News h₀ L h' news → Q (.bool true) { s with heap := h', toks := tks }) :
    wpAny (model PP w) (ktrTop dp un gd cn cs L a ccd cl outer) (call (.ref 245) [.ref lo, .int Bu u1, .int way u2]) Q E s := by
  w_on
  refine wpAny_call ?_
  k_dflt cell_enter
  k_steps
  refine Halt.mk ?_
  rename_i hR F1 N1 _
  (with_unfolding_all refine' range_names (n := vs.length) [Str.ofString "first", Str.ofString "earned", Str.ofString "went", Str.ofString "gained", Str.ofString "sent"] ?hh ?hr ?hsm ?hsz ?F ?N ?turn ?done)
  case hh => rfl
  case hr => exact hR
  case hsm => exact small_one (by decide) (by decide) (by omega) (by omega)
  case hsz => (rw [rangeSize_nat]; omega)
  case F => exact F1
  case N => exact N1
  case turn =>
    intro i t u h tk I o hi hne F' N'
    dsimp only [envOf] at F' N'
    obtain ⟨v, hv⟩ : ∃ v, vs[i]? = some v := ⟨vs[i], by simp [hi]⟩
    obtain ⟨a, x, y, tx, ty, n', rfl, hps, hmem⟩ := hp.2 i v hv
    k_steps
    refine Halt.mk ?_
    rename_i F1 N1 l1
    (with_unfolding_all refine' list_two (vs := vs.drop (i + 1)) (n := 0) [Str.ofString "earned", Str.ofString "went", Str.ofString "gained", Str.ofString "sent"] (Str.ofString "earned") (Str.ofString "went") (fun j => sG ((ps.drop (i + 1)).take j)) (fun j => y + sS ((ps.drop (i + 1)).take j)) ?hh2 ?F2 ?N2 ?hc2 ?hd2 ?hp2 ?hq2 ?turn2 ?done2)
    case hh2 => rfl
    case F2 => exact F1
    case N2 => exact N1
    case hc2 => rfl
    case hd2 => rfl
    case hp2 => exact rfl
    case hq2 =>
      have e0 : y + sS ((ps.drop (i + 1)).take 0) = y := by simp [sS]
      dsimp only
      rw [e0]
      exact rfl
    case turn2 =>
      intro j v te tw u' h2 tk2 I2 o2 hj hvj n1 n2 F' N'
      dsimp only [envOf] at F' N'
      obtain ⟨a2, x2, y2, tx2, ty2, n2', rfl, hps2, hmem2⟩ := (hp.drop (i + 1)).2 j v hvj
      have hWj := hW i x y hps j
      k_steps
      have eG : sG ((ps.drop (i + 1)).take (j + 1)) = sG ((ps.drop (i + 1)).take j) + x2 := by rw [List.take_add_one, hps2]; simp [sG]
      have eS : y + sS ((ps.drop (i + 1)).take (j + 1)) = y + sS ((ps.drop (i + 1)).take j) + y2 := by rw [List.take_add_one, hps2]; simp [sS]; omega
      refine turn_two (names := [Str.ofString "earned", Str.ofString "went", Str.ofString "gained", Str.ofString "sent"]) (p := Str.ofString "earned") (q := Str.ofString "went") (f := fun j => sG ((ps.drop (i + 1)).take j)) (g := fun j => y + sS ((ps.drop (i + 1)).take j)) (i := j) (by k_asm) (by k_asm) (by k_mem) (by k_mem) (fun q hq => by (repeat (first | exact hq | refine List.mem_cons_of_mem _ ?_))) n1 n2 ?_ ?_ ?_
      · intro z hz'
        have hy' := hz'
        simp only [List.contains_cons, List.contains_nil, Bool.or_false, Bool.or_eq_false_iff, beq_eq_false_iff_ne, ne_eq] at hy'
        simp only [hz', hy', if_false, Bool.false_eq_true]
      · dsimp only
        rw [eG]
        exact ⟨_, rfl⟩
      · dsimp only
        rw [eS]
        exact ⟨_, rfl⟩
    case done2 =>
      intro te tw u' h2 tk2 F' N'
      dsimp only [envOf] at F' N'
      have hWj := hW i x y hps (vs.drop (i + 1)).length
      k_steps
      refine turn_names (by k_asm) (by k_asm) (by k_mem) (fun q hq => by (repeat (first | exact hq | refine List.mem_cons_of_mem _ ?_))) hne ?_
      intro z hz'
      have hy' := hz'
      simp only [List.contains_cons, List.contains_nil, Bool.or_false, Bool.or_eq_false_iff, beq_eq_false_iff_ne, ne_eq] at hy'
      have hz2 : [Str.ofString "earned", Str.ofString "went", Str.ofString "gained", Str.ofString "sent"].contains z = false := by
        simp only [List.contains_cons, List.contains_nil, Bool.or_false, Bool.or_eq_false_iff, beq_eq_false_iff_ne, ne_eq]
        exact hy'.2
      simp only [hz', hz2, hy', if_false, Bool.false_eq_true]
  case done =>
    intro u h tk F' N'
    dsimp only [envOf] at F' N'
    k_steps
    exact ret _ _ (by k_asm) (by k_asm)
end
section
/-- the law's own statements, taken out of the given program -/
def fdParts : Option Stmt → List Stmt × Scope
  | some (Stmt.FunctionDef _ _ body _ _ _ scope _ _ _) => (body, scope)
  | _ => ([], default)
def forBody : Option Stmt → List Stmt
  | some (Stmt.For _ _ body _ _) => body
  | _ => []
def lawParts : List Stmt × Scope := fdParts (PySem.Challenge.pw_pb0523_01.main.body[19]?)
def lawScope : Scope := lawParts.2
def turnBody : List Stmt := forBody (lawParts.1[5]?)
def packetBody : List Stmt := forBody (turnBody[9]?)

def Has (m : Str → Option Value) : List (Str × Value) → Prop
  | [] => True
  | p :: r => m p.1 = some p.2 ∧ Has m r
def over (kvs : List (Str × Value)) (u : Str → Option Value) (y : Str) : Option Value := match List.lookup y kvs with
  | some v => some v
  | none => u y
theorem has_over {m : Str → Option Value} : ∀ {kvs : List (Str × Value)}, Has m kvs → over kvs m = m
  | [], _ => by funext y; rfl
  | p :: r, h => by
    funext y
    have ih := congrFun (has_over h.2) y
    unfold over at ih ⊢
    obtain ⟨a, v⟩ := p
    rw [List.lookup_cons]
    by_cases e : (y == a) = true
    · rw [e]
      have : y = a := by simpa using e
      rw [this]; exact h.1.symm
    · rw [show (y == a) = false by simpa using e]
      exact ih
theorem has_fr {h₀ h : Heap} {L : Addr} {m : Str → Option Value} {kvs : List (Str × Value)} (H : Has m kvs) (F : Fr h₀ L h m) : Fr h₀ L h (over kvs m) := by rw [has_over H]; exact F

def PacO (w : World) (Bu le re now : Int) (o : Obj) : Prop := ∃ k1 k2 k3 k4 t1 t2 t3 t4, o = pDict w k1 k2 k3 k4 Bu le re now t1 t2 t3 t4
def RttO (w : World) (way : Int) (o : Obj) : Prop := ∃ k1 k2 k3 k4 k5 la v4 f t1 t2 t3 t4 t5, o = tDict w k1 k2 k3 k4 k5 la way (8 * way) v4 f t1 t2 t3 t4 t5
def RenO (w : World) (win fl : Int) (o : Obj) : Prop := ∃ k1 k2 k3 k4 k5 k6 dg cr t1 t2 t5 t6, o = nDict w k1 k2 k3 k4 k5 k6 dg win fl cr t1 t2 t5 t6
def BoxO (l : Addr) (k : Int) (o : Obj) : Prop := ∃ c tk tc n, o = boxO l k c tk tc n
def IntsO (o : Obj) : Prop := ∃ vs n, IsInts vs ∧ vs.length ≤ 50 ∧ o = listOf vs.toArray n
abbrev sinO (s0 s1 : Int) (t0 t1 : Tok) (n : Nat) : Obj := listOf [.int s0 t0, .int s1 t1].toArray n
def SinO (s0 s1 : Int) (o : Obj) : Prop := ∃ t0 t1 n, o = sinO s0 s1 t0 t1 n
def PrsO (tl : List (Addr × Obj)) (ps : List (Int × Int)) (o : Obj) : Prop := ∃ vs n, Prs tl vs ps ∧ o = listOf vs.toArray n
def Tups (tl : List (Addr × Obj)) : Prop := ∀ q ∈ tl, q.2.cls = .type "tuple"
structure Pl where
  now : Int
  le : Int
  re : Int
  win : Int
  fl : Int
  s0 : Int
  s1 : Int
  k : Int
  looks : List (Int × Int)
  out : List (Int × Int)
structure Ad where
  b : Addr
  l : Addr
  ra : Addr
  rd : Addr
  ta : Addr
  td : Addr
  pa : Addr
  pd : Addr
  lo : Addr
  ou : Addr
structure Ad.Ok (a : Ad) : Prop where
  h1 : @LT.lt Nat _ a.l a.b
  h2 : @LT.lt Nat _ a.b a.rd
  h3 : @LT.lt Nat _ a.rd a.ra
  h4 : @LT.lt Nat _ a.ra a.td
  h5 : @LT.lt Nat _ a.td a.ta
  h6 : @LT.lt Nat _ a.ta a.pd
  h7 : @LT.lt Nat _ a.pd a.pa
  h8 : @LT.lt Nat _ a.pa a.lo
  h9 : @LT.lt Nat _ a.lo a.ou
structure Si (a : Ad) (si : Addr) : Prop where
  h1 : @LT.lt Nat _ a.pa si
  h2 : @Ne Nat si a.lo
  h3 : @Ne Nat si a.ou
/-- what the ledger bears between the law's statements -/
def SI (w : World) (a : Ad) (way Bu : Int) (σ : Pl) (si : Addr) (nx : List (Addr × Obj)) : Prop :=
  ∃ ob ol ord otd opd osi olo oou tl, BoxO a.l σ.k ob ∧ IntsO ol ∧ RenO w σ.win σ.fl ord ∧ RttO w way otd ∧ PacO w Bu σ.le σ.re σ.now opd ∧ SinO σ.s0 σ.s1 osi ∧ PrsO tl σ.looks olo ∧ PrsO tl σ.out oou ∧ Tups tl ∧
    nx = (a.b, ob) :: (a.l, ol) :: (a.ra, nInst a.rd) :: (a.rd, ord) :: (a.ta, tInst a.td) :: (a.td, otd) :: (a.pa, pInst a.pd) :: (a.pd, opd) :: (si, osi) :: (a.lo, olo) :: (a.ou, oou) :: tl
theorem tl_off {h₀ h : Heap} {L x : Addr} {o : Obj} {nx tl : List (Addr × Obj)} (N : News h₀ L h nx) (hx : (x, o) ∈ nx) (hs : ∀ q ∈ tl, q ∈ nx) (ht : Tups tl) (hc : o.cls ≠ .type "tuple") : ∀ q ∈ tl, q.1 ≠ x := by
  intro q hq e
  have h1 := (N _ hx).1
  have h2 := (N _ (hs q hq)).1
  rw [e] at h2
  have h3 : o = q.2 := Option.some.inj (h1.symm.trans h2)
  exact hc (h3 ▸ ht q hq)
abbrev fixN (a : Ad) (way Bu : Int) (t1 t2 : Tok) : List (Str × Value) :=
  [(Str.ofString "box", .ref a.b), (Str.ofString "way", .int way t1), (Str.ofString "burst", .int Bu t2), (Str.ofString "reno", .ref a.ra), (Str.ofString "rtt", .ref a.ta), (Str.ofString "pacer", .ref a.pa), (Str.ofString "looks", .ref a.lo), (Str.ofString "out", .ref a.ou)]
/-- what stands between two statements of the turn -/
def Mid (w : World) (a : Ad) (way Bu : Int) (h₀ : Heap) (L : Addr) (q : Addr × Obj) (tw tb : Tok) (σ : Pl) (si : Addr) (kvs : List (Str × Value)) (s s' : Shared) : Prop :=
  Si a si ∧ ∃ tn h' tk m' nx, s' = { s with heap := h', toks := tk } ∧ Fr h₀ L h' m' ∧ News h₀ L h' (q :: nx) ∧ (∀ p ∈ nx, p.1 ≠ q.1) ∧
    Has m' ((Str.ofString "now", .int σ.now tn) :: (Str.ofString "since", .ref si) :: (kvs ++ fixN a way Bu tw tb)) ∧ SI w a way Bu σ si nx
theorem mid_intro {w : World} {a : Ad} {way Bu : Int} {h₀ : Heap} {L : Addr} {q : Addr × Obj} {tw tb tn : Tok} {σ : Pl} {si : Addr} {kvs : List (Str × Value)} {s : Shared} {h' : Heap} {tk : Nat} {m' : Str → Option Value} {all tl : List (Addr × Obj)} {ob ol ord otd opd osi olo oou : Obj}
    (F : Fr h₀ L h' m') (N : News h₀ L h' all) (hsi : Si a si) (e0 : q ∈ all) (e1 : (a.b, ob) ∈ all) (e2 : (a.l, ol) ∈ all) (e3 : (a.ra, nInst a.rd) ∈ all) (e4 : (a.rd, ord) ∈ all) (e5 : (a.ta, tInst a.td) ∈ all) (e6 : (a.td, otd) ∈ all) (e7 : (a.pa, pInst a.pd) ∈ all) (e8 : (a.pd, opd) ∈ all)
    (e9 : (si, osi) ∈ all) (e10 : (a.lo, olo) ∈ all) (e11 : (a.ou, oou) ∈ all) (e12 : ∀ p ∈ tl, p ∈ all)
    (hn : a.b ≠ q.1 ∧ a.l ≠ q.1 ∧ a.ra ≠ q.1 ∧ a.rd ≠ q.1 ∧ a.ta ≠ q.1 ∧ a.td ≠ q.1 ∧ a.pa ≠ q.1 ∧ a.pd ≠ q.1 ∧ si ≠ q.1 ∧ a.lo ≠ q.1 ∧ a.ou ≠ q.1 ∧ (∀ p ∈ tl, p.1 ≠ q.1))
    (p1 : BoxO a.l σ.k ob) (p2 : IntsO ol) (p3 : RenO w σ.win σ.fl ord) (p4 : RttO w way otd) (p5 : PacO w Bu σ.le σ.re σ.now opd) (p6 : SinO σ.s0 σ.s1 osi) (p7 : PrsO tl σ.looks olo) (p8 : PrsO tl σ.out oou) (p9 : Tups tl)
    (H : Has m' ((Str.ofString "now", .int σ.now tn) :: (Str.ofString "since", .ref si) :: (kvs ++ fixN a way Bu tw tb))) :
    Mid w a way Bu h₀ L q tw tb σ si kvs s { s with heap := h', toks := tk } := by
  refine ⟨hsi, tn, h', tk, m', (a.b, ob) :: (a.l, ol) :: (a.ra, nInst a.rd) :: (a.rd, ord) :: (a.ta, tInst a.td) :: (a.td, otd) :: (a.pa, pInst a.pd) :: (a.pd, opd) :: (si, osi) :: (a.lo, olo) :: (a.ou, oou) :: tl, rfl, F, ?_, ?_, H, ob, ol, ord, otd, opd, osi, olo, oou, tl, p1, p2, p3, p4, p5, p6, p7, p8, p9, rfl⟩
  · have hz : ∀ p ∈ q :: (a.b, ob) :: (a.l, ol) :: (a.ra, nInst a.rd) :: (a.rd, ord) :: (a.ta, tInst a.td) :: (a.td, otd) :: (a.pa, pInst a.pd) :: (a.pd, opd) :: (si, osi) :: (a.lo, olo) :: (a.ou, oou) :: tl, p ∈ all := by
      simp only [List.forall_mem_cons]
      exact ⟨e0, e1, e2, e3, e4, e5, e6, e7, e8, e9, e10, e11, e12⟩
    exact fun p hp => N p (hz p hp)
  · simp only [List.forall_mem_cons]
    exact hn
def MidB (w : World) (a : Ad) (way Bu : Int) (h₀ : Heap) (L : Addr) (q : Addr × Obj) (tw tb : Tok) (σ : Pl) (s s' : Shared) : Prop :=
  ∃ gap now le re s0 s1 k si tg tz, 1 ≤ gap ∧ now = σ.now + gap ∧ k = σ.k + 2 ∧ EarnP Bu σ.le σ.re σ.win way gap le re ∧ ((le = Bu ∧ s0 = 0 ∧ s1 = 0) ∨ (le ≠ Bu ∧ s0 = σ.s0 + 5 * σ.win * gap ∧ s1 = σ.s1)) ∧
    Mid w a way Bu h₀ L q tw tb { σ with now := now, le := le, re := re, s0 := s0, s1 := s1, k := k } si [(Str.ofString "gained", .int (5 * σ.win * gap) tg), (Str.ofString "sent", .int 0 tz)] s s'
theorem midB_intro {w : World} {a : Ad} {way Bu : Int} {h₀ : Heap} {L : Addr} {q : Addr × Obj} {tw tb tg tz : Tok} {σ : Pl} {s s' : Shared} {gap now le re s0 s1 k : Int} {si : Addr} (gg : 1 ≤ gap) (e1 : now = σ.now + gap) (e2 : k = σ.k + 2) (ee : EarnP Bu σ.le σ.re σ.win way gap le re)
    (dd : (le = Bu ∧ s0 = 0 ∧ s1 = 0) ∨ (le ≠ Bu ∧ s0 = σ.s0 + 5 * σ.win * gap ∧ s1 = σ.s1)) (M : Mid w a way Bu h₀ L q tw tb { σ with now := now, le := le, re := re, s0 := s0, s1 := s1, k := k } si [(Str.ofString "gained", .int (5 * σ.win * gap) tg), (Str.ofString "sent", .int 0 tz)] s s') : MidB w a way Bu h₀ L q tw tb σ s s' :=
  ⟨gap, now, le, re, s0, s1, k, si, tg, tz, gg, e1, e2, ee, dd, M⟩
theorem Prs.cons_inv {led : List (Addr × Obj)} {v : Value} {vs : List Value} {ps : List (Int × Int)} (h : Prs led (v :: vs) ps) : ∃ (a : Addr) (x y : Int) (tx ty : Tok) (n : Nat) (ps' : List (Int × Int)), v = Value.ref a ∧ ps = (x, y) :: ps' ∧ (a, tupO x y tx ty n) ∈ led ∧ Prs led vs ps' := by
  obtain ⟨a, x, y, tx, ty, n, h1, h2, h3⟩ := h.2 0 v rfl
  cases ps with
  | nil => cases h2
  | cons p ps' =>
    cases h2
    refine ⟨a, x, y, tx, ty, n, ps', h1, rfl, h3, ?_⟩
    simpa using h.drop 1
theorem Prs.nil_inv {led : List (Addr × Obj)} {ps : List (Int × Int)} (h : Prs led [] ps) : ps = [] := List.eq_nil_of_length_eq_zero h.1.symm
abbrev pDat (q : Int × Int) : Dat := Dat.tuple [.int q.1, .int q.2]
theorem prs_dat {led : List (Addr × Obj)} : ∀ {vs : List Value} {ps : List (Int × Int)}, Prs led vs ps → DatAll led vs (ps.map pDat)
  | [], ps, h => by rw [h.nil_inv]; exact .nil
  | v :: vs, ps, h => by
    obtain ⟨a, x, y, tx, ty, n, ps', rfl, rfl, hm, h'⟩ := h.cons_inv
    exact .cons (DatIn.tuple hm (.cons (.int _ _) (.cons (.int _ _) .nil))) (prs_dat h')
theorem pDat_ok (ps : List (Int × Int)) : ∀ d ∈ ps.map pDat, kqdOk 8 d = true := by
  intro d hd
  obtain ⟨q, _, rfl⟩ := List.mem_map.mp hd
  simp [kqdOk]
theorem ne_nil_prs {prog : Program} {w : World} {A : Around} {E : Value → Shared → Prop} {s : Shared} {h₀ : Heap} {L x D : Addr} {news tl : List (Addr × Obj)} {vs : List Value} {ps : List (Int × Int)} {n k : Nat} {Q : Value → Shared → Prop}
    (N : News h₀ L s.heap news) (hx : (x, listOf vs.toArray n) ∈ news) (hD : (D, listOf [].toArray k) ∈ news) (hs : ∀ q ∈ tl, q ∈ news) (hp : Prs tl vs ps) (hu : A.units + 64 < cLine) (h : ∀ r, (r = true ↔ ps ≠ []) → Q (.bool r) s) :
    wpAny (model prog w) A (compareOp .NotEq (.ref x) (.ref D)) Q E s := by
  refine kqd_ne N hx rfl rfl (prs_dat hp) hs hD rfl rfl (n₂ := []) .nil (fun _ h => (nomatch h)) (pDat_ok ps) (fun _ h => (nomatch h)) hu (h _ ?_)
  simp
def MidD (w : World) (a : Ad) (way Bu : Int) (h₀ : Heap) (L : Addr) (q : Addr × Obj) (tw tb : Tok) (g : Int) (tg tz : Tok) (σ : Pl) (si : Addr) (s s' : Shared) : Prop :=
  ∃ form win fl k out tf, 0 ≤ form ∧ form < 5 ∧ k = σ.k + 1 ∧ ((win = σ.win ∧ fl = σ.fl ∧ out = σ.out) ∨ ∃ z t, σ.out = (z, t) :: out ∧ win = σ.win + z ∧ fl = σ.fl - z) ∧
    Mid w a way Bu h₀ L q tw tb { σ with win := win, fl := fl, k := k, out := out } si [(Str.ofString "gained", .int g tg), (Str.ofString "sent", .int 0 tz), (Str.ofString "form", .int form tf)] s s'
theorem midD_intro {w : World} {a : Ad} {way Bu : Int} {h₀ : Heap} {L : Addr} {q : Addr × Obj} {tw tb : Tok} {g : Int} {tg tz tf : Tok} {σ : Pl} {si : Addr} {s s' : Shared} {form win fl k : Int} {out : List (Int × Int)} (f0 : 0 ≤ form) (f1 : form < 5) (e2 : k = σ.k + 1)
    (dd : (win = σ.win ∧ fl = σ.fl ∧ out = σ.out) ∨ ∃ z t, σ.out = (z, t) :: out ∧ win = σ.win + z ∧ fl = σ.fl - z)
    (M : Mid w a way Bu h₀ L q tw tb { σ with win := win, fl := fl, k := k, out := out } si [(Str.ofString "gained", .int g tg), (Str.ofString "sent", .int 0 tz), (Str.ofString "form", .int form tf)] s s') : MidD w a way Bu h₀ L q tw tb g tg tz σ si s s' :=
  ⟨form, win, fl, k, out, tf, f0, f1, e2, dd, M⟩
/-- what stands between two packets of a turn -/
def JL (w : World) (a : Ad) (way Bu : Int) (q : Addr × Obj) (tw tb tg tf tz : Tok) (g form size : Int) (σ : Pl) (si : Addr) (i : Nat) (m : Str → Option Value) (nx : List (Addr × Obj)) : Prop :=
  ∃ le fl s1 S out tn ts nx0, 0 ≤ S ∧ 0 ≤ le ∧ le = σ.le - S ∧ s1 = σ.s1 + S ∧ out.length ≤ σ.out.length + i ∧ (∀ z ∈ out, z ∈ σ.out ∨ (0 ≤ z.1 ∧ z.1 ≤ 1200)) ∧ nx = q :: nx0 ∧ (∀ p ∈ nx0, p.1 ≠ q.1) ∧
    Has m ((Str.ofString "now", .int σ.now tn) :: (Str.ofString "since", .ref si) :: (Str.ofString "gained", .int g tg) :: (Str.ofString "sent", .int S ts) :: (Str.ofString "form", .int form tf) :: (Str.ofString "size", .int size tz) :: fixN a way Bu tw tb) ∧ SI w a way Bu { σ with le := le, fl := fl, s1 := s1, out := out } si nx0
theorem turnL {w : World} {a : Ad} {way Bu : Int} {q q2 : Addr × Obj} {tw tb tg tf tz : Tok} {g form size : Int} {σ : Pl} {si : Addr} {i : Nat} {h₀ : Heap} {L : Addr} {s : Shared} {Q : Flow → Shared → Prop} {h' : Heap} {tk : Nat} {m' : Str → Option Value} {all tl : List (Addr × Obj)} {ob ol ord otd opd osi olo oou : Obj}
    (le fl s1 S : Int) (out : List (Int × Int)) {tn ts : Tok} (F : Fr h₀ L h' m') (N : News h₀ L h' all) (c1 : 0 ≤ S) (c2 : 0 ≤ le) (c3 : le = σ.le - S) (c4 : s1 = σ.s1 + S) (c5 : out.length ≤ σ.out.length + (i + 1)) (c6 : ∀ z ∈ out, z ∈ σ.out ∨ (0 ≤ z.1 ∧ z.1 ≤ 1200))
    (e00 : q2 ∈ all) (e0 : q ∈ all) (e1 : (a.b, ob) ∈ all) (e2 : (a.l, ol) ∈ all) (e3 : (a.ra, nInst a.rd) ∈ all) (e4 : (a.rd, ord) ∈ all) (e5 : (a.ta, tInst a.td) ∈ all) (e6 : (a.td, otd) ∈ all) (e7 : (a.pa, pInst a.pd) ∈ all) (e8 : (a.pd, opd) ∈ all)
    (e9 : (si, osi) ∈ all) (e10 : (a.lo, olo) ∈ all) (e11 : (a.ou, oou) ∈ all) (e12 : ∀ p ∈ tl, p ∈ all)
    (hn : a.b ≠ q.1 ∧ a.l ≠ q.1 ∧ a.ra ≠ q.1 ∧ a.rd ≠ q.1 ∧ a.ta ≠ q.1 ∧ a.td ≠ q.1 ∧ a.pa ≠ q.1 ∧ a.pd ≠ q.1 ∧ si ≠ q.1 ∧ a.lo ≠ q.1 ∧ a.ou ≠ q.1 ∧ (∀ p ∈ tl, p.1 ≠ q.1))
    (hn2 : q.1 ≠ q2.1 ∧ a.b ≠ q2.1 ∧ a.l ≠ q2.1 ∧ a.ra ≠ q2.1 ∧ a.rd ≠ q2.1 ∧ a.ta ≠ q2.1 ∧ a.td ≠ q2.1 ∧ a.pa ≠ q2.1 ∧ a.pd ≠ q2.1 ∧ si ≠ q2.1 ∧ a.lo ≠ q2.1 ∧ a.ou ≠ q2.1 ∧ (∀ p ∈ tl, p.1 ≠ q2.1))
    (p1 : BoxO a.l σ.k ob) (p2 : IntsO ol) (p3 : RenO w σ.win fl ord) (p4 : RttO w way otd) (p5 : PacO w Bu le σ.re σ.now opd) (p6 : SinO σ.s0 s1 osi) (p7 : PrsO tl σ.looks olo) (p8 : PrsO tl out oou) (p9 : Tups tl)
    (H : Has m' ((Str.ofString "now", .int σ.now tn) :: (Str.ofString "since", .ref si) :: (Str.ofString "gained", .int g tg) :: (Str.ofString "sent", .int S ts) :: (Str.ofString "form", .int form tf) :: (Str.ofString "size", .int size tz) :: fixN a way Bu tw tb)) :
    TurnPost h₀ L q2 (JL w a way Bu q tw tb tg tf tz g form size σ si (i + 1)) s Q .next { s with heap := h', toks := tk } := by
  have hz : ∀ p ∈ q2 :: q :: (a.b, ob) :: (a.l, ol) :: (a.ra, nInst a.rd) :: (a.rd, ord) :: (a.ta, tInst a.td) :: (a.td, otd) :: (a.pa, pInst a.pd) :: (a.pd, opd) :: (si, osi) :: (a.lo, olo) :: (a.ou, oou) :: tl, p ∈ all := by
    simp only [List.forall_mem_cons]
    exact ⟨e00, e0, e1, e2, e3, e4, e5, e6, e7, e8, e9, e10, e11, e12⟩
  refine ⟨h', tk, m', q :: (a.b, ob) :: (a.l, ol) :: (a.ra, nInst a.rd) :: (a.rd, ord) :: (a.ta, tInst a.td) :: (a.td, otd) :: (a.pa, pInst a.pd) :: (a.pd, opd) :: (si, osi) :: (a.lo, olo) :: (a.ou, oou) :: tl, rfl, F, fun p hp => N p (hz p hp), ?_, le, fl, s1, S, out, tn, ts, _, c1, c2, c3, c4, c5, c6, rfl, ?_, H, ob, ol, ord, otd, opd, osi, olo, oou, tl, p1, p2, p3, p4, p5, p6, p7, p8, p9, rfl⟩
  · simp only [List.forall_mem_cons]
    exact hn2
  · simp only [List.forall_mem_cons]
    exact hn
def MidF (w : World) (a : Ad) (way Bu : Int) (h₀ : Heap) (L : Addr) (q : Addr × Obj) (tw tb : Tok) (g : Int) (σ : Pl) (si : Addr) (s s' : Shared) : Prop :=
  ∃ le fl s1 S out, 0 ≤ S ∧ 0 ≤ le ∧ le = σ.le - S ∧ s1 = σ.s1 + S ∧ out.length ≤ σ.out.length + 3 ∧ (∀ z ∈ out, z ∈ σ.out ∨ (0 ≤ z.1 ∧ z.1 ≤ 1200)) ∧
    Mid w a way Bu h₀ L q tw tb { σ with le := le, fl := fl, s1 := s1, out := out, looks := σ.looks ++ [(g, S)] } si [] s s'
theorem midF_intro {w : World} {a : Ad} {way Bu : Int} {h₀ : Heap} {L : Addr} {q : Addr × Obj} {tw tb : Tok} {g : Int} {σ : Pl} {si : Addr} {s s' : Shared} (le fl s1 S : Int) (out : List (Int × Int)) (c1 : 0 ≤ S) (c2 : 0 ≤ le) (c3 : le = σ.le - S) (c4 : s1 = σ.s1 + S) (c5 : out.length ≤ σ.out.length + 3) (c6 : ∀ z ∈ out, z ∈ σ.out ∨ (0 ≤ z.1 ∧ z.1 ≤ 1200))
    (M : Mid w a way Bu h₀ L q tw tb { σ with le := le, fl := fl, s1 := s1, out := out, looks := σ.looks ++ [(g, S)] } si [] s s') : MidF w a way Bu h₀ L q tw tb g σ si s s' := ⟨le, fl, s1, S, out, c1, c2, c3, c4, c5, c6, M⟩
theorem tups_cons {q : Addr × Obj} {tl : List (Addr × Obj)} (h : q.2.cls = .type "tuple") (ht : Tups tl) : Tups (q :: tl) := by
  intro p hp
  rcases List.mem_cons.mp hp with rfl | hp
  · exact h
  · exact ht p hp
theorem prsO_snoc {tl : List (Addr × Obj)} {y : Addr × Obj} {vs : List Value} {ps : List (Int × Int)} {o : Obj} {a : Addr} {x z : Int} {tx tz : Tok} {n k : Nat} (h : Prs tl vs ps) (he : o = listOf (vs.toArray.push (.ref a)) k) (hm : (a, tupO x z tx tz n) ∈ y :: tl) : PrsO (y :: tl) (ps ++ [(x, z)]) o :=
  ⟨vs ++ [.ref a], k, (h.mono (fun _ h => .tail _ h)).snoc hm, by rw [he, List.push_toArray]⟩
end
section
def Bnd (C B Ph : Int) (ps : List (Int × Int)) : Prop := ∀ i x y, ps[i]? = some (x, y) → Ph ≤ B * C + sG (ps.drop (i + 1)) - C * (y + sS (ps.drop (i + 1)))
def Inv (way Bu : Int) (i : Nat) (σ : Pl) : Prop :=
  0 ≤ σ.le ∧ σ.le ≤ Bu ∧ 0 ≤ σ.re ∧ σ.re < 4 * way ∧ (σ.le + σ.s1 - Bu) * (4 * way) + σ.re = σ.s0 ∧ 12000 ≤ σ.win ∧ σ.win ≤ 12000 + 1200 * i ∧ 0 ≤ σ.k ∧ σ.k ≤ 2 + 3 * i ∧ σ.looks.length = i ∧ σ.out.length ≤ 3 * i ∧
    (∀ z ∈ σ.out, 0 ≤ z.1 ∧ z.1 ≤ 1200) ∧ Bnd (4 * way) Bu (σ.le * (4 * way) + σ.re) σ.looks ∧ Within (4 * way) Bu σ.looks
theorem fdiv_mod {Y C : Int} (hC : 0 < C) : Y.fdiv C * C + Y.fmod C = Y ∧ 0 ≤ Y.fmod C ∧ Y.fmod C < C := by
  refine ⟨?_, Int.fmod_nonneg_of_pos _ hC, Int.fmod_lt_of_pos _ hC⟩
  rw [Int.fdiv_eq_ediv_of_nonneg _ (by omega), Int.fmod_eq_emod_of_nonneg _ (by omega), Int.mul_comm]
  exact Int.mul_ediv_add_emod Y C
theorem fdiv_add {x Y C : Int} (hC : 0 < C) : (x * C + Y).fdiv C = x + Y.fdiv C := by
  rw [Int.fdiv_eq_ediv_of_nonneg _ (by omega), Int.fdiv_eq_ediv_of_nonneg _ (by omega), Int.add_comm, Int.add_mul_ediv_right _ _ (by omega), Int.add_comm]
theorem fdiv_nn {Y C : Int} (hC : 0 < C) (hY : 0 ≤ Y) : 0 ≤ Y.fdiv C := by
  rw [Int.fdiv_eq_ediv_of_nonneg _ (by omega)]
  exact Int.ediv_nonneg hY (by omega)
theorem plain_hC {way Bu : Int} {i : Nat} {σ : Pl} (hy : 1 ≤ way) (h : Inv way Bu i σ) : ∀ gap le' re', EarnP Bu σ.le σ.re σ.win way gap le' re' → le' = Bu ∨ le' = Bu + (σ.s0 + 5 * σ.win * gap).fdiv (4 * way) - σ.s1 := by
  obtain ⟨_, _, _, _, h5, _⟩ := h
  intro gap le' re' hE
  rcases hE with ⟨_, e, _⟩ | ⟨_, e, _⟩
  · exact .inl e
  · right
    have e2 : σ.s0 + 5 * σ.win * gap = (σ.le + σ.s1 - Bu) * (4 * way) + (σ.re + 5 * σ.win * gap) := by omega
    rw [e2, fdiv_add (by omega)]
    omega
/-- what earning leaves -/
theorem plain_earn {way Bu win gap le re s0 s1 le1 re1 s0' s1' : Int} (hy : 1 ≤ way) (hB : 0 ≤ Bu) (hw : 0 ≤ win) (hg : 0 ≤ gap) (h1 : 0 ≤ le) (h3 : 0 ≤ re) (h5 : (le + s1 - Bu) * (4 * way) + re = s0) (hE : EarnP Bu le re win way gap le1 re1)
    (dd : (le1 = Bu ∧ s0' = 0 ∧ s1' = 0) ∨ (le1 ≠ Bu ∧ s0' = s0 + 5 * win * gap ∧ s1' = s1)) :
    0 ≤ le1 ∧ le1 ≤ Bu ∧ 0 ≤ re1 ∧ re1 < 4 * way ∧ (le1 + s1' - Bu) * (4 * way) + re1 = s0' ∧ le1 * (4 * way) + re1 ≤ le * (4 * way) + re + 5 * win * gap ∧ le1 * (4 * way) + re1 ≤ Bu * (4 * way) := by
  have hG : 0 ≤ 5 * win * gap := Int.mul_nonneg (by omega) hg
  generalize hGe : 5 * win * gap = G at *
  have hC : (0 : Int) < 4 * way := by omega
  generalize hCe : 4 * way = C at *
  obtain ⟨d1, d2, d3⟩ := fdiv_mod (Y := re + G) hC
  have hd := fdiv_nn (Y := re + G) hC (by omega)
  unfold EarnP at hE
  rw [hGe, hCe] at hE
  generalize (re + G).fdiv C = d at *
  rcases hE with ⟨e1, rfl, rfl⟩ | ⟨e1, rfl, rfl⟩
  · rcases dd with ⟨_, rfl, rfl⟩ | ⟨hn, _, _⟩
    · have h6 : le1 * C ≤ (le + d) * C := Int.mul_le_mul_of_nonneg_right e1 (by omega)
      rw [Int.add_mul] at h6
      refine ⟨hB, Int.le_refl _, Int.le_refl _, hC, ?_, by omega, by omega⟩
      rw [show le1 + 0 - le1 = 0 by omega, Int.zero_mul]
      rfl
    · exact absurd rfl hn
  · rcases dd with ⟨hn, _, _⟩ | ⟨_, rfl, rfl⟩
    · omega
    · have h6 : (le + d + s1' - Bu) * C = (le + s1' - Bu) * C + d * C := by rw [← Int.add_mul]; congr 1; omega
      have h7 : (le + d) * C = le * C + d * C := Int.add_mul _ _ _
      have h8 : (le + d + 1) * C ≤ Bu * C := Int.mul_le_mul_of_nonneg_right (by omega) (by omega)
      have h9 : (le + d + 1) * C = (le + d) * C + C := by rw [Int.add_mul, Int.one_mul]
      refine ⟨by omega, by omega, d2, d3, by omega, by omega, by omega⟩
theorem sG_snoc (l : List (Int × Int)) (x y : Int) : sG (l ++ [(x, y)]) = sG l + x := by simp [sG]
theorem sS_snoc (l : List (Int × Int)) (x y : Int) : sS (l ++ [(x, y)]) = sS l + y := by simp [sS]
theorem bnd_step {C B Ph Ph2 G S : Int} {ps : List (Int × Int)} (h : Bnd C B Ph ps) (h1 : Ph2 ≤ Ph + G - S * C) (h2 : Ph2 ≤ B * C - S * C) : Bnd C B Ph2 (ps ++ [(G, S)]) := by
  intro i x y hi
  rcases Nat.lt_or_ge i ps.length with hl | hl
  · rw [List.getElem?_append_left hl] at hi
    have h3 := h i x y hi
    rw [List.drop_append_of_le_length (by omega), sG_snoc, sS_snoc]
    have h4 : C * (y + (sS (ps.drop (i + 1)) + S)) = C * (y + sS (ps.drop (i + 1))) + S * C := by rw [← Int.add_assoc, Int.mul_add, Int.mul_comm C S]
    omega
  · rw [List.getElem?_append_right hl] at hi
    have hz : i - ps.length = 0 := by
      have := (List.getElem?_eq_some_iff.mp hi).1
      simp only [List.length_cons, List.length_nil] at this
      omega
    rw [hz] at hi
    cases hi
    rw [List.drop_of_length_le (by simp only [List.length_append, List.length_cons, List.length_nil]; omega)]
    have h4 : C * (S + sS []) = S * C := by simp [sS, Int.mul_comm]
    rw [h4]
    have h5 : sG [] = 0 := rfl
    omega
theorem within_step {C B Ph2 G S : Int} {ps : List (Int × Int)} (h : Within C B ps) (hb : Bnd C B Ph2 (ps ++ [(G, S)])) (h0 : 0 ≤ Ph2) : Within C B (ps ++ [(G, S)]) := by
  intro i x y hi j
  have hbi := hb i x y hi
  have full : C * (y + sS ((ps ++ [(G, S)]).drop (i + 1)) - B) ≤ sG ((ps ++ [(G, S)]).drop (i + 1)) := by
    have h4 : C * (y + sS ((ps ++ [(G, S)]).drop (i + 1)) - B) = C * (y + sS ((ps ++ [(G, S)]).drop (i + 1))) - B * C := by rw [Int.mul_sub, Int.mul_comm C B]
    omega
  rcases Nat.lt_or_ge i ps.length with hl | hl
  · rw [List.getElem?_append_left hl] at hi
    rw [List.drop_append_of_le_length (by omega)] at full ⊢
    rcases Nat.lt_or_ge (ps.drop (i + 1)).length j with hj | hj
    · rw [List.take_of_length_le (by simp only [List.length_append, List.length_cons, List.length_nil]; omega)]
      exact full
    · rw [List.take_append_of_le_length hj]
      exact h i x y hi j
  · have hz : (ps ++ [(G, S)]).drop (i + 1) = [] := List.drop_of_length_le (by simp only [List.length_append, List.length_cons, List.length_nil]; omega)
    rw [hz] at full ⊢
    rw [List.take_nil]
    exact full
theorem plain_step {way Bu : Int} {i : Nat} {σ : Pl} (hy : 1 ≤ way) (hB : 0 ≤ Bu) (h : Inv way Bu i σ) {gap now1 le1 re1 s01 s11 k1 win2 fl2 k2 le3 fl3 s13 S : Int} {out2 out3 : List (Int × Int)} (hg : 1 ≤ gap) (e1 : k1 = σ.k + 2) (hE : EarnP Bu σ.le σ.re σ.win way gap le1 re1)
    (dd : (le1 = Bu ∧ s01 = 0 ∧ s11 = 0) ∨ (le1 ≠ Bu ∧ s01 = σ.s0 + 5 * σ.win * gap ∧ s11 = σ.s1)) (e2 : k2 = k1 + 1) (d2 : (win2 = σ.win ∧ fl2 = σ.fl ∧ out2 = σ.out) ∨ ∃ z t, σ.out = (z, t) :: out2 ∧ win2 = σ.win + z ∧ fl2 = σ.fl - z)
    (c1 : 0 ≤ S) (c2 : 0 ≤ le3) (c3 : le3 = le1 - S) (c4 : s13 = s11 + S) (c5 : out3.length ≤ out2.length + 3) (c6 : ∀ z ∈ out3, z ∈ out2 ∨ (0 ≤ z.1 ∧ z.1 ≤ 1200)) :
    Inv way Bu (i + 1) { now := now1, le := le3, re := re1, win := win2, fl := fl3, s0 := s01, s1 := s13, k := k2, looks := σ.looks ++ [(5 * σ.win * gap, S)], out := out3 } := by
  obtain ⟨h1, h2, h3, h4, h5, h6, h7, h8, h9, h10, h11, h12, h13, h14⟩ := h
  obtain ⟨q1, q2, q3, q4, q5, q6, q7⟩ := plain_earn hy hB (by omega) (by omega) h1 h3 h5 hE dd
  have w2 : 12000 ≤ win2 ∧ win2 ≤ 12000 + 1200 * ((i + 1 : Nat) : Int) ∧ out2.length ≤ 3 * i ∧ (∀ z ∈ out2, 0 ≤ z.1 ∧ z.1 ≤ 1200) := by
    rcases d2 with ⟨rfl, _, rfl⟩ | ⟨z, t, ho, rfl, _⟩
    · exact ⟨h6, by omega, h11, h12⟩
    · rw [ho] at h11 h12
      have hz := h12 (z, t) (.head _)
      simp only [List.length_cons] at h11
      exact ⟨by omega, by omega, by omega, fun y hy => h12 y (.tail _ hy)⟩
  obtain ⟨w2, w3, w4, w5⟩ := w2
  have p1 : le3 * (4 * way) = le1 * (4 * way) - S * (4 * way) := by rw [c3, Int.sub_mul]
  have p2 : (0 : Int) ≤ le3 * (4 * way) := Int.mul_nonneg c2 (by omega)
  have p3 : (le3 + s13 - Bu) = (le1 + s11 - Bu) := by omega
  have hb := bnd_step (G := 5 * σ.win * gap) (S := S) (Ph2 := le3 * (4 * way) + re1) h13 (by omega) (by omega)
  refine ⟨c2, by dsimp only; omega, q3, q4, ?_, w2, w3, by dsimp only; omega, by dsimp only; omega, ?_, ?_, ?_, hb, within_step h14 hb (by omega)⟩
  · dsimp only
    rw [p3]
    exact q5
  · dsimp only
    rw [List.length_append, h10]
    rfl
  · dsimp only
    omega
  · intro z hz
    rcases c6 z hz with hz | hz
    · exact w5 z hz
    · exact hz
theorem plain_start {way Bu : Int} (hy : 1 ≤ way) (hB : 0 ≤ Bu) (fl now k : Int) (hk0 : 0 ≤ k) (hk1 : k ≤ 2) : Inv way Bu 0 { now := now, le := Bu, re := 0, win := 12000, fl := fl, s0 := 0, s1 := 0, k := k, looks := [], out := [] } := by
  refine ⟨hB, Int.le_refl _, Int.le_refl _, by dsimp only; omega, ?_, Int.le_refl _, by dsimp only; omega, hk0, by dsimp only; omega, rfl, Nat.zero_le _, by intro z hz; simp at hz, fun i x y hi => ?_, fun i x y hi => ?_⟩
  · dsimp only
    rw [show Bu + 0 - Bu = 0 by omega, Int.zero_mul]
    first | rfl | done
  · simp at hi
  · simp at hi
end
section
local macro_rules | `(tactic| walk_at "none 0") => `(tactic| fail)
local macro_rules | `(tactic| walk_at "none 1") => `(tactic| fail)
local macro_rules | `(tactic| walk_at "none 2") => `(tactic| fail)
local macro_rules | `(tactic| walk_at "none 3") => `(tactic| fail)
local macro_rules | `(tactic| walk_at "none 4") => `(tactic| fail)
local macro_rules | `(tactic| walk_at "none 5") => `(tactic| fail)
local macro_rules | `(tactic| walk_at "none 6") => `(tactic| fail)
local macro_rules | `(tactic| walk_at "none 7") => `(tactic| fail)
local macro_rules | `(tactic| walk_at "none 8") => `(tactic| fail)
local macro_rules | `(tactic| walk_at "none 9") => `(tactic| fail)
local macro_rules | `(tactic| walk_at "none 10") => `(tactic| fail)
local macro_rules | `(tactic| walk_at "none 11") => `(tactic| fail)
local macro_rules | `(tactic| walk_at "none 12") => `(tactic| fail)
local macro_rules | `(tactic| walk_at "none 13") => `(tactic| fail)
local macro_rules | `(tactic| walk_at "none 14") => `(tactic| fail)
section
variable {prog : Program} {w : World} {A : Around} {E : Value → Shared → Prop} {s : Shared} {h₀ : Heap} {L D : Addr} {m : Str → Option Value} {news news' : List (Addr × Obj)} {n : Nat}
theorem my_two {value slice : PySem.Expr} {x y k : Int} {tx ty u : Tok} {Q : Value → Shared → Prop} (N : News h₀ L s.heap news) (hm : (D, listOf [.int x tx, .int y ty].toArray n) ∈ news) (h0 : 0 ≤ k) (h1 : k < 2) (h : ∀ v t, (v = x ∨ v = y) → Q (.int v t) s)
    (hs : subscripted slice false (.ref D) (.int k u) = operate [.ref D, .int k u] (getItem (.ref D) (.int k u))) :
    wpAny (model prog w) A (subscriptTail value slice (.ref D) (.int k u)) Q E s := by
  have hk : k = 0 ∨ k = 1 := by omega
  rcases hk with rfl | rfl
  · exact tail_any (News.isList N hm).typeIs slot_list_getitem.lookup (wpAny_getItem_list (News.isList N hm) (by omega) (by omega) (by rfl) (h x tx (.inl rfl))) hs
  · exact tail_any (News.isList N hm).typeIs slot_list_getitem.lookup (wpAny_getItem_list (News.isList N hm) (by omega) (by omega) (by rfl) (h y ty (.inr rfl))) hs
end
local macro_rules | `(tactic| k_all) => `(tactic| first | (with_reducible assumption) | (refine allLt_ne ?_; first | (with_reducible assumption) | exact And.right (by with_reducible assumption) | exact And.right (And.right (by with_reducible assumption)) | exact And.right (And.right (And.right (by with_reducible assumption))) | exact And.right (And.right (And.right (And.right (by with_reducible assumption)))) | exact And.right (And.right (And.right (And.right (And.right (by with_reducible assumption))))) | exact And.right (And.right (And.right (And.right (And.right (And.right (by with_reducible assumption)))))) | exact And.right (And.right (And.right (And.right (And.right (And.right (And.right (by with_reducible assumption))))))) | exact And.right (And.right (And.right (And.right (And.right (And.right (And.right (And.right (by with_reducible assumption))))))))) | exact List.forall_mem_nil _ | (refine' List.forall_mem_cons.mpr ⟨?a, ?b⟩; (case a => k_ne); (case b => k_all)))
local macro_rules | `(tactic| k_mem) => `(tactic| (refine mem_fold ?_; with_reducible assumption))
local macro_rules | `(tactic| ktr_room) => `(tactic| ((try simp only [depth_under_make, depth_under_kw, depth_in1, depth_deeper, depth_caller]); (try dsimp only [ktrTop]); omega))
local macro_rules | `(tactic| ktr_units) => `(tactic| ((try simp only [units_in1, units_deeper, Around.mark_units, units_caller]); (try dsimp only [ktrTop]); omega))
local macro_rules | `(tactic| k_room) => `(tactic| ktr_room)
local macro_rules | `(tactic| walk_at "call ref") => `(tactic| (k_here; (with_reducible show wpAny _ _ (call (Value.ref 231) _) _ _ _); refine Halt.out ?_))
local macro_rules | `(tactic| walk_at "call ref") => `(tactic| (k_here; (with_reducible show wpAny _ _ (call (Value.ref 196) _) _ _ _); refine Halt.out ?_))
local macro_rules | `(tactic| walk_at "call ref") => `(tactic| (k_here; (with_reducible show wpAny _ _ (call (Value.ref 42) _) _ _ _); refine Halt.out ?_))

local macro_rules | `(tactic| walk_at "execs cons") => `(tactic| (k_here; (with_reducible show wpAny _ _ (execs (Stmt.Assign [Expr.Name (PySem.Str.ofString "form") _] _ _ :: _) _) _ _ _); refine Halt.out ?_))
local macro_rules | `(tactic| walk_at "subscriptTail List") => `(tactic| (k_here; refine Halt.out ?_))
theorem g0 (x y : Int) : [x, y].getD (Int.toNat 0) 0 = x := rfl
theorem g1 (x y : Int) : [x, y].getD (Int.toNat 1) 0 = y := rfl
theorem segA {w : World} {p : Program} {loose : List Str} {mean : ExcName → Option Value} {mg mb : Str → Option Value}
    {dp un : Nat} {gd : Option (List Code)} {fa : Addr} {ccd : Value} {outer : List Env} {A₀ : Around} {base h₀ : Heap} {L : Addr} {s : Shared} {Q : Flow → Shared → Prop} {E : Value → Shared → Prop}
    (B : Below A₀ base outer h₀) (X : (hd.heap_39 w.params).In h₀) (T : Top p loose mean mg mb h₀) (hdp : dp + 12 < recursionLimit) (hun : un + 400 < cLine)
    {a : Ad} (ha : a.Ok) {way Bu : Int} (hy0 : 4000 ≤ way) (hy1 : way ≤ 23000) (hb0 : 2400 ≤ Bu) (hb1 : Bu ≤ 6000)
    {σ : Pl} {si I : Addr} {o : Obj} {tn tw tb : Tok} {u : Str → Option Value} {nx : List (Addr × Obj)} (hI : ∀ q ∈ nx, q.1 ≠ I) (hsi : Si a si) (hS : SI w a way Bu σ si nx)
    (F : Fr h₀ L s.heap (over ((Str.ofString "now", .int σ.now tn) :: (Str.ofString "since", .ref si) :: fixN a way Bu tw tb) u)) (N : News h₀ L s.heap ((I, o) :: nx))
    (hw0 : 12000 ≤ σ.win) (hw1 : σ.win ≤ 50000) (hk0 : 0 ≤ σ.k) (hk1 : σ.k ≤ 60)
    (hC : ∀ gap le' re', EarnP Bu σ.le σ.re σ.win way gap le' re' → le' = Bu ∨ le' = Bu + (σ.s0 + 5 * σ.win * gap).fdiv (4 * way) - σ.s1)
    (kk : ∀ s', MidB w a way Bu h₀ L (I, o) tw tb σ s s' → wpAny (model PP w) (ktrTop dp un gd (Str.ofString "law") lawScope L fa ccd [] outer) (execs (turnBody.drop 6) (envOf (Str.ofString "law") lawScope L fa ccd)) Q E s') :
    wpAny (model PP w) (ktrTop dp un gd (Str.ofString "law") lawScope L fa ccd [] outer) (execs turnBody (envOf (Str.ofString "law") lawScope L fa ccd)) Q E s := by
  w_on
  (with_unfolding_all show wpAny _ _ (execs (_ :: _) (envOf _ (Scope.mk _ _ _ _ _) _ _ _)) _ _ _)
  obtain ⟨a1, a2, a3, a4, a5, a6, a7, a8, a9⟩ := ha
  obtain ⟨b1, b2, b3⟩ := hsi
  obtain ⟨_, _, _, _, _, _, _, _, tl, ⟨c, tk0, tc, nb, rfl⟩, ⟨vs, nl, hvi, hvn, rfl⟩, ⟨kn1, kn2, kn3, kn4, kn5, kn6, dg, cr, tn1, tn2, tn5, tn6, rfl⟩, ⟨kt1, kt2, kt3, kt4, kt5, la, v4, ft, tt1, tt2, tt3, tt4, tt5, rfl⟩, ⟨kp1, kp2, kp3, kp4, tp1, tp2, tp3, tp4, rfl⟩, ⟨ts0, ts1, ns, rfl⟩, ⟨lvs, nlo, hlp, rfl⟩, ⟨ovs, nou, hop, rfl⟩, htl, rfl⟩ := hS
  obtain ⟨i1, i2, i3, i4, i5, i6, i7, i8, i9, i10, i11, itl⟩ : @Ne Nat a.b I ∧ @Ne Nat a.l I ∧ @Ne Nat a.ra I ∧ @Ne Nat a.rd I ∧ @Ne Nat a.ta I ∧ @Ne Nat a.td I ∧ @Ne Nat a.pa I ∧ @Ne Nat a.pd I ∧ @Ne Nat si I ∧ @Ne Nat a.lo I ∧ @Ne Nat a.ou I ∧ (∀ q ∈ tl, q.1 ≠ I) := by
    simpa only [List.forall_mem_cons] using hI
  clear hI
  have o1 : ∀ q ∈ tl, q.1 ≠ a.b := tl_off N (.tail _ (.head _)) (fun q hq => by (repeat (first | exact hq | refine List.mem_cons_of_mem _ ?_))) htl (by intro e; injection e with e; exact absurd e (by decide))
  have o2 : ∀ q ∈ tl, q.1 ≠ a.l := tl_off N (.tail _ (.tail _ (.head _))) (fun q hq => by (repeat (first | exact hq | refine List.mem_cons_of_mem _ ?_))) htl (by intro e; injection e with e; exact absurd e (by decide))
  have o4 : ∀ q ∈ tl, q.1 ≠ a.rd := tl_off N (.tail _ (.tail _ (.tail _ (.tail _ (.head _))))) (fun q hq => by (repeat (first | exact hq | refine List.mem_cons_of_mem _ ?_))) htl (by intro e; injection e with e; exact absurd e (by decide))
  have o6 : ∀ q ∈ tl, q.1 ≠ a.td := tl_off N (.tail _ (.tail _ (.tail _ (.tail _ (.tail _ (.tail _ (.head _))))))) (fun q hq => by (repeat (first | exact hq | refine List.mem_cons_of_mem _ ?_))) htl (by intro e; injection e with e; exact absurd e (by decide))
  have o8 : ∀ q ∈ tl, q.1 ≠ a.pd := tl_off N (.tail _ (.tail _ (.tail _ (.tail _ (.tail _ (.tail _ (.tail _ (.tail _ (.head _))))))))) (fun q hq => by (repeat (first | exact hq | refine List.mem_cons_of_mem _ ?_))) htl (by intro e; injection e with e; exact absurd e (by decide))
  have o9 : ∀ q ∈ tl, q.1 ≠ si := tl_off N (.tail _ (.tail _ (.tail _ (.tail _ (.tail _ (.tail _ (.tail _ (.tail _ (.tail _ (.head _)))))))))) (fun q hq => by (repeat (first | exact hq | refine List.mem_cons_of_mem _ ?_))) htl (by intro e; injection e with e; exact absurd e (by decide))
  have o10 : ∀ q ∈ tl, q.1 ≠ a.lo := tl_off N (.tail _ (.tail _ (.tail _ (.tail _ (.tail _ (.tail _ (.tail _ (.tail _ (.tail _ (.tail _ (.head _))))))))))) (fun q hq => by (repeat (first | exact hq | refine List.mem_cons_of_mem _ ?_))) htl (by intro e; injection e with e; exact absurd e (by decide))
  have o11 : ∀ q ∈ tl, q.1 ≠ a.ou := tl_off N (.tail _ (.tail _ (.tail _ (.tail _ (.tail _ (.tail _ (.tail _ (.tail _ (.tail _ (.tail _ (.tail _ (.head _)))))))))))) (fun q hq => by (repeat (first | exact hq | refine List.mem_cons_of_mem _ ?_))) htl (by intro e; injection e with e; exact absurd e (by decide))
  k_steps
  refine Halt.mk ?_
  k_dflt (refine' take_u ?B ?F ?X ?T ?hk ?hdp ?hun ?N ?mb ?ml ?hbl ?hi ?hn ?k0 ?k1 ?w0 ?_)
  (case B => k_asm)
  (case F => k_asm)
  (case X => k_asm)
  (case T => k_asm)
  (case hk => first | exact rfl | assumption)
  (case hdp => ktr_room)
  (case hun => ktr_units)
  (case N => k_asm)
  (case mb => k_dflt k_mem)
  (case ml => k_dflt k_mem)
  (case hbl => omega)
  (case hi => assumption)
  (case hn => assumption)
  (case k0 => omega)
  (case k1 => omega)
  (case w0 => decide)
  intro r1 t1 vs1 nl1 n1 tk1 h' tks1 hr1a hr1b hi1 hn1 F' H
  have N' := H _ _ (by k_upd) (by k_upd)
  clear H
  try k_sweep
  k_steps
  refine Halt.mk ?_
  k_dflt (refine' take_u ?B ?F ?X ?T ?hk ?hdp ?hun ?N ?mb ?ml ?hbl ?hi ?hn ?k0 ?k1 ?w0 ?_)
  (case B => k_asm)
  (case F => k_asm)
  (case X => k_asm)
  (case T => k_asm)
  (case hk => first | exact rfl | assumption)
  (case hdp => ktr_room)
  (case hun => ktr_units)
  (case N => k_asm)
  (case mb => k_dflt k_mem)
  (case ml => k_dflt k_mem)
  (case hbl => omega)
  (case hi => assumption)
  (case hn => assumption)
  (case k0 => omega)
  (case k1 => omega)
  (case w0 => decide)
  intro r2 t2 vs2 nl2 n2 tk2 h' tks2 hr2a hr2b hi2 hn2 F' H
  have N' := H _ _ (by k_upd) (by k_upd)
  clear H
  try k_sweep
  k_steps
  refine Halt.mk ?_
  k_dflt (refine' my_two ?N ?m ?h0 ?h1 ?_ ?hs)
  (case N => k_asm)
  (case m => k_dflt k_mem)
  (case h0 => omega)
  (case h1 => omega)
  (case hs => with_unfolding_all rfl)
  intro g tg hg
  have hg1 : 1 ≤ g ∧ g ≤ 37 := by omega
  have hg2 : 0 ≤ r1 * g := Int.mul_nonneg hr1a (by omega)
  k_steps
  refine Halt.mk ?_
  k_dflt (refine' smoothed_u ?B ?F ?X ?T ?hk ?hdp ?hun ?N ?mp ?md ?hs ?_)
  (case B => k_asm)
  (case F => k_asm)
  (case X => k_asm)
  (case T => k_asm)
  (case hk => first | exact rfl | assumption)
  (case hdp => ktr_room)
  (case hun => ktr_units)
  (case N => k_asm)
  (case mp => k_dflt k_mem)
  (case md => k_dflt k_mem)
  (case hs => rfl)
  intro t3 h' tks3 F' N'
  try k_sweep
  k_steps
  refine Halt.mk ?_
  k_dflt (refine' earn_u ?B ?F ?X ?T ?hk ?hdp ?hun ?N ?mp ?md ?hpa ?a1 ?a2 ?a3 ?a4 ?_)
  (case B => k_asm)
  (case F => k_asm)
  (case X => k_asm)
  (case T => k_asm)
  (case hk => first | exact rfl | assumption)
  (case hdp => ktr_room)
  (case hun => ktr_units)
  (case N => k_asm)
  (case mp => k_dflt k_mem)
  (case md => k_dflt k_mem)
  (case hpa => omega)
  (case a1 => omega)
  (case a2 => omega)
  (case a3 => omega)
  (case a4 => omega)
  intro le4 re4 r4b r4c r4d h' tks4 hE4 F' H
  have N' := H _ (by k_upd)
  clear H
  try k_sweep
  have e4 : σ.now + (1 + r1 * g) - σ.now = 1 + r1 * g := by omega
  rw [e4] at hE4
  have hc4 := hC _ _ _ hE4
  k_steps
  · refine Halt.mk ?_
    (with_unfolding_all refine' kk _ (midB_intro ?gg ?e1 ?e2 ?ee ?dd (mid_intro (tl := tl) ?F ?N ?hsi ?m0 ?m1 ?m2 ?m3 ?m4 ?m5 ?m6 ?m7 ?m8 ?m9 ?m10 ?m11 ?m12 ?hn ?p1 ?p2 ?p3 ?p4 ?p5 ?p6 ?p7 ?p8 ?p9 ?H)))
    case F => k_asm
    case N => k_asm
    case H => exact ⟨rfl, rfl, rfl, rfl, rfl, rfl, rfl, rfl, rfl, rfl, rfl, rfl, trivial⟩
    case m0 => k_dflt k_mem
    case m1 => k_dflt k_mem
    case m2 => k_dflt k_mem
    case m3 => k_dflt k_mem
    case m4 => k_dflt k_mem
    case m5 => k_dflt k_mem
    case m6 => k_dflt k_mem
    case m7 => k_dflt k_mem
    case m8 => k_dflt k_mem
    case m9 => k_dflt k_mem
    case m10 => k_dflt k_mem
    case m11 => k_dflt k_mem
    case m12 => exact (fun q hq => by (repeat (first | exact hq | refine List.mem_cons_of_mem _ ?_)))
    case p1 => exact ⟨_, _, _, _, rfl⟩
    case p2 => exact ⟨vs2, _, hi2, hn2, rfl⟩
    case p3 => exact ⟨_, _, _, _, _, _, _, _, _, _, _, _, rfl⟩
    case p4 => exact ⟨_, _, _, _, _, _, _, _, _, _, _, _, _, rfl⟩
    case p5 => exact ⟨_, _, _, _, _, _, _, _, rfl⟩
    case p6 => exact ⟨_, _, _, rfl⟩
    case p7 => exact ⟨_, _, hlp, rfl⟩
    case p8 => exact ⟨_, _, hop, rfl⟩
    case p9 => exact htl
    case hsi => exact ⟨by (refine ltN ?_; omega), by (refine neN ?_; omega), by (refine neN ?_; omega)⟩
    case hn => exact ⟨i1, i2, i3, i4, i5, i6, i7, i8, by (refine neN ?_; dsimp only; omega), i10, i11, itl⟩
    case ee => exact hE4
    case gg => omega
    case e1 => rfl
    case e2 => omega
    case dd => exact Or.inl ⟨by assumption, rfl, rfl⟩
  · exfalso
    simp only [g0, g1] at *
    omega
  · refine Halt.mk ?_
    (with_unfolding_all refine' kk _ (midB_intro ?gg ?e1 ?e2 ?ee ?dd (mid_intro (tl := tl) ?F ?N ?hsi ?m0 ?m1 ?m2 ?m3 ?m4 ?m5 ?m6 ?m7 ?m8 ?m9 ?m10 ?m11 ?m12 ?hn ?p1 ?p2 ?p3 ?p4 ?p5 ?p6 ?p7 ?p8 ?p9 ?H)))
    case F => k_asm
    case N => k_asm
    case H => exact ⟨rfl, rfl, rfl, rfl, rfl, rfl, rfl, rfl, rfl, rfl, rfl, rfl, trivial⟩
    case m0 => k_dflt k_mem
    case m1 => k_dflt k_mem
    case m2 => k_dflt k_mem
    case m3 => k_dflt k_mem
    case m4 => k_dflt k_mem
    case m5 => k_dflt k_mem
    case m6 => k_dflt k_mem
    case m7 => k_dflt k_mem
    case m8 => k_dflt k_mem
    case m9 => k_dflt k_mem
    case m10 => k_dflt k_mem
    case m11 => k_dflt k_mem
    case m12 => exact (fun q hq => by (repeat (first | exact hq | refine List.mem_cons_of_mem _ ?_)))
    case p1 => exact ⟨_, _, _, _, rfl⟩
    case p2 => exact ⟨vs2, _, hi2, hn2, rfl⟩
    case p3 => exact ⟨_, _, _, _, _, _, _, _, _, _, _, _, rfl⟩
    case p4 => exact ⟨_, _, _, _, _, _, _, _, _, _, _, _, _, rfl⟩
    case p5 => exact ⟨_, _, _, _, _, _, _, _, rfl⟩
    case p6 => exact ⟨_, _, _, rfl⟩
    case p7 => exact ⟨_, _, hlp, rfl⟩
    case p8 => exact ⟨_, _, hop, rfl⟩
    case p9 => exact htl
    case hsi => exact ⟨b1, b2, b3⟩
    case hn => exact ⟨i1, i2, i3, i4, i5, i6, i7, i8, i9, i10, i11, itl⟩
    case ee => exact hE4
    case gg => omega
    case e1 => rfl
    case e2 => omega
    case dd => exact Or.inr ⟨by assumption, rfl, rfl⟩
end
section
local macro_rules | `(tactic| walk_at "none 0") => `(tactic| fail)
local macro_rules | `(tactic| walk_at "none 1") => `(tactic| fail)
local macro_rules | `(tactic| walk_at "none 2") => `(tactic| fail)
local macro_rules | `(tactic| walk_at "none 3") => `(tactic| fail)
local macro_rules | `(tactic| walk_at "none 4") => `(tactic| fail)
local macro_rules | `(tactic| walk_at "none 5") => `(tactic| fail)
local macro_rules | `(tactic| walk_at "none 6") => `(tactic| fail)
local macro_rules | `(tactic| walk_at "none 7") => `(tactic| fail)
local macro_rules | `(tactic| walk_at "none 8") => `(tactic| fail)
local macro_rules | `(tactic| walk_at "none 9") => `(tactic| fail)
local macro_rules | `(tactic| walk_at "none 10") => `(tactic| fail)
local macro_rules | `(tactic| walk_at "none 11") => `(tactic| fail)
local macro_rules | `(tactic| walk_at "none 12") => `(tactic| fail)
local macro_rules | `(tactic| walk_at "none 13") => `(tactic| fail)
local macro_rules | `(tactic| walk_at "none 14") => `(tactic| fail)
local macro_rules | `(tactic| walk_at "none 15") => `(tactic| fail)
local macro_rules | `(tactic| walk_at "none 16") => `(tactic| fail)
local macro_rules | `(tactic| walk_at "none 17") => `(tactic| fail)
local macro_rules | `(tactic| walk_at "none 18") => `(tactic| fail)
local macro_rules | `(tactic| walk_at "none 19") => `(tactic| fail)
local macro_rules | `(tactic| walk_at "none 20") => `(tactic| fail)
local macro_rules | `(tactic| k_all) => `(tactic| first | (with_reducible assumption) | (refine allLt_ne ?_; first | (with_reducible assumption) | exact And.right (by with_reducible assumption) | exact And.right (And.right (by with_reducible assumption)) | exact And.right (And.right (And.right (by with_reducible assumption))) | exact And.right (And.right (And.right (And.right (by with_reducible assumption)))) | exact And.right (And.right (And.right (And.right (And.right (by with_reducible assumption))))) | exact And.right (And.right (And.right (And.right (And.right (And.right (by with_reducible assumption)))))) | exact And.right (And.right (And.right (And.right (And.right (And.right (And.right (by with_reducible assumption))))))) | exact And.right (And.right (And.right (And.right (And.right (And.right (And.right (And.right (by with_reducible assumption))))))))) | exact List.forall_mem_nil _ | (refine' List.forall_mem_cons.mpr ⟨?a, ?b⟩; (case a => k_ne); (case b => k_all)))
local macro_rules | `(tactic| k_mem) => `(tactic| (refine mem_fold ?_; with_reducible assumption))
local macro_rules | `(tactic| ktr_room) => `(tactic| ((try simp only [depth_under_make, depth_under_kw, depth_in1, depth_deeper, depth_caller]); (try dsimp only [ktrTop]); omega))
local macro_rules | `(tactic| ktr_units) => `(tactic| ((try simp only [units_in1, units_deeper, Around.mark_units, units_caller]); (try dsimp only [ktrTop]); omega))
local macro_rules | `(tactic| k_room) => `(tactic| ktr_room)
local macro_rules | `(tactic| walk_at "call ref") => `(tactic| (k_here; (with_reducible show wpAny _ _ (call (Value.ref 231) _) _ _ _); refine Halt.out ?_))
local macro_rules | `(tactic| walk_at "call ref") => `(tactic| (k_here; (with_reducible show wpAny _ _ (call (Value.ref 196) _) _ _ _); refine Halt.out ?_))
local macro_rules | `(tactic| walk_at "call ref") => `(tactic| (k_here; (with_reducible show wpAny _ _ (call (Value.ref 210) _) _ _ _); refine Halt.out ?_))
local macro_rules | `(tactic| walk_at "call ref") => `(tactic| (k_here; (with_reducible show wpAny _ _ (call (Value.ref 133) _) _ _ _); refine Halt.out ?_))
local macro_rules | `(tactic| walk_at "call builtin:list.pop") => `(tactic| (k_here; k_dflt (refine' my_pop0 ?F ?N ?U ?z ?_; (case F => k_asm); (case N => k_asm); (case U => k_upd); (case z => first | assumption | (simp only [List.length_cons, List.length_append, List.length_nil] at *; omega)); k_whole); intro h' F' N'))

local macro_rules | `(tactic| walk_at "execs cons") => `(tactic| (k_here; (with_reducible show wpAny _ _ (execs (Stmt.Assign [Expr.Name (PySem.Str.ofString "size") _] _ _ :: _) _) _ _ _); refine Halt.out ?_))
local macro_rules | `(tactic| walk_at "compareOp NotEq") => `(tactic| (k_here; (with_reducible show wpAny _ _ (compareOp CmpOp.NotEq (Value.ref _) (Value.ref _)) _ _ _); refine Halt.out ?_))
theorem segC {w : World} {p : Program} {loose : List Str} {mean : ExcName → Option Value} {mg mb : Str → Option Value}
    {dp un : Nat} {gd : Option (List Code)} {fa : Addr} {ccd : Value} {outer : List Env} {A₀ : Around} {base h₀ : Heap} {L : Addr} {s : Shared} {Q : Flow → Shared → Prop} {E : Value → Shared → Prop}
    (B : Below A₀ base outer h₀) (X : (hd.heap_39 w.params).In h₀) (T : Top p loose mean mg mb h₀) (hdp : dp + 12 < recursionLimit) (hun : un + 400 < cLine)
    {a : Ad} (ha : a.Ok) {way Bu : Int} (hy0 : 4000 ≤ way) (hy1 : way ≤ 23000) (hb0 : 2400 ≤ Bu) (hb1 : Bu ≤ 6000)
    {σ : Pl} {si I : Addr} {o : Obj} {tn tw tb tg tz : Tok} {g : Int} {u : Str → Option Value} {nx : List (Addr × Obj)} (hI : ∀ q ∈ nx, q.1 ≠ I) (hsi : Si a si) (hS : SI w a way Bu σ si nx)
    (F : Fr h₀ L s.heap (over ((Str.ofString "now", .int σ.now tn) :: (Str.ofString "since", .ref si) :: (Str.ofString "gained", .int g tg) :: (Str.ofString "sent", .int 0 tz) :: fixN a way Bu tw tb) u)) (N : News h₀ L s.heap ((I, o) :: nx))
    (hk0 : 0 ≤ σ.k) (hk1 : σ.k ≤ 60) (hol : σ.out.length ≤ 100)
    (kk : ∀ s', MidD w a way Bu h₀ L (I, o) tw tb g tg tz σ si s s' → wpAny (model PP w) (ktrTop dp un gd (Str.ofString "law") lawScope L fa ccd [] outer) (execs (turnBody.drop 8) (envOf (Str.ofString "law") lawScope L fa ccd)) Q E s') :
    wpAny (model PP w) (ktrTop dp un gd (Str.ofString "law") lawScope L fa ccd [] outer) (execs (turnBody.drop 6) (envOf (Str.ofString "law") lawScope L fa ccd)) Q E s := by
  w_on
  (with_unfolding_all show wpAny _ _ (execs (_ :: _) (envOf _ (Scope.mk _ _ _ _ _) _ _ _)) _ _ _)
  obtain ⟨a1, a2, a3, a4, a5, a6, a7, a8, a9⟩ := ha
  obtain ⟨b1, b2, b3⟩ := hsi
  obtain ⟨_, _, _, _, _, _, _, _, tl, ⟨c, tk0, tc, nb, rfl⟩, ⟨vs, nl, hvi, hvn, rfl⟩, ⟨kn1, kn2, kn3, kn4, kn5, kn6, dg, cr, tn1, tn2, tn5, tn6, rfl⟩, ⟨kt1, kt2, kt3, kt4, kt5, la, v4, ft, tt1, tt2, tt3, tt4, tt5, rfl⟩, ⟨kp1, kp2, kp3, kp4, tp1, tp2, tp3, tp4, rfl⟩, ⟨ts0, ts1, ns, rfl⟩, ⟨lvs, nlo, hlp, rfl⟩, ⟨ovs, nou, hop, rfl⟩, htl, rfl⟩ := hS
  obtain ⟨i1, i2, i3, i4, i5, i6, i7, i8, i9, i10, i11, itl⟩ : @Ne Nat a.b I ∧ @Ne Nat a.l I ∧ @Ne Nat a.ra I ∧ @Ne Nat a.rd I ∧ @Ne Nat a.ta I ∧ @Ne Nat a.td I ∧ @Ne Nat a.pa I ∧ @Ne Nat a.pd I ∧ @Ne Nat si I ∧ @Ne Nat a.lo I ∧ @Ne Nat a.ou I ∧ (∀ q ∈ tl, q.1 ≠ I) := by
    simpa only [List.forall_mem_cons] using hI
  clear hI
  have o1 : ∀ q ∈ tl, q.1 ≠ a.b := tl_off N (.tail _ (.head _)) (fun q hq => by (repeat (first | exact hq | refine List.mem_cons_of_mem _ ?_))) htl (by intro e; injection e with e; exact absurd e (by decide))
  have o2 : ∀ q ∈ tl, q.1 ≠ a.l := tl_off N (.tail _ (.tail _ (.head _))) (fun q hq => by (repeat (first | exact hq | refine List.mem_cons_of_mem _ ?_))) htl (by intro e; injection e with e; exact absurd e (by decide))
  have o4 : ∀ q ∈ tl, q.1 ≠ a.rd := tl_off N (.tail _ (.tail _ (.tail _ (.tail _ (.head _))))) (fun q hq => by (repeat (first | exact hq | refine List.mem_cons_of_mem _ ?_))) htl (by intro e; injection e with e; exact absurd e (by decide))
  have o6 : ∀ q ∈ tl, q.1 ≠ a.td := tl_off N (.tail _ (.tail _ (.tail _ (.tail _ (.tail _ (.tail _ (.head _))))))) (fun q hq => by (repeat (first | exact hq | refine List.mem_cons_of_mem _ ?_))) htl (by intro e; injection e with e; exact absurd e (by decide))
  have o8 : ∀ q ∈ tl, q.1 ≠ a.pd := tl_off N (.tail _ (.tail _ (.tail _ (.tail _ (.tail _ (.tail _ (.tail _ (.tail _ (.head _))))))))) (fun q hq => by (repeat (first | exact hq | refine List.mem_cons_of_mem _ ?_))) htl (by intro e; injection e with e; exact absurd e (by decide))
  have o9 : ∀ q ∈ tl, q.1 ≠ si := tl_off N (.tail _ (.tail _ (.tail _ (.tail _ (.tail _ (.tail _ (.tail _ (.tail _ (.tail _ (.head _)))))))))) (fun q hq => by (repeat (first | exact hq | refine List.mem_cons_of_mem _ ?_))) htl (by intro e; injection e with e; exact absurd e (by decide))
  have o10 : ∀ q ∈ tl, q.1 ≠ a.lo := tl_off N (.tail _ (.tail _ (.tail _ (.tail _ (.tail _ (.tail _ (.tail _ (.tail _ (.tail _ (.tail _ (.head _))))))))))) (fun q hq => by (repeat (first | exact hq | refine List.mem_cons_of_mem _ ?_))) htl (by intro e; injection e with e; exact absurd e (by decide))
  have o11 : ∀ q ∈ tl, q.1 ≠ a.ou := tl_off N (.tail _ (.tail _ (.tail _ (.tail _ (.tail _ (.tail _ (.tail _ (.tail _ (.tail _ (.tail _ (.tail _ (.head _)))))))))))) (fun q hq => by (repeat (first | exact hq | refine List.mem_cons_of_mem _ ?_))) htl (by intro e; injection e with e; exact absurd e (by decide))
  k_steps
  refine Halt.mk ?_
  k_dflt (refine' take_u ?B ?F ?X ?T ?hk ?hdp ?hun ?N ?mb ?ml ?hbl ?hi ?hn ?k0 ?k1 ?w0 ?_)
  (case B => k_asm)
  (case F => k_asm)
  (case X => k_asm)
  (case T => k_asm)
  (case hk => first | exact rfl | assumption)
  (case hdp => ktr_room)
  (case hun => ktr_units)
  (case N => k_asm)
  (case mb => k_dflt k_mem)
  (case ml => k_dflt k_mem)
  (case hbl => omega)
  (case hi => assumption)
  (case hn => assumption)
  (case k0 => omega)
  (case k1 => omega)
  (case w0 => decide)
  intro r1 t1 vs1 nl1 n1 tk1 h' tks1 hr1a hr1b hi1 hn1 F' H
  have N' := H _ _ (by k_upd) (by k_upd)
  clear H
  try k_sweep
  k_steps
  · refine Halt.mk ?_
    k_dflt (refine' ne_nil_prs (tl := tl) ?N ?hx ?hD ?hs hop ?hu ?_)
    (case N => k_asm)
    (case hx => k_dflt k_mem)
    (case hD => k_dflt k_mem)
    (case hs => exact (fun q hq => by (repeat (first | exact hq | refine List.mem_cons_of_mem _ ?_))))
    (case hu => ktr_units)
    intro r hr
    rcases ho : σ.out with _ | ⟨⟨z, t⟩, out'⟩
    · have hr' : r = false := by
        cases r with
        | false => rfl
        | true => exact absurd ho (hr.mp rfl)
      subst hr'
      k_steps
      refine Halt.mk ?_
      (with_unfolding_all refine' kk _ (midD_intro (win := σ.win) (fl := σ.fl) (k := σ.k + 1) (out := σ.out) ?f0 ?f1 ?e2 ?dd (mid_intro (tl := tl) ?F ?N ?hsi ?m0 ?m1 ?m2 ?m3 ?m4 ?m5 ?m6 ?m7 ?m8 ?m9 ?m10 ?m11 ?m12 ?hn ?p1 ?p2 ?p3 ?p4 ?p5 ?p6 ?p7 ?p8 ?p9 ?H)))
      case F => k_asm
      case N => k_asm
      case H => exact ⟨rfl, rfl, rfl, rfl, rfl, rfl, rfl, rfl, rfl, rfl, rfl, rfl, rfl, trivial⟩
      case m0 => k_dflt k_mem
      case m1 => k_dflt k_mem
      case m2 => k_dflt k_mem
      case m3 => k_dflt k_mem
      case m4 => k_dflt k_mem
      case m5 => k_dflt k_mem
      case m6 => k_dflt k_mem
      case m7 => k_dflt k_mem
      case m8 => k_dflt k_mem
      case m9 => k_dflt k_mem
      case m10 => k_dflt k_mem
      case m11 => k_dflt k_mem
      case m12 => exact (fun q hq => by (repeat (first | exact hq | refine List.mem_cons_of_mem _ ?_)))
      case p1 => exact ⟨_, _, _, _, rfl⟩
      case p2 => exact ⟨vs1, _, hi1, hn1, rfl⟩
      case p3 => exact ⟨_, _, _, _, _, _, _, _, _, _, _, _, rfl⟩
      case p4 => exact ⟨_, _, _, _, _, _, _, _, _, _, _, _, _, rfl⟩
      case p5 => exact ⟨_, _, _, _, _, _, _, _, rfl⟩
      case p6 => exact ⟨_, _, _, rfl⟩
      case p7 => exact ⟨_, _, hlp, rfl⟩
      case p8 => exact ⟨_, _, hop, rfl⟩
      case p9 => exact htl
      case hsi => exact ⟨b1, b2, b3⟩
      case hn => exact ⟨i1, i2, i3, i4, i5, i6, i7, i8, i9, i10, i11, itl⟩
      case f0 => exact hr1a
      case f1 => exact hr1b
      case e2 => rfl
      case dd => exact Or.inl ⟨rfl, rfl, rfl⟩
    · have hr' : r = true := hr.mpr (by rw [ho]; simp)
      subst hr'
      rcases ovs with _ | ⟨v, ovs'⟩
      · exact absurd hop.nil_inv (by rw [ho]; simp)
      · have hop2 := hop
        rw [ho] at hop2
        obtain ⟨a2, x2, y2, tx2, ty2, n2', ps', rfl, hps, hmem2, hop'⟩ := hop2.cons_inv
        cases hps
        have hz9 : ovs'.length < 1000 := by
          have := hop'.1
          rw [ho] at hol
          simp only [List.length_cons] at hol
          omega
        k_steps
        refine Halt.mk ?_
        k_dflt (refine' sample_u ?B ?F ?X ?T ?hk ?hdp ?hun ?N ?mp ?md ?hpa ?hs ?hl ?_)
        (case B => k_asm)
        (case F => k_asm)
        (case X => k_asm)
        (case T => k_asm)
        (case hk => first | exact rfl | assumption)
        (case hdp => ktr_room)
        (case hun => ktr_units)
        (case N => k_asm)
        (case mp => k_dflt k_mem)
        (case md => k_dflt k_mem)
        (case hpa => omega)
        (case hs => rfl)
        (case hl => rfl)
        intro la5 le5 sm5 v45 r5a r5b r5c r5d h' tks5 e5a e5b F' H
        subst e5a e5b
        have N' := H _ (by k_upd)
        clear H
        try k_sweep
        k_steps
        refine Halt.mk ?_
        k_dflt (refine' smoothed_u ?B ?F ?X ?T ?hk ?hdp ?hun ?N ?mp ?md ?hs ?_)
        (case B => k_asm)
        (case F => k_asm)
        (case X => k_asm)
        (case T => k_asm)
        (case hk => first | exact rfl | assumption)
        (case hdp => ktr_room)
        (case hun => ktr_units)
        (case N => k_asm)
        (case mp => k_dflt k_mem)
        (case md => k_dflt k_mem)
        (case hs => rfl)
        intro t6 h' tks6 F' N'
        try k_sweep
        k_steps
        refine Halt.mk ?_
        k_dflt (refine' acked_u ?B ?F ?X ?T ?hk ?hdp ?hun ?N ?mp ?md ?hpa ?_)
        (case B => k_asm)
        (case F => k_asm)
        (case X => k_asm)
        (case T => k_asm)
        (case hk => first | exact rfl | assumption)
        (case hdp => ktr_room)
        (case hun => ktr_units)
        (case N => k_asm)
        (case mp => k_dflt k_mem)
        (case md => k_dflt k_mem)
        (case hpa => omega)
        intro r7b r7e h' tks7 F' H
        have N' := H _ (by k_upd)
        clear H
        try k_sweep
        k_steps
        refine Halt.mk ?_
        (with_unfolding_all refine' kk _ (midD_intro (win := σ.win + z) (fl := σ.fl - z) (k := σ.k + 1) (out := out') ?f0 ?f1 ?e2 ?dd (mid_intro (tl := tl) ?F ?N ?hsi ?m0 ?m1 ?m2 ?m3 ?m4 ?m5 ?m6 ?m7 ?m8 ?m9 ?m10 ?m11 ?m12 ?hn ?p1 ?p2 ?p3 ?p4 ?p5 ?p6 ?p7 ?p8 ?p9 ?H)))
        case F => k_asm
        case N => k_asm
        case H => exact ⟨rfl, rfl, rfl, rfl, rfl, rfl, rfl, rfl, rfl, rfl, rfl, rfl, rfl, trivial⟩
        case m0 => k_dflt k_mem
        case m1 => k_dflt k_mem
        case m2 => k_dflt k_mem
        case m3 => k_dflt k_mem
        case m4 => k_dflt k_mem
        case m5 => k_dflt k_mem
        case m6 => k_dflt k_mem
        case m7 => k_dflt k_mem
        case m8 => k_dflt k_mem
        case m9 => k_dflt k_mem
        case m10 => k_dflt k_mem
        case m11 => k_dflt k_mem
        case m12 => exact (fun q hq => by (repeat (first | exact hq | refine List.mem_cons_of_mem _ ?_)))
        case p1 => exact ⟨_, _, _, _, rfl⟩
        case p2 => exact ⟨vs1, _, hi1, hn1, rfl⟩
        case p3 => exact ⟨_, _, _, _, _, _, _, _, _, _, _, _, rfl⟩
        case p4 => exact ⟨_, _, _, _, _, _, _, _, _, _, _, _, _, rfl⟩
        case p5 => exact ⟨_, _, _, _, _, _, _, _, rfl⟩
        case p6 => exact ⟨_, _, _, rfl⟩
        case p7 => exact ⟨_, _, hlp, rfl⟩
        case p8 => exact ⟨_, _, hop', rfl⟩
        case p9 => exact htl
        case hsi => exact ⟨b1, b2, b3⟩
        case hn => exact ⟨i1, i2, i3, i4, i5, i6, i7, i8, i9, i10, i11, itl⟩
        case f0 => exact hr1a
        case f1 => exact hr1b
        case e2 => rfl
        case dd => exact Or.inr ⟨z, t, ho, rfl, rfl⟩
  · refine Halt.mk ?_
    (with_unfolding_all refine' kk _ (midD_intro (win := σ.win) (fl := σ.fl) (k := σ.k + 1) (out := σ.out) ?f0 ?f1 ?e2 ?dd (mid_intro (tl := tl) ?F ?N ?hsi ?m0 ?m1 ?m2 ?m3 ?m4 ?m5 ?m6 ?m7 ?m8 ?m9 ?m10 ?m11 ?m12 ?hn ?p1 ?p2 ?p3 ?p4 ?p5 ?p6 ?p7 ?p8 ?p9 ?H)))
    case F => k_asm
    case N => k_asm
    case H => exact ⟨rfl, rfl, rfl, rfl, rfl, rfl, rfl, rfl, rfl, rfl, rfl, rfl, rfl, trivial⟩
    case m0 => k_dflt k_mem
    case m1 => k_dflt k_mem
    case m2 => k_dflt k_mem
    case m3 => k_dflt k_mem
    case m4 => k_dflt k_mem
    case m5 => k_dflt k_mem
    case m6 => k_dflt k_mem
    case m7 => k_dflt k_mem
    case m8 => k_dflt k_mem
    case m9 => k_dflt k_mem
    case m10 => k_dflt k_mem
    case m11 => k_dflt k_mem
    case m12 => exact (fun q hq => by (repeat (first | exact hq | refine List.mem_cons_of_mem _ ?_)))
    case p1 => exact ⟨_, _, _, _, rfl⟩
    case p2 => exact ⟨vs1, _, hi1, hn1, rfl⟩
    case p3 => exact ⟨_, _, _, _, _, _, _, _, _, _, _, _, rfl⟩
    case p4 => exact ⟨_, _, _, _, _, _, _, _, _, _, _, _, _, rfl⟩
    case p5 => exact ⟨_, _, _, _, _, _, _, _, rfl⟩
    case p6 => exact ⟨_, _, _, rfl⟩
    case p7 => exact ⟨_, _, hlp, rfl⟩
    case p8 => exact ⟨_, _, hop, rfl⟩
    case p9 => exact htl
    case hsi => exact ⟨b1, b2, b3⟩
    case hn => exact ⟨i1, i2, i3, i4, i5, i6, i7, i8, i9, i10, i11, itl⟩
    case f0 => exact hr1a
    case f1 => exact hr1b
    case e2 => rfl
    case dd => exact Or.inl ⟨rfl, rfl, rfl⟩
end
section
local macro_rules | `(tactic| walk_at "none 0") => `(tactic| fail)
local macro_rules | `(tactic| walk_at "none 1") => `(tactic| fail)
local macro_rules | `(tactic| walk_at "none 2") => `(tactic| fail)
local macro_rules | `(tactic| walk_at "none 3") => `(tactic| fail)
local macro_rules | `(tactic| walk_at "none 4") => `(tactic| fail)
local macro_rules | `(tactic| walk_at "none 5") => `(tactic| fail)
local macro_rules | `(tactic| walk_at "none 6") => `(tactic| fail)
local macro_rules | `(tactic| walk_at "none 7") => `(tactic| fail)
local macro_rules | `(tactic| walk_at "none 8") => `(tactic| fail)
local macro_rules | `(tactic| walk_at "none 9") => `(tactic| fail)
local macro_rules | `(tactic| walk_at "none 10") => `(tactic| fail)
local macro_rules | `(tactic| walk_at "none 11") => `(tactic| fail)
local macro_rules | `(tactic| walk_at "none 12") => `(tactic| fail)
local macro_rules | `(tactic| walk_at "none 13") => `(tactic| fail)
local macro_rules | `(tactic| walk_at "none 14") => `(tactic| fail)
local macro_rules | `(tactic| walk_at "none 15") => `(tactic| fail)
local macro_rules | `(tactic| walk_at "none 16") => `(tactic| fail)
local macro_rules | `(tactic| walk_at "none 17") => `(tactic| fail)
local macro_rules | `(tactic| walk_at "none 18") => `(tactic| fail)
local macro_rules | `(tactic| walk_at "none 19") => `(tactic| fail)
local macro_rules | `(tactic| walk_at "none 20") => `(tactic| fail)
local macro_rules | `(tactic| walk_at "none 21") => `(tactic| fail)
local macro_rules | `(tactic| walk_at "none 22") => `(tactic| fail)
local macro_rules | `(tactic| walk_at "none 23") => `(tactic| fail)
local macro_rules | `(tactic| walk_at "none 24") => `(tactic| fail)
local macro_rules | `(tactic| walk_at "none 25") => `(tactic| fail)
local macro_rules | `(tactic| walk_at "none 26") => `(tactic| fail)
local macro_rules | `(tactic| walk_at "none 27") => `(tactic| fail)
local macro_rules | `(tactic| walk_at "none 28") => `(tactic| fail)
local macro_rules | `(tactic| k_all) => `(tactic| first | (with_reducible assumption) | (refine allLt_ne ?_; first | (with_reducible assumption) | exact And.right (by with_reducible assumption) | exact And.right (And.right (by with_reducible assumption)) | exact And.right (And.right (And.right (by with_reducible assumption))) | exact And.right (And.right (And.right (And.right (by with_reducible assumption)))) | exact And.right (And.right (And.right (And.right (And.right (by with_reducible assumption))))) | exact And.right (And.right (And.right (And.right (And.right (And.right (by with_reducible assumption)))))) | exact And.right (And.right (And.right (And.right (And.right (And.right (And.right (by with_reducible assumption))))))) | exact And.right (And.right (And.right (And.right (And.right (And.right (And.right (And.right (by with_reducible assumption))))))))) | exact List.forall_mem_nil _ | (refine' List.forall_mem_cons.mpr ⟨?a, ?b⟩; (case a => k_ne); (case b => k_all)))
local macro_rules | `(tactic| k_mem) => `(tactic| (refine mem_fold ?_; with_reducible assumption))
local macro_rules | `(tactic| ktr_room) => `(tactic| ((try simp only [depth_under_make, depth_under_kw, depth_in1, depth_deeper, depth_caller]); (try dsimp only [ktrTop]); omega))
local macro_rules | `(tactic| ktr_units) => `(tactic| ((try simp only [units_in1, units_deeper, Around.mark_units, units_caller]); (try dsimp only [ktrTop]); omega))
local macro_rules | `(tactic| k_room) => `(tactic| ktr_room)
local macro_rules | `(tactic| walk_at "call ref") => `(tactic| (k_here; (with_reducible show wpAny _ _ (call (Value.ref 238) _) _ _ _); refine Halt.out ?_))
local macro_rules | `(tactic| walk_at "call builtin:list.append") => `(tactic| (k_here; k_dflt (refine' append_K ?k1 ?k2 ?k3 ?_ ?z; (case k1 => k_asm); (case k2 => k_asm); (case k3 => k_upd); (case z => (simp only [List.size_toArray, PySem.sizeLine_eq]; omega)); k_whole); intro h' F' N'; (try k_sweep)))

theorem segT {w : World} {p : Program} {loose : List Str} {mean : ExcName → Option Value} {mg mb : Str → Option Value}
    {dp un : Nat} {gd : Option (List Code)} {fa : Addr} {ccd : Value} {outer : List Env} {A₀ : Around} {base h₀ : Heap} {L : Addr} {s : Shared} {Q : Flow → Shared → Prop} {E : Value → Shared → Prop}
    (B : Below A₀ base outer h₀) (X : (hd.heap_39 w.params).In h₀) (T : Top p loose mean mg mb h₀) (hdp : dp + 12 < recursionLimit) (hun : un + 400 < cLine)
    {a : Ad} (ha : a.Ok) {way Bu : Int} (hy0 : 4000 ≤ way) (hy1 : way ≤ 23000) (hb0 : 2400 ≤ Bu) (hb1 : Bu ≤ 6000)
    {σ : Pl} {si I I2 : Addr} {o o2 : Obj} {tw tb tg tz tf : Tok} {g form size : Int} {v : Value} {i : Nat} {m₁ : Str → Option Value} {nx : List (Addr × Obj)} (hne : ∀ q ∈ nx, q.1 ≠ I2) (hsi : Si a si) (hJ : JL w a way Bu (I, o) tw tb tg tf tz g form size σ si i m₁ nx)
    (F : Fr h₀ L s.heap (fun y => if y = Str.ofString "packet" then some v else m₁ y)) (N : News h₀ L s.heap ((I2, o2) :: nx))
    (hz0 : 300 ≤ size) (hz1 : size ≤ 1200) (hw0 : 12000 ≤ σ.win) (hw1 : σ.win ≤ 50000) (hr0 : 0 ≤ σ.re) (hr1 : σ.re < 4 * way) (hol : σ.out.length + i ≤ 200) :
    wpAny (model PP w) (ktrTop dp un gd (Str.ofString "law") lawScope L fa ccd [] outer) (execs packetBody (envOf (Str.ofString "law") lawScope L fa ccd)) (TurnPost h₀ L (I2, o2) (JL w a way Bu (I, o) tw tb tg tf tz g form size σ si (i + 1)) s Q) E s := by
  w_on
  (with_unfolding_all show wpAny _ _ (execs (_ :: _) (envOf _ (Scope.mk _ _ _ _ _) _ _ _)) _ _ _)
  obtain ⟨le, fl, s1, S, out, tn, ts, nx0, c1, c2, c3, c4, c5, c6, rfl, hI, H, hS⟩ := hJ
  rw [← has_over H] at F
  obtain ⟨a1, a2, a3, a4, a5, a6, a7, a8, a9⟩ := ha
  obtain ⟨b1, b2, b3⟩ := hsi
  obtain ⟨_, _, _, _, _, _, _, _, tl, ⟨c, tk0, tc, nb, rfl⟩, ⟨vs, nl, hvi, hvn, rfl⟩, ⟨kn1, kn2, kn3, kn4, kn5, kn6, dg, cr, tn1, tn2, tn5, tn6, rfl⟩, ⟨kt1, kt2, kt3, kt4, kt5, la, v4, ft, tt1, tt2, tt3, tt4, tt5, rfl⟩, ⟨kp1, kp2, kp3, kp4, tp1, tp2, tp3, tp4, rfl⟩, ⟨ts0, ts1, ns, rfl⟩, ⟨lvs, nlo, hlp, rfl⟩, ⟨ovs, nou, hop, rfl⟩, htl, rfl⟩ := hS
  obtain ⟨i1, i2, i3, i4, i5, i6, i7, i8, i9, i10, i11, itl⟩ : @Ne Nat a.b I ∧ @Ne Nat a.l I ∧ @Ne Nat a.ra I ∧ @Ne Nat a.rd I ∧ @Ne Nat a.ta I ∧ @Ne Nat a.td I ∧ @Ne Nat a.pa I ∧ @Ne Nat a.pd I ∧ @Ne Nat si I ∧ @Ne Nat a.lo I ∧ @Ne Nat a.ou I ∧ (∀ q ∈ tl, q.1 ≠ I) := by
    simpa only [List.forall_mem_cons] using hI
  clear hI
  obtain ⟨j0, j1, j2, j3, j4, j5, j6, j7, j8, j9, j10, j11, jtl⟩ : @Ne Nat I I2 ∧ @Ne Nat a.b I2 ∧ @Ne Nat a.l I2 ∧ @Ne Nat a.ra I2 ∧ @Ne Nat a.rd I2 ∧ @Ne Nat a.ta I2 ∧ @Ne Nat a.td I2 ∧ @Ne Nat a.pa I2 ∧ @Ne Nat a.pd I2 ∧ @Ne Nat si I2 ∧ @Ne Nat a.lo I2 ∧ @Ne Nat a.ou I2 ∧ (∀ q ∈ tl, q.1 ≠ I2) := by
    simpa only [List.forall_mem_cons] using hne
  clear hne
  have o1 : ∀ q ∈ tl, q.1 ≠ a.b := tl_off N (.tail _ (.tail _ (.head _))) (fun q hq => by (repeat (first | exact hq | refine List.mem_cons_of_mem _ ?_))) htl (by intro e; injection e with e; exact absurd e (by decide))
  have o2 : ∀ q ∈ tl, q.1 ≠ a.l := tl_off N (.tail _ (.tail _ (.tail _ (.head _)))) (fun q hq => by (repeat (first | exact hq | refine List.mem_cons_of_mem _ ?_))) htl (by intro e; injection e with e; exact absurd e (by decide))
  have o4 : ∀ q ∈ tl, q.1 ≠ a.rd := tl_off N (.tail _ (.tail _ (.tail _ (.tail _ (.tail _ (.head _)))))) (fun q hq => by (repeat (first | exact hq | refine List.mem_cons_of_mem _ ?_))) htl (by intro e; injection e with e; exact absurd e (by decide))
  have o6 : ∀ q ∈ tl, q.1 ≠ a.td := tl_off N (.tail _ (.tail _ (.tail _ (.tail _ (.tail _ (.tail _ (.tail _ (.head _)))))))) (fun q hq => by (repeat (first | exact hq | refine List.mem_cons_of_mem _ ?_))) htl (by intro e; injection e with e; exact absurd e (by decide))
  have o8 : ∀ q ∈ tl, q.1 ≠ a.pd := tl_off N (.tail _ (.tail _ (.tail _ (.tail _ (.tail _ (.tail _ (.tail _ (.tail _ (.tail _ (.head _)))))))))) (fun q hq => by (repeat (first | exact hq | refine List.mem_cons_of_mem _ ?_))) htl (by intro e; injection e with e; exact absurd e (by decide))
  have o9 : ∀ q ∈ tl, q.1 ≠ si := tl_off N (.tail _ (.tail _ (.tail _ (.tail _ (.tail _ (.tail _ (.tail _ (.tail _ (.tail _ (.tail _ (.head _))))))))))) (fun q hq => by (repeat (first | exact hq | refine List.mem_cons_of_mem _ ?_))) htl (by intro e; injection e with e; exact absurd e (by decide))
  have o10 : ∀ q ∈ tl, q.1 ≠ a.lo := tl_off N (.tail _ (.tail _ (.tail _ (.tail _ (.tail _ (.tail _ (.tail _ (.tail _ (.tail _ (.tail _ (.tail _ (.head _)))))))))))) (fun q hq => by (repeat (first | exact hq | refine List.mem_cons_of_mem _ ?_))) htl (by intro e; injection e with e; exact absurd e (by decide))
  have o11 : ∀ q ∈ tl, q.1 ≠ a.ou := tl_off N (.tail _ (.tail _ (.tail _ (.tail _ (.tail _ (.tail _ (.tail _ (.tail _ (.tail _ (.tail _ (.tail _ (.tail _ (.head _))))))))))))) (fun q hq => by (repeat (first | exact hq | refine List.mem_cons_of_mem _ ?_))) htl (by intro e; injection e with e; exact absurd e (by decide))
  k_steps
  refine Halt.mk ?_
  k_dflt (refine' least_u ?B ?F ?X ?T ?hk ?hdp ?hun ?N ?mp ?md ?a1 ?a2 ?a3 ?a4 ?a5 ?a6 ?a7 ?_)
  (case B => k_asm)
  (case F => k_asm)
  (case X => k_asm)
  (case T => k_asm)
  (case hk => first | exact rfl | assumption)
  (case hdp => ktr_room)
  (case hun => ktr_units)
  (case N => k_asm)
  (case mp => k_dflt k_mem)
  (case md => k_dflt k_mem)
  (case a1 => omega)
  (case a2 => omega)
  (case a3 => omega)
  (case a4 => omega)
  (case a5 => omega)
  (case a6 => omega)
  (case a7 => omega)
  intro h' tks1 F' N'
  try k_sweep
  have hov : ovs.length ≤ 300 := by
    have h1 := hop.1
    dsimp only at h1
    omega
  k_steps
  · (with_unfolding_all refine' turnL (le - size) (fl + size) (s1 + size) (S + size) (out ++ [(size, σ.now)]) ?Fx ?Nx ?c1x ?c2x ?c3x ?c4x ?c5x ?c6x ?m00x ?m0x ?m1x ?m2x ?m3x ?m4x ?m5x ?m6x ?m7x ?m8x ?m9x ?m10x ?m11x ?m12x ?hnx ?hn2x ?p1x ?p2x ?p3x ?p4x ?p5x ?p6x ?p7x ?p8x ?p9x ?Hx)
    case Fx => k_asm
    case Nx => k_asm
    case Hx => exact ⟨rfl, rfl, rfl, rfl, rfl, rfl, rfl, rfl, rfl, rfl, rfl, rfl, rfl, rfl, trivial⟩
    case m00x => k_dflt k_mem
    case m0x => k_dflt k_mem
    case m1x => k_dflt k_mem
    case m2x => k_dflt k_mem
    case m3x => k_dflt k_mem
    case m4x => k_dflt k_mem
    case m5x => k_dflt k_mem
    case m6x => k_dflt k_mem
    case m7x => k_dflt k_mem
    case m8x => k_dflt k_mem
    case m9x => k_dflt k_mem
    case m10x => k_dflt k_mem
    case m11x => k_dflt k_mem
    case p1x => exact ⟨_, _, _, _, rfl⟩
    case p2x => exact ⟨vs, _, hvi, hvn, rfl⟩
    case p3x => exact ⟨_, _, _, _, _, _, _, _, _, _, _, _, rfl⟩
    case p4x => exact ⟨_, _, _, _, _, _, _, _, _, _, _, _, _, rfl⟩
    case p5x => exact ⟨_, _, _, _, _, _, _, _, rfl⟩
    case p6x => exact ⟨_, _, _, rfl⟩
    case' p8x => refine' prsO_snoc hop ?hex ?hmx
    case hex => rfl
    case hmx => exact List.Mem.head _
    case m12x =>
      simp only [List.forall_mem_cons]
      exact ⟨by k_dflt k_mem, (fun q hq => by (repeat (first | exact hq | refine List.mem_cons_of_mem _ ?_)))⟩
    case p7x => exact ⟨_, _, hlp.mono (fun _ h => .tail _ h), rfl⟩
    case p9x => exact tups_cons rfl htl
    case hnx => exact ⟨i1, i2, i3, i4, i5, i6, i7, i8, i9, i10, i11, by (simp only [List.forall_mem_cons]; exact ⟨by (refine neN ?_; omega), itl⟩)⟩
    case hn2x => exact ⟨j0, j1, j2, j3, j4, j5, j6, j7, j8, j9, j10, j11, by (simp only [List.forall_mem_cons]; exact ⟨by (refine neN ?_; omega), jtl⟩)⟩
    case c1x => omega
    case c2x => omega
    case c3x => omega
    case c4x => omega
    case c5x => (simp only [List.length_append, List.length_cons, List.length_nil]; omega)
    case c6x =>
      intro z hz
      rcases List.mem_append.mp hz with hz | hz
      · exact c6 z hz
      · rw [List.mem_singleton.mp hz]
        exact Or.inr ⟨by (dsimp only; omega), hz1⟩
  · (with_unfolding_all refine' turnL le fl s1 S out ?Fy ?Ny ?c1y ?c2y ?c3y ?c4y ?c5y ?c6y ?m00y ?m0y ?m1y ?m2y ?m3y ?m4y ?m5y ?m6y ?m7y ?m8y ?m9y ?m10y ?m11y ?m12y ?hny ?hn2y ?p1y ?p2y ?p3y ?p4y ?p5y ?p6y ?p7y ?p8y ?p9y ?Hy)
    case Fy => k_asm
    case Ny => k_asm
    case Hy => exact ⟨rfl, rfl, rfl, rfl, rfl, rfl, rfl, rfl, rfl, rfl, rfl, rfl, rfl, rfl, trivial⟩
    case m00y => k_dflt k_mem
    case m0y => k_dflt k_mem
    case m1y => k_dflt k_mem
    case m2y => k_dflt k_mem
    case m3y => k_dflt k_mem
    case m4y => k_dflt k_mem
    case m5y => k_dflt k_mem
    case m6y => k_dflt k_mem
    case m7y => k_dflt k_mem
    case m8y => k_dflt k_mem
    case m9y => k_dflt k_mem
    case m10y => k_dflt k_mem
    case m11y => k_dflt k_mem
    case p1y => exact ⟨_, _, _, _, rfl⟩
    case p2y => exact ⟨vs, _, hvi, hvn, rfl⟩
    case p3y => exact ⟨_, _, _, _, _, _, _, _, _, _, _, _, rfl⟩
    case p4y => exact ⟨_, _, _, _, _, _, _, _, _, _, _, _, _, rfl⟩
    case p5y => exact ⟨_, _, _, _, _, _, _, _, rfl⟩
    case p6y => exact ⟨_, _, _, rfl⟩
    case p7y => exact ⟨_, _, hlp, rfl⟩
    case p8y => exact ⟨_, _, hop, rfl⟩
    case p9y => exact htl
    case m12y => exact (fun q hq => by (repeat (first | exact hq | refine List.mem_cons_of_mem _ ?_)))
    case hny => exact ⟨i1, i2, i3, i4, i5, i6, i7, i8, i9, i10, i11, itl⟩
    case hn2y => exact ⟨j0, j1, j2, j3, j4, j5, j6, j7, j8, j9, j10, j11, jtl⟩
    case c1y => exact c1
    case c2y => exact c2
    case c3y => exact c3
    case c4y => exact c4
    case c5y => omega
    case c6y => exact c6
  · (with_unfolding_all refine' turnL le fl s1 S out ?Fz ?Nz ?c1z ?c2z ?c3z ?c4z ?c5z ?c6z ?m00z ?m0z ?m1z ?m2z ?m3z ?m4z ?m5z ?m6z ?m7z ?m8z ?m9z ?m10z ?m11z ?m12z ?hnz ?hn2z ?p1z ?p2z ?p3z ?p4z ?p5z ?p6z ?p7z ?p8z ?p9z ?Hz)
    case Fz => k_asm
    case Nz => k_asm
    case Hz => exact ⟨rfl, rfl, rfl, rfl, rfl, rfl, rfl, rfl, rfl, rfl, rfl, rfl, rfl, rfl, trivial⟩
    case m00z => k_dflt k_mem
    case m0z => k_dflt k_mem
    case m1z => k_dflt k_mem
    case m2z => k_dflt k_mem
    case m3z => k_dflt k_mem
    case m4z => k_dflt k_mem
    case m5z => k_dflt k_mem
    case m6z => k_dflt k_mem
    case m7z => k_dflt k_mem
    case m8z => k_dflt k_mem
    case m9z => k_dflt k_mem
    case m10z => k_dflt k_mem
    case m11z => k_dflt k_mem
    case p1z => exact ⟨_, _, _, _, rfl⟩
    case p2z => exact ⟨vs, _, hvi, hvn, rfl⟩
    case p3z => exact ⟨_, _, _, _, _, _, _, _, _, _, _, _, rfl⟩
    case p4z => exact ⟨_, _, _, _, _, _, _, _, _, _, _, _, _, rfl⟩
    case p5z => exact ⟨_, _, _, _, _, _, _, _, rfl⟩
    case p6z => exact ⟨_, _, _, rfl⟩
    case p7z => exact ⟨_, _, hlp, rfl⟩
    case p8z => exact ⟨_, _, hop, rfl⟩
    case p9z => exact htl
    case m12z => exact (fun q hq => by (repeat (first | exact hq | refine List.mem_cons_of_mem _ ?_)))
    case hnz => exact ⟨i1, i2, i3, i4, i5, i6, i7, i8, i9, i10, i11, itl⟩
    case hn2z => exact ⟨j0, j1, j2, j3, j4, j5, j6, j7, j8, j9, j10, j11, jtl⟩
    case c1z => exact c1
    case c2z => exact c2
    case c3z => exact c3
    case c4z => exact c4
    case c5z => omega
    case c6z => exact c6
end
section
local macro_rules | `(tactic| walk_at "none 0") => `(tactic| fail)
local macro_rules | `(tactic| walk_at "none 1") => `(tactic| fail)
local macro_rules | `(tactic| walk_at "none 2") => `(tactic| fail)
local macro_rules | `(tactic| walk_at "none 3") => `(tactic| fail)
local macro_rules | `(tactic| walk_at "none 4") => `(tactic| fail)
local macro_rules | `(tactic| walk_at "none 5") => `(tactic| fail)
local macro_rules | `(tactic| walk_at "none 6") => `(tactic| fail)
local macro_rules | `(tactic| walk_at "none 7") => `(tactic| fail)
local macro_rules | `(tactic| walk_at "none 8") => `(tactic| fail)
local macro_rules | `(tactic| walk_at "none 9") => `(tactic| fail)
local macro_rules | `(tactic| walk_at "none 10") => `(tactic| fail)
local macro_rules | `(tactic| walk_at "none 11") => `(tactic| fail)
local macro_rules | `(tactic| walk_at "none 12") => `(tactic| fail)
local macro_rules | `(tactic| walk_at "none 13") => `(tactic| fail)
local macro_rules | `(tactic| walk_at "none 14") => `(tactic| fail)
local macro_rules | `(tactic| walk_at "none 15") => `(tactic| fail)
local macro_rules | `(tactic| walk_at "none 16") => `(tactic| fail)
local macro_rules | `(tactic| walk_at "none 17") => `(tactic| fail)
local macro_rules | `(tactic| walk_at "none 18") => `(tactic| fail)
local macro_rules | `(tactic| walk_at "none 19") => `(tactic| fail)
local macro_rules | `(tactic| walk_at "none 20") => `(tactic| fail)
local macro_rules | `(tactic| walk_at "none 21") => `(tactic| fail)
local macro_rules | `(tactic| walk_at "none 22") => `(tactic| fail)
local macro_rules | `(tactic| walk_at "none 23") => `(tactic| fail)
local macro_rules | `(tactic| walk_at "none 24") => `(tactic| fail)
local macro_rules | `(tactic| walk_at "none 25") => `(tactic| fail)
local macro_rules | `(tactic| walk_at "none 26") => `(tactic| fail)
local macro_rules | `(tactic| walk_at "none 27") => `(tactic| fail)
local macro_rules | `(tactic| walk_at "none 28") => `(tactic| fail)
local macro_rules | `(tactic| walk_at "none 29") => `(tactic| fail)
local macro_rules | `(tactic| walk_at "none 30") => `(tactic| fail)
local macro_rules | `(tactic| walk_at "none 31") => `(tactic| fail)
local macro_rules | `(tactic| k_all) => `(tactic| first | (with_reducible assumption) | (refine allLt_ne ?_; first | (with_reducible assumption) | exact And.right (by with_reducible assumption) | exact And.right (And.right (by with_reducible assumption)) | exact And.right (And.right (And.right (by with_reducible assumption))) | exact And.right (And.right (And.right (And.right (by with_reducible assumption)))) | exact And.right (And.right (And.right (And.right (And.right (by with_reducible assumption))))) | exact And.right (And.right (And.right (And.right (And.right (And.right (by with_reducible assumption)))))) | exact And.right (And.right (And.right (And.right (And.right (And.right (And.right (by with_reducible assumption))))))) | exact And.right (And.right (And.right (And.right (And.right (And.right (And.right (And.right (by with_reducible assumption))))))))) | exact List.forall_mem_nil _ | (refine' List.forall_mem_cons.mpr ⟨?a, ?b⟩; (case a => k_ne); (case b => k_all)))
local macro_rules | `(tactic| k_mem) => `(tactic| (refine mem_fold ?_; with_reducible assumption))
local macro_rules | `(tactic| ktr_room) => `(tactic| ((try simp only [depth_under_make, depth_under_kw, depth_in1, depth_deeper, depth_caller]); (try dsimp only [ktrTop]); omega))
local macro_rules | `(tactic| ktr_units) => `(tactic| ((try simp only [units_in1, units_deeper, Around.mark_units, units_caller]); (try dsimp only [ktrTop]); omega))
local macro_rules | `(tactic| k_room) => `(tactic| ktr_room)
local macro_rules | `(tactic| walk_at "call builtin:list.append") => `(tactic| (k_here; k_dflt (refine' append_K ?k1 ?k2 ?k3 ?_ ?z; (case k1 => k_asm); (case k2 => k_asm); (case k3 => k_upd); (case z => (simp only [List.size_toArray, PySem.sizeLine_eq]; omega)); k_whole); intro h' F' N'; (try k_sweep)))

theorem segF {w : World} {p : Program} {loose : List Str} {mean : ExcName → Option Value} {mg mb : Str → Option Value}
    {dp un : Nat} {gd : Option (List Code)} {fa : Addr} {ccd : Value} {outer : List Env} {A₀ : Around} {base h₀ : Heap} {L : Addr} {s : Shared} {Q : Flow → Shared → Prop} {E : Value → Shared → Prop}
    (B : Below A₀ base outer h₀) (X : (hd.heap_39 w.params).In h₀) (T : Top p loose mean mg mb h₀) (hdp : dp + 12 < recursionLimit) (hun : un + 400 < cLine)
    {a : Ad} (ha : a.Ok) {way Bu : Int} (hy0 : 4000 ≤ way) (hy1 : way ≤ 23000) (hb0 : 2400 ≤ Bu) (hb1 : Bu ≤ 6000)
    {σ : Pl} {si I : Addr} {o : Obj} {tw tb tg tz tf : Tok} {g form size : Int} {i : Nat} {m₁ : Str → Option Value} {nx : List (Addr × Obj)} (hsi : Si a si) (hJ : JL w a way Bu (I, o) tw tb tg tf tz g form size σ si i m₁ nx)
    (F : Fr h₀ L s.heap m₁) (N : News h₀ L s.heap nx) (hi : i ≤ 3) (hll : σ.looks.length ≤ 200) {s₀ : Shared} (hs₀ : ∃ hp tk, s = { s₀ with heap := hp, toks := tk })
    (kk : ∀ s', MidF w a way Bu h₀ L (I, o) tw tb g σ si s₀ s' → Q .next s') :
    wpAny (model PP w) (ktrTop dp un gd (Str.ofString "law") lawScope L fa ccd [] outer) (execs (turnBody.drop 10) (envOf (Str.ofString "law") lawScope L fa ccd)) Q E s := by
  w_on
  (with_unfolding_all show wpAny _ _ (execs (_ :: _) (envOf _ (Scope.mk _ _ _ _ _) _ _ _)) _ _ _)
  obtain ⟨hp, tkp, rfl⟩ := hs₀
  obtain ⟨le, fl, s1, S, out, tn, ts, nx0, c1, c2, c3, c4, c5, c6, rfl, hI, H, hS⟩ := hJ
  rw [← has_over H] at F
  obtain ⟨a1, a2, a3, a4, a5, a6, a7, a8, a9⟩ := ha
  obtain ⟨b1, b2, b3⟩ := hsi
  obtain ⟨_, _, _, _, _, _, _, _, tl, ⟨c, tk0, tc, nb, rfl⟩, ⟨vs, nl, hvi, hvn, rfl⟩, ⟨kn1, kn2, kn3, kn4, kn5, kn6, dg, cr, tn1, tn2, tn5, tn6, rfl⟩, ⟨kt1, kt2, kt3, kt4, kt5, la, v4, ft, tt1, tt2, tt3, tt4, tt5, rfl⟩, ⟨kp1, kp2, kp3, kp4, tp1, tp2, tp3, tp4, rfl⟩, ⟨ts0, ts1, ns, rfl⟩, ⟨lvs, nlo, hlp, rfl⟩, ⟨ovs, nou, hop, rfl⟩, htl, rfl⟩ := hS
  obtain ⟨i1, i2, i3, i4, i5, i6, i7, i8, i9, i10, i11, itl⟩ : @Ne Nat a.b I ∧ @Ne Nat a.l I ∧ @Ne Nat a.ra I ∧ @Ne Nat a.rd I ∧ @Ne Nat a.ta I ∧ @Ne Nat a.td I ∧ @Ne Nat a.pa I ∧ @Ne Nat a.pd I ∧ @Ne Nat si I ∧ @Ne Nat a.lo I ∧ @Ne Nat a.ou I ∧ (∀ q ∈ tl, q.1 ≠ I) := by
    simpa only [List.forall_mem_cons] using hI
  clear hI
  have o1 : ∀ q ∈ tl, q.1 ≠ a.b := tl_off N (.tail _ (.head _)) (fun q hq => by (repeat (first | exact hq | refine List.mem_cons_of_mem _ ?_))) htl (by intro e; injection e with e; exact absurd e (by decide))
  have o2 : ∀ q ∈ tl, q.1 ≠ a.l := tl_off N (.tail _ (.tail _ (.head _))) (fun q hq => by (repeat (first | exact hq | refine List.mem_cons_of_mem _ ?_))) htl (by intro e; injection e with e; exact absurd e (by decide))
  have o4 : ∀ q ∈ tl, q.1 ≠ a.rd := tl_off N (.tail _ (.tail _ (.tail _ (.tail _ (.head _))))) (fun q hq => by (repeat (first | exact hq | refine List.mem_cons_of_mem _ ?_))) htl (by intro e; injection e with e; exact absurd e (by decide))
  have o6 : ∀ q ∈ tl, q.1 ≠ a.td := tl_off N (.tail _ (.tail _ (.tail _ (.tail _ (.tail _ (.tail _ (.head _))))))) (fun q hq => by (repeat (first | exact hq | refine List.mem_cons_of_mem _ ?_))) htl (by intro e; injection e with e; exact absurd e (by decide))
  have o8 : ∀ q ∈ tl, q.1 ≠ a.pd := tl_off N (.tail _ (.tail _ (.tail _ (.tail _ (.tail _ (.tail _ (.tail _ (.tail _ (.head _))))))))) (fun q hq => by (repeat (first | exact hq | refine List.mem_cons_of_mem _ ?_))) htl (by intro e; injection e with e; exact absurd e (by decide))
  have o9 : ∀ q ∈ tl, q.1 ≠ si := tl_off N (.tail _ (.tail _ (.tail _ (.tail _ (.tail _ (.tail _ (.tail _ (.tail _ (.tail _ (.head _)))))))))) (fun q hq => by (repeat (first | exact hq | refine List.mem_cons_of_mem _ ?_))) htl (by intro e; injection e with e; exact absurd e (by decide))
  have o10 : ∀ q ∈ tl, q.1 ≠ a.lo := tl_off N (.tail _ (.tail _ (.tail _ (.tail _ (.tail _ (.tail _ (.tail _ (.tail _ (.tail _ (.tail _ (.head _))))))))))) (fun q hq => by (repeat (first | exact hq | refine List.mem_cons_of_mem _ ?_))) htl (by intro e; injection e with e; exact absurd e (by decide))
  have o11 : ∀ q ∈ tl, q.1 ≠ a.ou := tl_off N (.tail _ (.tail _ (.tail _ (.tail _ (.tail _ (.tail _ (.tail _ (.tail _ (.tail _ (.tail _ (.tail _ (.head _)))))))))))) (fun q hq => by (repeat (first | exact hq | refine List.mem_cons_of_mem _ ?_))) htl (by intro e; injection e with e; exact absurd e (by decide))
  have hov : lvs.length ≤ 300 := by
    have h1 := hlp.1
    dsimp only at h1
    omega
  k_steps
  (with_unfolding_all refine' kk _ (midF_intro le fl s1 S out ?c1 ?c2 ?c3 ?c4 ?c5 ?c6 (mid_intro ?F ?N ?hsi ?m0 ?m1 ?m2 ?m3 ?m4 ?m5 ?m6 ?m7 ?m8 ?m9 ?m10 ?m11 ?m12 ?hn ?p1 ?p2 ?p3 ?p4 ?p5 ?p6 ?p7 ?p8 ?p9 ?H)))
  case F => k_asm
  case N => k_asm
  case H => exact ⟨rfl, rfl, rfl, rfl, rfl, rfl, rfl, rfl, rfl, rfl, trivial⟩
  case m0 => k_dflt k_mem
  case m1 => k_dflt k_mem
  case m2 => k_dflt k_mem
  case m3 => k_dflt k_mem
  case m4 => k_dflt k_mem
  case m5 => k_dflt k_mem
  case m6 => k_dflt k_mem
  case m7 => k_dflt k_mem
  case m8 => k_dflt k_mem
  case m9 => k_dflt k_mem
  case m10 => k_dflt k_mem
  case m11 => k_dflt k_mem
  case p1 => exact ⟨_, _, _, _, rfl⟩
  case p2 => exact ⟨vs, _, hvi, hvn, rfl⟩
  case p3 => exact ⟨_, _, _, _, _, _, _, _, _, _, _, _, rfl⟩
  case p4 => exact ⟨_, _, _, _, _, _, _, _, _, _, _, _, _, rfl⟩
  case p5 => exact ⟨_, _, _, _, _, _, _, _, rfl⟩
  case p6 => exact ⟨_, _, _, rfl⟩
  case' p7 => refine' prsO_snoc (z := S) hlp ?he ?hm
  case he => rfl
  case hm => exact List.Mem.head _
  case m12 =>
    simp only [List.forall_mem_cons]
    exact ⟨by k_dflt k_mem, (fun q hq => by (repeat (first | exact hq | refine List.mem_cons_of_mem _ ?_)))⟩
  case p8 => exact ⟨_, _, hop.mono (fun _ h => .tail _ h), rfl⟩
  case p9 => exact tups_cons rfl htl
  case hsi => exact ⟨b1, b2, b3⟩
  case hn => exact ⟨i1, i2, i3, i4, i5, i6, i7, i8, i9, i10, i11, by (simp only [List.forall_mem_cons]; exact ⟨by (refine neN ?_; omega), itl⟩)⟩
  case c1 => exact c1
  case c2 => exact c2
  case c3 => exact c3
  case c4 => exact c4
  case c5 => omega
  case c6 => exact c6
end
section
local macro_rules | `(tactic| walk_at "none 0") => `(tactic| fail)
local macro_rules | `(tactic| walk_at "none 1") => `(tactic| fail)
local macro_rules | `(tactic| walk_at "none 2") => `(tactic| fail)
local macro_rules | `(tactic| walk_at "none 3") => `(tactic| fail)
local macro_rules | `(tactic| walk_at "none 4") => `(tactic| fail)
local macro_rules | `(tactic| walk_at "none 5") => `(tactic| fail)
local macro_rules | `(tactic| walk_at "none 6") => `(tactic| fail)
local macro_rules | `(tactic| walk_at "none 7") => `(tactic| fail)
local macro_rules | `(tactic| walk_at "none 8") => `(tactic| fail)
local macro_rules | `(tactic| walk_at "none 9") => `(tactic| fail)
local macro_rules | `(tactic| walk_at "none 10") => `(tactic| fail)
local macro_rules | `(tactic| walk_at "none 11") => `(tactic| fail)
local macro_rules | `(tactic| walk_at "none 12") => `(tactic| fail)
local macro_rules | `(tactic| walk_at "none 13") => `(tactic| fail)
local macro_rules | `(tactic| walk_at "none 14") => `(tactic| fail)
local macro_rules | `(tactic| walk_at "none 15") => `(tactic| fail)
local macro_rules | `(tactic| walk_at "none 16") => `(tactic| fail)
local macro_rules | `(tactic| walk_at "none 17") => `(tactic| fail)
local macro_rules | `(tactic| walk_at "none 18") => `(tactic| fail)
local macro_rules | `(tactic| walk_at "none 19") => `(tactic| fail)
local macro_rules | `(tactic| walk_at "none 20") => `(tactic| fail)
local macro_rules | `(tactic| walk_at "none 21") => `(tactic| fail)
local macro_rules | `(tactic| walk_at "none 22") => `(tactic| fail)
local macro_rules | `(tactic| walk_at "none 23") => `(tactic| fail)
local macro_rules | `(tactic| walk_at "none 24") => `(tactic| fail)
local macro_rules | `(tactic| walk_at "none 25") => `(tactic| fail)
local macro_rules | `(tactic| walk_at "none 26") => `(tactic| fail)
local macro_rules | `(tactic| walk_at "none 27") => `(tactic| fail)
local macro_rules | `(tactic| walk_at "none 28") => `(tactic| fail)
local macro_rules | `(tactic| walk_at "none 29") => `(tactic| fail)
local macro_rules | `(tactic| walk_at "none 30") => `(tactic| fail)
local macro_rules | `(tactic| walk_at "none 31") => `(tactic| fail)
local macro_rules | `(tactic| walk_at "none 32") => `(tactic| fail)
local macro_rules | `(tactic| walk_at "none 33") => `(tactic| fail)
local macro_rules | `(tactic| k_all) => `(tactic| first | (with_reducible assumption) | (refine allLt_ne ?_; first | (with_reducible assumption) | exact And.right (by with_reducible assumption) | exact And.right (And.right (by with_reducible assumption)) | exact And.right (And.right (And.right (by with_reducible assumption))) | exact And.right (And.right (And.right (And.right (by with_reducible assumption)))) | exact And.right (And.right (And.right (And.right (And.right (by with_reducible assumption))))) | exact And.right (And.right (And.right (And.right (And.right (And.right (by with_reducible assumption)))))) | exact And.right (And.right (And.right (And.right (And.right (And.right (And.right (by with_reducible assumption))))))) | exact And.right (And.right (And.right (And.right (And.right (And.right (And.right (And.right (by with_reducible assumption))))))))) | exact List.forall_mem_nil _ | (refine' List.forall_mem_cons.mpr ⟨?a, ?b⟩; (case a => k_ne); (case b => k_all)))
local macro_rules | `(tactic| k_mem) => `(tactic| (refine mem_fold ?_; with_reducible assumption))
local macro_rules | `(tactic| ktr_room) => `(tactic| ((try simp only [depth_under_make, depth_under_kw, depth_in1, depth_deeper, depth_caller]); (try dsimp only [ktrTop]); omega))
local macro_rules | `(tactic| ktr_units) => `(tactic| ((try simp only [units_in1, units_deeper, Around.mark_units, units_caller]); (try dsimp only [ktrTop]); omega))
local macro_rules | `(tactic| k_room) => `(tactic| ktr_room)
local macro_rules | `(tactic| walk_at "pyIter ref") => `(tactic| (k_here; (with_reducible show wpAny _ _ (pyIter (Value.ref _)) (fun it s₂ => LoopAtV _ _ _ _ _ _ _ _ _ it s₂) _ _); refine Halt.out ?_))

local macro_rules | `(tactic| walk_at "exec For") => `(tactic| (k_here; (rename Fr _ _ _ _ => lF'); (with_unfolding_all refine' For_invVF lF' ?k1 ?k2 ?_ (hE := by with_reducible assumption); (case k1 => exact rfl); (case k2 => exact rfl); k_whole)))
theorem packets_loop {prog : Program} {w : World} {A : Around} {E : Value → Shared → Prop} {s : Shared} {env : Env} {h₀ : Heap} {x : Str} {body : List Stmt} {Q : Flow → Shared → Prop} {r : Addr} {a₀ b₀ : Int} {t₀ u₀ v₀ : Tok} {n : Nat} {m₀ : Str → Option Value} {news : List (Addr × Obj)}
    {a : Ad} {way Bu : Int} {q : Addr × Obj} {tw tb tg tf tz : Tok} {g form size : Int} {σ : Pl} {si : Addr}
    (hh : A.handled = none) (hr : IsRange s.heap r a₀ b₀ 1 t₀ u₀ v₀) (hsmall : Builtin.Range.small a₀ b₀ 1 = true) (hsz : Builtin.Range.rangeSize a₀ b₀ 1 = (n : Int)) (F : Fr h₀ env.locals s.heap m₀) (N : News h₀ env.locals s.heap news) (hj : JL w a way Bu q tw tb tg tf tz g form size σ si 0 m₀ news)
    (turn : ∀ (i : Nat) (t : Tok) (m₁ : Str → Option Value) (nx : List (Addr × Obj)) (h : Heap) (tk : Nat) (I : Addr) (o : Obj), i < n → (∀ p ∈ nx, p.1 ≠ I) → JL w a way Bu q tw tb tg tf tz g form size σ si i m₁ nx → Fr h₀ env.locals h (fun y => if y = x then some (.int (a₀ + i) t) else m₁ y) → News h₀ env.locals h ((I, o) :: nx) →
      wpAny (model prog w) A (execs body env) (TurnPost h₀ env.locals (I, o) (JL w a way Bu q tw tb tg tf tz g form size σ si (i + 1)) { s with heap := h, toks := tk } Q) E { s with heap := h, toks := tk })
    (done : ∀ m₁ nx h tk, JL w a way Bu q tw tb tg tf tz g form size σ si n m₁ nx → Fr h₀ env.locals h m₁ → News h₀ env.locals h nx → Q .next { s with heap := h, toks := tk }) :
    wpAny (model prog w) A (pyIter (.ref r)) (fun it s₂ => LoopAtV prog w A h₀ env x body Q E it s₂) E s :=
  range_loop (fun i m nx => JL w a way Bu q tw tb tg tf tz g form size σ si i m nx) hh hr hsmall hsz F N hj turn done
theorem segE {w : World} {p : Program} {loose : List Str} {mean : ExcName → Option Value} {mg mb : Str → Option Value}
    {dp un : Nat} {gd : Option (List Code)} {fa : Addr} {ccd : Value} {outer : List Env} {A₀ : Around} {base h₀ : Heap} {L : Addr} {s : Shared} {Q : Flow → Shared → Prop} {E : Value → Shared → Prop}
    (B : Below A₀ base outer h₀) (X : (hd.heap_39 w.params).In h₀) (T : Top p loose mean mg mb h₀) (hdp : dp + 12 < recursionLimit) (hun : un + 400 < cLine)
    {a : Ad} (ha : a.Ok) {way Bu : Int} (hy0 : 4000 ≤ way) (hy1 : way ≤ 23000) (hb0 : 2400 ≤ Bu) (hb1 : Bu ≤ 6000)
    {σ : Pl} {si I : Addr} {o : Obj} {tn tw tb tg tz tf : Tok} {g form : Int} {u : Str → Option Value} {nx : List (Addr × Obj)} (hI : ∀ q ∈ nx, q.1 ≠ I) (hsi : Si a si) (hS : SI w a way Bu σ si nx)
    (F : Fr h₀ L s.heap (over ((Str.ofString "now", .int σ.now tn) :: (Str.ofString "since", .ref si) :: (Str.ofString "gained", .int g tg) :: (Str.ofString "sent", .int 0 tz) :: (Str.ofString "form", .int form tf) :: fixN a way Bu tw tb) u)) (N : News h₀ L s.heap ((I, o) :: nx))
    (hE : PassesOwn (model PP w) (ktrTop dp un gd (Str.ofString "law") lawScope L fa ccd [] outer) (envOf (Str.ofString "law") lawScope L fa ccd) E) (hf0 : 0 ≤ form) (hf1 : form < 5) (hw0 : 12000 ≤ σ.win) (hw1 : σ.win ≤ 50000) (hr0 : 0 ≤ σ.re) (hr1 : σ.re < 4 * way) (hle : 0 ≤ σ.le) (hol : σ.out.length ≤ 100) (hll : σ.looks.length ≤ 200)
    (kk : ∀ s', MidF w a way Bu h₀ L (I, o) tw tb g σ si s s' → Q .next s') :
    wpAny (model PP w) (ktrTop dp un gd (Str.ofString "law") lawScope L fa ccd [] outer) (execs (turnBody.drop 8) (envOf (Str.ofString "law") lawScope L fa ccd)) Q E s := by
  w_on
  (with_unfolding_all show wpAny _ _ (execs (_ :: _) (envOf _ (Scope.mk _ _ _ _ _) _ _ _)) _ _ _)
  (with_unfolding_all have hE2 : PassesOwn _ _ (envOf _ (Scope.mk _ _ _ _ _) _ _ _) _ := hE)
  have hfm0 : 0 ≤ form.fmod 4 := Int.fmod_nonneg_of_pos _ (by decide)
  have hfm1 : form.fmod 4 < 4 := Int.fmod_lt_of_pos _ (by decide)
  k_steps
  · refine Halt.mk ?_
    rename_i hR F1 N1 _
    (with_unfolding_all refine' packets_loop (n := 3) ?hhA ?hrA ?hsmA ?hszA ?FA ?NA ?hjA ?turnA ?doneA)
    case hhA => rfl
    case hrA => exact hR
    case hsmA => exact small_one (by decide) (by decide) (by decide) (by decide)
    case hszA => rfl
    case FA => exact F1
    case NA => exact N1
    case hjA => exact ⟨σ.le, σ.fl, σ.s1, 0, σ.out, _, _, nx, by omega, hle, by omega, by omega, by omega, fun z hz => Or.inl hz, rfl, hI, ⟨rfl, rfl, rfl, rfl, rfl, rfl, rfl, rfl, rfl, rfl, rfl, rfl, rfl, rfl, trivial⟩, hS⟩
    case turnA =>
      intro i t m₁ nx' h tk I2 o2 hi hne hJ F' N'
      exact segT B X T hdp hun ha hy0 hy1 hb0 hb1 hne hsi hJ F' N' (by omega) (by omega) hw0 hw1 hr0 hr1 (by omega)
    case doneA =>
      intro m₁ nx' h tk hJ F' N'
      (with_unfolding_all exact segF B X T hdp hun ha hy0 hy1 hb0 hb1 hsi hJ F' N' (by decide) hll (s₀ := s) ⟨_, _, rfl⟩ kk)
  · refine Halt.mk ?_
    rename_i hR F1 N1 _
    (with_unfolding_all refine' packets_loop (n := 0) ?hhB ?hrB ?hsmB ?hszB ?FB ?NB ?hjB ?turnB ?doneB)
    case hhB => rfl
    case hrB => exact hR
    case hsmB => exact small_one (by decide) (by decide) (by decide) (by decide)
    case hszB => rfl
    case FB => exact F1
    case NB => exact N1
    case hjB => exact ⟨σ.le, σ.fl, σ.s1, 0, σ.out, _, _, nx, by omega, hle, by omega, by omega, by omega, fun z hz => Or.inl hz, rfl, hI, ⟨rfl, rfl, rfl, rfl, rfl, rfl, rfl, rfl, rfl, rfl, rfl, rfl, rfl, rfl, trivial⟩, hS⟩
    case turnB =>
      intro i t m₁ nx' h tk I2 o2 hi hne hJ F' N'
      exact segT B X T hdp hun ha hy0 hy1 hb0 hb1 hne hsi hJ F' N' (by omega) (by omega) hw0 hw1 hr0 hr1 (by omega)
    case doneB =>
      intro m₁ nx' h tk hJ F' N'
      (with_unfolding_all exact segF B X T hdp hun ha hy0 hy1 hb0 hb1 hsi hJ F' N' (by decide) hll (s₀ := s) ⟨_, _, rfl⟩ kk)
end
section
def JO (w : World) (a : Ad) (way Bu : Int) (tw tb : Tok) (i : Nat) (m : Str → Option Value) (nx : List (Addr × Obj)) : Prop :=
  ∃ σ si tn, Inv way Bu i σ ∧ Si a si ∧ SI w a way Bu σ si nx ∧ Has m ((Str.ofString "now", .int σ.now tn) :: (Str.ofString "since", .ref si) :: fixN a way Bu tw tb)
theorem has_other {m : Str → Option Value} {x : Str} {v : Option Value} : ∀ {kvs : List (Str × Value)}, Has m kvs → (kvs.map (·.1)).all (fun y => !(y == x)) = true → Has (fun y => if y = x then v else m y) kvs
  | [], _, _ => trivial
  | p :: r, h, hx => by
    simp only [List.map_cons, List.all_cons, Bool.and_eq_true, Bool.not_eq_true'] at hx
    refine ⟨?_, has_other h.2 hx.2⟩
    have hn : p.1 ≠ x := by
      intro e
      rw [e] at hx
      simp at hx
    show (if p.1 = x then v else m p.1) = _
    rw [if_neg hn]
    exact h.1
theorem turnT {w : World} {p : Program} {loose : List Str} {mean : ExcName → Option Value} {mg mb : Str → Option Value}
    {dp un : Nat} {gd : Option (List Code)} {fa : Addr} {ccd : Value} {outer : List Env} {A₀ : Around} {base h₀ : Heap} {L : Addr} {s : Shared} {Q : Flow → Shared → Prop} {E : Value → Shared → Prop}
    (B : Below A₀ base outer h₀) (X : (hd.heap_39 w.params).In h₀) (T : Top p loose mean mg mb h₀) (hdp : dp + 12 < recursionLimit) (hun : un + 400 < cLine)
    {a : Ad} (ha : a.Ok) {way Bu : Int} (hy0 : 4000 ≤ way) (hy1 : way ≤ 23000) (hb0 : 2400 ≤ Bu) (hb1 : Bu ≤ 6000)
    {I : Addr} {o : Obj} {tw tb : Tok} {i : Nat} {v : Value} {m₁ : Str → Option Value} {nx : List (Addr × Obj)} (hi : i < 12) (hne : ∀ q ∈ nx, q.1 ≠ I) (hJ : JO w a way Bu tw tb i m₁ nx)
    (F : Fr h₀ L s.heap (fun y => if y = Str.ofString "turn" then some v else m₁ y)) (N : News h₀ L s.heap ((I, o) :: nx)) (hE : PassesOwn (model PP w) (ktrTop dp un gd (Str.ofString "law") lawScope L fa ccd [] outer) (envOf (Str.ofString "law") lawScope L fa ccd) E) :
    wpAny (model PP w) (ktrTop dp un gd (Str.ofString "law") lawScope L fa ccd [] outer) (execs turnBody (envOf (Str.ofString "law") lawScope L fa ccd)) (TurnPost h₀ L (I, o) (JO w a way Bu tw tb (i + 1)) s Q) E s := by
  obtain ⟨σ, si, tn, hInv, hsi, hS, H⟩ := hJ
  have hv := hInv
  obtain ⟨v1, v2, v3, v4, v5, v6, v7, v8, v9, v10, v11, v12, v13, v14⟩ := hv
  have H' := has_other (x := Str.ofString "turn") (v := some v) H (by rfl)
  refine segA B X T hdp hun ha hy0 hy1 hb0 hb1 hne hsi hS (has_fr H' F) N v6 (by omega) v8 (by omega) (plain_hC (by omega) hInv) ?_
  rintro s' ⟨gap, now, le, re, s0, s1, k, si', tg, tz, hg, e1, e2, hEp, dd, hsi', tn', h', tk, m', nx', rfl, F', N', hn', H', hS'⟩
  obtain ⟨q1, q2, q3, q4, q5, q6, q7⟩ := plain_earn (by omega) (by omega) (by omega) (by omega) v1 v3 v5 hEp dd
  refine segC B X T hdp hun ha hy0 hy1 hb0 hb1 (tg := tg) (tz := tz) (g := 5 * σ.win * gap) hn' hsi' hS' (has_fr H' F') N' (by dsimp only; omega) (by dsimp only; omega) (by dsimp only; omega) ?_
  rintro s'' ⟨form, win, fl, k2, out, tf, f0, f1, e3, d2, hsi'', tn'', h'', tk'', m'', nx'', rfl, F'', N'', hn'', H'', hS''⟩
  have hwin : 12000 ≤ win ∧ win ≤ 50000 ∧ out.length ≤ 36 := by
    rcases d2 with ⟨rfl, _, rfl⟩ | ⟨z, t, ho, rfl, _⟩
    · exact ⟨v6, by dsimp only; omega, by dsimp only; omega⟩
    · dsimp only at ho
      rw [ho] at v11 v12
      have hz := v12 (z, t) (.head _)
      simp only [List.length_cons] at v11
      exact ⟨by dsimp only; omega, by dsimp only; omega, by omega⟩
  refine segE B X T hdp hun ha hy0 hy1 hb0 hb1 (tg := tg) (tz := tz) (tf := tf) (g := 5 * σ.win * gap) (form := form) hn'' hsi'' hS'' (has_fr H'' F'') N'' hE f0 f1 (by dsimp only; omega) (by dsimp only; omega) (by dsimp only; omega) (by dsimp only; omega) (by dsimp only; omega) (by dsimp only; omega) (by dsimp only; omega) ?_
  rintro s''' ⟨le3, fl3, s13, S, out3, c1, c2, c3, c4, c5, c6, hsi3, tn3, h3, tk3, m3, nx3, rfl, F3, N3, hn3, H3, hS3⟩
  refine ⟨h3, tk3, m3, nx3, rfl, F3, N3, hn3, _, _, tn3, ?_, hsi3, hS3, H3⟩
  exact plain_step (by omega) (by omega) hInv hg e2 hEp dd e3 d2 c1 c2 c3 c4 c5 c6
theorem law_loop {prog : Program} {w : World} {A : Around} {E : Value → Shared → Prop} {s : Shared} {env : Env} {h₀ : Heap} {x : Str} {body : List Stmt} {Q : Flow → Shared → Prop} {r : Addr} {a₀ b₀ : Int} {t₀ u₀ v₀ : Tok} {m₀ : Str → Option Value} {all : List (Addr × Obj)}
    {b l ra rd ta td pa pd lo ou si : Addr} {way Bu fl now k : Int} {tw tb tn : Tok} {ob ol ord otd opd osi olo oou : Obj}
    (hh : A.handled = none) (hr : IsRange s.heap r a₀ b₀ 1 t₀ u₀ v₀) (hsmall : Builtin.Range.small a₀ b₀ 1 = true) (hsz : Builtin.Range.rangeSize a₀ b₀ 1 = ((12 : Nat) : Int)) (F : Fr h₀ env.locals s.heap m₀) (N : News h₀ env.locals s.heap all)
    (H : Has m₀ ((Str.ofString "now", .int now tn) :: (Str.ofString "since", .ref si) :: fixN ⟨b, l, ra, rd, ta, td, pa, pd, lo, ou⟩ way Bu tw tb))
    (e1 : (b, ob) ∈ all) (p1 : BoxO l k ob) (e2 : (l, ol) ∈ all) (p2 : IntsO ol) (e3 : (ra, nInst rd) ∈ all) (e4 : (rd, ord) ∈ all) (p3 : RenO w 12000 fl ord) (e5 : (ta, tInst td) ∈ all) (e6 : (td, otd) ∈ all) (p4 : RttO w way otd) (e7 : (pa, pInst pd) ∈ all) (e8 : (pd, opd) ∈ all) (p5 : PacO w Bu Bu 0 now opd)
    (e9 : (si, osi) ∈ all) (p6 : SinO 0 0 osi) (e10 : (lo, olo) ∈ all) (p7 : PrsO [] [] olo) (e11 : (ou, oou) ∈ all) (p8 : PrsO [] [] oou)
    (hsi : Si ⟨b, l, ra, rd, ta, td, pa, pd, lo, ou⟩ si) (hk0 : 0 ≤ k) (hk1 : k ≤ 2) (hy : 1 ≤ way) (hB : 0 ≤ Bu)
    (turn : ∀ (i : Nat) (t : Tok) (m₁ : Str → Option Value) (nx : List (Addr × Obj)) (h : Heap) (tk : Nat) (I : Addr) (o : Obj), i < 12 → (∀ p ∈ nx, p.1 ≠ I) → JO w ⟨b, l, ra, rd, ta, td, pa, pd, lo, ou⟩ way Bu tw tb i m₁ nx → Fr h₀ env.locals h (fun y => if y = x then some (.int (a₀ + i) t) else m₁ y) → News h₀ env.locals h ((I, o) :: nx) →
      wpAny (model prog w) A (execs body env) (TurnPost h₀ env.locals (I, o) (JO w ⟨b, l, ra, rd, ta, td, pa, pd, lo, ou⟩ way Bu tw tb (i + 1)) { s with heap := h, toks := tk } Q) E { s with heap := h, toks := tk })
    (done : ∀ m₁ nx h tk, JO w ⟨b, l, ra, rd, ta, td, pa, pd, lo, ou⟩ way Bu tw tb 12 m₁ nx → Fr h₀ env.locals h m₁ → News h₀ env.locals h nx → Q .next { s with heap := h, toks := tk }) :
    wpAny (model prog w) A (pyIter (.ref r)) (fun it s₂ => LoopAtV prog w A h₀ env x body Q E it s₂) E s := by
  have hz : ∀ p ∈ (b, ob) :: (l, ol) :: (ra, nInst rd) :: (rd, ord) :: (ta, tInst td) :: (td, otd) :: (pa, pInst pd) :: (pd, opd) :: (si, osi) :: (lo, olo) :: (ou, oou) :: [], p ∈ all := by
    simp only [List.forall_mem_cons]
    exact ⟨e1, e2, e3, e4, e5, e6, e7, e8, e9, e10, e11, fun _ h => nomatch h⟩
  refine range_loop (fun i m nx => JO w ⟨b, l, ra, rd, ta, td, pa, pd, lo, ou⟩ way Bu tw tb i m nx) hh hr hsmall hsz F (fun p hp => N p (hz p hp)) ?_ turn done
  exact ⟨_, si, tn, plain_start hy hB fl now k hk0 hk1, hsi, ⟨ob, ol, ord, otd, opd, osi, olo, oou, [], p1, p2, p3, p4, p5, p6, p7, p8, (fun _ h => nomatch h), rfl⟩, H⟩
end
section
local macro_rules | `(tactic| walk_at "none 0") => `(tactic| fail)
local macro_rules | `(tactic| walk_at "none 1") => `(tactic| fail)
local macro_rules | `(tactic| walk_at "none 2") => `(tactic| fail)
local macro_rules | `(tactic| walk_at "none 3") => `(tactic| fail)
local macro_rules | `(tactic| walk_at "none 4") => `(tactic| fail)
local macro_rules | `(tactic| walk_at "none 5") => `(tactic| fail)
local macro_rules | `(tactic| walk_at "none 6") => `(tactic| fail)
local macro_rules | `(tactic| walk_at "none 7") => `(tactic| fail)
local macro_rules | `(tactic| walk_at "none 8") => `(tactic| fail)
local macro_rules | `(tactic| walk_at "none 9") => `(tactic| fail)
local macro_rules | `(tactic| walk_at "none 10") => `(tactic| fail)
local macro_rules | `(tactic| walk_at "none 11") => `(tactic| fail)
local macro_rules | `(tactic| walk_at "none 12") => `(tactic| fail)
local macro_rules | `(tactic| walk_at "none 13") => `(tactic| fail)
local macro_rules | `(tactic| walk_at "none 14") => `(tactic| fail)
local macro_rules | `(tactic| walk_at "none 15") => `(tactic| fail)
local macro_rules | `(tactic| walk_at "none 16") => `(tactic| fail)
local macro_rules | `(tactic| walk_at "none 17") => `(tactic| fail)
local macro_rules | `(tactic| walk_at "none 18") => `(tactic| fail)
local macro_rules | `(tactic| walk_at "none 19") => `(tactic| fail)
local macro_rules | `(tactic| walk_at "none 20") => `(tactic| fail)
local macro_rules | `(tactic| walk_at "none 21") => `(tactic| fail)
local macro_rules | `(tactic| walk_at "none 22") => `(tactic| fail)
local macro_rules | `(tactic| walk_at "none 23") => `(tactic| fail)
local macro_rules | `(tactic| walk_at "none 24") => `(tactic| fail)
local macro_rules | `(tactic| walk_at "none 25") => `(tactic| fail)
local macro_rules | `(tactic| walk_at "none 26") => `(tactic| fail)
local macro_rules | `(tactic| walk_at "none 27") => `(tactic| fail)
local macro_rules | `(tactic| walk_at "none 28") => `(tactic| fail)
local macro_rules | `(tactic| walk_at "none 29") => `(tactic| fail)
local macro_rules | `(tactic| walk_at "none 30") => `(tactic| fail)
local macro_rules | `(tactic| walk_at "none 31") => `(tactic| fail)
local macro_rules | `(tactic| walk_at "none 32") => `(tactic| fail)
local macro_rules | `(tactic| walk_at "none 33") => `(tactic| fail)
local macro_rules | `(tactic| walk_at "none 34") => `(tactic| fail)
local macro_rules | `(tactic| walk_at "none 35") => `(tactic| fail)
local macro_rules | `(tactic| walk_at "none 36") => `(tactic| fail)
local macro_rules | `(tactic| k_all) => `(tactic| first | (with_reducible assumption) | (refine allLt_ne ?_; first | (with_reducible assumption) | exact And.right (by with_reducible assumption) | exact And.right (And.right (by with_reducible assumption)) | exact And.right (And.right (And.right (by with_reducible assumption))) | exact And.right (And.right (And.right (And.right (by with_reducible assumption)))) | exact And.right (And.right (And.right (And.right (And.right (by with_reducible assumption))))) | exact And.right (And.right (And.right (And.right (And.right (And.right (by with_reducible assumption)))))) | exact And.right (And.right (And.right (And.right (And.right (And.right (And.right (by with_reducible assumption))))))) | exact And.right (And.right (And.right (And.right (And.right (And.right (And.right (And.right (by with_reducible assumption))))))))) | exact List.forall_mem_nil _ | (refine' List.forall_mem_cons.mpr ⟨?a, ?b⟩; (case a => k_ne); (case b => k_all)))
local macro_rules | `(tactic| k_mem) => `(tactic| (refine mem_fold ?_; with_reducible assumption))
local macro_rules | `(tactic| ktr_room) => `(tactic| ((try simp only [depth_under_make, depth_under_kw, depth_in1, depth_deeper, depth_caller]); (try dsimp only [ktrTop]); omega))
local macro_rules | `(tactic| ktr_units) => `(tactic| ((try simp only [units_in1, units_deeper, Around.mark_units, units_caller]); (try dsimp only [ktrTop]); omega))
local macro_rules | `(tactic| k_room) => `(tactic| ktr_room)
local macro_rules | `(tactic| walk_at "call ref") => `(tactic| (k_here; (with_reducible show wpAny _ _ (call (Value.ref 196) _) _ _ _); refine Halt.out ?_))
local macro_rules | `(tactic| walk_at "call ref") => `(tactic| (k_here; (with_reducible show wpAny _ _ (call (Value.ref 245) _) _ _ _); refine Halt.out ?_))

theorem segZ {w : World} {p : Program} {loose : List Str} {mean : ExcName → Option Value} {mg mb : Str → Option Value}
    {dp un : Nat} {gd : Option (List Code)} {fa : Addr} {ccd : Value} {outer : List Env} {A₀ : Around} {base h₀ : Heap} {L : Addr} {s : Shared} {Q : Flow → Shared → Prop} {E : Value → Shared → Prop}
    (B : Below A₀ base outer h₀) (X : (hd.heap_39 w.params).In h₀) (T : Top p loose mean mg mb h₀) (hdp : dp + 12 < recursionLimit) (hun : un + 400 < cLine)
    {a : Ad} {way Bu : Int} (hy0 : 4000 ≤ way) (hy1 : way ≤ 23000) (hb0 : 2400 ≤ Bu) (hb1 : Bu ≤ 6000)
    {tw tb : Tok} {m₁ : Str → Option Value} {nx : List (Addr × Obj)} (hJ : JO w a way Bu tw tb 12 m₁ nx)
    (F : Fr h₀ L s.heap m₁) (N : News h₀ L s.heap nx)
    (kk : ∀ h' tk m' nx', Fr h₀ L h' m' → News h₀ L h' nx' → Q (.ret (.bool true)) { s with heap := h', toks := tk }) :
    wpAny (model PP w) (ktrTop dp un gd (Str.ofString "law") lawScope L fa ccd [] outer) (execs (lawParts.1.drop 6) (envOf (Str.ofString "law") lawScope L fa ccd)) Q E s := by
  w_on
  (with_unfolding_all show wpAny _ _ (execs (_ :: _) (envOf _ (Scope.mk _ _ _ _ _) _ _ _)) _ _ _)
  obtain ⟨σ, si, tn, hInv, hsi, hS, H⟩ := hJ
  obtain ⟨v1, v2, v3, v4, v5, v6, v7, v8, v9, v10, v11, v12, v13, v14⟩ := hInv
  rw [← has_over H] at F
  obtain ⟨_, _, _, _, _, _, _, _, tl, ⟨c, tk0, tc, nb, rfl⟩, ⟨vs, nl, hvi, hvn, rfl⟩, ⟨kn1, kn2, kn3, kn4, kn5, kn6, dg, cr, tn1, tn2, tn5, tn6, rfl⟩, ⟨kt1, kt2, kt3, kt4, kt5, la, v4', ft, tt1, tt2, tt3, tt4, tt5, rfl⟩, ⟨kp1, kp2, kp3, kp4, tp1, tp2, tp3, tp4, rfl⟩, ⟨ts0, ts1, ns, rfl⟩, ⟨lvs, nlo, hlp, rfl⟩, ⟨ovs, nou, hop, rfl⟩, htl, rfl⟩ := hS
  have hlz : lvs.length ≤ 12 := by rw [hlp.1, v10]; exact Nat.le_refl _
  k_steps
  refine Halt.mk ?_
  k_dflt (refine' smoothed_u ?B ?F ?X ?T ?hk ?hdp ?hun ?N ?mp ?md ?hs ?_)
  (case B => k_asm)
  (case F => k_asm)
  (case X => k_asm)
  (case T => k_asm)
  (case hk => first | exact rfl | assumption)
  (case hdp => ktr_room)
  (case hun => ktr_units)
  (case N => k_asm)
  (case mp => k_dflt k_mem)
  (case md => k_dflt k_mem)
  (case hs => rfl)
  intro t1 h' tks1 F' N'
  try k_sweep
  k_steps
  · refine Halt.mk ?_
    k_dflt (refine' within_u ?B ?F ?X ?T ?hk ?hdp ?hun ?N ?ml ?hp ?hz ?y0 ?y1 ?hW ?_)
    (case B => k_asm)
    (case F => k_asm)
    (case X => k_asm)
    (case T => k_asm)
    (case hk => first | exact rfl | assumption)
    (case hdp => ktr_room)
    (case hun => ktr_units)
    (case N => k_asm)
    (case ml => k_dflt k_mem)
    (case hp => exact hlp.mono (fun q hq => by (repeat (first | exact hq | refine List.mem_cons_of_mem _ ?_))))
    (case hz => exact hlz)
    (case y0 => omega)
    (case y1 => omega)
    (case hW => exact v14)
    intro h' tks9 F' N'
    exact kk _ _ _ _ F' N'
  · exfalso
    omega
end
section
local macro_rules | `(tactic| walk_at "none 0") => `(tactic| fail)
local macro_rules | `(tactic| walk_at "none 1") => `(tactic| fail)
local macro_rules | `(tactic| walk_at "none 2") => `(tactic| fail)
local macro_rules | `(tactic| walk_at "none 3") => `(tactic| fail)
local macro_rules | `(tactic| walk_at "none 4") => `(tactic| fail)
local macro_rules | `(tactic| walk_at "none 5") => `(tactic| fail)
local macro_rules | `(tactic| walk_at "none 6") => `(tactic| fail)
local macro_rules | `(tactic| walk_at "none 7") => `(tactic| fail)
local macro_rules | `(tactic| walk_at "none 8") => `(tactic| fail)
local macro_rules | `(tactic| walk_at "none 9") => `(tactic| fail)
local macro_rules | `(tactic| walk_at "none 10") => `(tactic| fail)
local macro_rules | `(tactic| walk_at "none 11") => `(tactic| fail)
local macro_rules | `(tactic| walk_at "none 12") => `(tactic| fail)
local macro_rules | `(tactic| walk_at "none 13") => `(tactic| fail)
local macro_rules | `(tactic| walk_at "none 14") => `(tactic| fail)
local macro_rules | `(tactic| walk_at "none 15") => `(tactic| fail)
local macro_rules | `(tactic| walk_at "none 16") => `(tactic| fail)
local macro_rules | `(tactic| walk_at "none 17") => `(tactic| fail)
local macro_rules | `(tactic| walk_at "none 18") => `(tactic| fail)
local macro_rules | `(tactic| walk_at "none 19") => `(tactic| fail)
local macro_rules | `(tactic| walk_at "none 20") => `(tactic| fail)
local macro_rules | `(tactic| walk_at "none 21") => `(tactic| fail)
local macro_rules | `(tactic| walk_at "none 22") => `(tactic| fail)
local macro_rules | `(tactic| walk_at "none 23") => `(tactic| fail)
local macro_rules | `(tactic| walk_at "none 24") => `(tactic| fail)
local macro_rules | `(tactic| walk_at "none 25") => `(tactic| fail)
local macro_rules | `(tactic| walk_at "none 26") => `(tactic| fail)
local macro_rules | `(tactic| walk_at "none 27") => `(tactic| fail)
local macro_rules | `(tactic| walk_at "none 28") => `(tactic| fail)
local macro_rules | `(tactic| walk_at "none 29") => `(tactic| fail)
local macro_rules | `(tactic| walk_at "none 30") => `(tactic| fail)
local macro_rules | `(tactic| walk_at "none 31") => `(tactic| fail)
local macro_rules | `(tactic| walk_at "none 32") => `(tactic| fail)
local macro_rules | `(tactic| walk_at "none 33") => `(tactic| fail)
local macro_rules | `(tactic| walk_at "none 34") => `(tactic| fail)
local macro_rules | `(tactic| walk_at "none 35") => `(tactic| fail)
local macro_rules | `(tactic| walk_at "none 36") => `(tactic| fail)
local macro_rules | `(tactic| walk_at "none 37") => `(tactic| fail)
local macro_rules | `(tactic| walk_at "none 38") => `(tactic| fail)
local macro_rules | `(tactic| walk_at "none 39") => `(tactic| fail)
theorem len50 {vs : List Value} {ns : List Int} (h : IntsAre vs (ns.take 50)) : vs.length ≤ 50 := by
  rw [h.length, List.length_take]
  omega
local macro_rules | `(tactic| k_all) => `(tactic| first | (with_reducible assumption) | (refine allLt_ne ?_; first | (with_reducible assumption) | exact And.right (by with_reducible assumption) | exact And.right (And.right (by with_reducible assumption)) | exact And.right (And.right (And.right (by with_reducible assumption))) | exact And.right (And.right (And.right (And.right (by with_reducible assumption)))) | exact And.right (And.right (And.right (And.right (And.right (by with_reducible assumption))))) | exact And.right (And.right (And.right (And.right (And.right (And.right (by with_reducible assumption)))))) | exact And.right (And.right (And.right (And.right (And.right (And.right (And.right (by with_reducible assumption))))))) | exact And.right (And.right (And.right (And.right (And.right (And.right (And.right (And.right (by with_reducible assumption))))))))) | exact List.forall_mem_nil _ | (refine' List.forall_mem_cons.mpr ⟨?a, ?b⟩; (case a => k_ne); (case b => k_all)))
local macro_rules | `(tactic| k_mem) => `(tactic| (refine mem_fold ?_; with_reducible assumption))
local macro_rules | `(tactic| ktr_room) => `(tactic| ((try simp only [depth_under_make, depth_under_kw, depth_in1, depth_deeper, depth_caller]); (try dsimp only [ktrTop]); omega))
local macro_rules | `(tactic| ktr_units) => `(tactic| ((try simp only [units_in1, units_deeper, Around.mark_units, units_caller]); (try dsimp only [ktrTop]); omega))
local macro_rules | `(tactic| k_room) => `(tactic| ktr_room)
local macro_rules | `(tactic| walk_at "pyIter ref") => `(tactic| (k_here; (with_reducible show wpAny _ _ (pyIter (Value.ref _)) (fun it s₂ => LoopAtV _ _ _ _ _ _ _ _ _ it s₂) _ _); refine Halt.out ?_))
local macro_rules | `(tactic| walk_at "call ref") => `(tactic| (k_here; k_dflt (refine' take_u ?B ?F ?X ?T ?hk ?hdp ?hun ?N ?mb ?ml ?hbl ?hi ?hn ?k0 ?k1 ?w0 ?_; (case B => k_asm); (case F => k_asm); (case X => k_asm); (case T => k_asm); (case hk => first | exact rfl | assumption); (case hdp => ktr_room); (case hun => ktr_units); (case N => k_asm); (case mb => k_mem); (case ml => k_mem); (case hbl => omega); (case hi => first | assumption | exact ⟨_, by assumption⟩); (case hn => first | omega | exact len50 (by assumption)); (case k0 => omega); (case k1 => omega); (case w0 => decide); k_whole); (intro r9 t9 vs9 nl9 n9 tk9 h' tks9 hr9 hr8 hi9 hn9 F' H9; (have N' := H9 _ _ (by k_upd) (by k_upd)); clear H9; (try k_sweep))))

theorem main : PySem.Challenge.rw_pb0523_01.Holds := hd (by
  k_go0
  (all_goals try k_fold)
  k_steps
  refine Halt.mk ?_
  rename_i hR F1 N1 _
  (with_unfolding_all refine' law_loop ?hh ?hr ?hsm ?hsz ?F ?N ?H ?e1 ?p1 ?e2 ?p2 ?e3 ?e4 ?p3 ?e5 ?e6 ?p4 ?e7 ?e8 ?p5 ?e9 ?p6 ?e10 ?p7 ?e11 ?p8 ?hsi ?hk0 ?hk1 ?hy ?hB ?turn ?done)
  case hh => rfl
  case hr => exact hR
  case hsm => exact small_one (by decide) (by decide) (by decide) (by decide)
  case hsz => rfl
  case F => exact F1
  case N => exact N1
  case H => exact ⟨rfl, rfl, rfl, rfl, rfl, rfl, rfl, rfl, rfl, rfl, trivial⟩
  case e1 => k_dflt k_mem
  case p1 => exact ⟨_, _, _, _, rfl⟩
  case e2 => k_dflt k_mem
  case p2 => exact ⟨_, _, by assumption, by assumption, rfl⟩
  case e3 => k_dflt k_mem
  case e4 => k_dflt k_mem
  case p3 => exact ⟨_, _, _, _, _, _, _, _, _, _, _, _, rfl⟩
  case e5 => k_dflt k_mem
  case e6 => k_dflt k_mem
  case p4 => exact ⟨_, _, _, _, _, _, _, _, _, _, _, _, _, rfl⟩
  case e7 => k_dflt k_mem
  case e8 => k_dflt k_mem
  case p5 => exact ⟨_, _, _, _, _, _, _, _, rfl⟩
  case e9 => k_dflt k_mem
  case p6 => exact ⟨_, _, _, rfl⟩
  case e10 => k_dflt k_mem
  case p7 => exact ⟨[], _, Prs.nil, rfl⟩
  case e11 => k_dflt k_mem
  case p8 => exact ⟨[], _, Prs.nil, rfl⟩
  case hsi => exact ⟨by (refine ltN ?_; (try dsimp only); omega), by (refine neN ?_; (try dsimp only); omega), by (refine neN ?_; (try dsimp only); omega)⟩
  case hk0 => decide
  case hk1 => decide
  case hy => omega
  case hB => omega
  case turn =>
    intro i t m₁ nx h tk I o hi hne hJ F' N'
    (with_unfolding_all refine' turnT ?B ?X ?T ?hdp ?hun ?ha ?hy0 ?hy1 ?hb0 ?hb1 hi hne hJ F' N' ?hE)
    case B => assumption
    case X => assumption
    case T => assumption
    case hdp => decide
    case hun => exact Nat.le_of_ble_eq_true rfl
    case ha => exact ⟨by (refine ltN ?_; (try dsimp only); omega), by (refine ltN ?_; (try dsimp only); omega), by (refine ltN ?_; (try dsimp only); omega), by (refine ltN ?_; (try dsimp only); omega), by (refine ltN ?_; (try dsimp only); omega), by (refine ltN ?_; (try dsimp only); omega), by (refine ltN ?_; (try dsimp only); omega), by (refine ltN ?_; (try dsimp only); omega), by (refine ltN ?_; (try dsimp only); omega)⟩
    case hy0 => omega
    case hy1 => omega
    case hb0 => omega
    case hb1 => omega
    case hE => passes_own
  case done =>
    intro m₁ nx h tk hJ F' N'
    (with_unfolding_all refine' segZ ?B2 ?X2 ?T2 ?hdp2 ?hun2 ?hy02 ?hy12 ?hb02 ?hb12 hJ F' N' ?_)
    case B2 => assumption
    case X2 => assumption
    case T2 => assumption
    case hdp2 => decide
    case hun2 => exact Nat.le_of_ble_eq_true rfl
    case hy02 => omega
    case hy12 => omega
    case hb02 => omega
    case hb12 => omega
    intro h' tk' m' nx' F'' N''
    k_steps)
end
end Mine
theorem PySem.Challenge.cw_pb0523_01_holds : PySem.Challenge.rw_pb0523_01.Holds :=
  Mine.main
