import PyProof.Rows.All
import Wide.All
import OpenK.AllK
import Wide.FinOn
import PySem.Challenge.RW_no0040_01
open PySem PySem.W PyProof.Rows
set_option Elab.async false
namespace Mine
theorem cut_at : ∀ {l : List Value} {k : Nat} {y : Value}, l[k]? = some y → kl_cut l k = some (l.take k, y, l.drop (k + 1))
  | [], _, _, h => by simp at h
  | x :: r, 0, y, h => by simp at h; subst h; rfl
  | x :: r, k + 1, y, h => by
    have h' : r[k]? = some y := by simpa using h
    show (match kl_cut r k with | some (p, y, q) => some (x :: p, y, q) | none => none) = _
    rw [cut_at h']; rfl
theorem pop_any {prog : Program} {w : World} {A : Around} {E : Value → Shared → Prop} {s : Shared} {h₀ : Heap} {L D : Addr} {m : Str → Option Value} {news news' : List (Addr × Obj)} {n : Nat} {vs : List Value} {i : Int} {u : Tok} {y : Value} {Q : Value → Shared → Prop}
    (F : Fr h₀ L s.heap m) (N : News h₀ L s.heap news) (h0 : 0 ≤ i) (h1 : i < vs.length) (hz : vs.length ≤ 1000) (hy : vs[i.toNat]? = some y)
    (U : Upd D (listOf vs.toArray n) (listOf (vs.eraseIdx i.toNat).toArray (n + 1)) news news') (h : ∀ h', Fr h₀ L h' m → News h₀ L h' news' → Q y { s with heap := h' }) :
    wpAny (model prog w) A (call (.builtin "list.pop") [.ref D, .int i u]) Q E s := by
  have e : vs.eraseIdx i.toNat = vs.take i.toNat ++ vs.drop (i.toNat + 1) := List.eraseIdx_eq_take_drop_succ ..
  rw [e] at U
  refine kl_popAt F N ?_ ?_ (k := i.toNat) (y := y) (cut_at (l := vs) hy) U (by show vs.length ≤ _; rw [sizeLine_eq]; omega) h
  · unfold Builtin.List.listFitsIndex
    have a : -(2 ^ 63 : Int) ≤ i := by omega
    have b : i < 2 ^ 63 := by omega
    simp only [Bool.and_eq_true, decide_eq_true_eq]
    exact ⟨a, b⟩
  · exact seqIndex_at h0 (by rw [List.size_toArray]; exact h1)

section
variable {prog : Program} {w : World} {A : Around} {E : Value → Shared → Prop} {s : Shared} {env : Env} {h₀ : Heap} {x : Str} {target : Expr} {body : List Stmt} {Q : Flow → Shared → Prop}
/-- a for over a range, by an invariant over the names and the ledger -/
theorem range_loop {r : Addr} {b₀ : Int} {t₀ u₀ v₀ : Tok} {n : Nat} {m₀ : Str → Option Value} {news : List (Addr × Obj)} (J : Nat → (Str → Option Value) → List (Addr × Obj) → Prop)
    (hh : A.handled = none) (hr : IsRange s.heap r 0 b₀ 1 t₀ u₀ v₀) (hsmall : Builtin.Range.small 0 b₀ 1 = true) (hsz : Builtin.Range.rangeSize 0 b₀ 1 = (n : Int)) (F : Fr h₀ env.locals s.heap m₀) (N : News h₀ env.locals s.heap news) (hj : J 0 m₀ news)
    (turn : ∀ (i : Nat) t m₁ nx h tk own, i < n → OwnOff own (nx.map (·.1)) → J i m₁ nx → Fr h₀ env.locals h (fun y => if y = x then some (.int (i : Int) t) else m₁ y) → News h₀ env.locals h (nx ++ own) →
      wpAny (model prog w) A (execs body env) (InvPostG h₀ env.locals (J (i + 1)) own { s with heap := h, toks := tk } Q) E { s with heap := h, toks := tk })
    (done : ∀ m₁ nx h tk, J n m₁ nx → Fr h₀ env.locals h m₁ → News h₀ env.locals h nx → Q .next { s with heap := h, toks := tk }) :
    wpAny (model prog w) A (pyIter (.ref r)) (fun it s₂ => LoopAtV prog w A h₀ env x body Q E it s₂) E s := by
  refine wpAny_pyIter_range hr hsmall ?_
  have W : Walks prog w A s.heap.objs.size [s.heap.objs.size] [s.heap.objs.size] n (fun i v => i < n ∧ ∃ t, v = .int (0 + i * 1) t)
      (fun i h => IsRangeIter h s.heap.objs.size (0 + (i : Nat) * 1) ((n : Int) - (i : Nat)) 1) := (Walks.range hh _ 0 1 n).bound
  refine kdr_loop J W (fun _ h => h) (fun _ h => h) ?_ ?_ ?_ ?_ (by show IsRangeIter _ _ _ _ _; rw [hsz]; simpa using Heap.get?_push_size _ rfl) (F.push _) (fun p hp => ⟨Heap.get?_push_of_some _ (N p hp).1, (N p hp).2⟩) hj ?_ done
  · intro i h hi b hb
    rw [List.mem_singleton.mp hb]
    exact ⟨_, hi⟩
  · intro hm
    exact absurd F.ns.lt ((List.mem_singleton.mp hm) ▸ Nat.lt_irrefl _)
  · intro b hb
    rw [List.mem_singleton.mp hb]
    exact next_is_new F
  · intro p hp hI
    exact absurd (Heap.lt_size (N p hp).1) ((List.mem_singleton.mp hI) ▸ Nat.lt_irrefl _)
  · rintro i v m₁ nx h tk own hi ⟨_, t, rfl⟩ hoff hJ F₁ N₁
    have e1 : (0 : Int) + (i : Int) * 1 = (i : Int) := by omega
    rw [e1] at F₁
    exact turn i t m₁ nx h tk own hi hoff hJ F₁ N₁

/-- a for over a list of the ledger, the target anything, by an invariant over the names and the ledger -/
theorem turns_list {l : Addr} {vs : List Value} {nn : Nat} {m₀ : Str → Option Value} {news : List (Addr × Obj)} (J : Nat → (Str → Option Value) → List (Addr × Obj) → Prop)
    (hh : A.handled = none) (hl : (l, listOf vs.toArray nn) ∈ news) (F : Fr h₀ env.locals s.heap m₀) (N : News h₀ env.locals s.heap news) (hj : J 0 m₀ news)
    (turn : ∀ i v m₁ news₁ h tk own, vs[i]? = some v → OwnOff own (news₁.map (·.1)) → (l, listOf vs.toArray nn) ∈ news₁ → J i m₁ news₁ → Fr h₀ env.locals h m₁ → News h₀ env.locals h (news₁ ++ own) →
      wpAny (model prog w) A (assign target env v) (fun _ s₃ => wpAny (model prog w) A (execs body env) (InvPostG h₀ env.locals (fun m' nx => (l, listOf vs.toArray nn) ∈ nx ∧ J (i + 1) m' nx) own { s with heap := h, toks := tk } Q) E s₃) E { s with heap := h, toks := tk })
    (done : ∀ m₁ news₁ h tk, J vs.length m₁ news₁ → Fr h₀ env.locals h m₁ → News h₀ env.locals h news₁ → Q .next { s with heap := h, toks := tk }) :
    wpAny (model prog w) A (pyIter (.ref l)) (fun it s₂ => TurnsAt prog w A h₀ env target body Q E it s₂) E s := by
  have hol : s.heap.get? l = some (listOf vs.toArray nn) := (N _ hl).1
  have hls : s.heap.IsList l vs.toArray := ⟨_, hol, rfl, nn, rfl⟩
  have hne : l ≠ s.heap.objs.size := Nat.ne_of_lt (Heap.lt_size hol)
  refine wpAny_pyIter_list hls ?_
  have W := KTurns.ofWalks (target := target) (Walks.list (prog := prog) (w := w) hh s.heap.objs.size l hne vs.toArray) fun i v s Q E st q => letGo_listiter st.1 q
  have hlen : vs.toArray.size = vs.length := by simp
  rw [hlen] at W
  refine ⟨_, _, _, vs.length, _, _, _, m₀, news, (fun i m nx => (l, listOf vs.toArray nn) ∈ nx ∧ J i m nx), rfl, W, ?_, ?_, ?_, ⟨⟨_, Heap.get?_push_size _ rfl, rfl, rfl⟩, hls.at fun o e => Heap.get?_push_of_some _ e⟩, F.push _, (fun p hp => ⟨Heap.get?_push_of_some _ (N p hp).1, (N p hp).2⟩), ⟨hl, hj⟩, ?_, ?_⟩
  · intro hm
    rcases List.mem_cons.mp hm with e | hm
    · exact absurd F.ns.lt (e ▸ Nat.lt_irrefl _)
    · exact (N _ hl).2.1 ((List.mem_singleton.mp hm).symm)
  · intro b hb
    rw [List.mem_singleton.mp hb]
    exact next_is_new F
  · intro p hp hI
    exact absurd (Heap.lt_size (N p hp).1) ((List.mem_singleton.mp hI) ▸ Nat.lt_irrefl _)
  · rintro i v m₁ news₁ hh' tk' own hin hP ⟨hl₁, hJ⟩ hoff hown hget hfp hst F₁ N₁
    have hP' : vs[i]? = some v := by simpa using hP
    have hI0 : h₀.get? s.heap.objs.size = none := next_is_new F
    obtain ⟨⟨oI, hoI, _⟩, _⟩ := id hst
    have hIown : (s.heap.objs.size, oI) ∈ own.filter fun p => decide (p.1 = s.heap.objs.size) := List.mem_filter.mpr ⟨hfp _ (List.mem_cons.mpr (.inl rfl)) hI0 _ hoI, by simp⟩
    have hsep : OwnOff (own.filter fun p => decide (p.1 = s.heap.objs.size)) (news₁.map (·.1)) := by
      intro p hp b hb e
      obtain ⟨q, hq, rfl⟩ := List.mem_map.mp hb
      have h1 : p.1 = s.heap.objs.size := by simpa using (List.mem_filter.mp hp).2
      exact hoff q hq (List.mem_singleton.mpr (e ▸ h1))
    have N₂ : News h₀ env.locals hh' (news₁ ++ own.filter fun p => decide (p.1 = s.heap.objs.size)) := fun p hp => N₁ p ((List.mem_append.mp hp).elim (fun h => List.mem_append.mpr (.inr h)) fun h => List.mem_append.mpr (.inl ((List.mem_filter.mp h).1)))
    have hlo : hh'.get? l = some (listOf vs.toArray nn) := (N₁ _ (List.mem_append.mpr (.inr hl₁))).1
    refine wpAny_mono (turn i v m₁ news₁ hh' tk' _ hP' hsep hl₁ hJ F₁ N₂) (fun _ s₃ p₃ => wpAny_mono p₃ (fun f s₂ p => ?_) fun _ _ e => e) fun _ _ e => e
    have fin : InvEndG h₀ env.locals (fun m' nx => (l, listOf vs.toArray nn) ∈ nx ∧ J (i + 1) m' nx) (own.filter fun p => decide (p.1 = s.heap.objs.size)) { s with heap := hh', toks := tk' } s₂ →
        LoopStepU h₀ env.locals [s.heap.objs.size] own (fun m nx => (l, listOf vs.toArray nn) ∈ nx ∧ J (i + 1) m nx) { s with heap := hh', toks := tk' } .next s₂ := by
      rintro ⟨h', tk, m', news', nx, e, F', N', hn, ho, ha, hm⟩
      refine ⟨rfl, h', tk, m', nx, e, F', fun p hp => ?_, fun p hp hq => ?_, hm⟩
      · rcases List.mem_append.mp hp with h | h
        · by_cases hI : p.1 = s.heap.objs.size
          · exact N' p (ho p (List.mem_filter.mpr ⟨h, by simpa using hI⟩))
          · have h1 : p.1 = l := by
              rcases List.mem_cons.mp (hown p h) with h2 | h2
              · exact absurd h2 hI
              · exact List.mem_singleton.mp h2
            have h2 : hh'.get? p.1 = some p.2 := hget p h
            rw [h1, hlo] at h2
            have h3 : p = (l, listOf vs.toArray nn) := Prod.ext h1 (Option.some.inj h2).symm
            rw [h3]
            exact N' _ (hn _ hm.1)
        · exact N' p (hn p h)
      · exact ha _ hIown p.1 (List.mem_map.mpr ⟨p, hp, rfl⟩) (List.mem_singleton.mp hq).symm
    cases f with
    | ret v => exact .ret p
    | brk => exact .brk p
    | next => exact .next (fin p)
    | cont => exact .cont (fin p)
  · rintro h' tk m' news' F' N' _ ⟨_, hJ⟩
    exact done m' news' h' tk hJ F' N'
end
/-- a list of the ledger at a place in bounds: the walk goes on with any of its items -/
theorem pick_any {prog : Program} {w : World} {A : Around} {E : Value → Shared → Prop} {s : Shared} {h₀ : Heap} {L D : Addr} {news : List (Addr × Obj)} {n : Nat} {its : Array Value} {k : Int} {u : Tok} {value slice : PySem.Expr} {Q : Value → Shared → Prop}
    (N : News h₀ L s.heap news) (hm : (D, listOf its n) ∈ news) (h0 : 0 ≤ k) (h1 : k < its.size) (hz : its.size ≤ 1000) (h : ∀ v, v ∈ its.toList → Q v s)
    (hs : subscripted slice false (.ref D) (.int k u) = operate [.ref D, .int k u] (getItem (.ref D) (.int k u)) := by with_unfolding_all rfl) :
    wpAny (model prog w) A (subscriptTail value slice (.ref D) (.int k u)) Q E s := by
  have hl : s.heap.IsList D its := News.isList N hm
  have hk : k.toNat < its.size := by omega
  have hx : its[k.toNat]? = some its[k.toNat] := Array.getElem?_eq_getElem hk
  exact tail_any hl.typeIs slot_list_getitem.lookup (wpAny_getItem_list hl h0 (by omega) hx (h _ (by simp))) hs
def FirstOk (v : Value) : Prop := v = .none ∨ ∃ k t, v = .int k t ∧ 0 ≤ k
theorem firstOk_of {t1 t2 t3 : Tok} {v : Value} (h : v ∈ [Value.none, .int 0 t1, .int 1000 t2, .int 1500 t3]) : FirstOk v := by
  simp only [List.mem_cons, List.not_mem_nil, or_false] at h
  rcases h with rfl | rfl | rfl | rfl
  · exact .inl rfl
  · exact .inr ⟨_, _, rfl, by decide⟩
  · exact .inr ⟨_, _, rfl, by decide⟩
  · exact .inr ⟨_, _, rfl, by decide⟩
end Mine
namespace Mine
/-- a pair of two ints, as a tuple of the ledger -/
inductive PairsIn (news : List (Addr × Obj)) : List Value → List (Int × Int) → Prop
  | nil : PairsIn news [] []
  | cons {a : Addr} {n : Nat} {x y : Int} {tx ty : Tok} {vs : List Value} {ds : List (Int × Int)} : (a, ({ cls := .type "tuple", data := .seq #[.int x tx, .int y ty] n } : Obj)) ∈ news → PairsIn news vs ds → PairsIn news (.ref a :: vs) ((x, y) :: ds)
theorem PairsIn.mono {news news' : List (Addr × Obj)} (hs : ∀ p ∈ news, p ∈ news') : ∀ {vs : List Value} {ds : List (Int × Int)}, PairsIn news vs ds → PairsIn news' vs ds
  | _, _, .nil => .nil
  | _, _, .cons h r => .cons (hs _ h) (r.mono hs)
theorem PairsIn.length {news : List (Addr × Obj)} : ∀ {vs : List Value} {ds : List (Int × Int)}, PairsIn news vs ds → vs.length = ds.length
  | _, _, .nil => rfl
  | _, _, .cons _ r => by simp [r.length]
theorem PairsIn.append {news : List (Addr × Obj)} {ws : List Value} {es : List (Int × Int)} (k : PairsIn news ws es) : ∀ {vs : List Value} {ds : List (Int × Int)}, PairsIn news vs ds → PairsIn news (vs ++ ws) (ds ++ es)
  | _, _, .nil => k
  | _, _, .cons h r => .cons h (append k r)
theorem PairsIn.get {news : List (Addr × Obj)} : ∀ {vs : List Value} {ds : List (Int × Int)}, PairsIn news vs ds → ∀ {i : Nat} {v : Value}, vs[i]? = some v →
    ∃ a n x y tx ty, v = .ref a ∧ ds[i]? = some (x, y) ∧ (a, ({ cls := .type "tuple", data := .seq #[.int x tx, .int y ty] n } : Obj)) ∈ news
  | _, _, .nil, _, _, h => by simp at h
  | _, _, .cons (a := a) (n := n) (x := x) (y := y) (tx := tx) (ty := ty) hm r, 0, v, h => ⟨a, n, x, y, tx, ty, by simpa using h.symm, rfl, hm⟩
  | _, _, .cons hm r, i + 1, v, h => by
    obtain ⟨a, n, x, y, tx, ty, h1, h2, h3⟩ := r.get (i := i) (by simpa using h)
    exact ⟨a, n, x, y, tx, ty, h1, by simpa using h2, h3⟩

/-- what is known of the lost ones behind i packets -/
structure LostOk (ld : List (Int × Int)) (i : Nat) (at_ : Int) : Prop where
  len : ld.length ≤ i
  each : ∀ p ∈ ld, 0 ≤ p.1 ∧ p.1 < i ∧ 0 ≤ p.2 ∧ p.2 ≤ at_
  pw : ld.Pairwise fun p q => p.1 < q.1 ∧ p.2 ≤ q.2
  lo : 1000 ≤ at_
  hi : at_ ≤ 1000 + 1100 * i
theorem LostOk.start : LostOk [] 0 1000 := ⟨Nat.le_refl _, fun _ h => (nomatch h), .nil, by omega, by omega⟩
theorem LostOk.next {ld : List (Int × Int)} {i : Nat} {a d : Int} (h : LostOk ld i a) (h0 : 0 ≤ d) (h1 : d < 12) : LostOk ld (i + 1) (a + 100 * d) :=
  ⟨Nat.le_succ_of_le h.len, fun p hp => by have := h.each p hp; omega, h.pw, by have := h.lo; omega, by have := h.hi; omega⟩
theorem LostOk.more {ld : List (Int × Int)} {i : Nat} {a d : Int} (h : LostOk ld i a) (h0 : 0 ≤ d) (h1 : d < 12) : LostOk (ld ++ [((i : Int), a + 100 * d)]) (i + 1) (a + 100 * d) := by
  have hl := h.lo
  refine ⟨by have := h.len; simp; omega, fun p hp => ?_, ?_, by omega, by have := h.hi; omega⟩
  · rcases List.mem_append.mp hp with hp | hp
    · have := h.each p hp; omega
    · rw [List.mem_singleton.mp hp]; show 0 ≤ (i : Int) ∧ (i : Int) < ((i + 1 : Nat) : Int) ∧ 0 ≤ a + 100 * d ∧ a + 100 * d ≤ a + 100 * d; omega
  · refine List.pairwise_append.mpr ⟨h.pw, List.pairwise_singleton _ _, fun p hp q hq => ?_⟩
    rw [List.mem_singleton.mp hq]
    have := h.each p hp
    show p.1 < (i : Int) ∧ p.2 ≤ a + 100 * d
    omega

structure S1 where
  sd : Int
  st : Tok
  vs : List Value
  ns : List Int
  nv : Nat
  lv : List Value
  nl : Nat
  ld : List (Int × Int)
  av : List Value
  as_ : List Int
  na : Nat
  at_ : Int
  tt : Tok
structure S1.Ok (c : S1) (tl : List (Addr × Obj)) (i : Nat) : Prop where
  s0 : 0 ≤ c.sd
  s1 : c.sd < 2147483647
  vi : IntsAre c.vs c.ns
  vl : c.vs.length ≤ 64
  li : PairsIn tl c.lv c.ld
  lk : LostOk c.ld i c.at_
  ai : IntsAre c.av c.as_
  al : c.as_.length ≤ i
  dj : ∀ a ∈ c.as_, a < (i : Int) ∧ ∀ p ∈ c.ld, p.1 ≠ a
abbrev led1 (b l lo ao : Addr) (nb : Nat) (c1 c0 : Addr × Obj) (c : S1) (tl : List (Addr × Obj)) : List (Addr × Obj) :=
  (b, listOf #[.ref l, .int c.sd c.st] nb) :: (l, listOf c.vs.toArray c.nv) :: (lo, listOf c.lv.toArray c.nl) :: (ao, listOf c.av.toArray c.na) :: c1 :: c0 :: tl
abbrev map1 (m₀ u : Str → Option Value) (c : S1) : Str → Option Value := fun y => if y = Str.ofString "at" then some (.int c.at_ c.tt) else if y = Str.ofString "fate" then u y else if y = Str.ofString "number" then u y else m₀ y
def J1 (b l lo ao : Addr) (nb : Nat) (c1 c0 : Addr × Obj) (m₀ : Str → Option Value) (i : Nat) (m : Str → Option Value) (nx : List (Addr × Obj)) : Prop :=
  ∃ (c : S1) (tl : List (Addr × Obj)) (u : Str → Option Value), nx = led1 b l lo ao nb c1 c0 c tl ∧ OwnOff tl [b, l, lo, ao, c1.1, c0.1] ∧ c.Ok tl i ∧ m = map1 m₀ u c
section
variable {prog : Program} {w : World} {A : Around} {E : Value → Shared → Prop} {s : Shared} {env : Env} {h₀ : Heap} {body : List Stmt} {Q : Flow → Shared → Prop} {b l lo ao : Addr} {nb nv na nl : Nat} {c1 c0 : Addr × Obj} {m₀ : Str → Option Value} {sd : Int} {st : Tok} {vs : List Value} {ns : List Int} {t0 : Tok}
theorem loop1 {r : Addr} {b₀ : Int} {t₀ u₀ v₀ : Tok} {d1 d2 d3 : Addr × Obj}
    (hh : A.handled = none) (hr : IsRange s.heap r 0 b₀ 1 t₀ u₀ v₀) (hb0 : 0 ≤ b₀) (hb1 : b₀ < 100) (F : Fr h₀ env.locals s.heap m₀) (N : News h₀ env.locals s.heap [d1, (ao, listOf #[] na), (lo, listOf #[] nl), (b, listOf #[.ref l, .int sd st] nb), (l, listOf vs.toArray nv), d2, d3, c1, c0])
    (hat : m₀ (Str.ofString "at") = some (.int 1000 t0)) (hs0 : 0 ≤ sd) (hs1 : sd < 2147483647) (hvi : IntsAre vs ns) (hvl : vs.length ≤ 64)
    (turn : ∀ (i : Nat) (c : S1) (tl : List (Addr × Obj)) (u : Str → Option Value) t h tk own, (i : Int) < b₀ → OwnOff own ((led1 b l lo ao nb c1 c0 c tl).map (·.1)) → OwnOff (tl ++ own) [b, l, lo, ao, c1.1, c0.1] → OwnOff tl [b, l, lo, ao, c1.1, c0.1] → c.Ok tl i →
      Fr h₀ env.locals h (fun y => if y = Str.ofString "number" then some (.int (i : Int) t) else map1 m₀ u c y) → News h₀ env.locals h (led1 b l lo ao nb c1 c0 c (tl ++ own)) →
      wpAny (model prog w) A (execs body env) (InvPostG h₀ env.locals (J1 b l lo ao nb c1 c0 m₀ (i + 1)) own { s with heap := h, toks := tk } Q) E { s with heap := h, toks := tk })
    (done : ∀ (c : S1) (tl : List (Addr × Obj)) (u : Str → Option Value) h tk, OwnOff tl [b, l, lo, ao, c1.1, c0.1] → c.Ok tl b₀.toNat → Fr h₀ env.locals h (map1 m₀ u c) → News h₀ env.locals h (led1 b l lo ao nb c1 c0 c tl) → Q .next { s with heap := h, toks := tk }) :
    wpAny (model prog w) A (pyIter (.ref r)) (fun it s₂ => LoopAtV prog w A h₀ env (Str.ofString "number") body Q E it s₂) E s := by
  refine range_loop (n := b₀.toNat) (J1 b l lo ao nb c1 c0 m₀) hh hr (small_one (by omega) (by omega) (by omega) (by omega)) (by rw [rangeSize_nat, Int.sub_zero]) F (news := led1 b l lo ao nb c1 c0 ⟨sd, st, vs, ns, nv, [], nl, [], [], [], na, 1000, t0⟩ []) (fun p hp => N p ?_) ⟨⟨sd, st, vs, ns, nv, [], nl, [], [], [], na, 1000, t0⟩, [], m₀, rfl, fun _ h => (nomatch h), ⟨hs0, hs1, hvi, hvl, .nil, .start, .nil, Nat.le_refl _, fun _ h => (nomatch h)⟩, ?_⟩ ?_ ?_
  · simp only [led1, List.mem_cons] at hp ⊢
    rcases hp with h | h | h | h | h | h | h
    · exact .inr (.inr (.inr (.inl h)))
    · exact .inr (.inr (.inr (.inr (.inl h))))
    · exact .inr (.inr (.inl h))
    · exact .inr (.inl h)
    · exact .inr (.inr (.inr (.inr (.inr (.inr (.inr (.inl h)))))))
    · exact .inr (.inr (.inr (.inr (.inr (.inr (.inr (.inr (.inl h))))))))
    · cases h
  · funext y
    show m₀ y = if y = Str.ofString "at" then some (.int 1000 t0) else if y = Str.ofString "fate" then m₀ y else if y = Str.ofString "number" then m₀ y else m₀ y
    by_cases h1 : y = Str.ofString "at"
    · rw [if_pos h1, h1, hat]
    · rw [if_neg h1]; simp
  · rintro i t m₁ nx h tk own hi hoff ⟨c, tl, u, rfl, ht, hc, rfl⟩ F₁ N₁
    refine turn i c tl u t h tk own (by omega) hoff ?_ ht hc F₁ N₁
    intro p hp x hx
    rcases List.mem_append.mp hp with hp | hp
    · exact ht p hp x hx
    · refine hoff p hp x ?_
      simp only [List.map_cons, List.mem_cons] at hx ⊢
      rcases hx with h | h | h | h | h | h | h
      · exact .inl h
      · exact .inr (.inl h)
      · exact .inr (.inr (.inl h))
      · exact .inr (.inr (.inr (.inl h)))
      · exact .inr (.inr (.inr (.inr (.inl h))))
      · exact .inr (.inr (.inr (.inr (.inr (.inl h)))))
      · cases h
  · rintro m₁ nx h tk ⟨c, tl, u, rfl, ht, hc, rfl⟩ F₁ N₁
    exact done c tl u h tk ht hc F₁ N₁
theorem OwnOff.consMap {own : List (Addr × Obj)} {adr : List Addr} {a : Addr} (h : OwnOff own adr) (ha : ∀ p ∈ own, p.1 ≠ a) : OwnOff own (a :: adr) := fun p hp b hb => by
  rcases List.mem_cons.mp hb with rfl | hb
  · exact ha p hp
  · exact h p hp b hb
variable {L : Addr} {h' : Heap} {m' u : Str → Option Value} {tl own : List (Addr × Obj)} {i tk : Nat} {c : S1} {r : Int} {tt t : Tok} {s₁ : Shared}
theorem allLt_at {d : Addr} : ∀ {l : List (Addr × Obj)}, AllLt d l → ∀ p ∈ l, @LT.lt Nat _ p.1 d
  | [], _, _, h => nomatch h
  | _ :: _, h, p, hp => by
    rcases List.mem_cons.mp hp with rfl | hp
    · exact h.1
    · exact allLt_at h.2 p hp
theorem end1_gen {news' : List (Addr × Obj)} (c' : S1) (tl' : List (Addr × Obj)) (F : Fr h₀ L h' m') (N : News h₀ L h' news') (hn : ∀ p ∈ led1 b l lo ao nb c1 c0 c' tl', p ∈ news') (ho : ∀ p ∈ own, p ∈ news')
    (hoff : OwnOff own ((led1 b l lo ao nb c1 c0 c' tl').map (·.1))) (hoff3 : OwnOff tl' [b, l, lo, ao, c1.1, c0.1]) (hok : c'.Ok tl' (i + 1))
    (hat : m' (Str.ofString "at") = some (.int c'.at_ c'.tt)) (hm : ∀ y, y ≠ Str.ofString "at" → y ≠ Str.ofString "fate" → y ≠ Str.ofString "number" → m' y = m₀ y) :
    InvEndG h₀ L (J1 b l lo ao nb c1 c0 m₀ (i + 1)) own s₁ { s₁ with heap := h', toks := tk } := by
  refine InvEndG.intro F N (nx := led1 b l lo ao nb c1 c0 c' tl') ⟨c', tl', m', rfl, hoff3, hok, ?_⟩ hoff hn ho
  funext y
  unfold map1
  by_cases h1 : y = Str.ofString "at"
  · rw [if_pos h1, h1, hat]
  · by_cases h2 : y = Str.ofString "fate"
    · rw [if_neg h1, if_pos h2]
    · by_cases h3 : y = Str.ofString "number"
      · rw [if_neg h1, if_neg h2, if_pos h3]
      · rw [if_neg h1, if_neg h2, if_neg h3]; exact hm y h1 h2 h3
theorem own_in {x1 x2 x3 x4 : Addr × Obj} : ∀ p ∈ own, p ∈ x1 :: x2 :: x3 :: x4 :: c1 :: c0 :: (tl ++ own) := fun _ hp => .tail _ (.tail _ (.tail _ (.tail _ (.tail _ (.tail _ (List.mem_append.mpr (.inr hp)))))))
theorem led_in {x1 x2 x3 x4 : Addr × Obj} : ∀ p ∈ x1 :: x2 :: x3 :: x4 :: c1 :: c0 :: tl, p ∈ x1 :: x2 :: x3 :: x4 :: c1 :: c0 :: (tl ++ own) := fun p hp => by
  simp only [List.mem_cons, List.mem_append] at hp ⊢
  rcases hp with h | h | h | h | h | h | h
  · exact .inl h
  · exact .inr (.inl h)
  · exact .inr (.inr (.inl h))
  · exact .inr (.inr (.inr (.inl h)))
  · exact .inr (.inr (.inr (.inr (.inl h))))
  · exact .inr (.inr (.inr (.inr (.inr (.inl h)))))
  · exact .inr (.inr (.inr (.inr (.inr (.inr (.inl h))))))
theorem end1_none (F : Fr h₀ L h' m') (N : News h₀ L h' ((b, listOf #[.ref l, .int sd st] nb) :: (l, listOf vs.toArray nv) :: (lo, listOf c.lv.toArray nl) :: (ao, listOf c.av.toArray na) :: c1 :: c0 :: (tl ++ own)))
    (hoff : OwnOff own ((led1 b l lo ao nb c1 c0 c tl).map (·.1))) (hoff3 : OwnOff tl [b, l, lo, ao, c1.1, c0.1]) (hok : c.Ok tl i) (hs0 : 0 ≤ sd) (hs1 : sd < 2147483647) (hvi : IntsAre vs ns) (hvl : vs.length ≤ 64) (hr0 : 0 ≤ r) (hr1 : r < 12)
    (hat : m' (Str.ofString "at") = some (.int (c.at_ + 100 * r) tt)) (hm : ∀ y, y ≠ Str.ofString "at" → y ≠ Str.ofString "fate" → y ≠ Str.ofString "number" → m' y = m₀ y) :
    InvEndG h₀ L (J1 b l lo ao nb c1 c0 m₀ (i + 1)) own s₁ { s₁ with heap := h', toks := tk } :=
  end1_gen ⟨sd, st, vs, ns, nv, c.lv, nl, c.ld, c.av, c.as_, na, c.at_ + 100 * r, tt⟩ tl F N led_in own_in hoff hoff3 ⟨hs0, hs1, hvi, hvl, hok.li, hok.lk.next hr0 hr1, hok.ai, Nat.le_succ_of_le hok.al, fun a ha => ⟨by have := (hok.dj a ha).1; omega, (hok.dj a ha).2⟩⟩ hat hm
theorem end1_acked (F : Fr h₀ L h' m') (N : News h₀ L h' ((b, listOf #[.ref l, .int sd st] nb) :: (l, listOf vs.toArray nv) :: (lo, listOf c.lv.toArray nl) :: (ao, listOf (c.av.toArray.push (.int (i : Int) t)) na) :: c1 :: c0 :: (tl ++ own)))
    (hoff : OwnOff own ((led1 b l lo ao nb c1 c0 c tl).map (·.1))) (hoff3 : OwnOff tl [b, l, lo, ao, c1.1, c0.1]) (hok : c.Ok tl i) (hs0 : 0 ≤ sd) (hs1 : sd < 2147483647) (hvi : IntsAre vs ns) (hvl : vs.length ≤ 64) (hr0 : 0 ≤ r) (hr1 : r < 12)
    (hat : m' (Str.ofString "at") = some (.int (c.at_ + 100 * r) tt)) (hm : ∀ y, y ≠ Str.ofString "at" → y ≠ Str.ofString "fate" → y ≠ Str.ofString "number" → m' y = m₀ y) :
    InvEndG h₀ L (J1 b l lo ao nb c1 c0 m₀ (i + 1)) own s₁ { s₁ with heap := h', toks := tk } := by
  have e : c.av.toArray.push (Value.int (i : Int) t) = (c.av ++ [Value.int (i : Int) t]).toArray := by simp
  rw [e] at N
  refine end1_gen ⟨sd, st, vs, ns, nv, c.lv, nl, c.ld, c.av ++ [.int (i : Int) t], c.as_ ++ [(i : Int)], na, c.at_ + 100 * r, tt⟩ tl F N led_in own_in hoff hoff3
    ⟨hs0, hs1, hvi, hvl, hok.li, hok.lk.next hr0 hr1, hok.ai.append (IntsAre.cons (i : Int) t .nil), by have := hok.al; simp only [List.length_append, List.length_cons, List.length_nil]; omega, fun a ha => ?_⟩ hat hm
  rcases List.mem_append.mp ha with ha | ha
  · exact ⟨by have := (hok.dj a ha).1; omega, (hok.dj a ha).2⟩
  · rw [List.mem_singleton.mp ha]
    exact ⟨by omega, fun p hp e => by have := hok.lk.each p hp; omega⟩
theorem end1_lost {T : Addr} {nT : Nat} {tn : Tok} (F : Fr h₀ L h' m') (N : News h₀ L h' ((T, ({ cls := .type "tuple", data := .seq #[.int (i : Int) tn, .int (c.at_ + 100 * r) t] nT } : Obj)) :: (b, listOf #[.ref l, .int sd st] nb) :: (l, listOf vs.toArray nv) :: (lo, listOf (c.lv.toArray.push (.ref T)) nl) :: (ao, listOf c.av.toArray na) :: c1 :: c0 :: (tl ++ own)))
    (hT9 : @LT.lt Nat _ b T ∧ @LT.lt Nat _ l T ∧ @LT.lt Nat _ lo T ∧ @LT.lt Nat _ ao T ∧ @LT.lt Nat _ c1.1 T ∧ @LT.lt Nat _ c0.1 T ∧ AllLt T (tl ++ own))
    (hoff : OwnOff own ((led1 b l lo ao nb c1 c0 c tl).map (·.1))) (hoff3 : OwnOff tl [b, l, lo, ao, c1.1, c0.1]) (hok : c.Ok tl i) (hs0 : 0 ≤ sd) (hs1 : sd < 2147483647) (hvi : IntsAre vs ns) (hvl : vs.length ≤ 64) (hr0 : 0 ≤ r) (hr1 : r < 12)
    (hat : m' (Str.ofString "at") = some (.int (c.at_ + 100 * r) tt)) (hm : ∀ y, y ≠ Str.ofString "at" → y ≠ Str.ofString "fate" → y ≠ Str.ofString "number" → m' y = m₀ y) :
    InvEndG h₀ L (J1 b l lo ao nb c1 c0 m₀ (i + 1)) own s₁ { s₁ with heap := h', toks := tk } := by
  have hT : ∀ a ∈ [b, l, lo, ao, c1.1, c0.1], T ≠ a := fun a ha => by
    obtain ⟨h1, h2, h3, h4, h5, h6, _⟩ := hT9
    simp only [List.mem_cons, List.not_mem_nil, or_false] at ha
    rcases ha with rfl | rfl | rfl | rfl | rfl | rfl
    · exact Nat.ne_of_gt h1
    · exact Nat.ne_of_gt h2
    · exact Nat.ne_of_gt h3
    · exact Nat.ne_of_gt h4
    · exact Nat.ne_of_gt h5
    · exact Nat.ne_of_gt h6
  have hTo : ∀ p ∈ own, p.1 ≠ T := fun p hp => Nat.ne_of_lt (allLt_at hT9.2.2.2.2.2.2 p (List.mem_append.mpr (.inr hp)))
  have e : c.lv.toArray.push (Value.ref T) = (c.lv ++ [Value.ref T]).toArray := by simp
  rw [e] at N
  refine end1_gen ⟨sd, st, vs, ns, nv, c.lv ++ [.ref T], nl, c.ld ++ [((i : Int), c.at_ + 100 * r)], c.av, c.as_, na, c.at_ + 100 * r, tt⟩ ((T, ({ cls := .type "tuple", data := .seq #[.int (i : Int) tn, .int (c.at_ + 100 * r) t] nT } : Obj)) :: tl) F N (fun p hp => ?_) (fun p hp => .tail _ (own_in p hp)) (fun p hp a ha => ?_) (fun p hp a ha => ?_)
    ⟨hs0, hs1, hvi, hvl, PairsIn.append (PairsIn.cons (a := T) (x := (i : Int)) (y := c.at_ + 100 * r) (tx := tn) (ty := t) (n := nT) (.head _) .nil) (hok.li.mono fun _ h => .tail _ h), hok.lk.more hr0 hr1, hok.ai, Nat.le_succ_of_le hok.al, fun a ha => ⟨by have := (hok.dj a ha).1; omega, fun p hp => ?_⟩⟩ hat hm
  · simp only [List.mem_cons, List.mem_append] at hp ⊢
    rcases hp with h | h | h | h | h | h | h | h
    · exact .inr (.inl h)
    · exact .inr (.inr (.inl h))
    · exact .inr (.inr (.inr (.inl h)))
    · exact .inr (.inr (.inr (.inr (.inl h))))
    · exact .inr (.inr (.inr (.inr (.inr (.inl h)))))
    · exact .inr (.inr (.inr (.inr (.inr (.inr (.inl h))))))
    · exact .inl h
    · exact .inr (.inr (.inr (.inr (.inr (.inr (.inr (.inl h)))))))
  · simp only [List.map_cons, List.mem_cons] at ha
    rcases ha with h | h | h | h | h | h | h | h
    · exact hoff p hp a (by simp [h])
    · exact hoff p hp a (by simp [h])
    · exact hoff p hp a (by simp [h])
    · exact hoff p hp a (by simp [h])
    · exact hoff p hp a (by simp [h])
    · exact hoff p hp a (by simp [h])
    · rw [h]; exact hTo p hp
    · exact hoff p hp a (by simp only [List.map_cons, List.mem_cons]; exact .inr (.inr (.inr (.inr (.inr (.inr h))))))
  · rcases List.mem_cons.mp hp with rfl | hp
    · exact hT a ha
    · exact hoff3 p hp a ha
  · have h1 := (hok.dj a ha).1
    rcases List.mem_append.mp hp with hp | hp
    · exact (hok.dj a ha).2 p hp
    · rw [List.mem_singleton.mp hp]; show (i : Int) ≠ a; omega
end
end Mine
namespace Mine
section
variable {prog : Program} {w : World} {A : Around} {E : Value → Shared → Prop} {s : Shared} {env : Env} {h₀ : Heap} {target : Expr} {body : List Stmt} {Q : Flow → Shared → Prop}
/-- a for over a list of pairs of ints -/
theorem pairs_loop {l : Addr} {vs : List Value} {ld : List (Int × Int)} {nn : Nat} {m₀ : Str → Option Value} {news : List (Addr × Obj)} (J : Nat → (Str → Option Value) → List (Addr × Obj) → Prop)
    (hh : A.handled = none) (hl : (l, listOf vs.toArray nn) ∈ news) (hP : ∀ i m nx, J i m nx → PairsIn nx vs ld) (hld : ld.length = vs.length) (F : Fr h₀ env.locals s.heap m₀) (N : News h₀ env.locals s.heap news) (hj : J 0 m₀ news)
    (turn : ∀ i a x y tx ty m₁ nx h tk own, ld[i]? = some (x, y) → OwnOff own (nx.map (·.1)) → (l, listOf vs.toArray nn) ∈ nx → J i m₁ nx → IsTup h a #[.int x tx, .int y ty] → Fr h₀ env.locals h m₁ → News h₀ env.locals h (nx ++ own) →
      wpAny (model prog w) A (assign target env (.ref a)) (fun _ s₃ => wpAny (model prog w) A (execs body env) (InvPostG h₀ env.locals (fun m' nx => (l, listOf vs.toArray nn) ∈ nx ∧ J (i + 1) m' nx) own { s with heap := h, toks := tk } Q) E s₃) E { s with heap := h, toks := tk })
    (done : ∀ m₁ nx h tk, J ld.length m₁ nx → Fr h₀ env.locals h m₁ → News h₀ env.locals h nx → Q .next { s with heap := h, toks := tk }) :
    wpAny (model prog w) A (pyIter (.ref l)) (fun it s₂ => TurnsAt prog w A h₀ env target body Q E it s₂) E s := by
  refine turns_list J hh hl F N hj (fun i v m₁ nx h tk own hv hoff hm hJ F₁ N₁ => ?_) (by rw [← hld]; exact done)
  obtain ⟨a, n, x, y, tx, ty, rfl, h2, h3⟩ := (hP i m₁ nx hJ).get hv
  exact turn i a x y tx ty m₁ nx h tk own h2 hoff hm hJ (News.isTup N₁ (List.mem_append.mpr (.inl h3))) F₁ N₁
end
end Mine
namespace Mine
/-- what the law keeps of the acknowledged ones between two numbers -/
abbrev kept (x y : Int) (as_ : List Int) : List Int := as_.foldl (fun l k => if x < k ∧ k < y then l ++ [k] else l) []
/-- two lost ones that make the losses persistent -/
def dueOf (as_ : List Int) (fo : Option Int) (span : Int) (p q : Int × Int) : Bool :=
  decide (p.1 < q.1) && decide (kept p.1 q.1 as_ = []) && (match fo with | none => false | some k => decide (k < p.2)) && decide (span < q.2 - p.2)
section
variable {as_ : List Int} {span x y x2 y2 kf : Int} {fo : Option Int}
theorem dueOf_t (h1 : x < x2) (h2 : decide (kept x x2 as_ = []) = true) (h3 : kf < y) (h4 : span < y2 - y) : dueOf as_ (some kf) span (x, y) (x2, y2) = true := by
  unfold dueOf; rw [h2]; simp [h1, h3, h4]
theorem dueOf_f1 (h : ¬ x < x2) : dueOf as_ fo span (x, y) (x2, y2) = false := by
  unfold dueOf; simp [h]
theorem dueOf_f2 (h : decide (kept x x2 as_ = []) = false) : dueOf as_ fo span (x, y) (x2, y2) = false := by
  unfold dueOf; rw [h]; simp
theorem dueOf_f3 (h : ¬ kf < y) : dueOf as_ (some kf) span (x, y) (x2, y2) = false := by
  unfold dueOf; simp [h]
theorem dueOf_f4 (h : ¬ span < y2 - y) : dueOf as_ fo span (x, y) (x2, y2) = false := by
  unfold dueOf; simp [h]
theorem dueOf_f5 : dueOf as_ none span (x, y) (x2, y2) = false := by
  unfold dueOf; simp
end
theorem any_next {α : Type} {ld : List α} {f : α → Bool} {j : Nat} {q : α} (h : ld[j]? = some q) : (ld.take (j + 1)).any f = ((ld.take j).any f || f q) := by
  rw [List.take_add_one, h, List.any_append]; simp
abbrev led2 (b l lo ao c1a c0a : Addr) (B I LO AO c1o c0o : Obj) (tl : List (Addr × Obj)) : List (Addr × Obj) := (b, B) :: (l, I) :: (lo, LO) :: (ao, AO) :: (c1a, c1o) :: (c0a, c0o) :: tl
/-- the names that the loops of due store, beside due itself -/
abbrev map2 (m₀ u : Str → Option Value) (d : Bool) : Str → Option Value := fun y => if y = Str.ofString "due" then some (.bool d) else if y = Str.ofString "begun" then u y else if y = Str.ofString "ended" then u y else if y = Str.ofString "between" then u y else m₀ y
def IsCell (o : Obj) : Prop := ∃ v, o.data = .cell v
def P2 (ld : List (Int × Int)) (as_ : List Int) (fo : Option Int) (span : Int) (i : Nat) (d : Bool) : Prop := d = (ld.take i).any fun p => ld.any (dueOf as_ fo span p)
def P3 (ld : List (Int × Int)) (as_ : List Int) (fo : Option Int) (span : Int) (d₀ : Bool) (p : Int × Int) (j : Nat) (d : Bool) : Prop := d = (d₀ || (ld.take j).any (dueOf as_ fo span p))
def J2 (b l lo ao c1a c0a : Addr) (B I LO AO : Obj) (tl : List (Addr × Obj)) (m₀ : Str → Option Value) (P : Nat → Bool → Prop) (i : Nat) (m : Str → Option Value) (nx : List (Addr × Obj)) : Prop :=
  ∃ (d : Bool) (c1o c0o : Obj) (u : Str → Option Value), nx = led2 b l lo ao c1a c0a B I LO AO c1o c0o tl ∧ IsCell c1o ∧ IsCell c0o ∧ P i d ∧ m = map2 m₀ u d
abbrev map3 (m₀ u : Str → Option Value) (d : Bool) (bg : Value) : Str → Option Value := fun y => if y = Str.ofString "due" then some (.bool d) else if y = Str.ofString "begun" then some bg else if y = Str.ofString "ended" then u y else if y = Str.ofString "between" then u y else m₀ y
/-- inside: the cell of one and begun stay -/
def J3 (b l lo ao c1a c0a : Addr) (B I LO AO c0o : Obj) (tl : List (Addr × Obj)) (m₀ : Str → Option Value) (bg : Value) (P : Nat → Bool → Prop) (i : Nat) (m : Str → Option Value) (nx : List (Addr × Obj)) : Prop :=
  ∃ (d : Bool) (c1o : Obj) (u : Str → Option Value), nx = led2 b l lo ao c1a c0a B I LO AO c1o c0o tl ∧ IsCell c1o ∧ P i d ∧ m = map3 m₀ u d bg
section
variable {prog : Program} {w : World} {A : Around} {E : Value → Shared → Prop} {s : Shared} {env : Env} {h₀ : Heap} {target : Expr} {body : List Stmt} {Q : Flow → Shared → Prop} {b l lo ao c1a c0a : Addr} {B I AO c1o c0o : Obj} {tl : List (Addr × Obj)} {m₀ : Str → Option Value} {vs : List Value} {ld : List (Int × Int)} {nn : Nat} {as_ : List Int} {fo : Option Int} {span : Int} {tsp : Tok}
theorem loop2 {p1 p2 : Addr × Obj} (as_ : List Int) (fo : Option Int) (hh : A.handled = none) (hP : PairsIn tl vs ld) (F : Fr h₀ env.locals s.heap m₀) (N : News h₀ env.locals s.heap (p1 :: p2 :: led2 b l lo ao c1a c0a B I (listOf vs.toArray nn) AO c1o c0o tl))
    (h1 : IsCell c1o) (h0 : IsCell c0o) (hd : m₀ (Str.ofString "due") = some (.bool false)) (hsp : m₀ (Str.ofString "span") = some (.int span tsp))
    (turn : ∀ i a x y tx ty d c1o c0o u h tk own, ld[i]? = some (x, y) → OwnOff own ((led2 b l lo ao c1a c0a B I (listOf vs.toArray nn) AO c1o c0o tl).map (·.1)) → IsCell c1o → IsCell c0o → P2 ld as_ fo span i d → IsTup h a #[.int x tx, .int y ty] →
      Fr h₀ env.locals h (map2 m₀ u d) → News h₀ env.locals h (led2 b l lo ao c1a c0a B I (listOf vs.toArray nn) AO c1o c0o (tl ++ own)) →
      wpAny (model prog w) A (assign target env (.ref a)) (fun _ s₃ => wpAny (model prog w) A (execs body env) (InvPostG h₀ env.locals (fun m' nx => (lo, listOf vs.toArray nn) ∈ nx ∧ J2 b l lo ao c1a c0a B I (listOf vs.toArray nn) AO tl m₀ (P2 ld as_ fo span) (i + 1) m' nx) own { s with heap := h, toks := tk } Q) E s₃) E { s with heap := h, toks := tk })
    (done : ∀ d c1o c0o u h tk, IsCell c1o → IsCell c0o → P2 ld as_ fo span ld.length d → Fr h₀ env.locals h (map2 m₀ u d) → News h₀ env.locals h (led2 b l lo ao c1a c0a B I (listOf vs.toArray nn) AO c1o c0o tl) → Q .next { s with heap := h, toks := tk }) :
    wpAny (model prog w) A (pyIter (.ref lo)) (fun it s₂ => TurnsAt prog w A h₀ env target body Q E it s₂) E s := by
  refine pairs_loop (l := lo) (vs := vs) (ld := ld) (nn := nn) (news := led2 b l lo ao c1a c0a B I (listOf vs.toArray nn) AO c1o c0o tl) (J2 b l lo ao c1a c0a B I (listOf vs.toArray nn) AO tl m₀ (P2 ld as_ fo span)) hh (.tail _ (.tail _ (.head _))) (fun i m nx hJ => ?_) hP.length.symm F (fun p hp => N p (.tail _ (.tail _ hp))) ⟨false, c1o, c0o, m₀, rfl, h1, h0, by unfold P2; simp, ?_⟩ ?_ ?_
  · obtain ⟨d, c1o, c0o, u, rfl, _⟩ := hJ
    exact hP.mono fun p hp => .tail _ (.tail _ (.tail _ (.tail _ (.tail _ (.tail _ hp)))))
  · funext y
    unfold map2
    by_cases h : y = Str.ofString "due"
    · rw [if_pos h, h, hd]
    · rw [if_neg h]; simp
  · rintro i a x y tx ty m₁ nx h tk own hi hoff hm ⟨d, c1o, c0o, u, rfl, g1, g0, gp, rfl⟩ hT F₁ N₁
    exact turn i a x y tx ty d c1o c0o u h tk own hi hoff g1 g0 gp hT F₁ N₁
  · rintro m₁ nx h tk ⟨d, c1o, c0o, u, rfl, g1, g0, gp, rfl⟩ F₁ N₁
    exact done d c1o c0o u h tk g1 g0 gp F₁ N₁
theorem loop3 {d₀ : Bool} {bg : Value} (as_ : List Int) (fo : Option Int) (p : Int × Int) (hh : A.handled = none) (hP : PairsIn tl vs ld) (F : Fr h₀ env.locals s.heap m₀) (N : News h₀ env.locals s.heap (led2 b l lo ao c1a c0a B I (listOf vs.toArray nn) AO c1o c0o tl))
    (h1 : IsCell c1o) (hd : m₀ (Str.ofString "due") = some (.bool d₀)) (hb : m₀ (Str.ofString "begun") = some bg) (hsp : m₀ (Str.ofString "span") = some (.int span tsp))
    (turn : ∀ i a x y tx ty d c1o u h tk own, ld[i]? = some (x, y) → OwnOff own ((led2 b l lo ao c1a c0a B I (listOf vs.toArray nn) AO c1o c0o tl).map (·.1)) → IsCell c1o → P3 ld as_ fo span d₀ p i d → IsTup h a #[.int x tx, .int y ty] →
      Fr h₀ env.locals h (map3 m₀ u d bg) → News h₀ env.locals h (led2 b l lo ao c1a c0a B I (listOf vs.toArray nn) AO c1o c0o (tl ++ own)) →
      wpAny (model prog w) A (assign target env (.ref a)) (fun _ s₃ => wpAny (model prog w) A (execs body env) (InvPostG h₀ env.locals (fun m' nx => (lo, listOf vs.toArray nn) ∈ nx ∧ J3 b l lo ao c1a c0a B I (listOf vs.toArray nn) AO c0o tl m₀ bg (P3 ld as_ fo span d₀ p) (i + 1) m' nx) own { s with heap := h, toks := tk } Q) E s₃) E { s with heap := h, toks := tk })
    (done : ∀ d c1o u h tk, IsCell c1o → P3 ld as_ fo span d₀ p ld.length d → Fr h₀ env.locals h (map3 m₀ u d bg) → News h₀ env.locals h (led2 b l lo ao c1a c0a B I (listOf vs.toArray nn) AO c1o c0o tl) → Q .next { s with heap := h, toks := tk }) :
    wpAny (model prog w) A (pyIter (.ref lo)) (fun it s₂ => TurnsAt prog w A h₀ env target body Q E it s₂) E s := by
  refine pairs_loop (l := lo) (vs := vs) (ld := ld) (nn := nn) (news := led2 b l lo ao c1a c0a B I (listOf vs.toArray nn) AO c1o c0o tl) (J3 b l lo ao c1a c0a B I (listOf vs.toArray nn) AO c0o tl m₀ bg (P3 ld as_ fo span d₀ p)) hh (.tail _ (.tail _ (.head _))) (fun i m nx hJ => ?_) hP.length.symm F N ⟨d₀, c1o, m₀, rfl, h1, by unfold P3; simp, ?_⟩ ?_ ?_
  · obtain ⟨d, c1o, u, rfl, _⟩ := hJ
    exact hP.mono fun p hp => .tail _ (.tail _ (.tail _ (.tail _ (.tail _ (.tail _ hp)))))
  · funext y
    unfold map3
    by_cases h : y = Str.ofString "due"
    · rw [if_pos h, h, hd]
    · rw [if_neg h]
      by_cases h' : y = Str.ofString "begun"
      · rw [if_pos h', h', hb]
      · rw [if_neg h']; simp
  · rintro i a x y tx ty m₁ nx h tk own hi hoff hm ⟨d, c1o, u, rfl, g1, gp, rfl⟩ hT F₁ N₁
    exact turn i a x y tx ty d c1o u h tk own hi hoff g1 gp hT F₁ N₁
  · rintro m₁ nx h tk ⟨d, c1o, u, rfl, g1, gp, rfl⟩ F₁ N₁
    exact done d c1o u h tk g1 gp F₁ N₁
variable {L : Addr} {h' : Heap} {m' : Str → Option Value} {own : List (Addr × Obj)} {i tk : Nat} {s₁ : Shared} {d d' d₀ : Bool} {bg : Value} {p q : Int × Int} {p1 p2 : Addr × Obj} {c1o' c0o' : Obj}
theorem end3 {news' : List (Addr × Obj)} (F : Fr h₀ L h' m') (N : News h₀ L h' news') (hn : ∀ p ∈ led2 b l lo ao c1a c0a B I (listOf vs.toArray nn) AO c1o' c0o tl, p ∈ news') (ho : ∀ p ∈ own, p ∈ news')
    (hoff : OwnOff own ((led2 b l lo ao c1a c0a B I (listOf vs.toArray nn) AO c1o c0o tl).map (·.1))) (hc : IsCell c1o') (hp : P3 ld as_ fo span d₀ p i d) (hi : ld[i]? = some q)
    (hdue : m' (Str.ofString "due") = some (.bool d')) (hbg : m' (Str.ofString "begun") = some bg) (hm : ∀ y, y ≠ Str.ofString "due" → y ≠ Str.ofString "begun" → y ≠ Str.ofString "ended" → y ≠ Str.ofString "between" → m' y = m₀ y) (hd : d' = (d || dueOf as_ fo span p q)) :
    InvEndG h₀ L (fun m' nx => (lo, listOf vs.toArray nn) ∈ nx ∧ J3 b l lo ao c1a c0a B I (listOf vs.toArray nn) AO c0o tl m₀ bg (P3 ld as_ fo span d₀ p) (i + 1) m' nx) own s₁ { s₁ with heap := h', toks := tk } := by
  refine InvEndG.intro F N (nx := led2 b l lo ao c1a c0a B I (listOf vs.toArray nn) AO c1o' c0o tl) ⟨.tail _ (.tail _ (.head _)), d', c1o', m', rfl, hc, ?_, ?_⟩ hoff hn ho
  · unfold P3 at hp ⊢
    rw [any_next hi, hd, hp, Bool.or_assoc]
  · funext y
    unfold map3
    by_cases h1 : y = Str.ofString "due"
    · rw [if_pos h1, h1, hdue]
    · by_cases h2 : y = Str.ofString "begun"
      · rw [if_neg h1, if_pos h2, h2, hbg]
      · by_cases h3 : y = Str.ofString "ended"
        · rw [if_neg h1, if_neg h2, if_pos h3]
        · by_cases h4 : y = Str.ofString "between"
          · rw [if_neg h1, if_neg h2, if_neg h3, if_pos h4]
          · rw [if_neg h1, if_neg h2, if_neg h3, if_neg h4]; exact hm y h1 h2 h3 h4
theorem end3a (F : Fr h₀ L h' m') (N : News h₀ L h' (p1 :: p2 :: led2 b l lo ao c1a c0a B I (listOf vs.toArray nn) AO c1o' c0o (tl ++ own)))
    (hoff : OwnOff own ((led2 b l lo ao c1a c0a B I (listOf vs.toArray nn) AO c1o c0o tl).map (·.1))) (hc : IsCell c1o') (hp : P3 ld as_ fo span d₀ p i d) (hi : ld[i]? = some q)
    (hdue : m' (Str.ofString "due") = some (.bool d')) (hbg : m' (Str.ofString "begun") = some bg) (hm : ∀ y, y ≠ Str.ofString "due" → y ≠ Str.ofString "begun" → y ≠ Str.ofString "ended" → y ≠ Str.ofString "between" → m' y = m₀ y) (hd : d' = (d || dueOf as_ fo span p q)) :
    InvEndG h₀ L (fun m' nx => (lo, listOf vs.toArray nn) ∈ nx ∧ J3 b l lo ao c1a c0a B I (listOf vs.toArray nn) AO c0o tl m₀ bg (P3 ld as_ fo span d₀ p) (i + 1) m' nx) own s₁ { s₁ with heap := h', toks := tk } :=
  end3 F N (fun p hp => .tail _ (.tail _ (led_in p hp))) (fun p hp => .tail _ (.tail _ (own_in p hp))) hoff hc hp hi hdue hbg hm hd
theorem end3b (F : Fr h₀ L h' m') (N : News h₀ L h' (p1 :: led2 b l lo ao c1a c0a B I (listOf vs.toArray nn) AO c1o' c0o (tl ++ own)))
    (hoff : OwnOff own ((led2 b l lo ao c1a c0a B I (listOf vs.toArray nn) AO c1o c0o tl).map (·.1))) (hc : IsCell c1o') (hp : P3 ld as_ fo span d₀ p i d) (hi : ld[i]? = some q)
    (hdue : m' (Str.ofString "due") = some (.bool d')) (hbg : m' (Str.ofString "begun") = some bg) (hm : ∀ y, y ≠ Str.ofString "due" → y ≠ Str.ofString "begun" → y ≠ Str.ofString "ended" → y ≠ Str.ofString "between" → m' y = m₀ y) (hd : d' = (d || dueOf as_ fo span p q)) :
    InvEndG h₀ L (fun m' nx => (lo, listOf vs.toArray nn) ∈ nx ∧ J3 b l lo ao c1a c0a B I (listOf vs.toArray nn) AO c0o tl m₀ bg (P3 ld as_ fo span d₀ p) (i + 1) m' nx) own s₁ { s₁ with heap := h', toks := tk } :=
  end3 F N (fun p hp => .tail _ (led_in p hp)) (fun p hp => .tail _ (own_in p hp)) hoff hc hp hi hdue hbg hm hd
theorem end2 (F : Fr h₀ L h' m') (N : News h₀ L h' (led2 b l lo ao c1a c0a B I (listOf vs.toArray nn) AO c1o' c0o' (tl ++ own)))
    (hoff : OwnOff own ((led2 b l lo ao c1a c0a B I (listOf vs.toArray nn) AO c1o c0o tl).map (·.1))) (hc1 : IsCell c1o') (hc0 : IsCell c0o') (hp : P2 ld as_ fo span i d) (hi : ld[i]? = some p) (hq : P3 ld as_ fo span d p ld.length d')
    (hdue : m' (Str.ofString "due") = some (.bool d')) (hm : ∀ y, y ≠ Str.ofString "due" → y ≠ Str.ofString "begun" → y ≠ Str.ofString "ended" → y ≠ Str.ofString "between" → m' y = m₀ y) :
    InvEndG h₀ L (fun m' nx => (lo, listOf vs.toArray nn) ∈ nx ∧ J2 b l lo ao c1a c0a B I (listOf vs.toArray nn) AO tl m₀ (P2 ld as_ fo span) (i + 1) m' nx) own s₁ { s₁ with heap := h', toks := tk } := by
  refine InvEndG.intro F N (nx := led2 b l lo ao c1a c0a B I (listOf vs.toArray nn) AO c1o' c0o' tl) ⟨.tail _ (.tail _ (.head _)), d', c1o', c0o', m', rfl, hc1, hc0, ?_, ?_⟩ hoff led_in own_in
  · unfold P2 at hp ⊢
    unfold P3 at hq
    rw [List.take_length] at hq
    rw [any_next hi, hq, hp]
  · funext y
    unfold map2
    by_cases h1 : y = Str.ofString "due"
    · rw [if_pos h1, h1, hdue]
    · by_cases h2 : y = Str.ofString "begun"
      · rw [if_neg h1, if_pos h2]
      · by_cases h3 : y = Str.ofString "ended"
        · rw [if_neg h1, if_neg h2, if_pos h3]
        · by_cases h4 : y = Str.ofString "between"
          · rw [if_neg h1, if_neg h2, if_neg h3, if_pos h4]
          · rw [if_neg h1, if_neg h2, if_neg h3, if_neg h4]; exact hm y h1 h2 h3 h4
end
end Mine
namespace Mine
section
variable {prog : Program} {w : World} {A : Around} {E : Value → Shared → Prop} {s : Shared} {h₀ : Heap} {L D : Addr} {m : Str → Option Value} {news news' : List (Addr × Obj)}
theorem pop_val {n : Nat} {vs : List Value} {i : Int} {u : Tok} {Q : Value → Shared → Prop}
    (F : Fr h₀ L s.heap m) (N : News h₀ L s.heap news) (h0 : 0 ≤ i) (h1 : i < vs.length) (hz : vs.length ≤ 1000)
    (U : Upd D (listOf vs.toArray n) (listOf (vs.eraseIdx i.toNat).toArray (n + 1)) news news') (h : ∀ y h', vs[i.toNat]? = some y → Fr h₀ L h' m → News h₀ L h' news' → Q y { s with heap := h' }) :
    wpAny (model prog w) A (call (.builtin "list.pop") [.ref D, .int i u]) Q E s :=
  have hk : i.toNat < vs.length := by omega
  pop_any F N h0 h1 hz (List.getElem?_eq_getElem hk) U fun h' => h _ h' (List.getElem?_eq_getElem hk)
theorem ne_nil {l b : Addr} {vs : List Value} {n k : Nat} {Q : Value → Shared → Prop} (N : News h₀ L s.heap news) (hl : (l, listOf vs.toArray n) ∈ news) (hb : (b, listOf #[] k) ∈ news) (hu : A.units < cLine) (h : Q (.bool (!vs.isEmpty)) s) :
    wpAny (model prog w) A (compareOp .NotEq (.ref l) (.ref b)) Q E s := by
  have il : s.heap.IsList l vs.toArray := News.isList N hl
  have ib : s.heap.IsList b #[] := News.isList N hb
  cases vs with
  | nil => exact PySem.SeqAt.RcNeAt.lists (e := fun _ => true) il ib rfl hu (fun j h1 _ => absurd h1 (Nat.not_lt_zero _)) prog w E Q h
  | cons v r => exact PySem.SeqAt.RcNeAt.lists_lengths il ib (by simp) hu prog w E Q h
theorem ne_nil_t {l b : Addr} {vs r : List Value} {v : Value} {n k : Nat} {Q : Value → Shared → Prop} (N : News h₀ L s.heap news) (hl : (l, listOf vs.toArray n) ∈ news) (hb : (b, listOf #[] k) ∈ news) (hv : vs = v :: r) (hu : A.units < cLine) (h : Q (.bool true) s) :
    wpAny (model prog w) A (compareOp .NotEq (.ref l) (.ref b)) Q E s := ne_nil N hl hb hu (by rw [hv]; exact h)
theorem ne_nil_f {l b : Addr} {vs : List Value} {n k : Nat} {Q : Value → Shared → Prop} (N : News h₀ L s.heap news) (hl : (l, listOf vs.toArray n) ∈ news) (hb : (b, listOf #[] k) ∈ news) (hv : vs = []) (hu : A.units < cLine) (h : Q (.bool false) s) :
    wpAny (model prog w) A (compareOp .NotEq (.ref l) (.ref b)) Q E s := ne_nil N hl hb hu (by rw [hv]; exact h)
end
theorem perm_draw {α : Type} {dr lf lv : List α} {i : Nat} {y : α} (hp : (dr ++ lf).Perm lv) (hy : lf[i]? = some y) : ((dr ++ [y]) ++ lf.eraseIdx i).Perm lv := by
  refine .trans ?_ hp
  rw [List.append_assoc]
  refine List.Perm.append_left dr ?_
  obtain ⟨hi, rfl⟩ := List.getElem?_eq_some_iff.mp hy
  rw [List.eraseIdx_eq_take_drop_succ]
  have e : lf = lf.take i ++ lf[i] :: lf.drop (i + 1) := by
    rw [List.getElem_cons_drop hi, List.take_append_drop]
  show ([lf[i]] ++ (lf.take i ++ lf.drop (i + 1))).Perm lf
  refine .trans ?_ (List.Perm.of_eq e.symm)
  exact (List.perm_middle (a := lf[i]) (l₁ := lf.take i) (l₂ := lf.drop (i + 1))).symm
structure S4 where
  lf : List Value
  nf : Nat
  dr : List Value
  nd : Nat
  sd : Int
  st : Tok
  vs : List Value
  ns : List Int
  nv : Nat
structure S4.Ok (c : S4) (lv : List Value) : Prop where
  s0 : 0 ≤ c.sd
  s1 : c.sd < 2147483647
  vi : IntsAre c.vs c.ns
  vl : c.vs.length ≤ 64
  pm : (c.dr ++ c.lf).Perm lv
abbrev led4 (fa da b l : Addr) (nb : Nat) (rest : List (Addr × Obj)) (c : S4) : List (Addr × Obj) :=
  (fa, listOf c.lf.toArray c.nf) :: (da, listOf c.dr.toArray c.nd) :: (b, listOf #[.ref l, .int c.sd c.st] nb) :: (l, listOf c.vs.toArray c.nv) :: rest
section
variable {prog : Program} {w : World} {A : Around} {E : Value → Shared → Prop} {s : Shared} {env : Env} {h₀ : Heap} {L : Addr} {test : Expr} {body : List Stmt} {pos : Pos} {Q : Flow → Shared → Prop} {fa da b l : Addr} {nb : Nat} {rest : List (Addr × Obj)} {m₀ : Str → Option Value} {lv : List Value}
def W4End (h₀ : Heap) (L : Addr) (s : Shared) (m₀ : Str → Option Value) (fa da b l : Addr) (nb : Nat) (rest : List (Addr × Obj)) (lv : List Value) (c : S4) (s₂ : Shared) : Prop :=
  ∃ (c' : S4) (h' : Heap) (tk : Nat), s₂ = { s with heap := h', toks := tk } ∧ Fr h₀ L h' m₀ ∧ News h₀ L h' (led4 fa da b l nb rest c') ∧ c'.Ok lv ∧ c'.lf.length < c.lf.length
def W4Post (h₀ : Heap) (L : Addr) (s : Shared) (m₀ : Str → Option Value) (fa da b l : Addr) (nb : Nat) (rest : List (Addr × Obj)) (lv : List Value) (Q : Flow → Shared → Prop) (c : S4) (f : Flow) (s₂ : Shared) : Prop :=
  match f with
  | .ret v => Q (.ret v) s₂
  | .brk => Q .next s₂
  | _ => W4End h₀ L s m₀ fa da b l nb rest lv c s₂
theorem loop4 {p1 : Addr × Obj} {n₁ n₂ nv : Nat} {sd : Int} {st : Tok} {vs : List Value} {ns : List Int} (F : Fr h₀ L s.heap m₀) (N : News h₀ L s.heap (p1 :: (fa, listOf lv.toArray n₁) :: (da, listOf #[] n₂) :: (b, listOf #[.ref l, .int sd st] nb) :: (l, listOf vs.toArray nv) :: rest))
    (hs0 : 0 ≤ sd) (hs1 : sd < 2147483647) (hvi : IntsAre vs ns) (hvl : vs.length ≤ 64)
    (turn : ∀ (v : Value) (lf : List Value) (c : S4) h tk, c.Ok lv → c.lf = v :: lf → Fr h₀ L h m₀ → News h₀ L h (led4 fa da b l nb rest c) →
      wpAny (model prog w) A (isTrue test env (eval test env)) (fun b' s₂ => if b' = true then wpAny (model prog w) A (execs body env) (W4Post h₀ L s m₀ fa da b l nb rest lv Q c) E s₂ else Q .next s₂) E { s with heap := h, toks := tk })
    (done : ∀ (c : S4) h tk, c.Ok lv → c.lf = [] → Fr h₀ L h m₀ → News h₀ L h (led4 fa da b l nb rest c) →
      wpAny (model prog w) A (isTrue test env (eval test env)) (fun b' s₂ => if b' = true then wpAny (model prog w) A (execs body env) (W4Post h₀ L s m₀ fa da b l nb rest lv Q c) E s₂ else Q .next s₂) E { s with heap := h, toks := tk })
    (hE : PassesOwn (model prog w) A env E := by passes_own) :
    wpAny (model prog w) A (exec (.While test body [] pos) env) Q E s := by
  refine While_inv2 (fun n m nx => ∃ c : S4, nx = led4 fa da b l nb rest c ∧ c.lf.length = n ∧ c.Ok lv ∧ m = m₀) F (news := led4 fa da b l nb rest ⟨lv, n₁, [], n₂, sd, st, vs, ns, nv⟩) (fun p hp => N p (.tail _ hp)) ⟨⟨lv, n₁, [], n₂, sd, st, vs, ns, nv⟩, rfl, rfl, ⟨hs0, hs1, hvi, hvl, List.Perm.refl _⟩, rfl⟩ ?_ hE
  rintro n m₁ nx h tk F₁ N₁ ⟨c, rfl, rfl, hok, rfl⟩
  have key : wpAny (model prog w) A (isTrue test env (eval test env)) (fun b' s₂ => if b' = true then wpAny (model prog w) A (execs body env) (W4Post h₀ L s m₁ fa da b l nb rest lv Q c) E s₂ else Q .next s₂) E { s with heap := h, toks := tk } := by
    cases hlf : c.lf with
    | nil => exact done c h tk hok hlf F₁ N₁
    | cons v lf => exact turn v lf c h tk hok hlf F₁ N₁
  refine wpAny_mono key (fun b s₂ p => ?_) fun _ _ x => x
  cases b with
  | false => simpa using p
  | true =>
    simp only [if_true] at p ⊢
    refine wpAny_mono p (fun f s₃ q => ?_) fun _ _ x => x
    cases f with
    | ret v => exact q
    | brk => exact q
    | next =>
      obtain ⟨c', h', tk', rfl, F', N', hok', hlt⟩ := q
      exact ⟨h', tk', m₁, _, c'.lf.length, rfl, F', N', hlt, c', rfl, rfl, hok', rfl⟩
    | cont =>
      obtain ⟨c', h', tk', rfl, F', N', hok', hlt⟩ := q
      exact ⟨h', tk', m₁, _, c'.lf.length, rfl, F', N', hlt, c', rfl, rfl, hok', rfl⟩
theorem end4 {c : S4} {p1 : Addr × Obj} {y : Value} {i : Nat} {nf nd nv tk : Nat} {sd : Int} {st : Tok} {vs : List Value} {ns : List Int} {h' : Heap} (F : Fr h₀ L h' m₀)
    (N : News h₀ L h' (p1 :: (fa, listOf (c.lf.eraseIdx i).toArray nf) :: (da, listOf (c.dr.toArray.push y) nd) :: (b, listOf #[.ref l, .int sd st] nb) :: (l, listOf vs.toArray nv) :: rest))
    (hok : c.Ok lv) (hy : c.lf[i]? = some y) (hs0 : 0 ≤ sd) (hs1 : sd < 2147483647) (hvi : IntsAre vs ns) (hvl : vs.length ≤ 64) : W4End h₀ L s m₀ fa da b l nb rest lv c { s with heap := h', toks := tk } := by
  have e : c.dr.toArray.push y = (c.dr ++ [y]).toArray := by simp
  rw [e] at N
  refine ⟨⟨c.lf.eraseIdx i, nf, c.dr ++ [y], nd, sd, st, vs, ns, nv⟩, h', tk, rfl, F, fun p hp => N p (.tail _ hp), ⟨hs0, hs1, hvi, hvl, perm_draw hok.pm hy⟩, ?_⟩
  obtain ⟨hi, _⟩ := List.getElem?_eq_some_iff.mp hy
  show (c.lf.eraseIdx i).length < c.lf.length
  rw [List.length_eraseIdx_of_lt hi]
  omega
end
end Mine
namespace Mine
section
variable {n : Nat} {key : Nat → Int} {cmp : Nat → Nat → (Bool → Shared → Prop) → Shared → Prop} {s : Shared}
/-- the comparison answers by the keys, and leaves the state -/
def Asks (cmp : Nat → Nat → (Bool → Shared → Prop) → Shared → Prop) (key : Nat → Int) (n : Nat) (s : Shared) : Prop :=
  ∀ i j (C : Bool → Shared → Prop), i < n → j < n → C (decide (key i < key j)) s → cmp i j C s
def Inj (key : Nat → Int) (n : Nat) : Prop := ∀ i j, i < n → j < n → key i = key j → i = j
abbrev Prm (p : Array Nat) (n : Nat) : Prop := p.toList.Perm (List.range n)
abbrev at' (p : Array Nat) (i : Nat) : Nat := p.getD i 0
theorem Prm.size {p : Array Nat} (h : Prm p n) : p.size = n := by
  have := h.length_eq
  simpa using this
theorem Prm.at {p : Array Nat} (h : Prm p n) {i : Nat} (hi : i < n) : p[i]? = some (at' p i) := by
  have hz := h.size
  have : i < p.size := by omega
  simp [at', Array.getD, this]
theorem Prm.lt {p : Array Nat} (h : Prm p n) {i : Nat} (hi : i < n) : at' p i < n := by
  have e := h.at hi
  have hm : at' p i ∈ p.toList := by
    rw [← Array.getElem?_toList] at e
    exact List.mem_of_getElem? e
  have := (h.mem_iff).mp hm
  simpa using this
theorem Prm.inj {p : Array Nat} (h : Prm p n) {i j : Nat} (hi : i < n) (hj : j < n) (e : at' p i = at' p j) : i = j := by
  have hn : p.toList.Nodup := h.nodup_iff.mpr List.nodup_range
  have e1 := h.at hi
  have e2 := h.at hj
  rw [← Array.getElem?_toList] at e1 e2
  have hz : i < p.toList.length := by have := h.size; simp; omega
  exact (List.getElem?_inj hz hn).mp (by rw [e1, e2, e])
def Srt (key : Nat → Int) (p : Array Nat) (b : Nat) : Prop := ∀ i j, i < j → j < b → key (at' p i) < key (at' p j)
def Dsc (key : Nat → Int) (p : Array Nat) (b : Nat) : Prop := ∀ i j, i < j → j < b → key (at' p j) < key (at' p i)
theorem key_ne (hk : Inj key n) {p : Array Nat} (h : Prm p n) {i j : Nat} (hi : i < n) (hj : j < n) (hij : i ≠ j) : key (at' p i) ≠ key (at' p j) := fun e => hij (h.inj hi hj (hk _ _ (h.lt hi) (h.lt hj) e))
theorem Srt.next {p : Array Nat} {a : Nat} (h : Srt key p a) (h1 : 1 ≤ a) (hl : key (at' p (a - 1)) < key (at' p a)) : Srt key p (a + 1) := by
  intro i j hij hj
  by_cases e : j = a
  · subst e
    by_cases e2 : i = j - 1
    · rw [e2]; exact hl
    · exact Int.lt_trans (h i (j - 1) (by omega) (by omega)) hl
  · exact h i j hij (by omega)
theorem Dsc.next {p : Array Nat} {a : Nat} (h : Dsc key p a) (h1 : 1 ≤ a) (hl : key (at' p a) < key (at' p (a - 1))) : Dsc key p (a + 1) := by
  intro i j hij hj
  by_cases e : j = a
  · subst e
    by_cases e2 : i = j - 1
    · rw [e2]; exact hl
    · exact Int.lt_trans hl (h i (j - 1) (by omega) (by omega))
  · exact h i j hij (by omega)
theorem asc_wp (H : Asks cmp key n s) (hk : Inj key n) {p : Array Nat} (hp : Prm p n) {G : Nat → Shared → Prop} : ∀ (f a : Nat), 1 ≤ a → a + f ≤ n → Srt key p a →
    (∀ m, a ≤ m → m ≤ a + f → Srt key p m → (m < a + f → key (at' p m) < key (at' p (m - 1))) → G m s) → (kas_asc p f a).kasWp cmp G s
  | 0, a, h1, ha, hs, hG => hG a (Nat.le_refl _) (Nat.le_refl _) hs fun h => absurd h (Nat.lt_irrefl _)
  | f + 1, a, h1, ha, hs, hG => by
    refine H _ _ _ (hp.lt (by omega)) (hp.lt (by omega)) ?_
    show (if decide (key (at' p a) < key (at' p (a - 1))) = true then KasT.ret a else kas_asc p f (a + 1)).kasWp cmp G s
    by_cases h : key (at' p a) < key (at' p (a - 1))
    · rw [if_pos (by simpa using h)]
      exact hG a (Nat.le_refl _) (by omega) hs fun _ => h
    · rw [if_neg (by simpa using h)]
      have hne := key_ne hk hp (i := a) (j := a - 1) (by omega) (by omega) (by omega)
      exact asc_wp H hk hp f (a + 1) (by omega) (by omega) (hs.next h1 (by omega)) fun m hm1 hm2 hm3 hm4 => hG m (by omega) (by omega) hm3 fun hlt => hm4 (by omega)
theorem desc_wp (H : Asks cmp key n s) (hk : Inj key n) {p : Array Nat} (hp : Prm p n) {G : Array Nat × Nat × Nat → Shared → Prop} : ∀ (f a : Nat), 1 ≤ a → a + f ≤ n → Dsc key p a →
    (∀ m, a ≤ m → m ≤ a + f → Dsc key p m → G (p, m, 0) s) → (kas_desc f p a 0).kasWp cmp G s
  | 0, a, h1, ha, hs, hG => hG a (Nat.le_refl _) (Nat.le_refl _) hs
  | f + 1, a, h1, ha, hs, hG => by
    refine H _ _ _ (hp.lt (by omega)) (hp.lt (by omega)) ?_
    show (if decide (key (at' p a) < key (at' p (a - 1))) = true then (if 0 > 0 then kas_desc f (kas_rev p (a - (0 + 1)) a) (a + 1) 0 else kas_desc f p (a + 1) 0)
      else KasT.ask (at' p (a - 1)) (at' p a) fun d => if d = true then KasT.ret (p, a, 0) else kas_desc f p (a + 1) (0 + 1)).kasWp cmp G s
    by_cases h : key (at' p a) < key (at' p (a - 1))
    · rw [if_pos (by simpa using h), if_neg (by omega)]
      exact desc_wp H hk hp f (a + 1) (by omega) (by omega) (hs.next h1 h) fun m hm1 hm2 hm3 => hG m (by omega) (by omega) hm3
    · rw [if_neg (by simpa using h)]
      have hne := key_ne hk hp (i := a) (j := a - 1) (by omega) (by omega) (by omega)
      refine H _ _ _ (hp.lt (by omega)) (hp.lt (by omega)) ?_
      show (if decide (key (at' p (a - 1)) < key (at' p a)) = true then KasT.ret (p, a, 0) else kas_desc f p (a + 1) (0 + 1)).kasWp cmp G s
      rw [if_pos (by simp only [decide_eq_true_eq]; omega)]
      exact hG a (Nat.le_refl _) (by omega) hs
theorem at_of {p : Array Nat} {i v : Nat} (h : p[i]? = some v) : at' p i = v := by
  obtain ⟨hi, rfl⟩ := Array.getElem?_eq_some_iff.mp h
  simp [at', Array.getD, hi]
theorem rev_prm {p : Array Nat} (hp : Prm p n) (a b : Nat) : Prm (kas_rev p a b) n := (Array.perm_iff_toList_perm.mp (mirror_perm _ _ _ _)).trans hp
theorem rev_srt {p : Array Nat} (hp : Prm p n) {m : Nat} (hm : m ≤ n) (hd : Dsc key p m) : Srt key (kas_rev p 0 m) m := by
  have hz := hp.size
  have e : ∀ i, i < m → at' (kas_rev p 0 m) i = at' p (m - 1 - i) := fun i hi => by
    refine at_of ?_
    show (mirror p 0 m ((m - 0) / 2))[i]? = _
    rw [getElem?_mirror_all (by omega), if_pos ⟨Nat.zero_le _, hi⟩]
    have : 0 + m - 1 - i = m - 1 - i := by omega
    rw [this]
    exact hp.at (by omega)
  intro i j hij hj
  rw [e i (by omega), e j hj]
  exact hd (m - 1 - j) (m - 1 - i) (by omega) (by omega)
theorem count_wp (H : Asks cmp key n s) (hk : Inj key n) {p : Array Nat} (hp : Prm p n) (hn : 1 ≤ n) {G : Nat × Array Nat → Shared → Prop}
    (hG : ∀ m p', 1 ≤ m → m ≤ n → Prm p' n → Srt key p' m → G (m, p') s) : (kas_count n p).kasWp cmp G s := by
  unfold kas_count
  rw [KasT.kasWp_bind]
  refine asc_wp H hk hp (n - 1) 1 (Nat.le_refl _) (by omega) (fun i j a b => by omega) fun m hm1 hm2 hm3 hm4 => ?_
  by_cases e : (m == n) = true
  · rw [if_pos e]
    exact hG m p hm1 (by omega) hp hm3
  · rw [if_neg e]
    have hne : m ≠ n := fun q => e (by rw [q]; exact beq_self_eq_true _)
    by_cases e2 : m > 1
    · rw [if_pos e2]
      refine H _ _ _ (hp.lt (by omega)) (hp.lt (by omega)) ?_
      show (if decide (key (at' p 0) < key (at' p (m - 1))) = true then KasT.ret (m, p) else kas_descPart m n (kas_rev p 0 m)).kasWp cmp G s
      rw [if_pos (by simp only [decide_eq_true_eq]; exact hm3 0 (m - 1) (by omega) (by omega))]
      exact hG m p hm1 (by omega) hp hm3
    · rw [if_neg e2]
      have e3 : m = 1 := by omega
      subst e3
      have hlt := hm4 (by omega)
      unfold kas_descPart
      rw [KasT.kasWp_bind]
      refine desc_wp H hk hp (n - (1 + 1)) (1 + 1) (by omega) (by omega) ?_ fun m2 h1 h2 h3 => ?_
      · intro i j hij hj
        have e1 : i = 0 := by omega
        have e2 : j = 1 := by omega
        subst e1 e2
        exact hlt
      · show (if 0 > 0 then kas_tail3 m2 n (kas_rev p (m2 - (0 + 1)) m2) else kas_tail3 m2 n p).kasWp cmp G s
        rw [if_neg (by omega)]
        unfold kas_tail3
        rw [KasT.kasWp_bind]
        refine asc_wp H hk (rev_prm hp 0 m2) (n - m2) m2 (by omega) (by omega) (rev_srt hp (by omega) h3) fun m3 g1 g2 g3 _ => ?_
        exact hG m3 _ (by omega) (by omega) (rev_prm hp 0 m2) g3
theorem place_wp (H : Asks cmp key n s) (hk : Inj key n) {p : Array Nat} (hp : Prm p n) {k : Nat} (hkn : k < n) {G : Nat → Shared → Prop} (hs : Srt key p k) : ∀ (f l r : Nat), l ≤ r → r ≤ k → r - l ≤ f →
    (∀ i, i < l → key (at' p i) < key (at' p k)) → (∀ i, r ≤ i → i < k → key (at' p k) < key (at' p i)) →
    (∀ l, l ≤ k → (∀ i, i < l → key (at' p i) < key (at' p k)) → (∀ i, l ≤ i → i < k → key (at' p k) < key (at' p i)) → G l s) → (kas_place p k f l r).kasWp cmp G s
  | 0, l, r, hlr, hr, hf, h1, h2, hG => by
    have e : l = r := by omega
    subst e
    exact hG l hr h1 h2
  | f + 1, l, r, hlr, hr, hf, h1, h2, hG => by
    unfold kas_place
    by_cases e : l ≥ r
    · rw [if_pos e]
      have e : l = r := by omega
      subst e
      exact hG l hr h1 h2
    · rw [if_neg e]
      refine H _ _ _ (hp.lt (by omega)) (hp.lt (by omega)) ?_
      show (if decide (key (at' p k) < key (at' p ((l + r) / 2))) = true then kas_place p k f l ((l + r) / 2) else kas_place p k f ((l + r) / 2 + 1) r).kasWp cmp G s
      by_cases h : key (at' p k) < key (at' p ((l + r) / 2))
      · rw [if_pos (by simpa using h)]
        refine place_wp H hk hp hkn hs f l ((l + r) / 2) (by omega) (by omega) (by omega) h1 (fun i hi1 hi2 => ?_) hG
        by_cases e2 : i = (l + r) / 2
        · rw [e2]; exact h
        · exact Int.lt_trans h (hs _ _ (by omega) hi2)
      · rw [if_neg (by simpa using h)]
        have hne := key_ne hk hp (i := k) (j := (l + r) / 2) hkn (by omega) (by omega)
        refine place_wp H hk hp hkn hs f ((l + r) / 2 + 1) r (by omega) hr (by omega) (fun i hi => ?_) h2 hG
        by_cases e2 : i = (l + r) / 2
        · rw [e2]; omega
        · exact Int.lt_trans (hs i ((l + r) / 2) (by omega) (by omega)) (by omega)
theorem bub_prm {p : Array Nat} (hp : Prm p n) (a d : Nat) : Prm (bubble p a d) n := (Array.perm_iff_toList_perm.mp (bubble_perm _ _ _)).trans hp
theorem bub_srt {p : Array Nat} (hp : Prm p n) {k l : Nat} (hkn : k < n) (hl : l ≤ k) (hs : Srt key p k) (h1 : ∀ i, i < l → key (at' p i) < key (at' p k)) (h2 : ∀ i, l ≤ i → i < k → key (at' p k) < key (at' p i)) :
    Srt key (bubble p k (k - l)) (k + 1) := by
  have hz := hp.size
  have e : ∀ i, i ≤ k → at' (bubble p k (k - l)) i = if i = l then at' p k else if l < i then at' p (i - 1) else at' p i := fun i hi => by
    refine at_of ?_
    rw [getElem?_bubble (by omega) (k - l) (by omega)]
    have e1 : k - (k - l) = l := by omega
    rw [e1]
    by_cases c1 : i = l
    · rw [if_pos c1, if_pos c1]; exact hp.at hkn
    · rw [if_neg c1, if_neg c1]
      by_cases c2 : l < i
      · rw [if_pos ⟨c2, hi⟩, if_pos c2]; exact hp.at (by omega)
      · rw [if_neg (fun q => c2 q.1), if_neg c2]; exact hp.at (by omega)
  intro i j hij hj
  rw [e i (by omega), e j (by omega)]
  by_cases c1 : i = l
  · rw [if_pos c1, if_neg (by omega), if_pos (by omega)]
    exact h2 (j - 1) (by omega) (by omega)
  · rw [if_neg c1]
    by_cases c2 : l < i
    · rw [if_pos c2, if_neg (by omega), if_pos (by omega)]
      exact hs (i - 1) (j - 1) (by omega) (by omega)
    · rw [if_neg c2]
      by_cases c3 : j = l
      · rw [if_pos c3]; exact h1 i (by omega)
      · rw [if_neg c3]
        by_cases c4 : l < j
        · rw [if_pos c4]
          by_cases c5 : i = j - 1
          · omega
          · exact hs i (j - 1) (by omega) (by omega)
        · rw [if_neg c4]; exact hs i j hij (by omega)
theorem bin_wp (H : Asks cmp key n s) (hk : Inj key n) {G : Array Nat → Shared → Prop} (hG : ∀ p, Prm p n → Srt key p n → G p s) : ∀ (f k : Nat) (p : Array Nat), k + f = n → Prm p n → Srt key p k → (kas_bin f p k).kasWp cmp G s
  | 0, k, p, hkf, hp, hs => by
    have e : k = n := by omega
    subst e
    exact hG p hp hs
  | f + 1, k, p, hkf, hp, hs => by
    show ((kas_place p k k 0 k).bind fun l => kas_bin f (bubble p k (k - l)) (k + 1)).kasWp cmp G s
    rw [KasT.kasWp_bind]
    refine place_wp H hk hp (by omega) hs k 0 k (by omega) (Nat.le_refl _) (by omega) (fun i hi => absurd hi (Nat.not_lt_zero _)) (fun i a b => by omega) fun l hl h1 h2 => ?_
    exact bin_wp H hk hG f (k + 1) _ (by omega) (bub_prm hp _ _) (bub_srt hp (by omega) hl hs h1 h2)
theorem sort_wp (H : Asks cmp key n s) (hk : Inj key n) (hn : 1 ≤ n) {G : Array Nat → Shared → Prop} (hG : ∀ p, Prm p n → Srt key p n → G p s) : (kas_sort n).kasWp cmp G s := by
  unfold kas_sort
  rw [KasT.kasWp_bind]
  refine count_wp H hk (p := List.toArray (List.range n)) (List.Perm.refl _) hn fun m p h1 h2 h3 h4 => ?_
  show (if m < n then kas_bin (n - max m 1) p (max m 1) else KasT.ret p).kasWp cmp G s
  have e : max m 1 = m := by omega
  rw [e]
  by_cases h : m < n
  · rw [if_pos h]
    exact bin_wp H hk hG (n - m) m p (by omega) h3 h4
  · rw [if_neg h]
    have e : m = n := by omega
    subst e
    exact hG p h3 h4
end
end Mine
namespace Mine
section
open PySem.Calls
section
variable {prog : Program} {w : World} {A : Around} {E : Value → Shared → Prop} {s : Shared} {h₀ : Heap} {L a : Addr} {m : Str → Option Value} {news : List (Addr × Obj)} {vs : List Value}
theorem short_list_sort {n : Nat} {P : PySem.Fin → Shared → Prop} (F : Fr h₀ L s.heap m) (N : News h₀ L s.heap news) (ho : s.heap.get? a = some (seqObj "list" vs.toArray n)) (haL : a ≠ L) (ha0 : h₀.get? a = none) (hna : ∀ p ∈ news, p.1 ≠ a)
    (h2 : vs.length < 2) (h : ∀ c h', Fr h₀ L h' m → News h₀ L h' ((a, seqObj "list" vs.toArray c) :: news) → P (.done (.ret .none)) { s with heap := h' }) :
    wpAny (model prog w) A (Builtin.«list.sort» ⟨[.ref a], []⟩) P E s := by
  have s1 := Heap.SameBut.update s.heap a (Obj.mapSeq fun _ => (#[] : Array Value))
  obtain ⟨e1, ho1⟩ : ∃ e1, (s.heap.update a (Obj.mapSeq fun _ => (#[] : Array Value))).get? a = some (seqObj "list" #[] e1) := ⟨_, get?_update_seq ho fun _ => #[]⟩
  let g := ((s.heap.update a (Obj.mapSeq fun _ => (#[] : Array Value))).push (seqObj "tuple" vs.toArray 0)).push (seqObj "list" #[] 0)
  have F3 : Fr h₀ L g m := ((kas_fr F s1 haL ha0).push _).push _
  have N3 : News h₀ L g news := (kas_news N s1 hna).grown fun b x e => Heap.get?_push_of_some _ (Heap.get?_push_of_some _ e)
  have hoa : g.get? a = some (seqObj "list" #[] e1) := Heap.get?_push_of_some _ (Heap.get?_push_of_some _ ho1)
  have s2 := Heap.SameBut.update g a (Obj.mapSeq fun _ => vs.toArray)
  obtain ⟨c2, hc2⟩ : ∃ c2, (g.update a (Obj.mapSeq fun _ => vs.toArray)).get? a = some (seqObj "list" vs.toArray c2) := ⟨_, get?_update_seq hoa fun _ => vs.toArray⟩
  rw [list_sort_plain]
  refine wpAny_bind (listItems_at ho rfl ?_)
  refine wpAny_bind (listUpdate_at ho rfl ?_ (by rw [List.size_toArray, sizeLine_eq]; omega) (Nat.zero_le _))
  refine wpAny_bind (seqEpoch_at ho1 rfl ?_)
  refine wpAny_bind (wpAny_newTuple ?_ (by show vs.length ≤ _; rw [sizeLine_eq]; omega))
  refine wpAny_bind (wpAny_newList ?_ (Nat.zero_le _))
  refine wpAny_holding ?_
  show wpAny (model prog w) A _ P E { s with heap := g }
  dsimp only
  have hn2 : vs.toArray.size < 2 := by rw [List.size_toArray]; omega
  rw [if_pos hn2, if_pos hn2]
  refine wpAny_bind (wpAny_pure ?_)
  refine wpAny_bind (wpAny_pure ?_)
  have hz : (arrOf (SortSt.mk' general' (vs.toArray.zip vs.toArray) #[] 7 none)).map (·.2) = vs.toArray := by
    show (vs.toArray.zip vs.toArray).map (·.2) = vs.toArray
    apply Array.toList_inj.mp
    simp [List.map_snd_zip]
  dsimp only
  rw [hz]
  refine wpAny_bind (seqEpoch_at hoa rfl ?_)
  refine wpAny_bind (listUpdate_at hoa rfl ?_ (Nat.zero_le _) (by rw [List.size_toArray, sizeLine_eq]; omega))
  simp only [bne_self_eq_false, Bool.false_eq_true, if_false]
  refine wpAny_pure (h c2 _ (kas_fr F3 s2 haL ha0) fun p hp => ?_)
  rcases List.mem_cons.mp hp with rfl | hp
  · exact ⟨hc2, haL, ha0⟩
  · exact kas_news N3 s2 hna p hp
theorem short_sorted {l : Addr} {Q : Value → Shared → Prop} (F : Fr h₀ L s.heap m) (N : News h₀ L s.heap news) (hl : s.heap.IsList l vs.toArray) (h2 : vs.length < 2)
    (h : ∀ D c h', Fr h₀ L h' m → News h₀ L h' ((D, seqObj "list" vs.toArray c) :: news) → (∀ q ∈ news, q.1 < D) → Q (.ref D) { s with heap := h' }) :
    wpAny (model prog w) A (call (.builtin "sorted") [.ref l]) Q E s := by
  refine call_function_entry kind_sorted plain_sorted entry_sorted (args_sorted1 _) ?_
  unfold Builtin.«sorted»
  refine wpAny_bind (m := checkCount "sorted" 1 1 _) (wpAny_pure ?_)
  refine wpAny_bind (collect_list hl ?_ (by rw [sizeLine_eq]; omega))
  refine wpAny_bind (wpAny_newList ?_ (by rw [sizeLine_eq]; omega))
  let g := ((s.heap.push (seqObj "list" #[] 0)).update s.heap.objs.size (Obj.mapSeq (· ++ vs.toArray))).push (seqObj "list" vs.toArray 0)
  have hsz : ((s.heap.push (seqObj "list" #[] 0)).update s.heap.objs.size (Obj.mapSeq (· ++ vs.toArray))).objs.size = s.heap.objs.size + 1 := by
    rw [Heap.size_update, size_push']
  have hoL : g.get? (s.heap.objs.size + 1) = some (seqObj "list" vs.toArray 0) := by
    rw [← hsz]; exact Heap.get?_push_size _ rfl
  have keep : ∀ b o, s.heap.get? b = some o → g.get? b = some o := fun b o q => by
    have hlt : b < s.heap.objs.size := Heap.lt_size q
    show (((s.heap.push (seqObj "list" #[] 0)).update s.heap.objs.size (Obj.mapSeq (· ++ vs.toArray))).push (seqObj "list" vs.toArray 0)).get? b = some o
    rw [Heap.get?_push_ne _ _ _ (by rw [hsz]; exact Nat.ne_of_lt (Nat.lt_succ_of_lt hlt)), Heap.get?_update_ne _ _ _ _ (Nat.ne_of_lt hlt), Heap.get?_push_ne _ _ _ (Nat.ne_of_lt hlt)]
    exact q
  have hL : L < s.heap.objs.size := F.ns.lt
  show wpAny _ _ _ _ _ { s with heap := g }
  rw [hsz]
  refine wpAny_bind (wpAny_holding (wpAny_call_entry slot_list_sort ⟨_, hoL, rfl⟩ entry_list_sort ?body (args_list_sort _)))
  case body =>
    refine short_list_sort (s := { s with heap := g }) (F.kept keep) (N.grown keep) hoL (Nat.ne_of_gt (Nat.lt_succ_of_lt hL)) (Heap.get?_none_of_le (Nat.le_trans F.above (Nat.le_succ_of_le (Nat.le_of_lt hL))))
      (fun p hp => Nat.ne_of_lt (Nat.lt_succ_of_lt (Heap.lt_size (N p hp).1))) h2 fun c h' F' N' => ?_
    exact ⟨_, rfl, wpAny_pure ⟨_, rfl, h _ c h' F' N' fun q hq => Nat.lt_succ_of_lt (Heap.lt_size (N q hq).1)⟩⟩
end
end
end Mine
namespace Mine
section
open PySem.Calls
theorem perm_pairs {news : List (Addr × Obj)} {lv dv : List Value} (hp : lv.Perm dv) : ∀ {ld : List (Int × Int)}, PairsIn news lv ld → ∃ dd, PairsIn news dv dd ∧ (lv.zip ld).Perm (dv.zip dd) := by
  induction hp with
  | nil => intro ld h; exact ⟨ld, h, List.Perm.refl _⟩
  | cons x _ ih =>
    intro ld h
    cases h with
    | cons hm r =>
      obtain ⟨dd, h1, h2⟩ := ih r
      exact ⟨_ :: dd, .cons hm h1, List.Perm.cons _ h2⟩
  | swap x y l =>
    intro ld h
    cases h with
    | cons hm r =>
      cases r with
      | cons hm2 r2 => exact ⟨_, .cons hm2 (.cons hm r2), List.Perm.swap _ _ _⟩
  | trans _ _ ih1 ih2 =>
    intro ld h
    obtain ⟨d1, h1, h2⟩ := ih1 h
    obtain ⟨d2, h3, h4⟩ := ih2 h1
    exact ⟨d2, h3, h2.trans h4⟩
theorem short_perm {α : Type} {a b : List α} (h : a.Perm b) (hl : a.length < 2) : a = b := by
  match a, hl with
  | [], _ => exact h.nil_eq
  | [x], _ => exact (List.singleton_perm.mp h)
theorem PairsIn.tups {h₀ h : Heap} {L : Addr} {news : List (Addr × Obj)} (N : News h₀ L h news) : ∀ {vs : List Value} {ds : List (Int × Int)}, PairsIn news vs ds → ∃ fs, KatTups h vs fs ∧ (∀ v ∈ fs, ∃ x t, v = Value.int x t) ∧ fs.length = vs.length
  | _, _, .nil => ⟨[], .nil, fun _ h => (nomatch h), rfl⟩
  | _, _, .cons (x := x) (tx := tx) hm r => by
    obtain ⟨fs, h1, h2, h3⟩ := r.tups N
    refine ⟨.int x tx :: fs, .cons (N _ hm).1 rfl rfl rfl h1, fun v hv => ?_, by simp [h3]⟩
    rcases List.mem_cons.mp hv with rfl | hv
    · exact ⟨_, _, rfl⟩
    · exact h2 v hv
/-- the keys of two items, by place -/
theorem PairsIn.at {news : List (Addr × Obj)} {vs : List Value} {ds : List (Int × Int)} (h : PairsIn news vs ds) {i : Nat} (hi : i < vs.length) :
    ∃ a n x y tx ty, vs.getD i Value.none = .ref a ∧ ds.getD i (0, 0) = (x, y) ∧ (a, ({ cls := .type "tuple", data := .seq #[.int x tx, .int y ty] n } : Obj)) ∈ news := by
  obtain ⟨a, n, x, y, tx, ty, h1, h2, h3⟩ := h.get (List.getElem?_eq_getElem hi)
  refine ⟨a, n, x, y, tx, ty, ?_, ?_, h3⟩
  · rw [← h1]; simp [hi]
  · rw [List.getD_eq_getElem?_getD, h2]; rfl
theorem perm_range_map {α : Type} {p : List Nat} {l : List α} {d : α} (h : p.Perm (List.range l.length)) : (p.map fun i => l.getD i d).Perm l := by
  refine (h.map _).trans (List.Perm.of_eq ?_)
  apply List.ext_getElem
  · simp
  · intro i h1 h2
    simp [h2]
theorem zip_nums {vs : List Value} {ds : List (Int × Int)} (h : vs.length = ds.length) : ((vs.zip ds).map fun z => z.2.1) = ds.map (·.1) := by
  have e : ((vs.zip ds).map (·.2)) = ds := List.map_snd_zip (by omega)
  calc ((vs.zip ds).map fun z => z.2.1) = ((vs.zip ds).map (·.2)).map (·.1) := by rw [List.map_map]; rfl
    _ = ds.map (·.1) := by rw [e]
section
variable {prog : Program} {w : World} {A : Around} {E : Value → Shared → Prop} {s : Shared} {h₀ : Heap} {L : Addr} {m : Str → Option Value} {news tl : List (Addr × Obj)} {dv lv : List Value} {ld dd : List (Int × Int)}
theorem pairs_asks (N : News h₀ L s.heap news) (hT : ∀ p ∈ tl, p ∈ news) (hD : PairsIn tl dv dd) (hinj : Inj (fun i => (dd.getD i (0, 0)).1) dv.length) :
    Asks (kas_ask prog w A (tuples' true) dv) (fun i => (dd.getD i (0, 0)).1) dv.length s := by
  intro i j C hi hj hC
  obtain ⟨a, n, x, y, tx, ty, h1, h2, h3⟩ := hD.at hi
  obtain ⟨a', n', x', y', tx', ty', k1, k2, k3⟩ := hD.at hj
  simp only [h2, k2] at hC
  unfold kas_ask
  rw [h1, k1]
  refine kat_lt (N _ (hT _ h3)).1 rfl (N _ (hT _ k3)).1 rfl ?_
  show KatLex prog w A true (decide (2 < 2)) C [(Value.int x tx, Value.int x' tx'), (Value.int y ty, Value.int y' ty')] 0 s
  refine kat_cons (wpAny_eqBool_int (kat_go (fun e => kat_yes ?_) fun e => kat_no ?_))
  · have e : x = x' := by simpa using e
    have hij : i = j := hinj i j hi hj (by simp only [h2, k2]; exact e)
    subst hij
    rw [h2] at k2
    have ey : y = y' := (Prod.mk.inj k2).2
    subst e ey
    refine kat_cons (wpAny_eqBool_int (kat_go (fun _ => kat_yes (kat_nil ?_)) fun e => absurd e (by simp)))
    simpa using hC
  · exact oneLt_int hC
theorem sorted_out {p : Array Nat} (hD : PairsIn tl dv dd) (hL : PairsIn tl lv ld) (hz : (lv.zip ld).Perm (dv.zip dd)) (hs : ld.Pairwise fun p q => p.1 < q.1) (hp : Prm p dv.length) (hk : Srt (fun i => (dd.getD i (0, 0)).1) p dv.length) :
    (p.toList.map fun i => dv.getD i Value.none) = lv := by
  have hdl := hD.length
  have hll := hL.length
  have hzl : (dv.zip dd).length = dv.length := by rw [List.length_zip, ← hdl, Nat.min_self]
  let outz := p.toList.map fun i => (dv.zip dd).getD i (Value.none, (0, 0))
  have o1 : outz.Perm (lv.zip ld) := (perm_range_map (by rw [hzl]; exact hp)).trans hz.symm
  have get : ∀ i, i < dv.length → (dv.zip dd).getD i (Value.none, (0, 0)) = (dv.getD i Value.none, dd.getD i (0, 0)) := fun i hi => by
    have hi2 : i < dd.length := by omega
    have hi3 : i < (dv.zip dd).length := by omega
    have g1 : (dv.zip dd).getD i (Value.none, (0, 0)) = (dv.zip dd)[i] := by simp [List.getD_eq_getElem?_getD, List.getElem?_eq_getElem hi3]
    have g2 : dv.getD i Value.none = dv[i] := by simp [hi]
    have g3 : dd.getD i (0, 0) = dd[i] := by simp [hi2]
    rw [g1, g2, g3, List.getElem_zip]
  have memlt : ∀ i ∈ p.toList, i < dv.length := fun i hi => by
    have := hp.mem_iff.mp hi
    simpa using this
  have o2 : outz.Pairwise fun a b => a.2.1 < b.2.1 := by
    rw [List.pairwise_map]
    refine List.pairwise_iff_getElem.mpr fun i j hi hj hij => ?_
    have hsz := hp.size
    have hi' : i < dv.length := by simpa [hsz] using hi
    have hj' : j < dv.length := by simpa [hsz] using hj
    have e1 : p.toList[i] = at' p i := by
      have h := hp.at hi'
      rw [← Array.getElem?_toList, List.getElem?_eq_getElem hi] at h
      exact Option.some.inj h
    have e2 : p.toList[j] = at' p j := by
      have h := hp.at hj'
      rw [← Array.getElem?_toList, List.getElem?_eq_getElem hj] at h
      exact Option.some.inj h
    rw [e1, e2, get _ (hp.lt hi'), get _ (hp.lt hj')]
    exact hk i j hij hj'
  have o3 : (lv.zip ld).Pairwise fun a b => a.2.1 < b.2.1 := by
    have h : ((lv.zip ld).map (·.2)).Pairwise fun p q => p.1 < q.1 := by
      rw [List.map_snd_zip (by omega)]
      exact hs
    rwa [List.pairwise_map] at h
  have o4 : outz = lv.zip ld := List.Perm.eq_of_pairwise (fun a b _ _ h1 h2 => absurd h1 (by omega)) o2 o3 o1
  have o5 : (p.toList.map fun i => dv.getD i Value.none) = outz.map (·.1) := by
    rw [List.map_map]
    refine List.map_congr_left fun i hi => ?_
    show _ = ((dv.zip dd).getD i (Value.none, (0, 0))).1
    rw [get i (memlt i hi)]
  rw [o5, o4, List.map_fst_zip (by omega)]
theorem sorted_pairs {l : Addr} {Q : Value → Shared → Prop} (F : Fr h₀ L s.heap m) (N : News h₀ L s.heap news) (hl : s.heap.IsList l dv.toArray) (hT : ∀ p ∈ tl, p ∈ news) (hL : PairsIn tl lv ld) (hperm : dv.Perm lv) (hlen : lv.length ≤ 16) (hs : ld.Pairwise fun p q => p.1 < q.1)
    (h : ∀ D c h', Fr h₀ L h' m → News h₀ L h' ((D, listOf lv.toArray c) :: news) → (∀ q ∈ news, q.1 < D) → Q (.ref D) { s with heap := h' }) :
    wpAny (model prog w) A (call (.builtin "sorted") [.ref l]) Q E s := by
  by_cases h2 : dv.length < 2
  · have e := short_perm hperm h2
    subst e
    exact short_sorted F N hl h2 h
  · obtain ⟨dd, hD, hz⟩ := perm_pairs hperm.symm hL
    have hlen2 := hperm.length_eq
    refine kat_sorted F N hl (by omega) (by omega) fun D e1 h' F' N' lt => ?_
    have N0 : News h₀ L h' news := fun p hp => N' p (.tail _ hp)
    obtain ⟨fs, t1, t2, t3⟩ := (hD.mono hT).tups N0
    refine kat_kind (T := Value.type "int") t1 (by omega) (fun v hv => ?_) (by rfl) ?_
    · obtain ⟨x, t, rfl⟩ := t2 v hv
      exact Looks.of_pure rfl
    · have eT : (Value.type "int" != Value.type "tuple") = true := by rfl
      rw [eT]
      have hdl := hD.length
      have hinj : Inj (fun i => (dd.getD i (0, 0)).1) dv.length := by
        have hpw : ((dv.zip dd).map fun z => z.2.1).Nodup := by
          refine ((hz.map fun z => z.2.1).nodup_iff).mp ?_
          rw [zip_nums hL.length]
          refine List.Pairwise.map _ (fun a b hab => ?_) hs
          omega
        rw [zip_nums hdl] at hpw
        intro i j hi hj e
        have hi' : i < (dd.map (·.1)).length := by rw [List.length_map]; omega
        refine (List.getElem?_inj hi' hpw).mp ?_
        have a1 : i < dd.length := by omega
        have a2 : j < dd.length := by omega
        have e' : (dd.getD i (0, 0)).1 = (dd.getD j (0, 0)).1 := e
        simp [a1, a2] at e' ⊢
        exact e'
      refine sort_wp (key := fun i => (dd.getD i (0, 0)).1) (pairs_asks N0 hT hD hinj) hinj (by omega) fun p hp hk => ?_
      rw [sorted_out hD hL hz hs hp hk]
      exact KasFin.intro F' N' (.head fun q hq => Nat.ne_of_lt (lt q hq)) fun h3 c F3 N3 => h D c h3 F3 N3 lt
end
end
end Mine
namespace Mine
section
open PySem.Calls
/-- the loop of is_persistent, from a first or with a begin and a last -/
def persGo (as_ : List Int) (kf span : Int) : List (Int × Int) → Option (Int × Int) → Bool
  | [], _ => false
  | p :: r, st => if p.2 ≤ kf then persGo as_ kf span r st else
    if span < p.2 - (match st with | none => p.2 | some q => if kept q.2 p.1 as_ = [] then q.1 else p.2) then true
    else persGo as_ kf span r (some ((match st with | none => p.2 | some q => if kept q.2 p.1 as_ = [] then q.1 else p.2), p.1))
def StOk (st : Option (Int × Int)) (vb vl : Value) : Prop := match st with
  | none => vb = .none ∧ vl = .none
  | some q => ∃ tb tl, vb = .int q.1 tb ∧ vl = .int q.2 tl
def Pgo (as_ : List Int) (kf span : Int) (ld : List (Int × Int)) (i : Nat) (st : Option (Int × Int)) : Prop := persGo as_ kf span ld none = persGo as_ kf span (ld.drop i) st
section
variable {as_ : List Int} {kf span x y b l : Int} {ld : List (Int × Int)} {i : Nat} {st : Option (Int × Int)}
theorem drop_at (h : ld[i]? = some (x, y)) : ld.drop i = (x, y) :: ld.drop (i + 1) := by
  obtain ⟨hi, e⟩ := List.getElem?_eq_some_iff.mp h
  rw [List.drop_eq_getElem_cons hi, e]
theorem Pgo.skip (h : Pgo as_ kf span ld i st) (hi : ld[i]? = some (x, y)) (hy : y ≤ kf) : Pgo as_ kf span ld (i + 1) st := by
  unfold Pgo at h ⊢
  rw [h, drop_at hi]
  show (if y ≤ kf then _ else _) = _
  rw [if_pos hy]
theorem Pgo.first (h : Pgo as_ kf span ld i none) (hi : ld[i]? = some (x, y)) (hy : ¬ y ≤ kf) (hs : ¬ span < y - y) : Pgo as_ kf span ld (i + 1) (some (y, x)) := by
  unfold Pgo at h ⊢
  rw [h, drop_at hi]
  show (if y ≤ kf then _ else if span < y - y then _ else _) = _
  rw [if_neg hy, if_neg hs]
theorem Pgo.on (h : Pgo as_ kf span ld i (some (b, l))) (hi : ld[i]? = some (x, y)) (hy : ¬ y ≤ kf) (hk : kept l x as_ = []) (hs : ¬ span < y - b) : Pgo as_ kf span ld (i + 1) (some (b, x)) := by
  unfold Pgo at h ⊢
  rw [h, drop_at hi]
  show (if y ≤ kf then _ else if span < y - (if kept l x as_ = [] then b else y) then _ else persGo as_ kf span (ld.drop (i + 1)) (some ((if kept l x as_ = [] then b else y), x))) = _
  rw [if_neg hy, if_pos hk, if_neg hs]
theorem Pgo.anew (h : Pgo as_ kf span ld i (some (b, l))) (hi : ld[i]? = some (x, y)) (hy : ¬ y ≤ kf) (hk : ¬ kept l x as_ = []) (hs : ¬ span < y - y) : Pgo as_ kf span ld (i + 1) (some (y, x)) := by
  unfold Pgo at h ⊢
  rw [h, drop_at hi]
  show (if y ≤ kf then _ else if span < y - (if kept l x as_ = [] then b else y) then _ else persGo as_ kf span (ld.drop (i + 1)) (some ((if kept l x as_ = [] then b else y), x))) = _
  rw [if_neg hy, if_neg hk, if_neg hs]
theorem Pgo.yes (h : Pgo as_ kf span ld i (some (b, l))) (hi : ld[i]? = some (x, y)) (hy : ¬ y ≤ kf) (hk : kept l x as_ = []) (hs : span < y - b) : persGo as_ kf span ld none = true := by
  unfold Pgo at h
  rw [h, drop_at hi]
  show (if y ≤ kf then _ else if span < y - (if kept l x as_ = [] then b else y) then _ else _) = _
  rw [if_neg hy, if_pos hk, if_pos hs]
theorem Pgo.no (h : Pgo as_ kf span ld ld.length st) : persGo as_ kf span ld none = false := by
  unfold Pgo at h
  rw [h, List.drop_length]; rfl
end
abbrev map5 (m₀ u : Str → Option Value) (vb vl : Value) : Str → Option Value := fun y => if y = Str.ofString "begin" then some vb else if y = Str.ofString "last" then some vl else if y = Str.ofString "number" then u y else if y = Str.ofString "sent_at" then u y else m₀ y
def J5 (D : Addr) (LO : Obj) (news : List (Addr × Obj)) (m₀ : Str → Option Value) (P : Nat → Option (Int × Int) → Prop) (i : Nat) (m : Str → Option Value) (nx : List (Addr × Obj)) : Prop :=
  ∃ (st : Option (Int × Int)) (vb vl : Value) (u : Str → Option Value), nx = (D, LO) :: news ∧ P i st ∧ StOk st vb vl ∧ m = map5 m₀ u vb vl
section
variable {prog : Program} {w : World} {A : Around} {E : Value → Shared → Prop} {s : Shared} {env : Env} {h₀ : Heap} {target : Expr} {body : List Stmt} {Q : Flow → Shared → Prop} {D : Addr} {news tl : List (Addr × Obj)} {m₀ : Str → Option Value} {vs : List Value} {ld : List (Int × Int)} {nn : Nat} {as_ : List Int} {kf span : Int} {tk0 ts0 : Tok}
theorem loop5 (as_ : List Int) (hh : A.handled = none) (hP : PairsIn tl vs ld) (hT : ∀ p ∈ tl, p ∈ news) (F : Fr h₀ env.locals s.heap m₀) (N : News h₀ env.locals s.heap ((D, listOf vs.toArray nn) :: news))
    (hb : m₀ (Str.ofString "begin") = some .none) (hl : m₀ (Str.ofString "last") = some .none) (hkf0 : m₀ (Str.ofString "first_at") = some (.int kf tk0)) (hsp0 : m₀ (Str.ofString "span") = some (.int span ts0))
    (turn : ∀ i a x y tx ty st vb vl u h tk own, ld[i]? = some (x, y) → OwnOff own (((D, listOf vs.toArray nn) :: news).map (·.1)) → Pgo as_ kf span ld i st → StOk st vb vl → IsTup h a #[.int x tx, .int y ty] →
      Fr h₀ env.locals h (map5 m₀ u vb vl) → News h₀ env.locals h ((D, listOf vs.toArray nn) :: (news ++ own)) →
      wpAny (model prog w) A (assign target env (.ref a)) (fun _ s₃ => wpAny (model prog w) A (execs body env) (InvPostG h₀ env.locals (fun m' nx => (D, listOf vs.toArray nn) ∈ nx ∧ J5 D (listOf vs.toArray nn) news m₀ (Pgo as_ kf span ld) (i + 1) m' nx) own { s with heap := h, toks := tk } Q) E s₃) E { s with heap := h, toks := tk })
    (done : ∀ st vb vl u h tk, Pgo as_ kf span ld ld.length st → Fr h₀ env.locals h (map5 m₀ u vb vl) → News h₀ env.locals h ((D, listOf vs.toArray nn) :: news) → Q .next { s with heap := h, toks := tk }) :
    wpAny (model prog w) A (pyIter (.ref D)) (fun it s₂ => TurnsAt prog w A h₀ env target body Q E it s₂) E s := by
  refine pairs_loop (l := D) (vs := vs) (ld := ld) (nn := nn) (news := (D, listOf vs.toArray nn) :: news) (J5 D (listOf vs.toArray nn) news m₀ (Pgo as_ kf span ld)) hh (.head _) (fun i m nx hJ => ?_) hP.length.symm F N ⟨none, .none, .none, m₀, rfl, rfl, ⟨rfl, rfl⟩, ?_⟩ ?_ ?_
  · obtain ⟨st, vb, vl, u, rfl, _⟩ := hJ
    exact hP.mono fun p hp => .tail _ (hT p hp)
  · funext y
    unfold map5
    by_cases h : y = Str.ofString "begin"
    · rw [if_pos h, h, hb]
    · by_cases h' : y = Str.ofString "last"
      · rw [if_neg h, if_pos h', h', hl]
      · rw [if_neg h, if_neg h']; simp
  · rintro i a x y tx ty m₁ nx h tk own hi hoff hm ⟨st, vb, vl, u, rfl, gp, gs, rfl⟩ hTu F₁ N₁
    exact turn i a x y tx ty st vb vl u h tk own hi hoff gp gs hTu F₁ N₁
  · rintro m₁ nx h tk ⟨st, vb, vl, u, rfl, gp, gs, rfl⟩ F₁ N₁
    exact done st vb vl u h tk gp F₁ N₁
variable {L : Addr} {h' : Heap} {m' : Str → Option Value} {own : List (Addr × Obj)} {i tk : Nat} {s₁ : Shared} {vb vl : Value} {LO : Obj} {P : Nat → Option (Int × Int) → Prop}
theorem end5 (st : Option (Int × Int)) (F : Fr h₀ L h' m') (N : News h₀ L h' ((D, LO) :: (news ++ own))) (hoff : OwnOff own (((D, LO) :: news).map (·.1))) (hp : P (i + 1) st) (hs : StOk st vb vl)
    (hvb : m' (Str.ofString "begin") = some vb) (hvl : m' (Str.ofString "last") = some vl) (hm : ∀ y, y ≠ Str.ofString "begin" → y ≠ Str.ofString "last" → y ≠ Str.ofString "number" → y ≠ Str.ofString "sent_at" → m' y = m₀ y) :
    InvEndG h₀ L (fun m' nx => (D, LO) ∈ nx ∧ J5 D LO news m₀ P (i + 1) m' nx) own s₁ { s₁ with heap := h', toks := tk } := by
  refine InvEndG.intro F N (nx := (D, LO) :: news) ⟨.head _, st, vb, vl, m', rfl, hp, hs, ?_⟩ hoff (fun p hp => ?_) fun p hp => .tail _ (List.mem_append.mpr (.inr hp))
  · funext y
    unfold map5
    by_cases h1 : y = Str.ofString "begin"
    · rw [if_pos h1, h1, hvb]
    · by_cases h2 : y = Str.ofString "last"
      · rw [if_neg h1, if_pos h2, h2, hvl]
      · by_cases h3 : y = Str.ofString "number"
        · rw [if_neg h1, if_neg h2, if_pos h3]
        · by_cases h4 : y = Str.ofString "sent_at"
          · rw [if_neg h1, if_neg h2, if_neg h3, if_pos h4]
          · rw [if_neg h1, if_neg h2, if_neg h3, if_neg h4]; exact hm y h1 h2 h3 h4
  · rcases List.mem_cons.mp hp with rfl | hp
    · exact .head _
    · exact .tail _ (List.mem_append.mpr (.inl hp))
end
end
end Mine
namespace Mine
/-- none of the acknowledged lies between -/
def NoAck (as_ : List Int) (x y : Int) : Prop := ∀ a ∈ as_, ¬ (x < a ∧ a < y)
theorem kept_iff {x y : Int} {as_ : List Int} : kept x y as_ = [] ↔ NoAck as_ x y := by
  have gen : ∀ (as_ l : List Int), as_.foldl (fun l k => if x < k ∧ k < y then l ++ [k] else l) l = l ++ as_.filter fun k => decide (x < k ∧ k < y) := by
    intro as_
    induction as_ with
    | nil => intro l; simp
    | cons a r ih =>
      intro l
      rw [List.foldl_cons, ih]
      by_cases h : x < a ∧ a < y
      · rw [if_pos h, List.filter_cons_of_pos (by simpa using h)]; simp
      · rw [if_neg h, List.filter_cons_of_neg (by simpa using h)]
  have e : kept x y as_ = as_.filter fun k => decide (x < k ∧ k < y) := by
    have h := gen as_ []
    rw [List.nil_append] at h
    exact h
  rw [e, List.filter_eq_nil_iff]
  constructor
  · intro h a ha hx
    exact h a ha (by simpa using hx)
  · intro h a ha hx
    exact h a ha (by simpa using hx)
section
variable {as_ : List Int} {kf span : Int}
theorem NoAck.join {l n q : Int} (h1 : NoAck as_ l n) (h2 : NoAck as_ n q) (hn : ∀ a ∈ as_, n ≠ a) : NoAck as_ l q := fun a ha h => by
  have a1 := h1 a ha
  have a2 := h2 a ha
  have a3 := hn a ha
  omega
theorem NoAck.right {l n q : Int} (h : NoAck as_ l q) (hl : l ≤ n) : NoAck as_ n q := fun a ha h' => h a ha (by omega)
theorem NoAck.left {l n q : Int} (h : NoAck as_ l q) (hl : n ≤ q) : NoAck as_ l n := fun a ha h' => h a ha (by omega)
/-- two of the list that make it persistent, whatever the first sample -/
def Two (as_ : List Int) (span : Int) (r : List (Int × Int)) : Prop := ∃ p ∈ r, ∃ q ∈ r, p.1 < q.1 ∧ NoAck as_ p.1 q.1 ∧ span < q.2 - p.2
theorem go_some (h0 : 0 ≤ span) : ∀ (r : List (Int × Int)) (b l : Int), (∀ p ∈ r, l < p.1 ∧ b ≤ p.2) → kf < b → (r.Pairwise fun p q => p.1 < q.1 ∧ p.2 ≤ q.2) → (∀ p ∈ r, ∀ a ∈ as_, p.1 ≠ a) →
    (persGo as_ kf span r (some (b, l)) = true ↔ (∃ q ∈ r, NoAck as_ l q.1 ∧ span < q.2 - b) ∨ Two as_ span r)
  | [], b, l, _, _, _, _ => by
    constructor
    · intro h; cases h
    · rintro (⟨q, hq, _⟩ | ⟨q, hq, _⟩) <;> cases hq
  | (n, t) :: r, b, l, hr, hb, hpw, hd => by
    obtain ⟨hlt, hbt⟩ := hr (n, t) (.head _)
    have hlt : l < n := hlt
    have hbt : b ≤ t := hbt
    obtain ⟨hpn, hpr⟩ := List.pairwise_cons.mp hpw
    have hn : ∀ a ∈ as_, n ≠ a := hd (n, t) (.head _)
    have hdr : ∀ p ∈ r, ∀ a ∈ as_, p.1 ≠ a := fun p hp => hd p (.tail _ hp)
    have step : persGo as_ kf span ((n, t) :: r) (some (b, l)) = if span < t - (if kept l n as_ = [] then b else t) then true else persGo as_ kf span r (some ((if kept l n as_ = [] then b else t), n)) := by
      show (if t ≤ kf then _ else _) = _
      rw [if_neg (by omega)]
    rw [step]
    by_cases hk : kept l n as_ = []
    · have hA := kept_iff.mp hk
      rw [if_pos hk]
      by_cases hs : span < t - b
      · rw [if_pos hs]
        exact ⟨fun _ => .inl ⟨(n, t), .head _, hA, hs⟩, fun _ => rfl⟩
      · rw [if_neg hs]
        have ih := go_some h0 r b n (fun p hp => ⟨(hpn p hp).1, by have := (hpn p hp).2; simp only at this; omega⟩) hb hpr hdr
        rw [ih]
        constructor
        · rintro (⟨q, hq, h1, h2⟩ | ⟨p, hp, q, hq, h⟩)
          · exact .inl ⟨q, .tail _ hq, hA.join h1 hn, h2⟩
          · exact .inr ⟨p, .tail _ hp, q, .tail _ hq, h⟩
        · rintro (⟨q, hq, h1, h2⟩ | ⟨p, hp, q, hq, h1, h2, h3⟩)
          · rcases List.mem_cons.mp hq with rfl | hq
            · exact absurd h2 hs
            · exact .inl ⟨q, hq, h1.right (by omega), h2⟩
          · rcases List.mem_cons.mp hp with rfl | hp
            · rcases List.mem_cons.mp hq with rfl | hq
              · exact absurd h1 (by simp)
              · exact .inl ⟨q, hq, h2, by simp only at h3; omega⟩
            · rcases List.mem_cons.mp hq with rfl | hq
              · have := (hpn p hp).1; simp only at this h1; omega
              · exact .inr ⟨p, hp, q, hq, h1, h2, h3⟩
    · have hA : ¬ NoAck as_ l n := fun h => hk (kept_iff.mpr h)
      rw [if_neg hk, if_neg (by omega)]
      have ih := go_some h0 r t n (fun p hp => hpn p hp) (by omega) hpr hdr
      rw [ih]
      constructor
      · rintro (⟨q, hq, h1, h2⟩ | ⟨p, hp, q, hq, h⟩)
        · exact .inr ⟨(n, t), .head _, q, .tail _ hq, (hpn q hq).1, h1, h2⟩
        · exact .inr ⟨p, .tail _ hp, q, .tail _ hq, h⟩
      · rintro (⟨q, hq, h1, h2⟩ | ⟨p, hp, q, hq, h1, h2, h3⟩)
        · rcases List.mem_cons.mp hq with rfl | hq
          · exact absurd h1 hA
          · exact absurd (h1.left (by have := (hpn q hq).1; simp only at this; omega)) hA
        · rcases List.mem_cons.mp hp with rfl | hp
          · rcases List.mem_cons.mp hq with rfl | hq
            · exact absurd h1 (by simp)
            · exact .inl ⟨q, hq, h2, h3⟩
          · rcases List.mem_cons.mp hq with rfl | hq
            · have := (hpn p hp).1; simp only at this h1; omega
            · exact .inr ⟨p, hp, q, hq, h1, h2, h3⟩
theorem go_none (h0 : 0 ≤ span) : ∀ (r : List (Int × Int)), (r.Pairwise fun p q => p.1 < q.1 ∧ p.2 ≤ q.2) → (∀ p ∈ r, ∀ a ∈ as_, p.1 ≠ a) →
    (persGo as_ kf span r none = true ↔ ∃ p ∈ r, ∃ q ∈ r, p.1 < q.1 ∧ NoAck as_ p.1 q.1 ∧ kf < p.2 ∧ span < q.2 - p.2)
  | [], _, _ => by
    constructor
    · intro h; cases h
    · rintro ⟨q, hq, _⟩; cases hq
  | (n, t) :: r, hpw, hd => by
    obtain ⟨hpn, hpr⟩ := List.pairwise_cons.mp hpw
    have hdr : ∀ p ∈ r, ∀ a ∈ as_, p.1 ≠ a := fun p hp => hd p (.tail _ hp)
    by_cases ht : t ≤ kf
    · have step : persGo as_ kf span ((n, t) :: r) none = persGo as_ kf span r none := by
        show (if t ≤ kf then _ else _) = _
        rw [if_pos ht]
      rw [step, go_none h0 r hpr hdr]
      constructor
      · rintro ⟨p, hp, q, hq, h⟩
        exact ⟨p, .tail _ hp, q, .tail _ hq, h⟩
      · rintro ⟨p, hp, q, hq, h1, h2, h3, h4⟩
        rcases List.mem_cons.mp hp with rfl | hp
        · simp only at h3; omega
        · rcases List.mem_cons.mp hq with rfl | hq
          · have := (hpn p hp).1; simp only at this h1; omega
          · exact ⟨p, hp, q, hq, h1, h2, h3, h4⟩
    · have step : persGo as_ kf span ((n, t) :: r) none = persGo as_ kf span r (some (t, n)) := by
        show (if t ≤ kf then _ else if span < t - t then _ else _) = _
        rw [if_neg ht, if_neg (by omega)]
      rw [step, go_some h0 r t n (fun p hp => hpn p hp) (by omega) hpr hdr]
      constructor
      · rintro (⟨q, hq, h1, h2⟩ | ⟨p, hp, q, hq, h1, h2, h3⟩)
        · exact ⟨(n, t), .head _, q, .tail _ hq, (hpn q hq).1, h1, by show kf < t; omega, h2⟩
        · exact ⟨p, .tail _ hp, q, .tail _ hq, h1, h2, by have := (hpn p hp).2; simp only at this; omega, h3⟩
      · rintro ⟨p, hp, q, hq, h1, h2, h3, h4⟩
        rcases List.mem_cons.mp hp with rfl | hp
        · rcases List.mem_cons.mp hq with rfl | hq
          · exact absurd h1 (by simp)
          · exact .inl ⟨q, hq, h2, h4⟩
        · rcases List.mem_cons.mp hq with rfl | hq
          · have := (hpn p hp).1; simp only at this h1; omega
          · exact .inr ⟨p, hp, q, hq, h1, h2, h4⟩
/-- the plain law: what is_persistent finds is what the law's two loops find -/
theorem plain_law {ld : List (Int × Int)} (h0 : 0 ≤ span) (hpw : ld.Pairwise fun p q => p.1 < q.1 ∧ p.2 ≤ q.2) (hd : ∀ a ∈ as_, ∀ p ∈ ld, p.1 ≠ a) :
    persGo as_ kf span ld none = ld.any fun p => ld.any (dueOf as_ (some kf) span p) := by
  rw [Bool.eq_iff_iff, go_none h0 ld hpw fun p hp a ha => hd a ha p hp, List.any_eq_true]
  constructor
  · rintro ⟨p, hp, q, hq, h1, h2, h3, h4⟩
    refine ⟨p, hp, List.any_eq_true.mpr ⟨q, hq, ?_⟩⟩
    exact dueOf_t (x := p.1) (y := p.2) (x2 := q.1) (y2 := q.2) h1 (by simpa using kept_iff.mpr h2) h3 h4
  · rintro ⟨p, hp, h⟩
    obtain ⟨q, hq, h⟩ := List.any_eq_true.mp h
    unfold dueOf at h
    simp only [Bool.and_eq_true, decide_eq_true_eq] at h
    obtain ⟨⟨⟨h1, h2⟩, h3⟩, h4⟩ := h
    exact ⟨p, hp, q, hq, h1, kept_iff.mp h2, h3, h4⟩
theorem plain_none {ld : List (Int × Int)} : (ld.any fun p => ld.any (dueOf as_ none span p)) = false := by
  rw [Bool.eq_false_iff, ne_eq, List.any_eq_true]
  rintro ⟨p, hp, h⟩
  obtain ⟨q, hq, h⟩ := List.any_eq_true.mp h
  rw [show dueOf as_ none span p q = false from dueOf_f5] at h
  cases h
theorem plain_due {ld : List (Int × Int)} {d : Bool} (h0 : 0 ≤ span) (hpw : ld.Pairwise fun p q => p.1 < q.1 ∧ p.2 ≤ q.2) (hd : ∀ a ∈ as_, ∀ p ∈ ld, p.1 ≠ a) (hp : P2 ld as_ (some kf) span ld.length d) : persGo as_ kf span ld none = d := by
  unfold P2 at hp
  rw [List.take_length] at hp
  rw [hp]
  exact plain_law h0 hpw hd
theorem none_due {ld : List (Int × Int)} {d : Bool} (hp : P2 ld as_ none span ld.length d) : d = false := by
  unfold P2 at hp
  rw [List.take_length] at hp
  rw [hp]
  exact plain_none
end
end Mine
namespace Mine
/-- what a draw leaves: the box with a new seed, its inner list with no more items -/
abbrev boxL (b l : Addr) (vs : List Value) (sd : Int) (st : Tok) (n₁ n₂ : Nat) (rest : List (Addr × Obj)) : List (Addr × Obj) := (b, listOf #[.ref l, .int sd st] n₁) :: (l, listOf vs.toArray n₂) :: rest
theorem fmod_in {a k : Int} (hk : 0 < k) : 0 ≤ a.fmod k ∧ a.fmod k < k := ⟨Int.fmod_nonneg_of_pos a hk, Int.fmod_lt_of_pos a hk⟩
def TakeNil (prog : Program) (w : World) (K : Frag) (V : Program) (Lo : List Str) (mean : ExcName → Option Value) (mg mb : Str → Option Value) : Prop :=
  ∀ {E : Value → Shared → Prop} {s : Shared} {h₀ : Heap} {env : Env} {L b l : Addr} {m : Str → Option Value} {rest : List (Addr × Obj)} {n₁ n₂ : Nat} {sd : Int} {st : Tok} {k : Int} {kt : Tok} {Q : Value → Shared → Prop},
    (K.In h₀) → (Below callerA h₀ [] h₀) → (Top V Lo mean mg mb h₀) → Fr h₀ L s.heap m → News h₀ L s.heap ((b, listOf #[.ref l, .int sd st] n₁) :: (l, listOf #[] n₂) :: rest) →
    OwnOff rest [b, l] → b ≠ l → env.frame = some L → env.scope.kind = .function → 0 ≤ sd → sd < 2147483647 → 0 < k → k < 100 →
    (∀ h' tk sd' t' r u, 0 ≤ sd' → sd' < 2147483647 → 0 ≤ r → r < k → Fr h₀ L h' m → News h₀ L h' ((b, listOf #[.ref l, .int sd' t'] n₁) :: (l, listOf #[] n₂) :: rest) → Q (.int r u) { s with heap := h', toks := tk }) →
    wpAny (model prog w) (callerA.deeper env) (call (.ref 40) [.ref b, .int k kt]) Q E s
theorem TakeNil.use {prog : Program} {w : World} {K : Frag} {V : Program} {Lo : List Str} {mean : ExcName → Option Value} {mg mb : Str → Option Value} {E : Value → Shared → Prop} {s : Shared} {h₀ : Heap} {env : Env} {L b l : Addr} {m : Str → Option Value} {rest : List (Addr × Obj)} {n₁ n₂ : Nat} {sd : Int} {st : Tok} {k : Int} {kt : Tok} {Q : Value → Shared → Prop} (R : TakeNil prog w K V Lo mean mg mb) :
    (K.In h₀) → (Below callerA h₀ [] h₀) → (Top V Lo mean mg mb h₀) → Fr h₀ L s.heap m → News h₀ L s.heap ((b, listOf #[.ref l, .int sd st] n₁) :: (l, listOf #[] n₂) :: rest) →
    OwnOff rest [b, l] → b ≠ l → env.frame = some L → env.scope.kind = .function → 0 ≤ sd → sd < 2147483647 → 0 < k → k < 100 →
    (∀ h' tk sd' t' r u, 0 ≤ sd' → sd' < 2147483647 → 0 ≤ r → r < k → Fr h₀ L h' m → News h₀ L h' ((b, listOf #[.ref l, .int sd' t'] n₁) :: (l, listOf #[] n₂) :: rest) → Q (.int r u) { s with heap := h', toks := tk }) →
    wpAny (model prog w) (callerA.deeper env) (call (.ref 40) [.ref b, .int k kt]) Q E s := R
def TakeCons (prog : Program) (w : World) (K : Frag) (V : Program) (Lo : List Str) (mean : ExcName → Option Value) (mg mb : Str → Option Value) : Prop :=
  ∀ {E : Value → Shared → Prop} {s : Shared} {h₀ : Heap} {env : Env} {L b l : Addr} {m : Str → Option Value} {rest : List (Addr × Obj)} {n₁ n₂ : Nat} {sd : Int} {st : Tok} {k : Int} {kt : Tok} {Q : Value → Shared → Prop} {x : Int} {xt : Tok} {vs : List Value},
    (K.In h₀) → (Below callerA h₀ [] h₀) → (Top V Lo mean mg mb h₀) → Fr h₀ L s.heap m → News h₀ L s.heap ((b, listOf #[.ref l, .int sd st] n₁) :: (l, listOf (Value.int x xt :: vs).toArray n₂) :: rest) →
    OwnOff rest [b, l] → b ≠ l → env.frame = some L → env.scope.kind = .function → 0 ≤ sd → sd < 2147483647 → 0 < k → k < 100 → vs.length ≤ 64 →
    (∀ h' tk r u n₂', 0 ≤ r → r < k → Fr h₀ L h' m → News h₀ L h' ((b, listOf #[.ref l, .int sd st] n₁) :: (l, listOf vs.toArray n₂') :: rest) → Q (.int r u) { s with heap := h', toks := tk }) →
    wpAny (model prog w) (callerA.deeper env) (call (.ref 40) [.ref b, .int k kt]) Q E s
theorem TakeCons.use {prog : Program} {w : World} {K : Frag} {V : Program} {Lo : List Str} {mean : ExcName → Option Value} {mg mb : Str → Option Value} {E : Value → Shared → Prop} {s : Shared} {h₀ : Heap} {env : Env} {L b l : Addr} {m : Str → Option Value} {rest : List (Addr × Obj)} {n₁ n₂ : Nat} {sd : Int} {st : Tok} {k : Int} {kt : Tok} {Q : Value → Shared → Prop} {x : Int} {xt : Tok} {vs : List Value} (R : TakeCons prog w K V Lo mean mg mb) :
    (K.In h₀) → (Below callerA h₀ [] h₀) → (Top V Lo mean mg mb h₀) → Fr h₀ L s.heap m → News h₀ L s.heap ((b, listOf #[.ref l, .int sd st] n₁) :: (l, listOf (Value.int x xt :: vs).toArray n₂) :: rest) →
    OwnOff rest [b, l] → b ≠ l → env.frame = some L → env.scope.kind = .function → 0 ≤ sd → sd < 2147483647 → 0 < k → k < 100 → vs.length ≤ 64 →
    (∀ h' tk r u n₂', 0 ≤ r → r < k → Fr h₀ L h' m → News h₀ L h' ((b, listOf #[.ref l, .int sd st] n₁) :: (l, listOf vs.toArray n₂') :: rest) → Q (.int r u) { s with heap := h', toks := tk }) →
    wpAny (model prog w) (callerA.deeper env) (call (.ref 40) [.ref b, .int k kt]) Q E s := R
def BetwRule (prog : Program) (w : World) (K : Frag) (V : Program) (Lo : List Str) (mean : ExcName → Option Value) (mg mb : Str → Option Value) : Prop :=
  ∀ {E : Value → Shared → Prop} {s : Shared} {h₀ base : Heap} {env env2 : Env} {L ao : Addr} {m : Str → Option Value} {news : List (Addr × Obj)} {na : Nat} {av : List Value} {as_ : List Int} {x y : Int} {tx ty : Tok} {Q : Value → Shared → Prop},
    (K.In h₀) → (Below (callerA.deeper env2) base [env2] h₀) → (Top V Lo mean mg mb h₀) → Fr h₀ L s.heap m → News h₀ L s.heap news → (ao, listOf av.toArray na) ∈ news → IntsAre av as_ → as_.length ≤ 16 →
    env.frame = some L → env.scope.kind = .function →
    (∀ h' tk, Fr h₀ L h' m → News h₀ L h' news → Q (.bool (!decide (kept x y as_ = []))) { s with heap := h', toks := tk }) →
    wpAny (model prog w) ((callerA.deeper env2).deeper env) (call (.ref 26) [.ref ao, .int x tx, .int y ty]) Q E s
theorem BetwRule.use {prog : Program} {w : World} {K : Frag} {V : Program} {Lo : List Str} {mean : ExcName → Option Value} {mg mb : Str → Option Value} {E : Value → Shared → Prop} {s : Shared} {h₀ base : Heap} {env env2 : Env} {L ao : Addr} {m : Str → Option Value} {news : List (Addr × Obj)} {na : Nat} {av : List Value} {as_ : List Int} {x y : Int} {tx ty : Tok} {Q : Value → Shared → Prop} (R : BetwRule prog w K V Lo mean mg mb) :
    (K.In h₀) → (Below (callerA.deeper env2) base [env2] h₀) → (Top V Lo mean mg mb h₀) → Fr h₀ L s.heap m → News h₀ L s.heap news → (ao, listOf av.toArray na) ∈ news → IntsAre av as_ → as_.length ≤ 16 →
    env.frame = some L → env.scope.kind = .function →
    (∀ h' tk, Fr h₀ L h' m → News h₀ L h' news → Q (.bool (!decide (kept x y as_ = []))) { s with heap := h', toks := tk }) →
    wpAny (model prog w) ((callerA.deeper env2).deeper env) (call (.ref 26) [.ref ao, .int x tx, .int y ty]) Q E s := R
def PersRule (prog : Program) (w : World) (K : Frag) (V : Program) (Lo : List Str) (mean : ExcName → Option Value) (mg mb : Str → Option Value) : Prop :=
  ∀ {E : Value → Shared → Prop} {s : Shared} {h₀ : Heap} {env : Env} {L da ao : Addr} {m : Str → Option Value} {news tl : List (Addr × Obj)} {nd na : Nat} {dv lv av : List Value} {ld : List (Int × Int)} {as_ : List Int} {kf span : Int} {tf ts : Tok} {Q : Value → Shared → Prop},
    (K.In h₀) → (Below callerA h₀ [] h₀) → (Top V Lo mean mg mb h₀) → Fr h₀ L s.heap m → News h₀ L s.heap news →
    (da, listOf dv.toArray nd) ∈ news → (ao, listOf av.toArray na) ∈ news → IntsAre av as_ → as_.length ≤ 16 → (∀ p ∈ tl, p ∈ news) → PairsIn tl lv ld → dv.Perm lv → lv.length ≤ 16 → (ld.Pairwise fun p q => p.1 < q.1) → 0 ≤ span →
    env.frame = some L → env.scope.kind = .function →
    (∀ h' tk, Fr h₀ L h' m → News h₀ L h' news → Q (.bool (persGo as_ kf span ld none)) { s with heap := h', toks := tk }) →
    wpAny (model prog w) (callerA.deeper env) (call (.ref 33) [.ref da, .ref ao, .int kf tf, .int span ts]) Q E s
theorem PersRule.use {prog : Program} {w : World} {K : Frag} {V : Program} {Lo : List Str} {mean : ExcName → Option Value} {mg mb : Str → Option Value} {E : Value → Shared → Prop} {s : Shared} {h₀ : Heap} {env : Env} {L da ao : Addr} {m : Str → Option Value} {news tl : List (Addr × Obj)} {nd na : Nat} {dv lv av : List Value} {ld : List (Int × Int)} {as_ : List Int} {kf span : Int} {tf ts : Tok} {Q : Value → Shared → Prop} (R : PersRule prog w K V Lo mean mg mb) :
    (K.In h₀) → (Below callerA h₀ [] h₀) → (Top V Lo mean mg mb h₀) → Fr h₀ L s.heap m → News h₀ L s.heap news →
    (da, listOf dv.toArray nd) ∈ news → (ao, listOf av.toArray na) ∈ news → IntsAre av as_ → as_.length ≤ 16 → (∀ p ∈ tl, p ∈ news) → PairsIn tl lv ld → dv.Perm lv → lv.length ≤ 16 → (ld.Pairwise fun p q => p.1 < q.1) → 0 ≤ span →
    env.frame = some L → env.scope.kind = .function →
    (∀ h' tk, Fr h₀ L h' m → News h₀ L h' news → Q (.bool (persGo as_ kf span ld none)) { s with heap := h', toks := tk }) →
    wpAny (model prog w) (callerA.deeper env) (call (.ref 33) [.ref da, .ref ao, .int kf tf, .int span ts]) Q E s := R
structure Rules (prog : Program) (w : World) (K : Frag) (V : Program) (Lo : List Str) (mean : ExcName → Option Value) (mg mb : Str → Option Value) : Prop where
  nil : TakeNil prog w K V Lo mean mg mb
  cons : TakeCons prog w K V Lo mean mg mb
  pers : PersRule prog w K V Lo mean mg mb
theorem use_rules {prog : Program} {w : World} {K : Frag} {V : Program} {Lo : List Str} {mean : ExcName → Option Value} {mg mb : Str → Option Value} {A : Around} {E : Value → Shared → Prop} {s : Shared} {h₀ : Heap} {α : Type} {t : Sem α} {Q : α → Shared → Prop} (_ : K.In h₀) (_ : Top V Lo mean mg mb h₀) (h1 : TakeNil prog w K V Lo mean mg mb) (h2 : TakeCons prog w K V Lo mean mg mb) (h3 : BetwRule prog w K V Lo mean mg mb) (h4 : BetwRule prog w K V Lo mean mg mb → PersRule prog w K V Lo mean mg mb)
    (h : Rules prog w K V Lo mean mg mb → wpAny (model prog w) A t Q E s) : wpAny (model prog w) A t Q E s := h ⟨h1, h2, h4 h3⟩
section
variable {prog : Program} {w : World} {K : Frag} {V : Program} {Lo : List Str} {E : Value → Shared → Prop} {s : Shared} {mg mb : Str → Option Value} {mean : ExcName → Option Value} {h₀ : Heap} {env : Env} {L b l : Addr} {m : Str → Option Value} {n₁ n₂ : Nat} {sd : Int} {st : Tok} {k : Int} {kt : Tok} {Q : Value → Shared → Prop} {vs : List Value} {ns : List Int}
theorem take_rule {rest : List (Addr × Obj)} (R : Rules prog w K V Lo mean mg mb) (KX : K.In h₀) (B : Below callerA h₀ [] h₀) (T : Top V Lo mean mg mb h₀) (F : Fr h₀ L s.heap m) (N : News h₀ L s.heap ((b, listOf #[.ref l, .int sd st] n₁) :: (l, listOf vs.toArray n₂) :: rest))
    (hoff : OwnOff rest [b, l]) (hbl : b ≠ l) (hf : env.frame = some L) (hke : env.scope.kind = .function) (hs0 : 0 ≤ sd) (hs1 : sd < 2147483647) (hk0 : 0 < k) (hk1 : k < 100) (hvs : vs.length ≤ 64) (hi : IntsAre vs ns)
    (hQ : ∀ h' tk sd' t' r u vs' ns' n₂', 0 ≤ sd' → sd' < 2147483647 → 0 ≤ r → r < k → IntsAre vs' ns' → vs'.length ≤ 64 → Fr h₀ L h' m → News h₀ L h' ((b, listOf #[.ref l, .int sd' t'] n₁) :: (l, listOf vs'.toArray n₂') :: rest) → Q (.int r u) { s with heap := h', toks := tk }) :
    wpAny (model prog w) (callerA.deeper env) (call (.ref 40) [.ref b, .int k kt]) Q E s := by
  cases hi with
  | nil => exact TakeNil.use R.nil KX B T F N hoff hbl hf hke hs0 hs1 hk0 hk1 fun h' tk sd' t' r u a1 a2 a3 a4 F' N' => hQ h' tk sd' t' r u [] [] n₂ a1 a2 a3 a4 .nil hvs F' N'
  | cons x xt h => exact TakeCons.use R.cons KX B T F N hoff hbl hf hke hs0 hs1 hk0 hk1 (by simp only [List.length_cons] at hvs; omega) fun h' tk r u n₂' a3 a4 F' N' => hQ h' tk sd st r u _ _ n₂' hs0 hs1 a3 a4 h (by simp only [List.length_cons] at hvs; omega) F' N'
theorem take_any {news : List (Addr × Obj)} {g₁ : Obj → List (Addr × Obj)} {g₂ : Obj → Obj → List (Addr × Obj)} (R : Rules prog w K V Lo mean mg mb) (KX : K.In h₀) (B : Below callerA h₀ [] h₀) (T : Top V Lo mean mg mb h₀) (F : Fr h₀ L s.heap m) (N : News h₀ L s.heap news)
    (U₁ : UpdF b (listOf #[.ref l, .int sd st] n₁) news g₁) (U₂ : ∀ o, UpdF l (listOf vs.toArray n₂) (g₁ o) (g₂ o)) (hbl : b ≠ l) (hf : env.frame = some L) (hke : env.scope.kind = .function) (hs0 : 0 ≤ sd) (hs1 : sd < 2147483647) (hk0 : 0 < k) (hk1 : k < 100) (hvs : vs.length ≤ 64) (hi : IntsAre vs ns)
    (hQ : ∀ h' tk sd' t' r u vs' ns' n₂', 0 ≤ sd' → sd' < 2147483647 → 0 ≤ r → r < k → IntsAre vs' ns' → vs'.length ≤ 64 → Fr h₀ L h' m → News h₀ L h' (g₂ (listOf #[.ref l, .int sd' t'] n₁) (listOf vs'.toArray n₂')) → Q (.int r u) { s with heap := h', toks := tk }) :
    wpAny (model prog w) (callerA.deeper env) (call (.ref 40) [.ref b, .int k kt]) Q E s := by
  obtain ⟨pre, post, e0, e1, a1, a2⟩ := U₁.split
  obtain ⟨p2, q2, f0, f1, b1, b2⟩ := (U₂ (listOf #[.ref l, .int sd st] n₁)).split
  have hself : g₁ (listOf #[.ref l, .int sd st] n₁) = news := by rw [e1, e0]
  have hl : (l, listOf vs.toArray n₂) ∈ news := by rw [← hself, f0]; simp
  refine take_rule (n₁ := n₁) (n₂ := n₂) (st := st) (rest := (pre ++ post).filter fun p => decide (p.1 ≠ l)) R KX B T F (fun p hp => N p ?_) ?_ hbl hf hke hs0 hs1 hk0 hk1 hvs hi fun h' tk sd' t' r u vs' ns' n₂' c1 c2 c3 c4 c5 c6 F' N' => hQ h' tk sd' t' r u vs' ns' n₂' c1 c2 c3 c4 c5 c6 F' fun p hp => N' p ?_
  · rcases List.mem_cons.mp hp with rfl | hp
    · rw [e0]; simp
    · rcases List.mem_cons.mp hp with rfl | hp
      · exact hl
      · have := (List.mem_filter.mp hp).1
        rw [e0]
        rcases List.mem_append.mp this with h | h
        · exact List.mem_append.mpr (.inl h)
        · exact List.mem_append.mpr (.inr (.tail _ h))
  · intro p hp x hx
    obtain ⟨h1, h2⟩ := List.mem_filter.mp hp
    have h2 : p.1 ≠ l := by simpa using h2
    rcases List.mem_cons.mp hx with rfl | hx
    · rcases List.mem_append.mp h1 with h | h
      · exact a1 p h
      · exact a2 p h
    · rw [List.mem_singleton.mp hx]; exact h2
  · obtain ⟨p3, q3, k0, k1, d1, d2⟩ := (U₂ (listOf #[.ref l, .int sd' t'] n₁)).split
    rw [k1] at hp
    have back : ∀ p, p ∈ p3 ++ (l, listOf vs.toArray n₂) :: q3 → p.1 ≠ l → p ∈ (b, listOf #[.ref l, .int sd' t'] n₁) :: (l, listOf vs'.toArray n₂') :: (pre ++ post).filter fun p => decide (p.1 ≠ l) := by
      intro p hp hne
      rw [← k0, e1] at hp
      rcases List.mem_append.mp hp with h | h
      · exact .tail _ (.tail _ (List.mem_filter.mpr ⟨List.mem_append.mpr (.inl h), by simpa using hne⟩))
      · rcases List.mem_cons.mp h with rfl | h
        · exact .head _
        · exact .tail _ (.tail _ (List.mem_filter.mpr ⟨List.mem_append.mpr (.inr h), by simpa using hne⟩))
    rcases List.mem_append.mp hp with h | h
    · exact back p (List.mem_append.mpr (.inl h)) (d1 p h)
    · rcases List.mem_cons.mp h with rfl | h
      · exact .tail _ (.head _)
      · exact back p (List.mem_append.mpr (.inr (.tail _ h))) (d2 p h)
end
end Mine
namespace Mine
theorem boolsAre_map (f : Int → Bool) : ∀ ns : List Int, LSm.BoolsAre (ns.map fun k => Value.bool (f k)) (ns.map f)
  | [] => .nil
  | _ :: r => .cons _ (boolsAre_map f r)
/-- a comprehension without a test over a list of ints, each item a bool -/
theorem comp_bools {prog : Program} {w : World} {A : Around} {h₀ : Heap} {L : Addr} {m : Str → Option Value} {env : Env} {elt : Expr} {x : Str} {scope : Scope} {cl : List (Str × Addr)} {s : Shared} {S : List (Addr × Obj) → Prop} {Fin : List Value → List (Addr × Obj) → Prop} {news : List (Addr × Obj)} {vs : List Value} {ns : List Int} (f : Int → Bool) (hi : IntsAre vs ns)
    (turn : ∀ k t I oI C oC D m₂ ys h tk (E' : Value → Shared → Prop), LCg.NsObj oC m₂ → m₂ x = some (.int k t) → Fr h₀ L h m → News h₀ L h ((I, oI) :: (C, oC) :: (D, LCg.lst ys) :: news) → LCg.Off3 I C D news → ((@Ne Nat I C) ∧ (@Ne Nat I D) ∧ (@Ne Nat C D)) →
      wpAny (model prog w) A (eval elt (compEnvC scope cl C env)) (LCg.CompEnd h₀ L m { s with heap := h, toks := tk } I oI C oC D (LCg.lst ys) S (fun y news' => news' = news ∧ y = .bool (f k))) E' { s with heap := h, toks := tk })
    (fin : Fin (ns.map fun k => Value.bool (f k)) news) : LCg.CompRest prog w A h₀ L m env elt x scope cl s S (fun i v => vs.toArray[i]? = some v) Fin vs.toArray.size 0 [] news := by
  have hl : vs.toArray.size = ns.length := by rw [List.size_toArray]; exact hi.length
  have key : ∀ (j i : Nat), i + j = ns.length → LCg.CompRest prog w A h₀ L m env elt x scope cl s S (fun i v => vs.toArray[i]? = some v) Fin j i ((ns.take i).map fun k => Value.bool (f k)) news := by
    intro j
    induction j with
    | zero =>
      intro i hj
      have e : i = ns.length := by omega
      subst e
      rw [List.take_length]
      exact LCg.CompRest.zero fin
    | succ j ih =>
      intro i hj
      refine LCg.CompRest.succ ?_
      intro v I oI C oC D m₂ h tk E' hv hC hx F N off ne
      have hlt : i < ns.length := by omega
      obtain ⟨t, hk⟩ := hi.get i ns[i] (List.getElem?_eq_getElem hlt)
      have hv' : v = .int ns[i] t := by
        have h1 : vs[i]? = some v := by simpa using hv
        rw [hk] at h1
        exact (Option.some.inj h1).symm
      rw [hv'] at hx
      have hs : (ns.take (i + 1)).map (fun k => Value.bool (f k)) = (ns.take i).map (fun k => Value.bool (f k)) ++ [Value.bool (f ns[i])] := by
        rw [List.take_add_one, List.getElem?_eq_getElem hlt, List.map_append]; rfl
      refine wpAny_mono (turn ns[i] t I oI C oC D m₂ _ h tk E' hC hx F N off ne) (fun y s₂ hr => ?_) fun _ _ e => e
      obtain ⟨h', tk', nw, e, F', N', off', hS, hn, hy⟩ := hr
      rw [hn] at N' off' hS
      refine ⟨h', tk', news, e, F', N', off', hS, ?_⟩
      show LCg.CompRest prog w A h₀ L m env elt x scope cl s S _ Fin j (i + 1) (_ ++ [y]) news
      rw [hy, ← hs]
      exact ih (i + 1) (by omega)
  rw [hl]
  exact key ns.length 0 (by omega)
theorem kept_nil {x y : Int} : ∀ as_ : List Int, (as_.map fun k => decide (x < k ∧ k < y)).any id = !decide (kept x y as_ = []) := by
  have gen : ∀ (as_ l : List Int), as_.foldl (fun l k => if x < k ∧ k < y then l ++ [k] else l) l = l ++ as_.filter fun k => decide (x < k ∧ k < y) := by
    intro as_
    induction as_ with
    | nil => intro l; simp
    | cons a r ih =>
      intro l
      rw [List.foldl_cons, ih]
      by_cases h : x < a ∧ a < y
      · rw [if_pos h, List.filter_cons_of_pos (by simpa using h)]; simp
      · rw [if_neg h, List.filter_cons_of_neg (by simpa using h)]
  intro as_
  have e : kept x y as_ = as_.filter fun k => decide (x < k ∧ k < y) := by
    have h := gen as_ []
    rw [List.nil_append] at h
    exact h
  rw [e]
  clear e gen
  induction as_ with
  | nil => simp
  | cons a r ih =>
    rw [List.map_cons, List.any_cons, ih]
    by_cases h : x < a ∧ a < y
    · rw [List.filter_cons_of_pos (by simpa using h)]; simp [h]
    · rw [List.filter_cons_of_neg (by simpa using h)]
      simp only [id_eq, h, decide_false, Bool.false_or]
end Mine
local macro_rules | `(tactic| walk_at "call ref") => `(tactic| (k_here; (with_reducible show wpAny _ _ (call (Value.ref 40) [Value.ref _, Value.int _ _]) _ _ _); (rename Mine.Rules _ _ _ _ _ _ _ _ => tr9); k_dflt (refine' Mine.take_any tr9 ?KX ?B ?T ?F ?N ?U1 ?U2 ?hbl ?hf ?hke ?s0 ?s1 ?k0 ?k1 ?vs ?hi ?_; (case F => k_asm); (case N => k_asm); (case KX => k_asm); (case B => k_asm); (case T => k_asm); (case U1 => k_updF); (case U2 => (intro o9; k_updF)); (case hbl => k_ne); (case hf => exact rfl); (case hke => exact rfl); (case hi => assumption); (case s0 => omega); (case s1 => omega); (case k0 => omega); (case k1 => omega); (case vs => first | omega | ((rename IntsAre _ _ => hI9); (have hL9 := IntsAre.length hI9); omega)); k_whole); intro h' tk' sd' t' r' u' vs' ns' n' a1 a2 a3 a4 a5 a6 F' N'; (try dsimp only at N'); (try k_sweep)))
local macro_rules | `(tactic| walk_at "subscriptTail") => `(tactic| (k_here; (with_reducible show wpAny _ _ (subscriptTail (Expr.List _ _) (Expr.Call _ _ _ _) (Value.ref _) (Value.int _ _)) _ _ _); k_dflt (refine' Mine.pick_any ?N ?m ?h0 ?h1 ?hz ?_ ?hs; (case N => k_asm); (case m => k_mem); (case h0 => omega); (case h1 => (show _ < ((4 : Nat) : Int); omega)); (case hz => exact Nat.le_of_ble_eq_true rfl); (case hs => with_unfolding_all rfl); k_whole); intro v' hv'; (replace hv' := Mine.firstOk_of hv')))
local macro_rules | `(tactic| walk_at "compareOp NotEq ref ref") => `(tactic| (k_here; (with_reducible show wpAny _ _ (compareOp CmpOp.NotEq (Value.ref _) (Value.ref _)) _ _ _); k_dflt (first | (refine' Mine.ne_nil_t ?N ?a ?b ?v ?u ?_; (case N => k_asm); (case a => k_mem); (case v => assumption); (case b => k_mem); (case u => k_units); k_whole) | (refine' Mine.ne_nil_f ?N ?a ?b ?v ?u ?_; (case N => k_asm); (case a => k_mem); (case v => assumption); (case b => k_mem); (case u => k_units); k_whole))))
local macro_rules | `(tactic| walk_at "call builtin:list.pop") => `(tactic| (k_here; k_dflt (refine' Mine.pop_val ?F ?N ?h0 ?h1 ?hz ?U ?_; (case F => k_asm); (case N => k_asm); (case U => k_upd); (case h0 => omega); (case h1 => omega); (case hz => omega); k_whole); intro y' h' hy' F' N'; (try k_sweep)))
local macro_rules | `(tactic| walk_at "call builtin:len") => `(tactic| (k_here; (with_reducible show wpAny _ _ (call (Value.builtin "len") [Value.ref _]) _ _ _); (refine KM.len_K (by k_asm) (by k_dflt k_mem) (show _ = _ by simp only [List.size_toArray, List.length_cons]; exact rfl) (by omega) ?_)))
local macro_rules | `(tactic| walk_at "call builtin:list.pop") => `(tactic| (k_here; k_dflt (refine' Mine.pop_any ?F ?N ?h0 ?h1 ?hz ?hy ?U ?_; (case F => k_asm); (case N => k_asm); (case h0 => decide); (case U => k_upd); (case hy => exact rfl); (case h1 => (simp only [List.length_cons]; omega)); (case hz => (simp only [List.length_cons]; omega)); k_whole); intro h' F' N'; (try k_sweep)))
local macro_rules | `(tactic| walk_at "call ref") => `(tactic| (k_here; (with_reducible show wpAny _ _ (call (Value.ref 26) [Value.ref _, Value.int _ _, Value.int _ _]) _ _ _); (rename Mine.BetwRule _ _ _ _ _ _ _ _ => br9); k_dflt (refine' Mine.BetwRule.use br9 ?KX ?B ?T ?F ?N ?hm ?hi ?hl ?hf ?hke ?_; (case F => k_asm); (case N => k_asm); (case KX => k_asm); (case B => k_asm); (case T => k_asm); (case hm => first | assumption | exact List.Mem.tail _ (List.mem_append.mpr (.inl (List.Mem.tail _ (by assumption)))) | exact List.Mem.tail _ (List.Mem.tail _ (List.mem_append.mpr (.inl (by assumption))))); (case hi => assumption); (case hl => omega); (case hf => exact rfl); (case hke => exact rfl); k_whole); intro h' tk' F' N'; (try k_sweep)))
set_option maxRecDepth 100000 in
set_option maxHeartbeats 8000000 in
theorem PySem.Challenge.cw_no0040_01_holds : PySem.Challenge.rw_no0040_01.Holds := by
  w_on; o_law; k_head; (case hw => w_witness2)
  k_go0
  (all_goals try k_fold)
  refine Mine.use_rules (by assumption) (by assumption) ?nil ?cons ?betw ?pers (fun R9 => ?main)
  case nil =>
    intro E s h₀ env L b l m rest n₁ n₂ sd st k kt Q
    intro KX B T F N hoff hbl hf hke hs0 hs1 hk0 hk1 hQ
    replace hbl := neN hbl
    refine wpAny_call ?_
    refine' code_def B F KX N T rfl hf hke ?k6 ?k7 ?k8 ?k9 ?kB ?_ ?c2 ?c3 ?c4 ?c5
    case k6 => k_is
    case k7 => k_is
    case k8 => k_room
    case k9 => exact BindsTo.of_eq rfl
    case c5 => decide
    case kB => exact locs rfl
    case c2 => exact rfl
    case c3 => exact rfl
    case c4 => exact rfl
    intro g' L' h' FG' F' N' B' X' T'
    try dsimp only
    k_fold
    k_steps
    exact hQ _ _ _ _ _ _ (Mine.fmod_in (by decide)).1 (Mine.fmod_in (by decide)).2 (Mine.fmod_in hk0).1 (Mine.fmod_in hk0).2 (by assumption) (by assumption)
  case cons =>
    intro E s h₀ env L b l m rest n₁ n₂ sd st k kt Q x xt vs
    intro KX B T F N hoff hbl hf hke hs0 hs1 hk0 hk1 hvs hQ
    replace hbl := neN hbl
    refine wpAny_call ?_
    refine' code_def B F KX N T rfl hf hke ?k6 ?k7 ?k8 ?k9 ?kB ?_ ?c2 ?c3 ?c4 ?c5
    case k6 => k_is
    case k7 => k_is
    case k8 => k_room
    case k9 => exact BindsTo.of_eq rfl
    case c5 => decide
    case kB => exact locs rfl
    case c2 => exact rfl
    case c3 => exact rfl
    case c4 => exact rfl
    intro g' L' h' FG' F' N' B' X' T'
    try dsimp only
    k_fold
    k_steps
    exact hQ _ _ _ _ _ (Mine.fmod_in hk0).1 (Mine.fmod_in hk0).2 (by assumption) (by assumption)
  case betw =>
    intro E s h₀ base env env2 L ao m news na av as_ x y tx ty Q
    intro KX B T F N hm hi hl hf hke hQ
    refine wpAny_call ?_
    refine' code_defC B F KX N T rfl hf hke ?k6 ?k7 ?k8 ?k9 ?kB ?kD ?_ ?c2 ?c3 ?c4
    case k6 => k_is
    case k7 => k_is
    case k8 => k_room
    case k9 => exact BindsTo.of_eq rfl
    case kB => exact rfl
    case kD => decide +kernel
    case c2 => exact rfl
    case c3 => exact rfl
    case c4 => exact rfl
    intro g' L' h' tk' cells' FG' F' N' Y' B' X' T' l1
    k_cells Y'
    try simp only [List.cons_append, List.nil_append] at N'
    try dsimp only
    (try k_fold)
    repeat' (
      (fail_if_success (with_reducible show wpAny _ _ (eval (Expr.ListComp _ _ _ _) _) _ _ _))
      (first | (k_unfold; (try dsimp only)) | (k_end; kc_close) | walk1 | (dsimp only; walk1) | (leave1; walk_say "STEP leave1"; (try dsimp only)) | fail "no step"))
    refine LCg.ListComp_U (F₀ := by k_asm) (by with_unfolding_all rfl) (by decide) (by rfl) (by decide) (by rfl) ?_
    walk1
    refine LCg.CompSrc.ledger (by rfl) (by k_asm) (by k_asm) (.tail _ (.tail _ hm)) (by rw [List.size_toArray, sizeLine_eq, hi.length]; omega) ?_
    intro g2
    refine' Mine.comp_bools (fun k => decide (x < k ∧ k < y)) hi (fun k t I oI C oC D m₂ ys h tk E' hC hx F' N' off' ne => ?_) ?_
    · have off0 := off'
      simp only [LCg.Off3] at off'
      (try k_fold)
      k_steps
      all_goals first
        | exact LCg.CompEnd.intro (by assumption) (by assumption) _ (fun _ h => h) off0 (.inr ⟨_, .tail _ (.tail _ hm), rfl, _, rfl⟩) ⟨rfl, by congr 1; simp [*]⟩
    · intro D' h' tk' F' N' off'
      repeat' (
        (fail_if_success (with_reducible show wpAny _ _ (call (Value.builtin "any") _) _ _ _))
        (first | (k_unfold; (try dsimp only)) | (k_end; kc_close) | walk1 | (dsimp only; walk1) | (leave1; walk_say "STEP leave1"; (try dsimp only)) | fail "no step"))
      refine LSm.any_bools (by k_asm) (by k_asm) (by rfl) (News.isList (by k_asm) (.head _)) (Mine.boolsAre_map _ _) ?_
      intro h3 tk3 F3 N3
      rw [Mine.kept_nil]
      k_steps
      (rename News _ _ _ _ => kN9)
      exact hQ _ _ (by assumption) (fun p hp => kN9 p (.tail _ (.tail _ (.tail _ hp))))
  case pers =>
    intro R8
    intro E s h₀ env L da ao m news tl nd na dv lv av ld as_ kf span tf ts Q
    intro KX B T F N hmd hma hi hl hT hP hperm hlen hpw hspan hf hke hQ
    refine wpAny_call ?_
    refine' code_def B F KX N T rfl hf hke ?k6 ?k7 ?k8 ?k9 ?kB ?_ ?c2 ?c3 ?c4 ?c5
    case k6 => k_is
    case k7 => k_is
    case k8 => k_room
    case k9 => exact BindsTo.of_eq rfl
    case c5 => decide
    case kB => exact locs rfl
    case c2 => exact rfl
    case c3 => exact rfl
    case c4 => exact rfl
    intro g' L' h' FG' F' N' B' X' T'
    try dsimp only
    k_fold
    repeat' (
      (fail_if_success (with_reducible show wpAny _ _ (exec (Stmt.For _ _ _ _ _) _) _ _ _))
      (first | (k_unfold; (try dsimp only)) | (k_end; kc_close) | walk1 | (dsimp only; walk1) | (leave1; walk_say "STEP leave1"; (try dsimp only)) | fail "no step"))
    (rename Fr _ _ _ _ => lF'); (with_unfolding_all refine' For_turns lF' ?_; k_whole)
    repeat' (
      (fail_if_success (with_reducible show wpAny _ _ (call (Value.builtin "sorted") _) _ _ _))
      (first | (k_unfold; (try dsimp only)) | (k_end; kc_close) | walk1 | (dsimp only; walk1) | (leave1; walk_say "STEP leave1"; (try dsimp only)) | fail "no step"))
    refine Mine.sorted_pairs (tl := tl) (by k_asm) (by k_asm) (News.isList (by k_asm) (.tail _ hmd)) (fun p hp => .tail _ (hT p hp)) hP hperm hlen hpw ?_
    intro D c h' F' N' lt
    with_unfolding_all refine' Mine.loop5 as_ (by rfl) hP (fun p hp => .tail _ (hT p hp)) F' N' (by rfl) (by rfl) (by rfl) (by rfl) (fun i a x y tx ty st vb vl u h' tk' own hj hoff hg hst hTu F' N' => ?turn) (fun st vb vl u h' tk' hg F' N' => ?done)
    case turn =>
      cases st with
      | none =>
        obtain ⟨rfl, rfl⟩ := hst
        k_steps
        all_goals first
          | exact Mine.end5 _ (by assumption) (by assumption) hoff (hg.skip hj (by assumption)) ⟨rfl, rfl⟩ rfl rfl (fun z h1 h2 h3 h4 => by simp only [Mine.map5, h1, h2, h3, h4, if_false])
          | exact Mine.end5 _ (by assumption) (by assumption) hoff (hg.first hj (by assumption) (by omega)) ⟨_, _, rfl, rfl⟩ rfl rfl (fun z h1 h2 h3 h4 => by simp only [Mine.map5, h1, h2, h3, h4, if_false])
      | some q =>
        obtain ⟨b, l⟩ := q
        obtain ⟨tb, tl9, rfl, rfl⟩ := hst
        k_steps
        all_goals first
          | exact Mine.end5 _ (by assumption) (by assumption) hoff (hg.skip hj (by assumption)) ⟨_, _, rfl, rfl⟩ rfl rfl (fun z h1 h2 h3 h4 => by simp only [Mine.map5, h1, h2, h3, h4, if_false])
          | exact Mine.end5 _ (by assumption) (by assumption) hoff (hg.on hj (by assumption) (by assumption) (by assumption)) ⟨_, _, rfl, rfl⟩ rfl rfl (fun z h1 h2 h3 h4 => by simp only [Mine.map5, h1, h2, h3, h4, if_false])
          | exact Mine.end5 _ (by assumption) (by assumption) hoff (hg.anew hj (by assumption) (by assumption) (by omega)) ⟨_, _, rfl, rfl⟩ rfl rfl (fun z h1 h2 h3 h4 => by simp only [Mine.map5, h1, h2, h3, h4, if_false])
          | (have hyes := hg.yes hj (by assumption) (by assumption) (by assumption); rw [hyes] at hQ; (rename News _ _ _ _ => kN9); exact hQ _ _ (by assumption) (fun p hp => kN9 p (.tail _ (List.mem_append.mpr (.inl (.tail _ hp))))))
    case done =>
      (try dsimp only)
      k_steps
      (rename News _ _ _ _ => kN9)
      rw [hg.no] at hQ
      exact hQ _ _ (by assumption) (fun p hp => kN9 p (.tail _ (.tail _ hp)))
  k_with "pyIter ref" => k_state (fun pre s => 0 ≤ s ∧ s < 2147483647) "seed_here"
  repeat' (
    (fail_if_success (with_reducible show wpAny _ _ (call (Value.ref 40) _ _) _ _ _))
    (first | (k_unfold; (try dsimp only)) | (k_end; kc_close) | walk1 | (dsimp only; walk1) | (leave1; walk_say "STEP leave1"; (try dsimp only)) | fail "no step"))
  k_with_none
  repeat' (
    (fail_if_success (with_reducible show wpAny _ _ (pyIter _) _ _ _))
    (first | (k_unfold; (try dsimp only)) | (k_end; kc_close) | walk1 | (dsimp only; walk1) | (leave1; walk_say "STEP leave1"; (try dsimp only)) | fail "no step"))
  (rename Fr _ _ _ _ => lF'); (rename News _ _ _ _ => lN'); (rename IntsAre _ _ => lI')
  with_unfolding_all refine' Mine.loop1 (by rfl) (by assumption) ?b0 ?b1 lF' lN' ?hat ?s0 ?s1 lI' ?vl (fun i c tl u t h' tk' own hi hoff hoff2 hoff3 hok F' N' => ?turn) (fun c tl u h' tk' hoff hok F' N' => ?done)
  case b0 => omega
  case b1 => omega
  case hat => rfl
  case s0 => omega
  case s1 => omega
  case vl => omega
  case turn =>
    clear lF' lN'
    k_fold
    have os0 := hok.s0; have os1 := hok.s1; have ovi := hok.vi; have ovl := hok.vl
    have olv : c.lv.length ≤ 16 := by have e1 := hok.li.length; have e2 := hok.lk.len; omega
    have oav : c.av.length ≤ 16 := by have e1 := IntsAre.length hok.ai; have e2 := hok.al; omega
    k_steps
    all_goals first
      | exact Mine.end1_none (by assumption) (by assumption) hoff hoff3 hok (by assumption) (by assumption) (by assumption) (by assumption) (by assumption) (by assumption) rfl (fun y h1 h2 h3 => by simp only [Mine.map1, h1, h2, h3, if_false])
      | exact Mine.end1_acked (by assumption) (by assumption) hoff hoff3 hok (by assumption) (by assumption) (by assumption) (by assumption) (by assumption) (by assumption) rfl (fun y h1 h2 h3 => by simp only [Mine.map1, h1, h2, h3, if_false])
      | exact Mine.end1_lost (by assumption) (by assumption) (by assumption) hoff hoff3 hok (by assumption) (by assumption) (by assumption) (by assumption) (by assumption) (by assumption) rfl (fun y h1 h2 h3 => by simp only [Mine.map1, h1, h2, h3, if_false])
      | (exfalso; omega)
  case done =>
    clear lF' lN'
    (try dsimp only)
    (try k_fold)
    have os0 := hok.s0; have os1 := hok.s1; have ovi := hok.vi; have ovl := hok.vl
    have olv : c.lv.length ≤ 16 := by have e1 := hok.li.length; have e2 := hok.lk.len; omega
    have oav : c.av.length ≤ 16 := by have e1 := IntsAre.length hok.ai; have e2 := hok.al; omega
    repeat' (
      (fail_if_success (with_reducible show wpAny _ _ (exec (Stmt.For _ _ _ _ _) _) _ _ _))
      (first | (k_unfold; (try dsimp only)) | (k_end; kc_close) | walk1 | (dsimp only; walk1) | (leave1; walk_say "STEP leave1"; (try dsimp only)) | fail "no step"))
    (rename Mine.FirstOk _ => hv')
    rcases hv' with rfl | ⟨kf, tf, rfl, hkf⟩
    · (rename Fr _ _ _ _ => lF'); (with_unfolding_all refine' For_turns lF' ?_; k_whole)
      walk1
      (rename Fr _ _ _ _ => lF'); (rename News _ _ _ _ => lN')
      with_unfolding_all refine' Mine.loop2 c.as_ none (by rfl) hok.li lF' lN' ?h1 ?h0 ?hd ?hsp (fun i a x y tx ty d c1o c0o u h' tk' own hi hoff hc1 hc0 hp hT F' N' => ?turn2) (fun d c1o c0o u h' tk' hc1 hc0 hp F' N' => ?done2)
      case h1 => exact ⟨_, by assumption⟩
      case h0 => exact ⟨_, by assumption⟩
      case hd => rfl
      case hsp => rfl
      case turn2 =>
        clear lF' lN'
        obtain ⟨cv1, hcv1⟩ := hc1
        obtain ⟨cv0, hcv0⟩ := hc0
        repeat' (
          (fail_if_success (with_reducible show wpAny _ _ (exec (Stmt.For _ _ _ _ _) _) _ _ _))
          (first | (k_unfold; (try dsimp only)) | (k_end; kc_close) | walk1 | (dsimp only; walk1) | (leave1; walk_say "STEP leave1"; (try dsimp only)) | fail "no step"))
        (rename Fr _ _ _ _ => lF'); (with_unfolding_all refine' For_turns lF' ?_; k_whole)
        walk1
        (rename Fr _ _ _ _ => lF'); (rename News _ _ _ _ => lN')
        with_unfolding_all refine' Mine.loop3 c.as_ none (x, y) (by rfl) (Mine.PairsIn.mono (fun _ h => List.mem_append.mpr (.inl h)) hok.li) lF' lN' ?h1 ?hd ?hb ?hsp (fun j a2 x2 y2 tx2 ty2 d2 c1o2 u2 h' tk' own2 hj hoff2 hc1 hp2 hT2 F' N' => ?turn3) (fun d2 c1o2 u2 h' tk' hc1 hp2 F' N' => ?done3)
        case h1 => exact ⟨_, by assumption⟩
        case hd => rfl
        case hb => rfl
        case hsp => rfl
        case turn3 =>
          clear lF' lN'
          obtain ⟨cv2, hcv2⟩ := hc1
          repeat' (
            (fail_if_success (with_reducible show wpAny _ _ (exec (Stmt.Assign _ (Expr.ListComp _ _ _ _) _) _) _ _ _))
            (first | (k_unfold; (try dsimp only)) | (k_end; kc_close) | walk1 | (dsimp only; walk1) | (leave1; walk_say "STEP leave1"; (try dsimp only)) | fail "no step"))
          refine LCt.Assign_ListComp_T (F₀ := by k_asm) (by rfl) (by with_unfolding_all rfl) (by with_unfolding_all rfl) (by decide) (by rfl) (by decide) (by rfl) (by rfl) (by rfl) ?_
          walk1
          refine LCt.CompSrcT.ledger (by rfl) (by k_asm) (by k_asm) (by k_mem) (by rw [List.size_toArray, sizeLine_eq]; omega) ?_
          intro g'
          refine' kci_list (fun l k => if x < k ∧ k < x2 then l ++ [k] else l) hok.ai (fun k' t' I' oI' C' oC' D' m' ys' l' h' tk' E' hk' hI' hC' hx' F' N' off' ne' hMark' => ?_) ?_ ?_
          · have off0 := off'
            simp only [LCg.Off3] at off'
            (try k_fold)
            k_steps
            all_goals first
              | exact LCg.CompEnd.intro (by assumption) (by assumption) _ (fun _ h => h) off0 (.inr ⟨_, by k_mem, rfl, _, rfl⟩) (kci_el (if_pos ⟨by assumption, by assumption⟩) rfl rfl)
              | exact LCg.CompEnd.intro (by assumption) (by assumption) _ (fun _ h => h) off0 (.inr ⟨_, by k_mem, rfl, _, rfl⟩) (kci_no (if_neg (by omega)) rfl)
          · show KPfDone _
            intro ys hys hyl
            intro D' h' tk' F' N' off'
            k_steps
            all_goals first
              | exact Mine.end3a (by assumption) (by assumption) hoff2 ⟨_, by assumption⟩ hp2 hj rfl rfl (fun z h1 h2 h3 h4 => by simp only [Mine.map3, h1, h2, h3, h4, if_false]) (by rw [Mine.dueOf_f5]; simp)
              | exact Mine.end3b (by assumption) (by assumption) hoff2 ⟨_, by assumption⟩ hp2 hj rfl rfl (fun z h1 h2 h3 h4 => by simp only [Mine.map3, h1, h2, h3, h4, if_false]) (by rw [Mine.dueOf_f5]; simp)
          · intro l k
            show (if x < k ∧ k < x2 then l ++ [k] else l).length ≤ _
            split <;> simp
        case done3 =>
          clear lF' lN'
          (try dsimp only)
          k_steps
          exact Mine.end2 (by assumption) (by assumption) hoff hc1 ⟨_, by assumption⟩ hp hi hp2 rfl (fun z h1 h2 h3 h4 => by simp only [Mine.map3, Mine.map2, h1, h2, h3, h4, if_false])
      case done2 =>
        clear lF' lN'
        (try dsimp only)
        (try k_fold)
        repeat' (
          (fail_if_success (with_reducible show wpAny _ _ (exec (Stmt.While _ _ _ _) _) _ _ _))
          (first | (k_unfold; (try dsimp only)) | (k_end; kc_close) | walk1 | (dsimp only; walk1) | (leave1; walk_say "STEP leave1"; (try dsimp only)) | fail "no step"))
        (rename Fr _ _ _ _ => lF'); (rename News _ _ _ _ => lN')
        with_unfolding_all refine' Mine.loop4 lF' lN' ?s0 ?s1 ?vi ?vl (fun v lf c4 h' tk' hok4 hlf F' N' => ?turn4) (fun c4 h' tk' hok4 hlf F' N' => ?done4)
        case s0 => assumption
        case s1 => assumption
        case vi => assumption
        case vl => assumption
        case turn4 =>
          clear lF' lN'
          have os0 := hok4.s0; have os1 := hok4.s1; have ovi := hok4.vi; have ovl := hok4.vl
          have opm := hok4.pm.length_eq
          have olf : c4.lf.length = lf.length + 1 := by rw [hlf]; rfl
          rw [List.length_append] at opm
          have odr : c4.dr.length ≤ 16 := by omega
          k_steps
          dsimp only [Mine.W4Post]
          exact Mine.end4 (by assumption) (by assumption) hok4 (by assumption) (by assumption) (by assumption) (by assumption) (by assumption)
        case done4 =>
          clear lF' lN'
          have hd9 := Mine.none_due hp
          subst hd9
          clear hp
          k_steps
    · (rename Fr _ _ _ _ => lF'); (with_unfolding_all refine' For_turns lF' ?_; k_whole)
      walk1
      (rename Fr _ _ _ _ => lF'); (rename News _ _ _ _ => lN')
      with_unfolding_all refine' Mine.loop2 c.as_ (some kf) (by rfl) hok.li lF' lN' ?h1 ?h0 ?hd ?hsp (fun i a x y tx ty d c1o c0o u h' tk' own hi hoff hc1 hc0 hp hT F' N' => ?turn2) (fun d c1o c0o u h' tk' hc1 hc0 hp F' N' => ?done2)
      case h1 => exact ⟨_, by assumption⟩
      case h0 => exact ⟨_, by assumption⟩
      case hd => rfl
      case hsp => rfl
      case turn2 =>
        clear lF' lN'
        obtain ⟨cv1, hcv1⟩ := hc1
        obtain ⟨cv0, hcv0⟩ := hc0
        repeat' (
          (fail_if_success (with_reducible show wpAny _ _ (exec (Stmt.For _ _ _ _ _) _) _ _ _))
          (first | (k_unfold; (try dsimp only)) | (k_end; kc_close) | walk1 | (dsimp only; walk1) | (leave1; walk_say "STEP leave1"; (try dsimp only)) | fail "no step"))
        (rename Fr _ _ _ _ => lF'); (with_unfolding_all refine' For_turns lF' ?_; k_whole)
        walk1
        (rename Fr _ _ _ _ => lF'); (rename News _ _ _ _ => lN')
        with_unfolding_all refine' Mine.loop3 c.as_ (some kf) (x, y) (by rfl) (Mine.PairsIn.mono (fun _ h => List.mem_append.mpr (.inl h)) hok.li) lF' lN' ?h1 ?hd ?hb ?hsp (fun j a2 x2 y2 tx2 ty2 d2 c1o2 u2 h' tk' own2 hj hoff2 hc1 hp2 hT2 F' N' => ?turn3) (fun d2 c1o2 u2 h' tk' hc1 hp2 F' N' => ?done3)
        case h1 => exact ⟨_, by assumption⟩
        case hd => rfl
        case hb => rfl
        case hsp => rfl
        case turn3 =>
          clear lF' lN'
          obtain ⟨cv2, hcv2⟩ := hc1
          repeat' (
            (fail_if_success (with_reducible show wpAny _ _ (exec (Stmt.Assign _ (Expr.ListComp _ _ _ _) _) _) _ _ _))
            (first | (k_unfold; (try dsimp only)) | (k_end; kc_close) | walk1 | (dsimp only; walk1) | (leave1; walk_say "STEP leave1"; (try dsimp only)) | fail "no step"))
          refine LCt.Assign_ListComp_T (F₀ := by k_asm) (by rfl) (by with_unfolding_all rfl) (by with_unfolding_all rfl) (by decide) (by rfl) (by decide) (by rfl) (by rfl) (by rfl) ?_
          walk1
          refine LCt.CompSrcT.ledger (by rfl) (by k_asm) (by k_asm) (by k_mem) (by rw [List.size_toArray, sizeLine_eq]; omega) ?_
          intro g'
          refine' kci_list (fun l k => if x < k ∧ k < x2 then l ++ [k] else l) hok.ai (fun k' t' I' oI' C' oC' D' m' ys' l' h' tk' E' hk' hI' hC' hx' F' N' off' ne' hMark' => ?_) ?_ ?_
          · have off0 := off'
            simp only [LCg.Off3] at off'
            (try k_fold)
            k_steps
            all_goals first
              | exact LCg.CompEnd.intro (by assumption) (by assumption) _ (fun _ h => h) off0 (.inr ⟨_, by k_mem, rfl, _, rfl⟩) (kci_el (if_pos ⟨by assumption, by assumption⟩) rfl rfl)
              | exact LCg.CompEnd.intro (by assumption) (by assumption) _ (fun _ h => h) off0 (.inr ⟨_, by k_mem, rfl, _, rfl⟩) (kci_no (if_neg (by omega)) rfl)
          · show KPfDone _
            intro ys hys hyl
            intro D' h' tk' F' N' off'
            k_steps
            all_goals first
              | exact Mine.end3a (by assumption) (by assumption) hoff2 ⟨_, by assumption⟩ hp2 hj rfl rfl (fun z h1 h2 h3 h4 => by simp only [Mine.map3, h1, h2, h3, h4, if_false]) (by rw [Mine.dueOf_t (by assumption) (by assumption) (by assumption) (by assumption)]; simp)
              | exact Mine.end3a (by assumption) (by assumption) hoff2 ⟨_, by assumption⟩ hp2 hj rfl rfl (fun z h1 h2 h3 h4 => by simp only [Mine.map3, h1, h2, h3, h4, if_false]) (by rw [Mine.dueOf_f4 (by assumption)]; simp)
              | exact Mine.end3a (by assumption) (by assumption) hoff2 ⟨_, by assumption⟩ hp2 hj rfl rfl (fun z h1 h2 h3 h4 => by simp only [Mine.map3, h1, h2, h3, h4, if_false]) (by rw [Mine.dueOf_f3 (by assumption)]; simp)
              | exact Mine.end3a (by assumption) (by assumption) hoff2 ⟨_, by assumption⟩ hp2 hj rfl rfl (fun z h1 h2 h3 h4 => by simp only [Mine.map3, h1, h2, h3, h4, if_false]) (by rw [Mine.dueOf_f2 (by assumption)]; simp)
              | exact Mine.end3b (by assumption) (by assumption) hoff2 ⟨_, by assumption⟩ hp2 hj rfl rfl (fun z h1 h2 h3 h4 => by simp only [Mine.map3, h1, h2, h3, h4, if_false]) (by rw [Mine.dueOf_f1 (by assumption)]; simp)
          · intro l k
            show (if x < k ∧ k < x2 then l ++ [k] else l).length ≤ _
            split <;> simp
        case done3 =>
          clear lF' lN'
          (try dsimp only)
          k_steps
          exact Mine.end2 (by assumption) (by assumption) hoff hc1 ⟨_, by assumption⟩ hp hi hp2 rfl (fun z h1 h2 h3 h4 => by simp only [Mine.map3, Mine.map2, h1, h2, h3, h4, if_false])
      case done2 =>
        clear lF' lN'
        (try dsimp only)
        (try k_fold)
        repeat' (
          (fail_if_success (with_reducible show wpAny _ _ (exec (Stmt.While _ _ _ _) _) _ _ _))
          (first | (k_unfold; (try dsimp only)) | (k_end; kc_close) | walk1 | (dsimp only; walk1) | (leave1; walk_say "STEP leave1"; (try dsimp only)) | fail "no step"))
        (rename Fr _ _ _ _ => lF'); (rename News _ _ _ _ => lN')
        with_unfolding_all refine' Mine.loop4 lF' lN' ?s0 ?s1 ?vi ?vl (fun v lf c4 h' tk' hok4 hlf F' N' => ?turn4) (fun c4 h' tk' hok4 hlf F' N' => ?done4)
        case s0 => assumption
        case s1 => assumption
        case vi => assumption
        case vl => assumption
        case turn4 =>
          clear lF' lN'
          have os0 := hok4.s0; have os1 := hok4.s1; have ovi := hok4.vi; have ovl := hok4.vl
          have opm := hok4.pm.length_eq
          have olf : c4.lf.length = lf.length + 1 := by rw [hlf]; rfl
          rw [List.length_append] at opm
          have odr : c4.dr.length ≤ 16 := by omega
          k_steps
          dsimp only [Mine.W4Post]
          exact Mine.end4 (by assumption) (by assumption) hok4 (by assumption) (by assumption) (by assumption) (by assumption) (by assumption)
        case done4 =>
          clear lF' lN'
          repeat' (
            (fail_if_success (with_reducible show wpAny _ _ (call (Value.ref 33) _) _ _ _))
            (first | (k_unfold; (try dsimp only)) | (k_end; kc_close) | walk1 | (dsimp only; walk1) | (leave1; walk_say "STEP leave1"; (try dsimp only)) | fail "no step"))
          have oai := hok.ai
          have oal : c.as_.length ≤ 16 := by have e1 := hok.al; omega
          have operm : c4.dr.Perm c.lv := by have e1 := hok4.pm; rw [hlf, List.append_nil] at e1; exact e1
          have opw : c.ld.Pairwise fun p q => p.1 < q.1 := hok.lk.pw.imp fun h => h.1
          (rename Mine.Rules _ _ _ _ _ _ _ _ => R7)
          refine Mine.PersRule.use R7.pers (tl := tl) (lv := c.lv) (ld := c.ld) (as_ := c.as_) (av := c.av) (dv := c4.dr) (by k_asm) (by k_asm) (by k_asm) (by k_asm) (by k_asm) (by k_mem) (by k_mem) oai oal (fun p hp => ?hT) hok.li operm olv opw ?hsp rfl rfl ?hQ
          case hT => exact .tail _ (.tail _ (.tail _ (.tail _ (.tail _ (.tail _ (.tail _ (.tail _ (.tail _ hp))))))))
          case hsp => omega
          case hQ =>
            intro h' tk' F' N'
            rw [Mine.plain_due (by omega) hok.lk.pw (fun a ha => (hok.dj a ha).2) hp]
            clear hp
            cases d with
            | true => k_steps
            | false => k_steps
