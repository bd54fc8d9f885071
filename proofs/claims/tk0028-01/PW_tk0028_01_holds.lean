import PyProof.Rows.All
import Wide.All
import OpenK.AllK
import Wide.FinOn
import PySem.Challenge.RW_tk0028_01
open PySem PySem.W PyProof.Rows
set_option Elab.async false
set_option maxRecDepth 100000
set_option maxHeartbeats 0
/- part OT -/
namespace Mine
open_top hd for PySem.Challenge.rw_tk0028_01
end Mine

/- part Base -/
namespace Mine

/-- a call that makes things and changes nothing that stood -/
def PC (w : World) (loose : List Str) (mean : ExcName → Option Value) (mg mb : Str → Option Value) (f : Addr) (args : List Value) (need units : Nat) (s : Shared) (R : Value → Heap → Prop) : Prop :=
  ∀ (dp un : Nat) (gd : Option (List Code)) (cn : Str) (cs : Scope) (a : Addr) (ccd : Value) (cl : List (Str × Addr)) (outer : List Env) (A₀ : Around) (base h₀ : Heap) (L : Addr) (m : Str → Option Value)
    (Q E : Value → Shared → Prop),
    Below A₀ base outer h₀ → Fr h₀ L s.heap m → (Mine.hd.heap_39 w.params).In h₀ → Top Mine.hd.view_39 loose mean mg mb h₀ → cs.kind = .function → dp + need < recursionLimit → un + units < cLine →
    (∀ r h' tk', (∀ b o, s.heap.get? b = some o → h'.get? b = some o) → R r h' → Q r { s with heap := h', toks := tk' }) →
    wpAny (model PySem.Challenge.rw_tk0028_01.row.prog w) (ktrTop dp un gd cn cs L a ccd cl outer) (call (.ref f) args) Q E s

theorem sub_of {s g : Heap} (G : GSub s g (([] : List (Addr × Obj)).map (·.1))) : ∀ b o, s.get? b = some o → g.get? b = some o := fun b o e => G b o e (by simp)
theorem kept {s g h' : Heap} {L' : Addr} {m' : Str → Option Value} (G : GSub s g (([] : List (Addr × Obj)).map (·.1))) (F : Fr g L' h' m') : ∀ b o, s.get? b = some o → h'.get? b = some o := fun b o e => F.keep b o (sub_of G b o e)

abbrev pairOf (x : Int) (t : Tok) (y : Int) (u : Tok) : Obj := { cls := .type "tuple", data := .seq [.int x t, .int y u].toArray }

/-- a new pair (x, 1) -/
def NewP (s : Shared) (x : Int) (r : Value) (h' : Heap) : Prop := ∃ a t u, r = .ref a ∧ s.heap.get? a = none ∧ h'.get? a = some (pairOf x t 1 u)

section
variable {w : World} {loose : List Str} {mean : ExcName → Option Value} {mg mb : Str → Option Value} {f : Addr} {args : List Value} {need units : Nat} {s : Shared}
  {dp un : Nat} {gd : Option (List Code)} {cn : Str} {cs : Scope} {a : Addr} {ccd : Value} {cl : List (Str × Addr)} {outer : List Env} {A₀ : Around} {base h₀ : Heap} {L : Addr} {m : Str → Option Value} {news : List (Addr × Obj)}
  {Q E : Value → Shared → Prop} {x : Int} {bo : Bool}

theorem use_int (C : PC w loose mean mg mb f args need units s (fun r _ => ∃ t, r = .int x t)) (B : Below A₀ base outer h₀) (F : Fr h₀ L s.heap m) (X : (Mine.hd.heap_39 w.params).In h₀) (N : News h₀ L s.heap news)
    (T : Top Mine.hd.view_39 loose mean mg mb h₀) (hk : cs.kind = .function) (hd : dp + need < recursionLimit) (hu : un + units < cLine)
    (h : ∀ t h' tk', Fr h₀ L h' m → News h₀ L h' news → Q (.int x t) { s with heap := h', toks := tk' }) :
    wpAny (model PySem.Challenge.rw_tk0028_01.row.prog w) (ktrTop dp un gd cn cs L a ccd cl outer) (call (.ref f) args) Q E s := by
  refine C dp un gd cn cs a ccd cl outer A₀ base h₀ L m Q E B F X T hk hd hu ?_
  rintro r h' tk' kp ⟨t, rfl⟩
  exact h t h' tk' (F.keeps kp) (fun p hp => ⟨kp _ _ (N p hp).1, (N p hp).2⟩)

theorem use_bool (C : PC w loose mean mg mb f args need units s (fun r _ => r = .bool bo)) (B : Below A₀ base outer h₀) (F : Fr h₀ L s.heap m) (X : (Mine.hd.heap_39 w.params).In h₀) (N : News h₀ L s.heap news)
    (T : Top Mine.hd.view_39 loose mean mg mb h₀) (hk : cs.kind = .function) (hd : dp + need < recursionLimit) (hu : un + units < cLine)
    (h : ∀ h' tk', Fr h₀ L h' m → News h₀ L h' news → Q (.bool bo) { s with heap := h', toks := tk' }) :
    wpAny (model PySem.Challenge.rw_tk0028_01.row.prog w) (ktrTop dp un gd cn cs L a ccd cl outer) (call (.ref f) args) Q E s := by
  refine C dp un gd cn cs a ccd cl outer A₀ base h₀ L m Q E B F X T hk hd hu ?_
  rintro r h' tk' kp rfl
  exact h h' tk' (F.keeps kp) (fun p hp => ⟨kp _ _ (N p hp).1, (N p hp).2⟩)

theorem use_any {R : Value → Heap → Prop} (C : PC w loose mean mg mb f args need units s R) (B : Below A₀ base outer h₀) (F : Fr h₀ L s.heap m) (X : (Mine.hd.heap_39 w.params).In h₀) (N : News h₀ L s.heap news)
    (T : Top Mine.hd.view_39 loose mean mg mb h₀) (hk : cs.kind = .function) (hd : dp + need < recursionLimit) (hu : un + units < cLine)
    (h : ∀ r h' tk', (∀ b o, s.heap.get? b = some o → h'.get? b = some o) → Fr h₀ L h' m → News h₀ L h' news → R r h' → Q r { s with heap := h', toks := tk' }) :
    wpAny (model PySem.Challenge.rw_tk0028_01.row.prog w) (ktrTop dp un gd cn cs L a ccd cl outer) (call (.ref f) args) Q E s :=
  C dp un gd cn cs a ccd cl outer A₀ base h₀ L m Q E B F X T hk hd hu fun r h' tk' kp hr => h r h' tk' kp (F.keeps kp) (fun p hp => ⟨kp _ _ (N p hp).1, (N p hp).2⟩) hr

theorem new_off {a : Addr} (F : Fr h₀ L s.heap m) (hn : s.heap.get? a = none) : a ≠ L ∧ h₀.get? a = none := by
  obtain ⟨oL, _, _, hL, _⟩ := F.ns
  refine ⟨fun e => (by rw [e, hL] at hn; cases hn), ?_⟩
  cases q : h₀.get? a with
  | none => rfl
  | some o => rw [F.keep _ _ q] at hn; cases hn

theorem use_pair (C : PC w loose mean mg mb f args need units s (NewP s x)) (B : Below A₀ base outer h₀) (F : Fr h₀ L s.heap m) (X : (Mine.hd.heap_39 w.params).In h₀) (N : News h₀ L s.heap news)
    (T : Top Mine.hd.view_39 loose mean mg mb h₀) (hk : cs.kind = .function) (hd : dp + need < recursionLimit) (hu : un + units < cLine)
    (h : ∀ r t u h' tk', Fr h₀ L h' m → News h₀ L h' ((r, pairOf x t 1 u) :: news) → (∀ p ∈ news, p.1 ≠ r) → Q (.ref r) { s with heap := h', toks := tk' }) :
    wpAny (model PySem.Challenge.rw_tk0028_01.row.prog w) (ktrTop dp un gd cn cs L a ccd cl outer) (call (.ref f) args) Q E s := by
  refine C dp un gd cn cs a ccd cl outer A₀ base h₀ L m Q E B F X T hk hd hu ?_
  rintro r h' tk' kp ⟨b, t, u, rfl, hn, hb⟩
  refine h b t u h' tk' (F.keeps kp) (fun p hp => ?_) (fun p hp e => by have q := (N p hp).1; rw [e, hn] at q; cases q)
  rcases List.mem_cons.mp hp with rfl | hp
  · exact ⟨hb, new_off F hn⟩
  · exact ⟨kp _ _ (N p hp).1, (N p hp).2⟩

/-- what a callee that made a pair hands back -/
theorem give_pair {s : Shared} {g h' : Heap} {L' D : Addr} {m' : Str → Option Value} {news : List (Addr × Obj)} {x x' y' : Int} {t u : Tok} (G : GSub s.heap g (([] : List (Addr × Obj)).map (·.1))) (F : Fr g L' h' m') (N : News g L' h' news)
    (hm : (D, ({ cls := .type "tuple", data := .seq [.int x' t, .int y' u].toArray } : Obj)) ∈ news) (hx : x' = x) (hy : y' = 1) : NewP s x (.ref D) h' := by
  have F0 := F.above
  subst hx hy
  refine ⟨D, t, u, rfl, ?_, (N _ hm).1⟩
  cases q : s.heap.get? D with
  | none => rfl
  | some o => have := (N _ hm).2.2; rw [sub_of G _ _ q] at this; cases this
end

/-- a pair (x, 1) that stands -/
def IsPair (h : Heap) (v : Value) (x : Int) : Prop := ∃ a t u n, v = .ref a ∧ h.get? a = some { cls := .type "tuple", data := .seq [.int x t, .int 1 u].toArray n }
theorem IsPair.up {h h' : Heap} {v : Value} {x : Int} (p : IsPair h v x) (k : ∀ b o, h.get? b = some o → h'.get? b = some o) : IsPair h' v x := let ⟨a, t, u, n, e, q⟩ := p; ⟨a, t, u, n, e, k _ _ q⟩
theorem NewP.pair {s : Shared} {x : Int} {r : Value} {h' : Heap} (p : NewP s x r h') : IsPair h' r x := let ⟨a, t, u, e, _, q⟩ := p; ⟨a, t, u, 0, e, q⟩

theorem item_pair {prog : Program} {w : World} {A : Around} {E : Value → Shared → Prop} {s : Shared} {g : Heap} {L a : Addr} {m : Str → Option Value} {value slice : Expr} {l : List Value} {n : Nat} {k : Int} {u : Tok} {j : Nat} {v : Value} {Q : Value → Shared → Prop}
    (F : Fr g L s.heap m) (ho : g.get? a = some { cls := .type "tuple", data := .seq l.toArray n }) (hlo : -(2 ^ 63) ≤ k) (hhi : k < 2 ^ 63) (hj : seqIndex? k l.length = some j) (hx : l[j]? = some v) (h : Q v s)
    (hs : subscripted slice false (.ref a) (.int k u) = operate [.ref a, .int k u] (getItem (.ref a) (.int k u)) := by with_unfolding_all rfl) :
    wpAny (model prog w) A (subscriptTail value slice (.ref a) (.int k u)) Q E s :=
  item_tupleT ⟨_, F.keep _ _ ho, rfl, n, rfl⟩ hlo hhi hj hx h hs

theorem R0_pair {w : World} {h : Heap} (X : (Mine.hd.heap_39 w.params).In h) : IsPair h (.ref 49) 0 := by with_unfolding_all exact ⟨49, _, _, _, rfl, X _ _ rfl⟩
theorem R1_pair {w : World} {h : Heap} (X : (Mine.hd.heap_39 w.params).In h) : IsPair h (.ref 50) 1 := by with_unfolding_all exact ⟨50, _, _, _, rfl, X _ _ rfl⟩

theorem item_listC {prog : Program} {w : World} {A : Around} {E : Value → Shared → Prop} {s : Shared} {g : Heap} {L a : Addr} {m : Str → Option Value} {value slice : Expr} {l : List Value} {n : Nat} {k : Int} {u : Tok} {v : Value} {Q : Value → Shared → Prop}
    (F : Fr g L s.heap m) (ho : g.get? a = some (listOf l.toArray n)) (h0 : 0 ≤ k) (hhi : k < 2 ^ 63) (hx : l[k.toNat]? = some v) (h : Q v s)
    (hs : subscripted slice false (.ref a) (.int k u) = operate [.ref a, .int k u] (getItem (.ref a) (.int k u)) := by with_unfolding_all rfl) :
    wpAny (model prog w) A (subscriptTail value slice (.ref a) (.int k u)) Q E s :=
  have hl : s.heap.IsList a l.toArray := ⟨_, F.keep _ _ ho, rfl, n, rfl⟩
  tail_any hl.typeIs slot_list_getitem.lookup (wpAny_getItem_list hl h0 hhi (by simpa using hx) h) hs

theorem len_listC {prog : Program} {w : World} {A : Around} {E : Value → Shared → Prop} {s : Shared} {g : Heap} {L a : Addr} {m : Str → Option Value} {l : List Value} {n k : Nat} {Q : Value → Shared → Prop}
    (F : Fr g L s.heap m) (ho : g.get? a = some (listOf l.toArray n)) (hl : l.length = k) (hk : k < 2 ^ 63) (h : Q (.int k (s.toks + 1)) { s with toks := s.toks + 1 + 1 }) :
    wpAny (model prog w) A (call (.builtin "len") [.ref a]) Q E s := by
  subst hl
  exact len_list (items := l.toArray) ⟨_, F.keep _ _ ho, rfl, n, rfl⟩ (by rw [List.size_toArray]; omega) (by rw [List.size_toArray]; exact h)

theorem keeps_two {s : Shared} {h₁ h₂ : Heap} {tk : Nat} (k₁ : ∀ b o, s.heap.get? b = some o → h₁.get? b = some o) (k₂ : ∀ b o, h₁.get? b = some o → h₂.get? b = some o) : Keeps s { s with heap := h₂, toks := tk } := ⟨h₂, tk, rfl, fun b o e => k₂ b o (k₁ b o e)⟩
theorem keeps_one {s : Shared} {h₁ : Heap} {tk : Nat} (k₁ : ∀ b o, s.heap.get? b = some o → h₁.get? b = some o) : Keeps s { s with heap := h₁, toks := tk } := ⟨h₁, tk, rfl, k₁⟩

/-- the walk waits here -/
def Hold (P : Prop) : Prop := P
theorem Hold.out {P : Prop} (h : Hold P) : P := h
theorem Hold.go {P : Prop} (h : P) : Hold P := h

/-- a list of pairs (x, 1) that stands -/
def IsPairs (h : Heap) (v : Value) (xs : List Int) : Prop := ∃ (a : Addr) (vs : List Value) (n : Nat), v = .ref a ∧ h.get? a = some (listOf vs.toArray n) ∧ vs.length = xs.length ∧ ∀ (i : Nat) (x : Int), xs[i]? = some x → ∃ v, vs[i]? = some v ∧ IsPair h v x
theorem IsPairs.up {h h' : Heap} {v : Value} {xs : List Int} (p : IsPairs h v xs) (k : ∀ b o, h.get? b = some o → h'.get? b = some o) : IsPairs h' v xs := by
  obtain ⟨a, vs, n, e, q, l, r⟩ := p
  refine ⟨a, vs, n, e, k _ _ q, l, fun i x hx => ?_⟩
  obtain ⟨v, h1, h2⟩ := r i x hx
  exact ⟨v, h1, h2.up k⟩

/-- the product's place k, its first i turns -/
def convTo (as bs : List Int) (k : Nat) : Nat → Int
  | 0 => 0
  | i + 1 => convTo as bs k i + as.getD i 0 * bs.getD (k - i) 0

end Mine

/- part Loop -/
namespace Mine
section
variable {prog : Program} {w : World} {A : Around} {E : Value → Shared → Prop} {s : Shared} {env : Env} {h₀ : Heap} {x : Str} {body : List Stmt} {Q : Flow → Shared → Prop}

/-- a loop over a range that turns one name, whatever it holds -/
theorem range_loop1 {r : Addr} {a₀ b₀ : Int} {t₀ u₀ v₀ : Tok} (n : Nat) {m₀ : Str → Option Value} {news : List (Addr × Obj)} (y : Str) (V : Nat → List (Addr × Obj) → Value → Prop) {y₀ : Value}
    (hh : A.handled = none) (hr : IsRange s.heap r a₀ b₀ 1 t₀ u₀ v₀) (hsmall : Builtin.Range.small a₀ b₀ 1 = true) (hsz : Builtin.Range.rangeSize a₀ b₀ 1 = (n : Int)) (F : Fr h₀ env.locals s.heap m₀) (N : News h₀ env.locals s.heap news)
    (hyx : y ≠ x) (hy : m₀ y = some y₀) (hV : V 0 news y₀)
    (turn : ∀ i t nx v h tk own, i < n → OwnOff own (nx.map (·.1)) → V i nx v → Fr h₀ env.locals h (fun z => if z = x then some (.int (a₀ + (i : Int)) t) else if z = y then some v else m₀ z) → News h₀ env.locals h (nx ++ own) →
      wpAny (model prog w) A (execs body env) (InvPostG h₀ env.locals (fun m' nx' => (∃ v', m' y = some v' ∧ V (i + 1) nx' v') ∧ ∀ z, z ≠ x → z ≠ y → m' z = m₀ z) own { s with heap := h, toks := tk } Q) E { s with heap := h, toks := tk })
    (done : ∀ (u : Str → Option Value) nx v h tk, V n nx v → Fr h₀ env.locals h (fun z => if z = x then u z else if z = y then some v else m₀ z) → News h₀ env.locals h nx → Q .next { s with heap := h, toks := tk }) :
    wpAny (model prog w) A (pyIter (.ref r)) (fun it s₂ => LoopAtV prog w A h₀ env x body Q E it s₂) E s := by
  refine wpAny_pyIter_range hr hsmall ?_
  have W : Walks prog w A s.heap.objs.size [s.heap.objs.size] [s.heap.objs.size] n (fun i v => i < n ∧ ∃ t, v = .int (a₀ + i * 1) t)
      (fun i h => IsRangeIter h s.heap.objs.size (a₀ + (i : Nat) * 1) ((n : Int) - (i : Nat)) 1) := (Walks.range hh _ a₀ 1 n).bound
  refine kdr_loop (fun i m nx => (∃ v, m y = some v ∧ V i nx v) ∧ ∀ z, z ≠ x → z ≠ y → m z = m₀ z) W (fun _ h => h) (fun _ h => h) ?_ ?_ ?_ ?_ (by show IsRangeIter _ _ _ _ _; rw [hsz]; simpa using Heap.get?_push_size _ rfl) (F.push _)
    (fun p hp => ⟨Heap.get?_push_of_some _ (N p hp).1, (N p hp).2⟩) ⟨⟨y₀, hy, hV⟩, fun _ _ _ => rfl⟩ ?_ ?_
  · intro i h hi b hb
    rw [List.mem_singleton.mp hb]
    exact ⟨_, hi⟩
  · intro hm
    exact absurd F.ns.lt ((List.mem_singleton.mp hm) ▸ Nat.lt_irrefl _)
  · intro b hb
    rw [List.mem_singleton.mp hb]
    exact next_is_new F
  · intro p hp hI
    exact absurd (Heap.lt_size (N p hp).1) ((List.mem_singleton.mp hI) ▸ Nat.lt_irrefl _)
  · rintro i v m₁ nx h tk own hi ⟨_, t, rfl⟩ hoff ⟨⟨v, hv, hV'⟩, hm⟩ F₁ N₁
    refine turn i t nx v h tk own hi hoff hV' ?_ N₁
    have e : (fun z => if z = x then some (Value.int (a₀ + (i : Int) * 1) t) else m₁ z) = fun z => if z = x then some (.int (a₀ + (i : Int)) t) else if z = y then some v else m₀ z := by
      funext z
      by_cases h1 : z = x
      · simp [h1]
      · simp only [if_neg h1]
        by_cases h2 : z = y
        · subst h2; simp [hv]
        · simp only [if_neg h2]; exact hm z h1 h2
    rw [e] at F₁
    exact F₁
  · rintro m₁ nx h tk ⟨⟨v, hv, hV'⟩, hm⟩ F₁ N₁
    refine done m₁ nx v h tk hV' ?_ N₁
    have e : (fun z => if z = x then m₁ z else if z = y then some v else m₀ z) = m₁ := by
      funext z
      by_cases h1 : z = x
      · simp [h1]
      · simp only [if_neg h1]
        by_cases h2 : z = y
        · subst h2; simp [hv]
        · simp only [if_neg h2]; exact (hm z h1 h2).symm
    rw [e]; exact F₁
end

/-- a pair (x, 1) that stands below or in the ledger -/
def PairN (g : Heap) (nx : List (Addr × Obj)) (v : Value) (x : Int) : Prop :=
  ∃ a t u n, v = .ref a ∧ (g.get? a = some { cls := .type "tuple", data := .seq [.int x t, .int 1 u].toArray n } ∨ (a, ({ cls := .type "tuple", data := .seq [.int x t, .int 1 u].toArray n } : Obj)) ∈ nx)
theorem PairN.old {g : Heap} {nx : List (Addr × Obj)} {v : Value} {x : Int} (p : IsPair g v x) : PairN g nx v x := let ⟨a, t, u, n, e, q⟩ := p; ⟨a, t, u, n, e, .inl q⟩
theorem PairN.mono {g : Heap} {nx nx' : List (Addr × Obj)} {v : Value} {x : Int} (p : PairN g nx v x) (k : ∀ q ∈ nx, q ∈ nx') : PairN g nx' v x := let ⟨a, t, u, n, e, q⟩ := p; ⟨a, t, u, n, e, q.imp id (k _)⟩
theorem PairN.pair {g h : Heap} {L : Addr} {m : Str → Option Value} {nx : List (Addr × Obj)} {v : Value} {x : Int} (p : PairN g nx v x) (F : Fr g L h m) (N : News g L h nx) : IsPair h v x :=
  let ⟨a, t, u, n, e, q⟩ := p; ⟨a, t, u, n, e, q.elim (F.keep _ _) fun m => (N _ m).1⟩

section
open PyProof.V PySem.Spec
variable {prog : Program} {w : World} {A : Around} {E : Value → Shared → Prop} {s : Shared}
theorem reads_pair {h : Heap} {v : Value} {x : Int} (p : IsPair h v x) : ∃ as, Reads h v (.tuple [.int x, .int 1]) as := by
  obtain ⟨a, t, u, n, rfl, q⟩ := p
  exact ⟨_, .tuple q rfl rfl (.cons (.int x t) (.cons (.int 1 u) .nil))⟩
theorem pair_ne {v w' : Value} {x y : Int} {Q : Value → Shared → Prop} (p : IsPair s.heap v x) (q : IsPair s.heap w' y) (hu : A.units + 64 < cLine) (h : Q (.bool (x != y)) s) :
    wpAny (model prog w) A (compareOp .NotEq v w') Q E s := by
  obtain ⟨as, ra⟩ := reads_pair p
  obtain ⟨bs, rb⟩ := reads_pair q
  refine SeqAt.compareNe_shaped ra rb rfl rfl hu ?_
  have e : (!PyData.eqv (.tuple [.int x, .int 1]) (.tuple [.int y, .int 1])) = (x != y) := by
    simp [PyData.eqv, PyData.eqvAll, bne]
  rw [e]; exact h
end
end Mine

/- part Comp -/
namespace Mine

/-- the pairs made so far -/
def Made (f : Nat → Int) (h : Heap) (ys : Array Value) (i : Nat) : Prop := ys.size = i ∧ ∀ j, j < i → ∃ y, ys[j]? = some y ∧ IsPair h y (f j)
theorem Made.up {f : Nat → Int} {h h' : Heap} {ys : Array Value} {i : Nat} (m : Made f h ys i) (k : ∀ y x, IsPair h y x → IsPair h' y x) : Made f h' ys i := by
  refine ⟨m.1, fun j hj => ?_⟩
  obtain ⟨y, h1, h2⟩ := m.2 j hj
  exact ⟨y, h1, k _ _ h2⟩
theorem Made.push {f : Nat → Int} {h : Heap} {ys : Array Value} {i : Nat} {y : Value} (m : Made f h ys i) (p : IsPair h y (f i)) : Made f h (ys.push y) (i + 1) := by
  refine ⟨by rw [Array.size_push, m.1], fun j hj => ?_⟩
  rcases Nat.lt_or_ge j i with h1 | h1
  · obtain ⟨y', h2, h3⟩ := m.2 j h1
    refine ⟨y', ?_, h3⟩
    rw [Array.getElem?_push_lt (by rw [m.1]; exact h1)]
    rw [Array.getElem?_eq_some_iff] at h2
    obtain ⟨_, h2⟩ := h2
    rw [h2]
  · have : j = i := by omega
    subst this
    exact ⟨y, by rw [← m.1]; exact Array.getElem?_push_size, p⟩

/-- a pair stays where only dicts, lists, iterators turn -/
theorem IsPair.apart {h h' : Heap} {y : Value} {x : Int} {T : Addr → Prop} (p : IsPair h y x) (ht : ∀ b, T b → ∀ o, h.get? b = some o → o.cls = .type "tuple" → (∃ vs n, o.data = .seq vs n) → False)
    (k : ∀ b o, ¬ T b → h.get? b = some o → h'.get? b = some o) : IsPair h' y x := by
  obtain ⟨a, t, u, n, rfl, q⟩ := p
  exact ⟨a, t, u, n, rfl, k _ _ (fun hT => ht a hT _ q rfl ⟨_, _, rfl⟩) q⟩

section
variable {prog : Program} {w : World} {A : Around} {R : Result → Shared → Prop} {s : Shared}

theorem comp_pairs {elt iter : Expr} {x : Str} {px : Pos} {scope : Scope} {pos : Pos} {I D : Addr} {fp wr : List Addr} {n : Nat} {P : Nat → Value → Prop} {St : Nat → Heap → Prop} {cenv : Env} {m : Str → Option Value}
    (W : Walks prog w A I fp wr n P St) (f : Nat → Int) (hlive : ∀ i h, St i h → ∀ b ∈ wr, ∃ o, h.get? b = some o ∧ o.cls ≠ .type "tuple")
    (hx : cenv.kindOf x = some .local) (hp : (cenv.scope.kind == .class || (cenv.scope.kind == .module && cenv.locals != cenv.globals)) = false)
    (hDC : D ≠ cenv.locals) (hDf : D ∉ fp) (hCf : cenv.locals ∉ fp) (hst : St 0 s.heap) (hacc : s.heap.PlainList D #[]) (hn : s.heap.Ns cenv.locals m)
    (helt : ∀ i v s₂ m₂, i < n → P i v → s₂.heap.Ns cenv.locals m₂ → m₂ x = some v → (∀ b o, b ≠ cenv.locals → b ∉ wr → b ≠ D → s.heap.get? b = some o → s₂.heap.get? b = some o) →
      wpAny (model prog w) A (eval elt cenv) (fun y s₃ => IsPair s₃.heap y (f i) ∧ Keeps s₂ s₃) (notedBy (model prog w) A cenv fun e s' => R (.error e) s') s₂)
    (hR : ∀ h' tk m' ys, h'.Ns cenv.locals m' → h'.PlainList D ys → Made f h' ys n → (∀ b o, b ≠ cenv.locals → b ∉ wr → b ≠ D → s.heap.get? b = some o → h'.get? b = some o) →
      R (.ok .next) { s with heap := h', toks := tk })
    (hsz : n ≤ sizeLine) :
    codeAny (model prog w) A (.compLoop (.ListComp elt [⟨.Name x px, iter, [], 0⟩] scope pos) 0 (.ref I) (.ref D) cenv) R s := by
  have hCw : cenv.locals ∉ wr := fun h => hCf (W.sub _ h)
  have hDw : D ∉ wr := fun h => hDf (W.sub _ h)
  -- what turns besides the elements' own makings holds no tuple
  have still : ∀ {i : Nat} {h h' : Heap} {ys : Array Value} {m : Str → Option Value}, St i h → h.PlainList D ys → h.Ns cenv.locals m →
      (∀ b o, b ≠ cenv.locals → b ∉ wr → b ≠ D → h.get? b = some o → h'.get? b = some o) → ∀ y x, IsPair h y x → IsPair h' y x := by
    intro i h h' ys m st pl ns k y x p
    refine p.apart (T := fun b => b = cenv.locals ∨ b ∈ wr ∨ b = D) ?_ fun b o hb e => k b o (fun e' => hb (.inl e')) (fun e' => hb (.inr (.inl e'))) (fun e' => hb (.inr (.inr e'))) e
    rintro b (rfl | hb | rfl) o ho hc ⟨vs, n', hd⟩
    · obtain ⟨o', es, ep, ho', hd', _⟩ := ns
      rw [ho] at ho'; cases ho'
      rw [hd] at hd'; cases hd'
    · obtain ⟨o', ho', hc'⟩ := hlive _ _ st b hb
      rw [ho] at ho'; cases ho'
      exact hc' hc
    · obtain ⟨n'', ho'⟩ := pl
      rw [ho] at ho'; cases ho'
      simp at hc
  refine codeAny_compLoop_tests
    (fun k s' => ∃ h' tk m' ys i, s' = { s with heap := h', toks := tk } ∧ St i h' ∧ h'.PlainList D ys ∧ h'.Ns cenv.locals m' ∧ Made f h' ys i ∧ i ≤ n ∧ k = n + 1 - i ∧
      (∀ b o, b ≠ cenv.locals → b ∉ wr → b ≠ D → s.heap.get? b = some o → h'.get? b = some o)) ?_ (n + 1)
    ⟨s.heap, s.toks, m, #[], 0, rfl, hst, hacc, hn, ⟨rfl, fun j hj => absurd hj (Nat.not_lt_zero _)⟩, Nat.zero_le _, rfl, fun _ _ _ _ _ e => e⟩
  rintro k s' ⟨H, tk, m', ys, i, rfl, hst', hacc', hn', hM, hi, rfl, hk⟩
  by_cases hlt : i < n
  · refine W.item i _ _ _ hlt hst' fun v h₁ tk₁ hPv hst₁ hk₁ => ?_
    refine wpAny_assign_Name (wpAny_storeName_local hx (hn'.at' fun o e => hk₁ _ o hCw e) (fun h₂ hn₂ hs₂ => ?_) hp)
    have up₂ : ∀ b o, b ≠ cenv.locals → b ∉ wr → H.get? b = some o → h₂.get? b = some o := fun b o hbC hbf e => hs₂.extBut b o hbC (hk₁ b o hbf e)
    have hst₂ : St (i + 1) h₂ := W.frame _ _ _ hst₁ fun b hb o e => hs₂.extBut b o (fun h => hCf (h ▸ hb)) e
    refine wpAny_tests_nil ?_
    simp only [if_true]
    refine wpAny_mono (helt i v _ _ hlt hPv hn₂ (by simp) fun b o hbC hbf hbD e => up₂ b o hbC hbf (hk b o hbC hbf hbD e)) (fun y s₄ h₄ => ?_) fun _ _ e => e
    obtain ⟨hy, h₄, tk₄, rfl, hk₄⟩ := h₄
    have hacc₄ : h₄.PlainList D ys := hacc'.at fun o e => hk₄ _ o (up₂ D o hDC hDw e)
    have hn₄ := hn₂.keeps hk₄
    have hst₄ : St (i + 1) h₄ := W.frame _ _ _ hst₂ fun b _ o e => hk₄ b o e
    have hM₄ : Made f h₄ ys i := hM.up (still hst' hacc' hn' fun b o hbC hbf hbD e => hk₄ b o (up₂ b o hbC hbf e))
    have hys : ys.size ≤ sizeLine := by rw [hM.1]; omega
    refine wpAny_list_append_plain (hsz := hys) hacc₄ fun h₅ hl₅ hs₅ => ?_
    have up₅ : ∀ y x, IsPair h₄ y x → IsPair h₅ y x := still hst₄ hacc₄ hn₄ fun b o _ _ hbD e => hs₅.extBut b o hbD e
    refine ⟨n + 1 - (i + 1), by omega, h₅, tk₄, _, ys.push y, i + 1, rfl, W.frame _ _ _ hst₄ fun b hb o e => hs₅.extBut b o (fun h => hDf (h ▸ hb)) e, hl₅, hn₄.sameBut hs₅ (Ne.symm hDC), ?_, hlt, rfl,
      fun b o hbC hbf hbD e => hs₅.extBut b o hbD (hk₄ b o (up₂ b o hbC hbf (hk b o hbC hbf hbD e)))⟩
    exact (hM₄.up up₅).push (up₅ _ _ hy)
  · have hin : i = n := by omega
    subst hin
    refine W.done _ _ _ hst' fun h₁ tk₁ hk₁ => ?_
    refine hR h₁ tk₁ m' ys (hn'.at' fun o e => hk₁ _ o hCw e) (hacc'.at fun o e => hk₁ _ o hDw e) (hM.up (still hst' hacc' hn' fun b o _ hbf _ e => hk₁ b o hbf e)) fun b o hbC hbf hbD e => hk₁ b o hbf (hk b o hbC hbf hbD e)
end

section
variable {prog : Program} {w : World} {A : Around} {E : Value → Shared → Prop} {env : Env}

/-- a list display by a comprehension whose elements are pairs -/
theorem ListComp_pairs {s : Shared} {elt iter : Expr} {x : Str} {px : Pos} {scope : Scope} {cl : List (Str × Addr)} {pos : Pos} {Q : Value → Shared → Prop} (f : Nat → Int)
    (hclos : closureFor scope env = pure cl) (hcell : ∀ y ∈ scope.names, y.2 ≠ .cell) (hkind : scope.kind = .function)
    (hnames : ∀ y ∈ scope.names, y.2 = .local → scope.names.lookup y.1 = some .local) (hx : scope.names.lookup x = some .local)
    (h : wpAny (model prog w) A (eval iter env) (fun xv s₁ => wpAny (model prog w) A (pyIter xv) (fun it s₂ => ∃ I fp wr n P St, it = .ref I ∧ Walks prog w A I fp wr n P St ∧ n ≤ sizeLine ∧
      (∀ i h, St i h → ∀ b ∈ wr, ∃ o, h.get? b = some o ∧ o.cls ≠ .type "tuple") ∧ St 0 s₂.heap ∧ (∀ b ∈ fp, b < s₂.heap.objs.size) ∧
      (∀ C i v s₃ m₃ E', s₂.heap.objs.size ≤ C → i < n → P i v → s₃.heap.Ns C m₃ → m₃ x = some v → (∀ b o, b ∉ wr → s₂.heap.get? b = some o → s₃.heap.get? b = some o) →
        wpAny (model prog w) A (eval elt (compEnvC scope cl C env)) (fun y s₄ => IsPair s₄.heap y (f i) ∧ Keeps s₃ s₄) E' s₃) ∧
      (∀ D h' tk ys, s₂.heap.get? D = none → h'.PlainList D ys → Made f h' ys n → (∀ b o, b ∉ wr → s₂.heap.get? b = some o → h'.get? b = some o) → Q (.ref D) { s₂ with heap := h', toks := tk })) E s₁) E s)
    (hs : ∀ x, foldedSetIterable iter env x = pure x := by intro _; rfl) :
    wpAny (model prog w) A (eval (.ListComp elt [⟨.Name x px, iter, [], 0⟩] scope pos) env) Q E s := by
  rw [eval_ListComp]
  refine wpAny_comprehension_free (use := none) rfl hs hclos hkind hnames (wpAny_mono h (fun xv s₁ h₁ => wpAny_mono h₁ (fun it s₂ h₂ => ?_) fun _ _ e => e) fun _ _ e => e)
  obtain ⟨I, fp, wr, n, P, St, rfl, W, hsz, hlive, hst, hfp, helt, hQ⟩ := h₂
  refine wpAny_newObj_type (wpAny_newFunctionEnv hcell (by intro y hy; simp at hy) (fun h₁ hns₁ hsb₁ => ?_) hkind)
  dsimp only at hns₁ hsb₁ ⊢
  generalize hH2 : s₂.heap.push { cls := .type "list", dict := none, data := .seq ([] : List Value).toArray } = H2 at hns₁ hsb₁ ⊢
  have hC : H2.objs.size = s₂.heap.objs.size + 1 := by rw [← hH2, Heap.size_push]
  have hDC : s₂.heap.objs.size ≠ H2.objs.size := by omega
  have hCle : s₂.heap.objs.size ≤ H2.objs.size := by rw [hC]; exact Nat.le_succ _
  have below : ∀ b o, s₂.heap.get? b = some o → b ≠ H2.objs.size ∧ b ≠ s₂.heap.objs.size := fun b o e => ⟨by rw [hC]; exact Nat.ne_of_lt (Nat.lt_succ_of_lt (Heap.lt_size e)), Nat.ne_of_lt (Heap.lt_size e)⟩
  have old : ∀ b o, s₂.heap.get? b = some o → h₁.get? b = some o := fun b o e => hsb₁.extBut b o (below b o e).1 (Heap.get?_push_of_some _ (hH2 ▸ Heap.get?_push_of_some _ e))
  have hacc : h₁.PlainList s₂.heap.objs.size #[] := ⟨_, hsb₁.extBut _ _ hDC (Heap.get?_push_of_some _ (hH2 ▸ Heap.get?_push_size _ rfl))⟩
  have hst₁ : St 0 h₁ := W.frame _ _ _ hst fun b _ o e => old b o e
  have fresh : s₂.heap.get? s₂.heap.objs.size = none := by
    cases e : s₂.heap.get? s₂.heap.objs.size with
    | none => rfl
    | some o' => exact absurd (Heap.lt_size e) (Nat.lt_irrefl _)
  have loop : ∀ s₃ : Shared, s₃ = { s₂ with heap := h₁, toks := s₂.toks + ([] : List (Str × Value)).length } →
      codeAny (model prog w) A (.compLoop (.ListComp elt [⟨.Name x px, iter, [], 0⟩] scope pos) 0 (.ref I) (.ref s₂.heap.objs.size) (compEnvC scope cl H2.objs.size env))
        (compPost (model prog w) A E none Q (.ref s₂.heap.objs.size) H2.objs.size) s₃ := by
    rintro s₃ rfl
    refine comp_pairs (cenv := compEnvC scope cl H2.objs.size env) W f hlive (lookup_relabel_local hx) (by simp [compEnvC, relabel, hkind]) hDC (fun hm => Nat.lt_irrefl _ (hfp _ hm)) (fun hm => by have h1 : H2.objs.size < s₂.heap.objs.size := hfp _ hm; rw [hC] at h1; exact Nat.lt_irrefl _ (Nat.lt_of_succ_lt h1)) hst₁ hacc hns₁
      (fun i v s₃ m₃ hi hv hn hm hk => helt _ i v s₃ m₃ _ hCle hi hv hn hm fun b o hbf e => hk b o (below b o e).1 hbf (below b o e).2 (old b o e)) ?_ hsz
    intro h' tk m' ys hn hl hM hk
    refine ⟨m', hn, fun h'' hs'' => ?_⟩
    have hDC' : s₂.heap.objs.size ≠ (compEnvC scope cl H2.objs.size env).locals := hDC
    refine hQ _ h'' tk ys fresh (hl.at fun o e => hs''.extBut _ o hDC' e) (hM.up fun y x p => ?_) fun b o hbf e => hs''.extBut b o (below b o e).1 (hk b o (below b o e).1 hbf (below b o e).2 (old b o e))
    refine p.apart (T := fun b => b = H2.objs.size) ?_ fun b o hb e => hs''.extBut b o hb e
    rintro b rfl o ho hc ⟨vs, n', hd⟩
    obtain ⟨o', es, ep, ho', hd', _⟩ := hn
    have ho'' : h'.get? H2.objs.size = some o' := ho'
    rw [ho] at ho''; cases ho''
    rw [hd] at hd'; cases hd'
  exact codeAny_compStart_list (loop _ rfl) (W.self 0 _ _ _ hst₁ (loop _ rfl))

/-- the source of such a comprehension is a range from 0 -/
theorem range_src {s : Shared} {elt : Expr} {x : Str} {scope : Scope} {cl : List (Str × Addr)} {r L : Addr} {b₀ : Int} {t₀ u₀ v₀ : Tok} {g : Heap} {m : Str → Option Value} {news : List (Addr × Obj)} {f : Nat → Int} {Q : Value → Shared → Prop} (n : Nat)
    (hh : A.handled = none) (hr : IsRange s.heap r 0 b₀ 1 t₀ u₀ v₀) (hsmall : Builtin.Range.small 0 b₀ 1 = true) (hsz : Builtin.Range.rangeSize 0 b₀ 1 = (n : Int)) (hn : n ≤ sizeLine) (F : Fr g L s.heap m) (N : News g L s.heap news)
    (helt : ∀ C i t s₃ m₃ E', s.heap.objs.size ≤ C → i < n → s₃.heap.Ns C m₃ → m₃ x = some (.int (i : Int) t) → Fr g L s₃.heap m → News g L s₃.heap news → (∀ b o, s.heap.get? b = some o → s₃.heap.get? b = some o) →
      wpAny (model prog w) A (eval elt (compEnvC scope cl C env)) (fun y s₄ => IsPair s₄.heap y (f i) ∧ Keeps s₃ s₄) E' s₃)
    (hQ : ∀ D h' tk ys, s.heap.get? D = none → h'.PlainList D ys → Made f h' ys n → Fr g L h' m → News g L h' news → (∀ b o, s.heap.get? b = some o → h'.get? b = some o) → Q (.ref D) { s with heap := h', toks := tk }) :
    wpAny (model prog w) A (pyIter (.ref r)) (fun it s₂ => ∃ I fp wr n P St, it = .ref I ∧ Walks prog w A I fp wr n P St ∧ n ≤ sizeLine ∧
      (∀ i h, St i h → ∀ b ∈ wr, ∃ o, h.get? b = some o ∧ o.cls ≠ .type "tuple") ∧ St 0 s₂.heap ∧ (∀ b ∈ fp, b < s₂.heap.objs.size) ∧
      (∀ C i v s₃ m₃ E', s₂.heap.objs.size ≤ C → i < n → P i v → s₃.heap.Ns C m₃ → m₃ x = some v → (∀ b o, b ∉ wr → s₂.heap.get? b = some o → s₃.heap.get? b = some o) →
        wpAny (model prog w) A (eval elt (compEnvC scope cl C env)) (fun y s₄ => IsPair s₄.heap y (f i) ∧ Keeps s₃ s₄) E' s₃) ∧
      (∀ D h' tk ys, s₂.heap.get? D = none → h'.PlainList D ys → Made f h' ys n → (∀ b o, b ∉ wr → s₂.heap.get? b = some o → h'.get? b = some o) → Q (.ref D) { s₂ with heap := h', toks := tk })) E s := by
  refine wpAny_pyIter_range hr hsmall ?_
  have up : ∀ h' : Heap, (∀ b o, b ∉ [s.heap.objs.size] → (s.heap.push { cls := .type "range_iterator", data := .fields #[rawInt 0, rawInt (Builtin.Range.rangeSize 0 b₀ 1), rawInt 1] }).get? b = some o → h'.get? b = some o) →
      ∀ b o, s.heap.get? b = some o → h'.get? b = some o := fun h' k b o e => k b o (fun hm => by rw [List.mem_singleton.mp hm] at e; exact Nat.lt_irrefl _ (Heap.lt_size e)) (Heap.get?_push_of_some _ e)
  refine ⟨s.heap.objs.size, [s.heap.objs.size], [s.heap.objs.size], n, _, _, rfl, (Walks.range hh _ 0 1 n), hn, ?_, ?_, ?_, ?_, ?_⟩
  · intro i h hi b hb
    rw [List.mem_singleton.mp hb]
    exact ⟨_, hi, by simp⟩
  · show IsRangeIter _ _ _ _ _
    rw [hsz]; simpa using Heap.get?_push_size _ rfl
  · intro b hb
    rw [List.mem_singleton.mp hb, Heap.size_push]
    exact Nat.lt_succ_self _
  · rintro C i v s₃ m₃ E' hC hi ⟨t, rfl⟩ hns hm hk
    have e1 : (0 : Int) + (i : Int) * 1 = (i : Int) := by omega
    rw [e1] at hm
    exact helt C i t s₃ m₃ E' (Nat.le_of_lt (by rw [Heap.size_push] at hC; exact hC)) hi hns hm (F.keeps (up _ hk)) (fun p hp => ⟨up _ hk _ _ (N p hp).1, (N p hp).2⟩) (up _ hk)
  · intro D h' tk ys hD hl hM hk
    refine hQ D h' tk ys ?_ hl hM (F.keeps (up _ hk)) (fun p hp => ⟨up _ hk _ _ (N p hp).1, (N p hp).2⟩) (up _ hk)
    cases e : s.heap.get? D with
    | none => rfl
    | some o => rw [Heap.get?_push_of_some _ e] at hD; cases hD
end

theorem made_pairs {f : Nat → Int} {h : Heap} {D : Addr} {ys : Array Value} {n : Nat} (hl : h.PlainList D ys) (hM : Made f h ys n) : IsPairs h (.ref D) ((List.range n).map f) := by
  obtain ⟨k, e⟩ := hl
  refine ⟨D, ys.toList, k, rfl, e, by simp [hM.1], fun i x hx => ?_⟩
  rw [List.getElem?_map] at hx
  have hi : i < n := by
    rcases Nat.lt_or_ge i n with h1 | h1
    · exact h1
    · rw [List.getElem?_eq_none (by simpa using h1)] at hx; cases hx
  rw [List.getElem?_range hi] at hx
  obtain ⟨y, h1, h2⟩ := hM.2 i hi
  cases hx
  exact ⟨y, by simpa using h1, h2⟩
end Mine

/- part Cells -/
namespace Mine
open PySem.Spec PySem.Calls
/-- entering a def some of whose names are cells, all of the caller's heap constant -/
theorem code_cellsG {prog : Program} {w : World} {A₀ A : Around} {s : Shared} {base h₀ : Heap} {outer : List Env} {L : Addr} {m mg mb : Str → Option Value} {env : Env} {K : Frag} {p : Program} {loose : List Str} {mean : ExcName → Option Value}
    {R : Result → Shared → Prop} {name qual : Str} {params : Arguments} {body : List Stmt} {scope : Scope} {dV kV doc pm cdv ct oc : Value} {an od : Option Addr} {osl : Array (Option Value)} {f : Addr} {args : Args} {binds : List (Str × Value)}
    (B : Below A₀ base outer h₀) (F : Fr h₀ L s.heap m) (X₀ : K.In h₀) (T : Top p loose mean mg mb h₀) (hA : A.frames = some (env :: outer)) (hf : env.frame = some L) (hke : env.scope.kind = .function)
    (ho : K.lookup f = some ⟨oc, od, .func (fnOf name qual params body scope dV kV doc pm an cdv ct), osl⟩) (hcd : codeIn K cdv qual = true) (hroom : A.depth < recursionLimit)
    (hbind : BindsTo s (fnOf name qual params body scope dV kV doc pm an cdv ct) args binds) (hkind : (binds.all fun y => scope.names.lookup y.1 == some .local || scope.names.lookup y.1 == some .cell) = true)
    (hnd : ((cellsFrom 0 scope.names []).map (·.1)).Nodup)
    (h : ∀ g L' h₁ tk cells, Fr h₀ L g m → Fr g L' h₁ (bindL (envOfC qual scope L' f cdv).kindOf binds fun _ => none) → News g L' h₁ cells →
      CellsAre (bindC (envOfC qual scope L' f cdv).kindOf binds fun _ => none) (cellsFrom (L' + 1) scope.names []) cells → Below A base (env :: outer) g → K.In g → Top p loose mean mg mb g → GSub s.heap g (([] : List (Addr × Obj)).map (·.1)) →
      wpAny (model prog w) (A.deeper (envOfC qual scope L' f cdv)) (execs body (envOfC qual scope L' f cdv))
        (fun fl s' => LeaveK h₀ L m g R (match fl with | .ret v => v | _ => .none) s')
        (fun e s' => wpAny (model prog w) (A.deeper (envOfC qual scope L' f cdv)) (leaving (envOfC qual scope L' f cdv) e) (fun _ s'' => R (.error e) s'') (fun e' s'' => R (.error e') s'') s')
        { s with heap := h₁, toks := tk })
    (hco : scope.isCoroutine = false) (hgen : scope.isGenerator = false) (hk : scope.kind = .function) : codeAny (model prog w) A (.call (.ref f) args) R s := by
  obtain ⟨FG, BG, st, lv⟩ := groundX (R := R) B F (News.nil (h₀ := h₀) (h := s.heap) (L := L)) hA hf hke
  refine codeAny_call_function hroom ((X₀.keeps F.keep) _ _ ho) rfl hco hgen rfl (codeRec_of (X₀.keeps F.keep) hcd) (hbind _ _ _ _ ?_)
  refine wpAny_newFunctionEnv_cells hk (kindsX hkind _) fun env' he s' x => ?_
  subst he
  refine ⟨(T.nolimit.keeps F.keep).keeps x.toInCall.keep, codeAny_func ?_⟩
  obtain ⟨h₁, tk, rfl, _⟩ := x.done
  have hk₁ := x.toInCall.keep
  obtain ⟨cells, NC, Y⟩ := Cl.news (h₀ := s.heap) (Nat.le_refl _) fun n c hm => ⟨x.cell n c (lookup_of_mem_nodup (cellsFrom_names scope.names 0 (s.heap.objs.size + 1) [] [] rfl ▸ hnd) hm), x.above n c hm⟩
  exact wpAny_mono (h s.heap s.heap.objs.size h₁ tk cells FG ⟨x.toInCall.ns, hk₁, Nat.le_refl _⟩ NC Y BG (X₀.keeps st) (T.keeps st) (fun b o e _ => e)) (fun fl s' hl => lv _ _ hl) fun _ _ y => y
end Mine

/- part C1 -/

namespace Mine
local macro_rules | `(tactic| k_enter) => `(tactic| (refine' code_defG ?k1 ?k2 ?k3 ?k4 ?k5 ?kA ?kF ?kK ?k6 ?k7 ?k8 ?k9 ?kB ?_ ?c2 ?c3 ?c4 ?c5; (case kA => exact rfl); (case kF => exact rfl); (case kK => assumption); (case k1 => k_asm); (case k2 => k_asm); (case k3 => k_asm); (case k4 => exact News.nil); (case k5 => k_asm); (case k6 => k_is); (case k7 => k_is); (case k8 => ktr_room); (case k9 => exact BindsTo.of_eq rfl); (case c5 => decide); (case kB => exact locs rfl); (case c2 => exact rfl); (case c3 => exact rfl); (case c4 => exact rfl); k_whole; intro g' L' h' FG' F' N' B' X' T' G'; (try dsimp only); (try k_fold)))

theorem gcd_aux (n : Int) : ((if n < 0 then -n else n).fmod (if (1 : Int) < 0 then -1 else 1) != 0) = false := by
  simp [Int.fmod_one]

theorem gcd_pc (w : World) (loose : List Str) (mean : ExcName → Option Value) (mg mb : Str → Option Value) (n : Int) (t u : Tok) (s : Shared) :
    PC w loose mean mg mb 41 [.int n t, .int 1 u] 1 8 s (fun r _ => ∃ t, r = .int 1 t) := by
  unfold PC
  w_top off
  k_with_none
  intro dp un gd cn cs a ccd cl outer A₀ base h₀ L m Q E B F X T hk hd hu hret
  refine wpAny_call ?_
  k_dflt k_enter
  k_steps
  refine WhlIf.no (gcd_aux n) ?_
  k_steps
  exact hret _ _ _ (kept (by assumption) (by assumption)) ⟨_, rfl⟩

local macro_rules | `(tactic| walk_at "call ref") => `(tactic| (k_here; k_dflt (refine' use_int (gcd_pc _ _ _ _ _ _ _ _ _) ?k1 ?k2 ?k3 ?k4 ?k5 ?kK ?k6 ?k7 ?_; (case k1 => k_asm); (case k2 => k_asm); (case k3 => k_asm); (case k4 => k_asm); (case k5 => k_asm); (case kK => first | exact rfl | assumption); (case k6 => ktr_room); (case k7 => ktr_units); k_whole; intro t9 h9 tk9 F9 N9; (try dsimp only); (try k_fold))))

theorem rat_pc (w : World) (loose : List Str) (mean : ExcName → Option Value) (mg mb : Str → Option Value) (n : Int) (t u : Tok) (s : Shared) :
    PC w loose mean mg mb 57 [.int n t, .int 1 u] 2 16 s (NewP s n) := by
  unfold PC
  w_top off
  k_with_none
  intro dp un gd cn cs a ccd cl outer A₀ base h₀ L m Q E B F X T hk hd hu hret
  refine wpAny_call ?_
  k_dflt k_enter
  k_steps
  exact hret _ _ _ (kept (by assumption) (by assumption)) (give_pair (by assumption) (by assumption) (by assumption) (List.Mem.head _) (Int.fdiv_one n) (Int.fdiv_one 1))
end Mine

/- part C2 -/
namespace Mine
local macro_rules | `(tactic| k_enter) => `(tactic| (refine' code_defG ?k1 ?k2 ?k3 ?k4 ?k5 ?kA ?kF ?kK ?k6 ?k7 ?k8 ?k9 ?kB ?_ ?c2 ?c3 ?c4 ?c5; (case kA => exact rfl); (case kF => exact rfl); (case kK => assumption); (case k1 => k_asm); (case k2 => k_asm); (case k3 => k_asm); (case k4 => exact News.nil); (case k5 => k_asm); (case k6 => k_is); (case k7 => k_is); (case k8 => ktr_room); (case k9 => exact BindsTo.of_eq rfl); (case c5 => decide); (case kB => exact locs rfl); (case c2 => exact rfl); (case c3 => exact rfl); (case c4 => exact rfl); k_whole; intro g' L' h' FG' F' N' B' X' T' G'; (try dsimp only); (try k_fold)))
local macro_rules | `(tactic| walk_at "call ref") => `(tactic| (k_here; k_dflt (refine' use_pair (rat_pc _ _ _ _ _ _ _ _ _) ?k1 ?k2 ?k3 ?k4 ?k5 ?kK ?k6 ?k7 ?_; (case k1 => k_asm); (case k2 => k_asm); (case k3 => k_asm); (case k4 => k_asm); (case k5 => k_asm); (case kK => first | exact rfl | assumption); (case k6 => ktr_room); (case k7 => ktr_units); k_whole; intro r9 t9 u9 h9 tk9 F9 N9 O9; (try dsimp only); (try k_fold))))

local macro_rules | `(tactic| walk_at "subscriptTail") => `(tactic| (k_here; k_dflt (refine' item_pair ?k1 ?k2 ?k3 ?k4 ?k5 ?k6 ?_ ?k7; (case k1 => k_asm); (case k2 => assumption); (case k3 => decide); (case k4 => decide); (case k5 => rfl); (case k6 => rfl); (case k7 => with_unfolding_all rfl); k_whole)))

theorem radd_pc (w : World) (loose : List Str) (mean : ExcName → Option Value) (mg mb : Str → Option Value) (v₁ v₂ : Value) (x y : Int) (s : Shared) (p₁ : IsPair s.heap v₁ x) (p₂ : IsPair s.heap v₂ y) (hx : x.natAbs < 2 ^ 40) (hy : y.natAbs < 2 ^ 40) :
    PC w loose mean mg mb 64 [v₁, v₂] 3 24 s (NewP s (x + y)) := by
  unfold PC
  w_top off
  k_with_none
  intro dp un gd cn cs a ccd cl outer A₀ base h₀ L m Q E B F X T hk hd hu hret
  obtain ⟨a₁, t₁, u₁, n₁, rfl, q₁⟩ := p₁
  obtain ⟨a₂, t₂, u₂, n₂, rfl, q₂⟩ := p₂
  refine wpAny_call ?_
  k_dflt k_enter
  rename GSub _ _ _ => kG
  replace q₁ := sub_of kG _ _ q₁
  replace q₂ := sub_of kG _ _ q₂
  k_steps
  exact hret _ _ _ (kept kG (by assumption)) (give_pair kG (by assumption) (by assumption) (List.Mem.head _) (by omega) rfl)

theorem rmul_pc (w : World) (loose : List Str) (mean : ExcName → Option Value) (mg mb : Str → Option Value) (v₁ v₂ : Value) (x y : Int) (s : Shared) (p₁ : IsPair s.heap v₁ x) (p₂ : IsPair s.heap v₂ y) (hx : x.natAbs < 2 ^ 40) (hy : y.natAbs < 2 ^ 40) :
    PC w loose mean mg mb 78 [v₁, v₂] 3 24 s (NewP s (x * y)) := by
  unfold PC
  w_top off
  k_with_none
  intro dp un gd cn cs a ccd cl outer A₀ base h₀ L m Q E B F X T hk hd hu hret
  obtain ⟨a₁, t₁, u₁, n₁, rfl, q₁⟩ := p₁
  obtain ⟨a₂, t₂, u₂, n₂, rfl, q₂⟩ := p₂
  refine wpAny_call ?_
  k_dflt k_enter
  rename GSub _ _ _ => kG
  replace q₁ := sub_of kG _ _ q₁
  replace q₂ := sub_of kG _ _ q₂
  k_steps
  exact hret _ _ _ (kept kG (by assumption)) (give_pair kG (by assumption) (by assumption) (List.Mem.head _) rfl rfl)

theorem vast_aux {x : Int} (hx : x.natAbs < 2 ^ 40) : ¬ ((2 : Int) ^ Int.toNat 64 ≤ if 1 > (if x < 0 then -x else x) then 1 else (if x < 0 then -x else x)) := by
  rw [show (2 : Int) ^ Int.toNat 64 = 18446744073709551616 from rfl]
  (repeat' split) <;> omega

theorem vast_pc (w : World) (loose : List Str) (mean : ExcName → Option Value) (mg mb : Str → Option Value) (v₁ : Value) (x : Int) (s : Shared) (p₁ : IsPair s.heap v₁ x) (hx : x.natAbs < 2 ^ 40) :
    PC w loose mean mg mb 92 [v₁] 1 8 s (fun r _ => r = .bool false) := by
  unfold PC
  w_top off
  k_with_none
  intro dp un gd cn cs a ccd cl outer A₀ base h₀ L m Q E B F X T hk hd hu hret
  obtain ⟨a₁, t₁, u₁, n₁, rfl, q₁⟩ := p₁
  refine wpAny_call ?_
  k_dflt k_enter
  rename GSub _ _ _ => kG
  replace q₁ := sub_of kG _ _ q₁
  k_steps
  · exfalso
    rename (2 : Int) ^ Int.toNat 64 ≤ _ => hv
    exact vast_aux hx hv
  · exact hret _ _ _ (kept kG (by assumption)) (by rw [decide_eq_false (vast_aux hx)])

local macro_rules | `(tactic| walk_at "call ref") => `(tactic| (k_here; k_dflt (refine' use_bool (vast_pc _ _ _ _ _ _ _ _ ?kp ?kx) ?k1 ?k2 ?k3 ?k4 ?k5 ?kK ?k6 ?k7 ?_; (case kp => assumption); (case kx => assumption); (case k1 => k_asm); (case k2 => k_asm); (case k3 => k_asm); (case k4 => k_asm); (case k5 => k_asm); (case kK => first | exact rfl | assumption); (case k6 => ktr_room); (case k7 => ktr_units); k_whole; intro h9 tk9 F9 N9; (try dsimp only); (try k_fold))))

theorem let_pc (w : World) (loose : List Str) (mean : ExcName → Option Value) (mg mb : Str → Option Value) (v₁ : Value) (x : Int) (s : Shared) (p₁ : IsPair s.heap v₁ x) (hx : x.natAbs < 2 ^ 40) :
    PC w loose mean mg mb 106 [v₁] 2 16 s (fun r h => r = v₁ ∧ IsPair h v₁ x) := by
  unfold PC
  w_top off
  k_with_none
  intro dp un gd cn cs a ccd cl outer A₀ base h₀ L m Q E B F X T hk hd hu hret
  refine wpAny_call ?_
  k_dflt k_enter
  rename GSub _ _ _ => kG
  have q₁ : IsPair _ v₁ x := p₁.up (kept kG (by assumption))
  k_steps
  exact hret _ _ _ (kept kG (by assumption)) ⟨rfl, p₁.up (kept kG (by assumption))⟩
end Mine

/- part C3 -/
namespace Mine
local macro_rules | `(tactic| k_enter) => `(tactic| (refine' code_defG ?k1 ?k2 ?k3 ?k4 ?k5 ?kA ?kF ?kK ?k6 ?k7 ?k8 ?k9 ?kB ?_ ?c2 ?c3 ?c4 ?c5; (case kA => exact rfl); (case kF => exact rfl); (case kK => assumption); (case k1 => k_asm); (case k2 => k_asm); (case k3 => k_asm); (case k4 => exact News.nil); (case k5 => k_asm); (case k6 => k_is); (case k7 => k_is); (case k8 => ktr_room); (case k9 => exact BindsTo.of_eq rfl); (case c5 => decide); (case kB => exact locs rfl); (case c2 => exact rfl); (case c3 => exact rfl); (case c4 => exact rfl); k_whole))
local macro_rules | `(tactic| walk_at "call ref") => `(tactic| (k_here; k_dflt (refine' use_pair (rmul_pc _ _ _ _ _ _ _ _ _ _ ?kp ?kq ?kx ?ky) ?k1 ?k2 ?k3 ?k4 ?k5 ?kK ?k6 ?k7 ?_; (case kp => k_extra "pair"); (case kq => k_extra "pair"); (case kx => k_extra "bound"); (case ky => k_extra "bound"); (case k1 => k_asm); (case k2 => k_asm); (case k3 => k_asm); (case k4 => k_asm); (case k5 => k_asm); (case kK => first | exact rfl | assumption); (case k6 => ktr_room); (case k7 => ktr_units); k_whole; intro r9 t9 u9 h9 tk9 F9 N9 O9; (try dsimp only); (try k_fold))))
local macro_rules | `(tactic| walk_at "call ref") => `(tactic| (k_here; k_dflt (refine' use_pair (radd_pc _ _ _ _ _ _ _ _ _ _ ?kp ?kq ?kx ?ky) ?k1 ?k2 ?k3 ?k4 ?k5 ?kK ?k6 ?k7 ?_; (case kp => k_extra "pair"); (case kq => k_extra "pair"); (case kx => k_extra "bound"); (case ky => k_extra "bound"); (case k1 => k_asm); (case k2 => k_asm); (case k3 => k_asm); (case k4 => k_asm); (case k5 => k_asm); (case kK => first | exact rfl | assumption); (case k6 => ktr_room); (case k7 => ktr_units); k_whole; intro r9 t9 u9 h9 tk9 F9 N9 O9; (try dsimp only); (try k_fold))))

local macro_rules | `(tactic| walk_at "subscriptTail") => `(tactic| (k_here; k_dflt (refine' item_listC ?k1 ?k2 ?k3 ?k4 ?k5 ?_ ?k7; (case k1 => k_asm); (case k2 => assumption); (case k3 => omega); (case k4 => omega); (case k5 => k_extra "item"); (case k7 => with_unfolding_all rfl); k_whole)))
local macro_rules | `(tactic| walk_at "compareOp NotEq ref ref") => `(tactic| (k_here; k_dflt (refine' pair_ne ?k1 ?k2 ?k3 ?_; (case k1 => k_extra "pair"); (case k2 => k_extra "pair"); (case k3 => ktr_units); k_whole)))

theorem PairN.head {g : Heap} {nx : List (Addr × Obj)} {r : Addr} {x : Int} {t u : Tok} : PairN g ((r, pairOf x t 1 u) :: nx) (.ref r) x := ⟨r, t, u, 0, rfl, .inr (List.Mem.head _)⟩
theorem off_cons {own nx : List (Addr × Obj)} {q : Addr × Obj} (h : OwnOff own (nx.map (·.1))) (k : ∀ p ∈ own, p.1 ≠ q.1) : OwnOff own ((q :: nx).map (·.1)) := by
  intro p hp b hb
  rcases List.mem_cons.mp hb with e | hb
  · rw [e]; exact k p hp
  · exact h p hp b hb
theorem sub_cons {nx l : List (Addr × Obj)} {q : Addr × Obj} (h : ∀ p ∈ nx, p ∈ l) : ∀ p ∈ q :: nx, p ∈ q :: l := by
  intro p hp
  rcases List.mem_cons.mp hp with e | hp
  · rw [e]; exact List.Mem.head _
  · exact List.mem_cons_of_mem _ (h p hp)

section
variable {g h' : Heap} {L : Addr} {m' m₀ : Str → Option Value} {x y : Str} {own nx : List (Addr × Obj)} {s₁ : Shared} {tk : Nat} {c c' : Int}
theorem end_new {r : Addr} {t u : Tok} {q : Addr × Obj} (hc : c' = c) (F : Fr g L h' m') (N : News g L h' ((r, pairOf c t 1 u) :: q :: (nx ++ own))) (ho : OwnOff own (nx.map (·.1))) (O : ∀ p ∈ q :: (nx ++ own), p.1 ≠ r)
    (hm : m' y = some (.ref r)) (hr : ∀ z, z ≠ x → z ≠ y → m' z = m₀ z) :
    InvEndG g L (fun m' nx' => (∃ v', m' y = some v' ∧ PairN g nx' v' c') ∧ ∀ z, z ≠ x → z ≠ y → m' z = m₀ z) own s₁ { s₁ with heap := h', toks := tk } := by
  refine InvEndG.intro (nx := (r, pairOf c t 1 u) :: nx) F N ⟨⟨_, hm, hc ▸ PairN.head⟩, hr⟩ ?_ ?_ ?_
  · exact off_cons ho (fun p hp => O p (List.mem_cons_of_mem _ (List.mem_append_right _ hp)))
  · exact sub_cons (fun p hp => List.mem_cons_of_mem _ (List.mem_append_left _ hp))
  · exact fun p hp => List.mem_cons_of_mem _ (List.mem_cons_of_mem _ (List.mem_append_right _ hp))
theorem end_old {v : Value} (hc : c' = c) (F : Fr g L h' m') (N : News g L h' (nx ++ own)) (ho : OwnOff own (nx.map (·.1))) (pv : PairN g nx v c) (hm : m' y = some v) (hr : ∀ z, z ≠ x → z ≠ y → m' z = m₀ z) :
    InvEndG g L (fun m' nx' => (∃ v', m' y = some v' ∧ PairN g nx' v' c') ∧ ∀ z, z ≠ x → z ≠ y → m' z = m₀ z) own s₁ { s₁ with heap := h', toks := tk } :=
  InvEndG.intro (nx := nx) F N ⟨⟨_, hm, hc ▸ pv⟩, hr⟩ ho (fun p hp => List.mem_append_left _ hp) (fun p hp => List.mem_append_right _ hp)
end

theorem mul_small {x y : Int} (hx : x.natAbs < 2 ^ 15) (hy : y.natAbs < 2 ^ 15) : (x * y).natAbs ≤ 2 ^ 30 := by
  rw [Int.natAbs_mul]
  have := Nat.mul_le_mul (Nat.le_of_lt hx) (Nat.le_of_lt hy)
  exact this
theorem getD_small {l : List Int} {i : Nat} (h : ∀ x ∈ l, x.natAbs < 2 ^ 15) : (l.getD i 0).natAbs < 2 ^ 15 := by
  rw [List.getD_eq_getElem?_getD]
  rcases Nat.lt_or_ge i l.length with hi | hi
  · rw [List.getElem?_eq_getElem hi]; exact h _ (List.getElem_mem hi)
  · rw [List.getElem?_eq_none hi]; decide
theorem conv_small {as bs : List Int} {k i : Nat} (ha : ∀ x ∈ as, x.natAbs < 2 ^ 15) (hb : ∀ x ∈ bs, x.natAbs < 2 ^ 15) (hi : i ≤ 64) : (convTo as bs k i).natAbs ≤ 2 ^ 36 := by
  have key : ∀ i, (convTo as bs k i).natAbs ≤ i * 2 ^ 30 := by
    intro i
    induction i with
    | zero => simp [convTo]
    | succ i ih =>
      have h1 := mul_small (getD_small (i := i) ha) (getD_small (i := k - i) hb)
      have h2 := Int.natAbs_add_le (convTo as bs k i) (as.getD i 0 * bs.getD (k - i) 0)
      show (convTo as bs k i + as.getD i 0 * bs.getD (k - i) 0).natAbs ≤ _
      omega
  have := key i
  omega
theorem new_pair {g h : Heap} {L r : Addr} {x : Int} {t u : Tok} {nx : List (Addr × Obj)} (N : News g L h ((r, pairOf x t 1 u) :: nx)) : IsPair h (.ref r) x := ⟨r, t, u, 0, rfl, (N _ (List.Mem.head _)).1⟩

local macro_rules | `(tactic| walk_at "pyIter ref") => `(tactic| (k_here; refine Hold.out ?_))
theorem mixed_pc (w : World) (loose : List Str) (mean : ExcName → Option Value) (mg mb : Str → Option Value) (v₁ v₂ : Value) (as bs : List Int) (k : Nat) (t : Tok) (s : Shared) (p₁ : IsPairs s.heap v₁ as) (p₂ : IsPairs s.heap v₂ bs)
    (hk₁ : k < as.length) (hk₂ : k < bs.length) (hk₃ : k < 64) (hb₁ : ∀ x ∈ as, x.natAbs < 2 ^ 15) (hb₂ : ∀ x ∈ bs, x.natAbs < 2 ^ 15) :
    PC w loose mean mg mb 113 [v₁, v₂, .int k t] 4 128 s (fun r h => IsPair h r (convTo as bs k (k + 1))) := by
  unfold PC
  w_top off
  k_with_none
  intro dp un gd cn cs a ccd cl outer A₀ base h₀ L m Q E B F X T hk hd hu hret
  obtain ⟨a₁, vs₁, n₁, rfl, q₁, l₁, r₁⟩ := p₁
  obtain ⟨a₂, vs₂, n₂, rfl, q₂, l₂, r₂⟩ := p₂
  refine wpAny_call ?_
  k_dflt k_enter
  intro g L' h₁ FG F₁ N₁ B₁ X₁ T₁ kG
  (try dsimp only)
  (try k_fold)
  replace q₁ := sub_of kG _ _ q₁
  replace q₂ := sub_of kG _ _ q₂
  k_steps
  refine Hold.go ?_
  with_unfolding_all refine' range_loop1 (k + 1) (Str.ofString "found") (fun i nx v => PairN g nx v (convTo as bs k i)) ?hh ?hr ?hs ?hz ?hF ?hN ?hyx ?hy ?hV ?turn ?done
  case hh => rfl
  case hr => assumption
  case hs => exact small_one (by omega) (by omega) (by omega) (by omega)
  case hz => rw [rangeSize_one]; split <;> omega
  case hF => k_asm
  case hN => k_asm
  case hyx => decide
  case hy => with_unfolding_all rfl
  case hV => exact PairN.old (R0_pair X₁)
  case done =>
    intro u nx v h tk pv Fd Nd
    (try k_fold)
    k_steps
    exact hret _ _ _ (kept kG (by assumption)) (pv.pair (by assumption) (by assumption))
  case turn =>
    intro i t' nx v h tk own hi ho pv Ft Nt
    have hi1 : i < as.length := by omega
    have hj1 : k - i < bs.length := by omega
    obtain ⟨vi, hvi, pi⟩ := r₁ i as[i] (by simp [hi1])
    obtain ⟨vj, hvj, pj⟩ := r₂ (k - i) bs[k - i] (by simp [hj1])
    have bx : as[i].natAbs < 2 ^ 15 := hb₁ _ (List.getElem_mem hi1)
    have bY : bs[k - i].natAbs < 2 ^ 15 := hb₂ _ (List.getElem_mem hj1)
    have hstep : convTo as bs k (i + 1) = convTo as bs k i + as[i] * bs[k - i] := by
      simp only [convTo, List.getD_eq_getElem?_getD, List.getElem?_eq_getElem hi1, List.getElem?_eq_getElem hj1, Option.getD_some]
    have bxy := mul_small bx bY
    have bc := conv_small (i := i) hb₁ hb₂ (k := k) (by omega)
    replace pi := pi.up (sub_of kG)
    replace pj := pj.up (sub_of kG)
    have pz := R0_pair X₁
    have hvi' : vs₁[(0 + (i : Int)).toNat]? = some vi := by rw [show (0 + (i : Int)).toNat = i by omega]; exact hvi
    have hvj' : vs₂[((k : Int) - (0 + (i : Int))).toNat]? = some vj := by rw [show ((k : Int) - (0 + (i : Int))).toNat = k - i by omega]; exact hvj
    generalize as[i] = x at hstep bx bxy pi
    generalize bs[k - i] = y at hstep bY bxy pj
    generalize convTo as bs k i = c at hstep bc pv
    have bx' : x.natAbs < 2 ^ 40 := by omega
    have by' : y.natAbs < 2 ^ 40 := by omega
    have bxy' : (x * y).natAbs < 2 ^ 40 := by omega
    have bc' : c.natAbs < 2 ^ 40 := by omega
    obtain ⟨ai, ti, ui, ni, rfl, qi⟩ := id pi
    obtain ⟨aj, tj, uj, nj, rfl, qj⟩ := id pj
    obtain ⟨af, tf, uf, nf, rfl, qf⟩ := id pv
    clear bx bY bxy bc hvi hvj r₁ r₂
    k_with "item" => first | exact hvi' | exact hvj'
    k_with "bound" => assumption
    k_with "pair" => first
      | exact pi.up (Fr.keep (by k_asm))
      | exact pj.up (Fr.keep (by k_asm))
      | exact pz.up (Fr.keep (by k_asm))
      | exact (pv.mono (fun _ h => List.mem_cons_of_mem _ (List.mem_append_left _ h))).pair (by k_asm) (by k_asm)
      | exact new_pair (by k_asm)
    (try k_fold)
    k_steps
    · exact end_new hstep (by k_asm) (by k_asm) ho (by assumption) (by with_unfolding_all rfl) (by k_same2)
    all_goals
      have e0 : c + x * y = c := by simp_all
      exact end_old (hstep.trans e0) (by k_asm) (by k_asm) ho pv (by with_unfolding_all rfl) (by k_same2)
end Mine

/- part C4 -/
namespace Mine
local macro_rules | `(tactic| walk_at "nowhere") => `(tactic| skip)
local macro_rules | `(tactic| k_enter) => `(tactic| (refine' code_cellsG ?k1 ?k2 ?k3 ?k5 ?kA ?kF ?kK ?k6 ?k7 ?k8 ?k9 ?kB ?kD ?_ ?c2 ?c3 ?c4; (case kA => exact rfl); (case kF => exact rfl); (case kK => assumption); (case k1 => k_asm); (case k2 => k_asm); (case k3 => k_asm); (case k5 => k_asm); (case k6 => k_is); (case k7 => k_is); (case k8 => ktr_room); (case k9 => exact BindsTo.of_eq rfl); (case kB => exact rfl); (case kD => decide +kernel); (case c2 => exact rfl); (case c3 => exact rfl); (case c4 => exact rfl); k_whole))
local macro_rules | `(tactic| walk_at "pyIter ref") => `(tactic| (k_here; refine Hold.out ?_))
local macro_rules | `(tactic| walk_at "eval ListComp") => `(tactic| (k_here; refine Hold.out ?_))

local macro_rules | `(tactic| walk_at "call builtin:len") => `(tactic| (k_here; k_dflt (refine' len_listC ?k1 ?k2 ?k3 ?k4 ?_; (case k1 => k_asm); (case k2 => assumption); (case k3 => assumption); (case k4 => omega); k_whole)))

local macro_rules | `(tactic| walk_at "call ref") => `(tactic| (k_here; k_dflt (refine' use_any (mixed_pc _ _ _ _ _ _ _ _ _ _ _ _ ?p1 ?p2 ?h1 ?h2 ?h3 ?b1 ?b2) ?k1 ?k2 ?k3 ?k4 ?k5 ?kK ?k6 ?k7 ?_; (case p1 => k_extra "list1"); (case p2 => k_extra "list2"); (case h1 => omega); (case h2 => omega); (case h3 => omega); (case b1 => assumption); (case b2 => assumption); (case k1 => k_asm); (case k2 => k_asm); (case k3 => k_asm); (case k4 => k_asm); (case k5 => k_asm); (case kK => first | exact rfl | assumption); (case k6 => ktr_room); (case k7 => ktr_units); k_whole; intro r9 h9 tk9 k9 F9 N9 p9; (try dsimp only); (try k_fold))))
local macro_rules | `(tactic| walk_at "call ref") => `(tactic| (k_here; k_dflt (refine' use_any (let_pc _ _ _ _ _ _ _ _ ?p1 ?h1) ?k1 ?k2 ?k3 ?k4 ?k5 ?kK ?k6 ?k7 ?_; (case p1 => assumption); (case h1 => k_extra "bound"); (case k1 => k_asm); (case k2 => k_asm); (case k3 => k_asm); (case k4 => k_asm); (case k5 => k_asm); (case kK => first | exact rfl | assumption); (case k6 => ktr_room); (case k7 => ktr_units); k_whole; intro r9 h9 tk9 k9 F9 N9 p9; (try dsimp only); (try k_fold))))

def conv (as bs : List Int) : List Int := (List.range (min as.length bs.length)).map fun k => convTo as bs k (k + 1)

theorem smul_pc (w : World) (loose : List Str) (mean : ExcName → Option Value) (mg mb : Str → Option Value) (v₁ v₂ : Value) (as bs : List Int) (s : Shared) (p₁ : IsPairs s.heap v₁ as) (p₂ : IsPairs s.heap v₂ bs)
    (hk₃ : as.length ≤ 64) (hk₅ : bs.length < 2 ^ 24) (hb₁ : ∀ x ∈ as, x.natAbs < 2 ^ 15) (hb₂ : ∀ x ∈ bs, x.natAbs < 2 ^ 15) :
    PC w loose mean mg mb 118 [v₁, v₂] 5 160 s (fun r h => IsPairs h r (conv as bs)) := by
  unfold PC
  w_top off
  k_with_none
  intro dp un gd cn cs a ccd cl outer A₀ base h₀ L m Q E B F X T hk hd hu hret
  obtain ⟨a₁, vs₁, n₁, rfl, q₁, l₁, r₁⟩ := id p₁
  obtain ⟨a₂, vs₂, n₂, rfl, q₂, l₂, r₂⟩ := id p₂
  have P₁ := p₁
  have P₂ := p₂
  clear p₁ p₂ r₁ r₂
  refine wpAny_call ?_
  k_dflt k_enter
  intro g L' h₁ tk₁ cells FG F₁ N₁ Y₁ B₁ X₁ T₁ kG
  replace q₁ := sub_of kG _ _ q₁
  replace q₂ := sub_of kG _ _ q₂
  have hk₄ : bs.length < 2 ^ 24 := hk₅
  k_cells Y₁
  (try dsimp only)
  (try k_fold)
  k_steps
  refine Hold.go ?_
  with_unfolding_all refine' ListComp_pairs (fun k => convTo as bs k (k + 1)) ?c1 ?c2 ?c3 ?c4 ?c5 ?c6 ?c7
  case c1 => with_unfolding_all rfl
  case c2 => decide
  case c3 => rfl
  case c4 => decide
  case c5 => rfl
  case c7 => intro z; with_unfolding_all rfl
  case c6 =>
    k_steps
    refine Hold.go ?_
    refine' range_src (min as.length bs.length) ?hh ?hr ?hs ?hz ?hn ?hF ?hN ?helt ?hQ
    case hh => rfl
    case hr => assumption
    case hs => exact small_one (by omega) (by omega) (by split <;> omega) (by split <;> omega)
    case hz => rw [rangeSize_one]; (repeat' split) <;> omega
    case hn => exact Nat.le_trans (Nat.min_le_left _ _) (Nat.le_trans hk₃ (by decide))
    case hF => k_asm
    case hN => k_asm
    case hQ =>
      intro D h' tk ys hD hl hM F₂ N₂ k₂
      refine leaveK_ F₂ N₂ ?_
      intro kF kN
      exact hret _ _ _ (kept kG F₂) (made_pairs hl hM)
    case helt =>
      intro C i t s₃ m₃ E' hC hi hns hm F₂ N₂ k₂
      have p₁ : IsPairs s.heap (.ref a₁) as := P₁
      have p₂ : IsPairs s.heap (.ref a₂) bs := P₂
      have up := kept kG F₂
      replace p₁ := p₁.up up
      replace p₂ := p₂.up up
      have bc : (convTo as bs i (i + 1)).natAbs < 2 ^ 40 := by have := conv_small (k := i) (i := i + 1) hb₁ hb₂ (by omega); omega
      k_with "list1" => exact p₁
      k_with "list2" => exact p₂
      k_with "bound" => exact bc
      k_steps
      all_goals
        rename _ ∧ IsPair _ _ _ => pl
        obtain ⟨rfl, pl⟩ := pl
        first | exact pl | exact keeps_two (by assumption) (by assumption)
end Mine

/- part C5 -/
namespace Mine
local macro_rules | `(tactic| tb_start) => `(tactic| (refine' code_defG ?k1 ?k2 ?k3 ?k4 ?k5 ?kA ?kF ?kK ?k6 ?k7 ?k8 ?k9 ?kB ?_ ?c2 ?c3 ?c4 ?c5; (case kA => exact rfl); (case kF => exact rfl); (case kK => assumption); (case k1 => k_asm); (case k2 => k_asm); (case k3 => k_asm); (case k4 => exact News.nil); (case k5 => k_asm); (case k6 => k_is); (case k7 => k_is); (case k8 => ktr_room); (case k9 => exact BindsTo.of_eq rfl); (case c5 => decide); (case kB => exact locs rfl); (case c2 => exact rfl); (case c3 => exact rfl); (case c4 => exact rfl); k_whole))

local macro_rules | `(tactic| walk_at "call builtin:len") => `(tactic| (k_here; k_dflt (refine' len_listC ?k1 ?k2 ?k3 ?k4 ?_; (case k1 => k_asm); (case k2 => assumption); (case k3 => k_extra "len"); (case k4 => first | omega | decide); k_whole)))

theorem list_atC {g h : Heap} {L a : Addr} {m : Str → Option Value} {l : List Value} {n : Nat} (F : Fr g L h m) (ho : g.get? a = some (listOf l.toArray n)) : h.IsList a l.toArray := ⟨_, F.keep _ _ ho, rfl, n, rfl⟩
theorem pick_one {v : Value} {n : Nat} (h : 1 ≤ n) : kms_pick [v] none (some (n : Int)) = [v] := by
  simp only [kms_pick, kms_lo, kms_hi, List.length_singleton, List.drop_zero, Nat.sub_zero]
  rw [if_neg (by omega), Int.toNat_natCast, Nat.min_eq_right h]
  rfl

local macro_rules | `(tactic| walk_at "subscriptTail Name Slice ref ref") => `(tactic| (k_here; (with_reducible show wpAny _ _ (subscriptTail _ (PySem.Expr.Slice _ _ none _) (Value.ref _) (Value.ref _)) _ _ _); k_dflt (refine' kms_slice_lit ?F ?N ?l ?p ?q ?e ?_ ?s ?t ?z; (case F => k_asm); (case N => k_asm); (case l => exact list_atC (by k_asm) (by assumption)); (case p => kmk_part); (case q => kmk_part); (case e => k_extra "pick"); (case s => with_unfolding_all rfl); (case t => kmk_pure); (case z => decide)); intro D' h' F' N' l1; (try k_lt l1); (try k_sweep)))
theorem flat_one {α : Type} (k : Nat) (v : α) : (List.replicate k [v]).flatten = List.replicate k v := by
  induction k with
  | zero => rfl
  | succ k ih => rw [List.replicate_succ, List.flatten_cons, ih]; rfl
theorem cut_list {h : Heap} {D : Addr} {n : Nat} (e : h.get? D = some ({ cls := .type "list", data := .seq ([Value.ref 50] ++ List.replicate n (Value.ref 49)).toArray } : Obj)) (p1 : IsPair h (.ref 50) 1) (p0 : IsPair h (.ref 49) 0) :
    IsPairs h (.ref D) (1 :: List.replicate n 0) := by
  refine ⟨D, _, 0, rfl, e, by simp, fun i x hx => ?_⟩
  cases i with
  | zero => cases hx; exact ⟨_, rfl, p1⟩
  | succ i =>
    rw [List.getElem?_cons_succ, List.getElem?_replicate] at hx
    split at hx
    · cases hx
      refine ⟨.ref 49, ?_, p0⟩
      rw [List.singleton_append, List.getElem?_cons_succ, List.getElem?_replicate]
      simp [*]
    · cases hx

local macro_rules | `(tactic| walk_at "binaryOp Mult ref int") => `(tactic| (k_here; refine Hold.out ?_))
theorem cut_pc (w : World) (loose : List Str) (mean : ExcName → Option Value) (mg mb : Str → Option Value) (l : Addr) (k n : Nat) (t : Tok) (s : Shared) (q₁ : s.heap.get? l = some (listOf [Value.ref 50].toArray k))
    (hk₃ : n ≤ 64) (hk₀ : 1 ≤ n) :
    PC w loose mean mg mb 99 [.ref l, .int n t] 2 32 s (fun r h => IsPairs h r (1 :: List.replicate (n - 1) 0)) := by
  unfold PC
  w_top off
  k_with_none
  intro dp un gd cn cs a ccd cl outer A₀ base h₀ L m Q E B F X T hk hd hu hret
  refine wpAny_call ?_
  k_dflt tb_start
  intro g L' h₁ FG F₁ N₁ B₁ X₁ T₁ kG
  replace q₁ := sub_of kG _ _ q₁
  (try dsimp only)
  (try k_fold)
  k_with "pick" => exact pick_one hk₀
  have hl1 : [Value.ref 50].length = 1 := rfl
  k_with "len" => exact hl1
  k_steps
  refine Hold.go ?_
  refine' KMa.mul (ws := List.replicate (n - 1) (Value.ref 49)) ?zF ?zN ?zl ?zlo ?zhi ?zz ?ze ?_
  case zF => k_asm
  case zN => k_asm
  case zl => is_list
  case zlo => omega
  case zhi => omega
  case zz => simp only [List.length_cons, List.length_nil]; omega
  case ze => rw [show ((n : Int) - ((1 : Nat) : Int)).toNat = n - 1 by omega]; exact flat_one _ _
  intro D₂ h₂ F₂ N₂ l₂
  refine add_lists (vs := [Value.ref 50]) (ws := List.replicate (n - 1) (Value.ref 49)) F₂ N₂ ?_ ?_ ?_ ?_
  · exact ⟨_, (N₂ _ (List.Mem.tail _ (List.Mem.tail _ (List.Mem.head _)))).1, rfl, _, rfl⟩
  · exact ⟨_, (N₂ _ (List.Mem.head _)).1, rfl, _, rfl⟩
  · intro h₃ F₃ N₃
    refine leaveK_ F₃ N₃ ?_
    intro kF kN
    refine hret _ _ _ (kept kG F₃) ?_
    exact cut_list (N₃ _ (List.Mem.head _)).1 (R1_pair (X₁.keeps F₃.keep)) (R0_pair (X₁.keeps F₃.keep))
  · simp only [List.length_cons, List.length_nil, List.length_replicate]; exact Nat.le_trans (by omega : 0 + 1 + (n - 1) ≤ 64) (by decide)
end Mine

/- part Led -/
namespace Mine

/-- a ledger of pairs, and of lists of references -/
def Plainly (own : List (Addr × Obj)) : Prop := ∀ q ∈ own, (q.2.cls = .type "tuple" ∧ ∃ (vs : Array Value) (n : Nat), q.2.data = .seq vs n) ∨ ∃ (vs : List Value) (n : Nat), q.2 = listOf vs.toArray n ∧ ∀ v ∈ vs, ∃ a, v = .ref a

/-- a list of pairs that stands below or in the ledger -/
def PairsIn (g : Heap) (nx : List (Addr × Obj)) (v : Value) (xs : List Int) : Prop :=
  ∃ (a : Addr) (vs : List Value) (n : Nat), v = .ref a ∧ (g.get? a = some (listOf vs.toArray n) ∨ (a, listOf vs.toArray n) ∈ nx) ∧ vs.length = xs.length ∧ ∀ (i : Nat) (x : Int), xs[i]? = some x → ∃ v, vs[i]? = some v ∧ PairN g nx v x
theorem PairsIn.mono {g : Heap} {nx nx' : List (Addr × Obj)} {v : Value} {xs : List Int} (p : PairsIn g nx v xs) (k : ∀ q ∈ nx, q ∈ nx') : PairsIn g nx' v xs := by
  obtain ⟨a, vs, n, e, q, l, r⟩ := p
  refine ⟨a, vs, n, e, q.imp id (k _), l, fun i x hx => ?_⟩
  obtain ⟨v, h1, h2⟩ := r i x hx
  exact ⟨v, h1, h2.mono k⟩
theorem PairsIn.pairs {g h : Heap} {L : Addr} {m : Str → Option Value} {nx news : List (Addr × Obj)} {v : Value} {xs : List Int} (p : PairsIn g nx v xs) (F : Fr g L h m) (N : News g L h news) (k : ∀ q ∈ nx, q ∈ news) : IsPairs h v xs := by
  obtain ⟨a, vs, n, e, q, l, r⟩ := p.mono k
  refine ⟨a, vs, n, e, q.elim (F.keep _ _) fun m => (N _ m).1, l, fun i x hx => ?_⟩
  obtain ⟨v, h1, h2⟩ := r i x hx
  exact ⟨v, h1, h2.pair F N⟩

theorem tuple_off {g h : Heap} {L a : Addr} {m : Str → Option Value} {o : Obj} (F : Fr g L h m) (e : h.get? a = some o) (hd : ∀ es n, o.data ≠ .dict es n) : a ≠ L := by
  rintro rfl
  obtain ⟨o', es, ep, ho, hd', _⟩ := F.ns
  rw [e] at ho; cases ho
  exact hd _ _ hd'

theorem ledger_items {g h : Heap} {L : Addr} {m : Str → Option Value} {vs : List Value} {xs : List Int} (F : Fr g L h m) (r : ∀ (i : Nat) (x : Int), xs[i]? = some x → ∃ v, vs[i]? = some v ∧ IsPair h v x) :
    ∀ n, ∃ own, News g L h own ∧ (∀ q ∈ own, q.2.cls = .type "tuple" ∧ ∃ (vs : Array Value) (n : Nat), q.2.data = .seq vs n) ∧ ∀ (i : Nat) (x : Int), i < n → xs[i]? = some x → ∃ v, vs[i]? = some v ∧ PairN g own v x := by
  intro n
  induction n with
  | zero => exact ⟨[], News.nil, (fun _ hq => nomatch hq), fun i x hi => absurd hi (Nat.not_lt_zero _)⟩
  | succ n ih =>
    obtain ⟨own, N, T, R⟩ := ih
    cases hx : xs[n]? with
    | none =>
      refine ⟨own, N, T, fun i x hi hx' => ?_⟩
      rcases Nat.lt_succ_iff_lt_or_eq.mp hi with h1 | h1
      · exact R i x h1 hx'
      · subst h1; rw [hx] at hx'; cases hx'
    | some x =>
      obtain ⟨v, hv, a, t, u, k, rfl, q⟩ := r n x hx
      cases hg : g.get? a with
      | some o =>
        have := F.keep _ _ hg
        rw [q] at this; cases this
        refine ⟨own, N, T, fun i y hi hy => ?_⟩
        rcases Nat.lt_succ_iff_lt_or_eq.mp hi with h1 | h1
        · exact R i y h1 hy
        · subst h1; rw [hx] at hy; cases hy
          exact ⟨_, hv, a, t, u, k, rfl, .inl hg⟩
      | none =>
        refine ⟨(a, { cls := .type "tuple", data := .seq [.int x t, .int 1 u].toArray k }) :: own, ?_, ?_, fun i y hi hy => ?_⟩
        · intro p hp
          rcases List.mem_cons.mp hp with rfl | hp
          · exact ⟨q, tuple_off F q (fun es n e => by cases e), hg⟩
          · exact N p hp
        · intro p hp
          rcases List.mem_cons.mp hp with rfl | hp
          · exact ⟨rfl, _, _, rfl⟩
          · exact T p hp
        · rcases Nat.lt_succ_iff_lt_or_eq.mp hi with h1 | h1
          · obtain ⟨v', h2, h3⟩ := R i y h1 hy
            exact ⟨v', h2, h3.mono fun q hq => List.mem_cons_of_mem _ hq⟩
          · subst h1; rw [hx] at hy; cases hy
            exact ⟨_, hv, a, t, u, k, rfl, .inr (List.Mem.head _)⟩

theorem ledger_of {g h : Heap} {L : Addr} {m : Str → Option Value} {news : List (Addr × Obj)} {v : Value} {xs : List Int} (F : Fr g L h m) (N : News g L h news) (p : IsPairs h v xs) :
    ∃ own, News g L h (own ++ news) ∧ Plainly own ∧ PairsIn g own v xs := by
  obtain ⟨a, vs, n, rfl, q, l, r⟩ := p
  obtain ⟨own, No, T, R⟩ := ledger_items F r xs.length
  have hr : ∀ (i : Nat) (x : Int), xs[i]? = some x → ∃ v, vs[i]? = some v ∧ PairN g own v x := fun i x hx => R i x (by
    rcases Nat.lt_or_ge i xs.length with h1 | h1
    · exact h1
    · rw [List.getElem?_eq_none h1] at hx; cases hx) hx
  have hrefs : ∀ v ∈ vs, ∃ a, v = .ref a := by
    intro v hv
    obtain ⟨i, hi, rfl⟩ := List.getElem_of_mem hv
    obtain ⟨v', h1, a', t, u, k, e, _⟩ := r i xs[i] (by simp [← l, hi])
    rw [List.getElem?_eq_getElem hi] at h1
    cases h1
    exact ⟨a', e⟩
  cases hg : g.get? a with
  | some o =>
    have := F.keep _ _ hg
    rw [q] at this; cases this
    refine ⟨own, fun p hp => ?_, fun p hp => .inl (T p hp), a, vs, n, rfl, .inl hg, l, hr⟩
    exact (List.mem_append.mp hp).elim (No p) (N p)
  | none =>
    refine ⟨(a, listOf vs.toArray n) :: own, fun p hp => ?_, fun p hp => ?_, a, vs, n, rfl, .inr (List.Mem.head _), l, fun i x hx => ?_⟩
    · rcases List.mem_cons.mp hp with rfl | hp
      · exact ⟨q, tuple_off F q (fun es n e => by cases e), hg⟩
      · exact (List.mem_append.mp hp).elim (No p) (N p)
    · rcases List.mem_cons.mp hp with rfl | hp
      · exact .inr ⟨vs, n, rfl, hrefs⟩
      · exact .inl (T p hp)
    · obtain ⟨v', h2, h3⟩ := hr i x hx
      exact ⟨v', h2, h3.mono fun q hq => List.mem_cons_of_mem _ hq⟩

section
variable {w : World} {loose : List Str} {mean : ExcName → Option Value} {mg mb : Str → Option Value} {f : Addr} {args : List Value} {need units : Nat} {s : Shared}
  {dp un : Nat} {gd : Option (List Code)} {cn : Str} {cs : Scope} {a : Addr} {ccd : Value} {cl : List (Str × Addr)} {outer : List Env} {A₀ : Around} {base h₀ : Heap} {L : Addr} {m : Str → Option Value} {news : List (Addr × Obj)}
  {Q E : Value → Shared → Prop} {xs : List Int}
/-- a call that gives a list of pairs: it goes onto the ledger -/
theorem use_list (C : PC w loose mean mg mb f args need units s (fun r h => IsPairs h r xs)) (B : Below A₀ base outer h₀) (F : Fr h₀ L s.heap m) (X : (Mine.hd.heap_39 w.params).In h₀) (N : News h₀ L s.heap news)
    (T : Top Mine.hd.view_39 loose mean mg mb h₀) (hk : cs.kind = .function) (hd : dp + need < recursionLimit) (hu : un + units < cLine)
    (h : ∀ D own h' tk', Fr h₀ L h' m → News h₀ L h' (own ++ news) → Plainly own → PairsIn h₀ own (.ref D) xs → Q (.ref D) { s with heap := h', toks := tk' }) :
    wpAny (model PySem.Challenge.rw_tk0028_01.row.prog w) (ktrTop dp un gd cn cs L a ccd cl outer) (call (.ref f) args) Q E s := by
  refine use_any C B F X N T hk hd hu fun r h' tk' kp F' N' p => ?_
  obtain ⟨own, N₂, P, R⟩ := ledger_of F' N' p
  have R' := R
  obtain ⟨D, vs, n, rfl, _⟩ := R'
  exact h D own h' tk' F' N₂ P R
end

theorem Plainly.append {a b : List (Addr × Obj)} (h : Plainly a) (k : Plainly b) : Plainly (a ++ b) := fun q hq => (List.mem_append.mp hq).elim (h q) (k q)
/-- a box whose second item is an int is not of such a ledger -/
theorem Plainly.offBox {g h : Heap} {L b i : Addr} {own : List (Addr × Obj)} {c : Int} {t : Tok} {n : Nat} (P : Plainly own) (N : News g L h own) (hb : h.get? b = some (listOf [.ref i, .int c t].toArray n)) : ∀ p ∈ own, p.1 ≠ b := by
  intro p hp e
  have q := (N p hp).1
  rw [e, hb] at q
  have q' : p.2 = listOf [.ref i, .int c t].toArray n := (Option.some.inj q).symm
  rcases P p hp with ⟨h1, _⟩ | ⟨vs, k, h1, h2⟩
  · rw [q'] at h1
    simp [W.listOf] at h1
  · rw [q'] at h1
    have h3 : ([.ref i, .int c t] : List Value).toArray = vs.toArray := by
      have := congrArg Obj.data h1
      simp only [W.listOf] at this
      cases this; rfl
    have h4 : ([.ref i, .int c t] : List Value) = vs := by simpa using h3
    obtain ⟨a, ha⟩ := h2 (.int c t) (by rw [← h4]; simp)
    cases ha
theorem Plainly.offCell {g h : Heap} {L b : Addr} {own : List (Addr × Obj)} {o : Obj} {v : Option Value} (P : Plainly own) (N : News g L h own) (hb : h.get? b = some o) (hd : o.data = .cell v) : ∀ p ∈ own, p.1 ≠ b := by
  intro p hp e
  have q := (N p hp).1
  rw [e, hb] at q
  have q' : p.2 = o := (Option.some.inj q).symm
  rcases P p hp with ⟨_, vs, k, h1⟩ | ⟨vs, k, h1, _⟩
  · rw [q', hd] at h1; cases h1
  · rw [q'] at h1; rw [h1] at hd; cases hd
end Mine

/- part C6 -/
namespace Mine
local macro_rules | `(tactic| walk_at "nowhere") => `(tactic| skip)
local macro_rules | `(tactic| tb_start) => `(tactic| (refine' code_defG ?k1 ?k2 ?k3 ?k4 ?k5 ?kA ?kF ?kK ?k6 ?k7 ?k8 ?k9 ?kB ?_ ?c2 ?c3 ?c4 ?c5; (case kA => exact rfl); (case kF => exact rfl); (case kK => assumption); (case k1 => k_asm); (case k2 => k_asm); (case k3 => k_asm); (case k4 => exact News.nil); (case k5 => k_asm); (case k6 => k_is); (case k7 => k_is); (case k8 => ktr_room); (case k9 => exact BindsTo.of_eq rfl); (case c5 => decide); (case kB => exact locs rfl); (case c2 => exact rfl); (case c3 => exact rfl); (case c4 => exact rfl); k_whole))

local macro_rules | `(tactic| walk_at "call builtin:len") => `(tactic| (k_here; k_dflt (refine' len_listC ?k1 ?k2 ?k3 ?k4 ?_; (case k1 => k_asm); (case k2 => assumption); (case k3 => assumption); (case k4 => first | omega | decide); k_whole)))

theorem one_at {g h : Heap} {L D : Addr} {n : Nat} {news : List (Addr × Obj)} (N : News g L h ((D, listOf [Value.ref 50].toArray n) :: news)) : h.get? D = some (listOf [Value.ref 50].toArray n) := (N _ (List.Mem.head _)).1
local macro_rules | `(tactic| walk_at "call ref") => `(tactic| (k_here; k_dflt (refine' use_list (cut_pc _ _ _ _ _ _ _ _ _ _ ?p1 ?h1 ?h2) ?k1 ?k2 ?k3 ?k4 ?k5 ?kK ?k6 ?k7 ?_; (case p1 => k_extra "one"); (case h1 => assumption); (case h2 => assumption); (case k1 => k_asm); (case k2 => k_asm); (case k3 => k_asm); (case k4 => k_asm); (case k5 => k_asm); (case kK => first | exact rfl | assumption); (case k6 => ktr_room); (case k7 => ktr_units); k_whole; intro D9 o9 h9 tk9 F9 N9 P9 R9; (try dsimp only); (try k_fold))))
local macro_rules | `(tactic| walk_at "call ref") => `(tactic| (k_here; k_dflt (refine' use_list (smul_pc _ _ _ _ _ _ _ _ _ _ ?p1 ?p2 ?h1 ?h2 ?b1 ?b2) ?k1 ?k2 ?k3 ?k4 ?k5 ?kK ?k6 ?k7 ?_; (case p1 => first | (exact IsPairs.up (by assumption) (Fr.keep (by k_asm))) | (exact PairsIn.pairs (by assumption) (by k_asm) (by k_asm) (fun q hq => by simp only [List.mem_append, List.mem_cons, hq, true_or, or_true]))); (case p2 => first | (exact IsPairs.up (by assumption) (Fr.keep (by k_asm))) | (exact PairsIn.pairs (by assumption) (by k_asm) (by k_asm) (fun q hq => by simp only [List.mem_append, List.mem_cons, hq, true_or, or_true]))); (case h1 => k_extra "len"); (case h2 => k_extra "len"); (case b1 => assumption); (case b2 => assumption); (case k1 => k_asm); (case k2 => k_asm); (case k3 => k_asm); (case k4 => k_asm); (case k5 => k_asm); (case kK => first | exact rfl | assumption); (case k6 => ktr_room); (case k7 => ktr_units); k_whole; intro D9 o9 h9 tk9 F9 N9 P9 R9; (try dsimp only); (try k_fold))))

abbrev oneOf (n : Nat) : List Int := 1 :: List.replicate (n - 1) 0
theorem conv_length (as bs : List Int) : (conv as bs).length = min as.length bs.length := by simp [conv]
theorem oneOf_length {n : Nat} (h : 1 ≤ n) : (oneOf n).length = n := by simp only [oneOf, List.length_cons, List.length_replicate]; omega
theorem oneOf_small (n : Nat) : ∀ x ∈ oneOf n, x.natAbs < 2 ^ 15 := by
  intro x hx
  rcases List.mem_cons.mp hx with rfl | hx
  · decide
  · rw [(List.mem_replicate.mp hx).2]; decide

theorem power3_pc (w : World) (loose : List Str) (mean : ExcName → Option Value) (mg mb : Str → Option Value) (v₁ : Value) (t : Tok) (as : List Int) (s : Shared) (p₁ : IsPairs s.heap v₁ as)
    (hk₃ : as.length ≤ 64) (hk₀ : 1 ≤ as.length) (hb₁ : ∀ x ∈ as, x.natAbs < 2 ^ 15) (hb₂ : ∀ x ∈ conv as as, x.natAbs < 2 ^ 15) (hb₃ : ∀ x ∈ conv (oneOf as.length) as, x.natAbs < 2 ^ 15) :
    PC w loose mean mg mb 132 [v₁, .int 3 t] 6 192 s (fun r h => IsPairs h r (conv (conv (oneOf as.length) as) (conv as as))) := by
  unfold PC
  w_top off
  k_with_none
  intro dp un gd cn cs a ccd cl outer A₀ base h₀ L m Q E B F X T hk hd hu hret
  obtain ⟨a₁, vs₁, n₁, rfl, q₁, l₁, r₁⟩ := id p₁
  clear r₁
  have e1 : (conv as as).length = as.length := by rw [conv_length]; omega
  have e2 := oneOf_length hk₀
  have e3 : (conv (oneOf as.length) as).length = as.length := by rw [conv_length]; omega
  have e4 : (conv (1 :: List.replicate (as.length - 1) 0) as).length = as.length := e3
  have hb₄ := oneOf_small as.length
  refine wpAny_call ?_
  k_dflt tb_start
  intro g L' h₁ FG F₁ N₁ B₁ X₁ T₁ kG
  replace q₁ := sub_of kG _ _ q₁
  replace p₁ := p₁.up (sub_of kG)
  (try dsimp only)
  (try k_fold)
  k_with "one" => exact one_at (by k_asm)
  k_with "len" => first | assumption | omega | (simp only [List.length_cons, List.length_replicate]; omega)
  k_steps
  exact hret _ _ _ (kept kG (by assumption)) (PairsIn.pairs (g := g) (L := L') (by assumption) (by assumption) (by assumption) (fun q hq => by simp only [List.mem_append, List.mem_cons, hq, true_or, or_true]))

theorem power2_pc (w : World) (loose : List Str) (mean : ExcName → Option Value) (mg mb : Str → Option Value) (v₁ : Value) (t : Tok) (as : List Int) (s : Shared) (p₁ : IsPairs s.heap v₁ as)
    (hk₃ : as.length ≤ 64) (hk₀ : 1 ≤ as.length) (hb₁ : ∀ x ∈ as, x.natAbs < 2 ^ 15) (hb₂ : ∀ x ∈ conv as as, x.natAbs < 2 ^ 15) :
    PC w loose mean mg mb 132 [v₁, .int 2 t] 6 192 s (fun r h => IsPairs h r (conv (oneOf as.length) (conv as as))) := by
  unfold PC
  w_top off
  k_with_none
  intro dp un gd cn cs a ccd cl outer A₀ base h₀ L m Q E B F X T hk hd hu hret
  obtain ⟨a₁, vs₁, n₁, rfl, q₁, l₁, r₁⟩ := id p₁
  clear r₁
  have e1 : (conv as as).length = as.length := by rw [conv_length]; omega
  have e2 := oneOf_length hk₀
  have e3 : (conv (oneOf as.length) as).length = as.length := by rw [conv_length]; omega
  have e4 : (conv (1 :: List.replicate (as.length - 1) 0) as).length = as.length := e3
  have hb₄ := oneOf_small as.length
  refine wpAny_call ?_
  k_dflt tb_start
  intro g L' h₁ FG F₁ N₁ B₁ X₁ T₁ kG
  replace q₁ := sub_of kG _ _ q₁
  replace p₁ := p₁.up (sub_of kG)
  (try dsimp only)
  (try k_fold)
  k_with "one" => exact one_at (by k_asm)
  k_with "len" => first | assumption | omega | (simp only [List.length_cons, List.length_replicate]; omega)
  k_steps
  exact hret _ _ _ (kept kG (by assumption)) (PairsIn.pairs (g := g) (L := L') (by assumption) (by assumption) (by assumption) (fun q hq => by simp only [List.mem_append, List.mem_cons, hq, true_or, or_true]))
end Mine

/- part Loop2 -/
namespace Mine
section
variable {prog : Program} {w : World} {A : Around} {E : Value → Shared → Prop} {s : Shared} {env : Env} {h₀ : Heap} {x : Str} {body : List Stmt} {Q : Flow → Shared → Prop}

/-- a loop over a range that turns one list of ints of the ledger, and no name -/
theorem range_loopL {r D : Addr} {a₀ b₀ : Int} {t₀ u₀ v₀ : Tok} (n : Nat) {m₀ : Str → Option Value} {news : List (Addr × Obj)} (S : Nat → List Int) {vs₀ : List Value} {k₀ : Nat}
    (hh : A.handled = none) (hr : IsRange s.heap r a₀ b₀ 1 t₀ u₀ v₀) (hsmall : Builtin.Range.small a₀ b₀ 1 = true) (hsz : Builtin.Range.rangeSize a₀ b₀ 1 = (n : Int)) (F : Fr h₀ env.locals s.heap m₀) (N : News h₀ env.locals s.heap news)
    (hD : (D, listOf vs₀.toArray k₀) ∈ news) (hV : IntsAre vs₀ (S 0))
    (turn : ∀ i t vs k h tk own, i < n → OwnOff own [D] → IntsAre vs (S i) → Fr h₀ env.locals h (fun z => if z = x then some (.int (a₀ + (i : Int)) t) else m₀ z) → News h₀ env.locals h ((D, listOf vs.toArray k) :: own) →
      wpAny (model prog w) A (execs body env) (InvPostG h₀ env.locals (fun m' nx' => (∃ vs' k', nx' = [(D, listOf vs'.toArray k')] ∧ IntsAre vs' (S (i + 1))) ∧ ∀ z, z ≠ x → m' z = m₀ z) own { s with heap := h, toks := tk } Q) E { s with heap := h, toks := tk })
    (done : ∀ (u : Str → Option Value) vs k h tk, IntsAre vs (S n) → Fr h₀ env.locals h (fun z => if z = x then u z else m₀ z) → News h₀ env.locals h [(D, listOf vs.toArray k)] → Q .next { s with heap := h, toks := tk }) :
    wpAny (model prog w) A (pyIter (.ref r)) (fun it s₂ => LoopAtV prog w A h₀ env x body Q E it s₂) E s := by
  refine wpAny_pyIter_range hr hsmall ?_
  have W : Walks prog w A s.heap.objs.size [s.heap.objs.size] [s.heap.objs.size] n (fun i v => i < n ∧ ∃ t, v = .int (a₀ + i * 1) t)
      (fun i h => IsRangeIter h s.heap.objs.size (a₀ + (i : Nat) * 1) ((n : Int) - (i : Nat)) 1) := (Walks.range hh _ a₀ 1 n).bound
  have N₀ : News h₀ env.locals s.heap [(D, listOf vs₀.toArray k₀)] := fun p hp => N p (by rw [List.mem_singleton.mp hp]; exact hD)
  refine kdr_loop (fun i m nx => (∃ vs k, nx = [(D, listOf vs.toArray k)] ∧ IntsAre vs (S i)) ∧ ∀ z, z ≠ x → m z = m₀ z) W (fun _ h => h) (fun _ h => h) ?_ ?_ ?_ ?_ (by show IsRangeIter _ _ _ _ _; rw [hsz]; simpa using Heap.get?_push_size _ rfl) (F.push _)
    (fun p hp => ⟨Heap.get?_push_of_some _ (N₀ p hp).1, (N₀ p hp).2⟩) ⟨⟨vs₀, k₀, rfl, hV⟩, fun _ _ => rfl⟩ ?_ ?_
  · intro i h hi b hb
    rw [List.mem_singleton.mp hb]
    exact ⟨_, hi⟩
  · intro hm
    exact absurd F.ns.lt ((List.mem_singleton.mp hm) ▸ Nat.lt_irrefl _)
  · intro b hb
    rw [List.mem_singleton.mp hb]
    exact next_is_new F
  · intro p hp hI
    exact absurd (Heap.lt_size (N₀ p hp).1) ((List.mem_singleton.mp hI) ▸ Nat.lt_irrefl _)
  · rintro i v m₁ nx h tk own hi ⟨_, t, rfl⟩ hoff ⟨⟨vs, k, rfl, hV'⟩, hm⟩ F₁ N₁
    refine turn i t vs k h tk own hi hoff hV' ?_ N₁
    have e : (fun z => if z = x then some (Value.int (a₀ + (i : Int) * 1) t) else m₁ z) = fun z => if z = x then some (.int (a₀ + (i : Int)) t) else m₀ z := by
      funext z
      by_cases h1 : z = x
      · simp [h1]
      · simp only [if_neg h1]
        exact hm z h1
    rw [e] at F₁
    exact F₁
  · rintro m₁ nx h tk ⟨⟨vs, k, rfl, hV'⟩, hm⟩ F₁ N₁
    refine done m₁ vs k h tk hV' ?_ N₁
    have e : (fun z => if z = x then m₁ z else m₀ z) = m₁ := by
      funext z
      by_cases h1 : z = x
      · simp [h1]
      · simp only [if_neg h1]
        exact (hm z h1).symm
    rw [e]; exact F₁

theorem setL_of : ∀ {l : List Value} {k : Nat} {v : Value}, k < l.length → ki_setL l k v = some (l.set k v)
  | _ :: _, 0, _, _ => rfl
  | _ :: r, k + 1, v, h => by
    have := setL_of (l := r) (k := k) (v := v) (Nat.lt_of_succ_lt_succ h)
    show (match ki_setL r k v with | some q => some (_ :: q) | none => none) = _
    rw [this]; rfl

theorem set_at {D : Addr} {L : Addr} {m : Str → Option Value} {vs : List Value} {n : Nat} {k : Int} {t : Tok} {v : Value} {post : List (Addr × Obj)} {Q : Unit → Shared → Prop} (F : Fr h₀ L s.heap m) (N : News h₀ L s.heap ((D, listOf vs.toArray n) :: post))
    (ho : ∀ p ∈ post, p.1 ≠ D) (h0 : 0 ≤ k) (hfit : k < 2 ^ 63) (hk : k.toNat < vs.length)
    (h : ∀ h', Fr h₀ L h' m → News h₀ L h' ((D, listOf (vs.set k.toNat v).toArray n) :: post) → Q () { s with heap := h' }) : wpAny (model prog w) A (setItem (.ref D) (.int k t) v) Q E s :=
  ki_set F N h0 hfit (setL_of (by simpa using hk)) (Upd.head ho) h

theorem item_at {D : Addr} {L : Addr} {m : Str → Option Value} {value slice : Expr} {l : List Value} {n : Nat} {k : Int} {u : Tok} {v : Value} {news : List (Addr × Obj)} {Q : Value → Shared → Prop}
    (_F : Fr h₀ L s.heap m) (N : News h₀ L s.heap news) (hm : (D, listOf l.toArray n) ∈ news) (h0 : 0 ≤ k) (hhi : k < 2 ^ 63) (hx : l[k.toNat]? = some v) (h : Q v s)
    (hs : subscripted slice false (.ref D) (.int k u) = operate [.ref D, .int k u] (getItem (.ref D) (.int k u)) := by with_unfolding_all rfl) :
    wpAny (model prog w) A (subscriptTail value slice (.ref D) (.int k u)) Q E s :=
  have hl : s.heap.IsList D l.toArray := ⟨_, (N _ hm).1, rfl, n, rfl⟩
  tail_any hl.typeIs slot_list_getitem.lookup (wpAny_getItem_list hl h0 hhi (by simpa using hx) h) hs

theorem ints_set : ∀ {vs : List Value} {ns : List Int} {k : Nat} {x : Int} {t : Tok}, IntsAre vs ns → IntsAre (vs.set k (.int x t)) (ns.set k x)
  | _, _, _, _, _, .nil => .nil
  | _, _, 0, x, t, .cons _ _ h => .cons x t h
  | _, _, _ + 1, _, _, .cons n u h => .cons n u (ints_set h)
end

section
variable {prog : Program} {w : World} {A : Around} {E : Value → Shared → Prop} {env : Env}
/-- the source of a comprehension of pairs is a list of ints of the ledger -/
theorem list_src {s : Shared} {elt : Expr} {x : Str} {scope : Scope} {cl : List (Str × Addr)} {D L : Addr} {vs : List Value} {k : Nat} {xs : List Int} {g : Heap} {m : Str → Option Value} {news : List (Addr × Obj)} {f : Nat → Int} {Q : Value → Shared → Prop}
    (hh : A.handled = none) (F : Fr g L s.heap m) (N : News g L s.heap news) (hD : (D, listOf vs.toArray k) ∈ news) (hi : IntsAre vs xs) (hn : xs.length ≤ sizeLine)
    (helt : ∀ C i t s₃ m₃ E' y, s.heap.objs.size ≤ C → xs[i]? = some y → s₃.heap.Ns C m₃ → m₃ x = some (.int y t) → Fr g L s₃.heap m → News g L s₃.heap news → (∀ b o, s.heap.get? b = some o → s₃.heap.get? b = some o) →
      wpAny (model prog w) A (eval elt (compEnvC scope cl C env)) (fun y s₄ => IsPair s₄.heap y (f i) ∧ Keeps s₃ s₄) E' s₃)
    (hQ : ∀ D h' tk ys, s.heap.get? D = none → h'.PlainList D ys → Made f h' ys xs.length → Fr g L h' m → News g L h' news → (∀ b o, s.heap.get? b = some o → h'.get? b = some o) → Q (.ref D) { s with heap := h', toks := tk }) :
    wpAny (model prog w) A (pyIter (.ref D)) (fun it s₂ => ∃ I fp wr n P St, it = .ref I ∧ Walks prog w A I fp wr n P St ∧ n ≤ sizeLine ∧
      (∀ i h, St i h → ∀ b ∈ wr, ∃ o, h.get? b = some o ∧ o.cls ≠ .type "tuple") ∧ St 0 s₂.heap ∧ (∀ b ∈ fp, b < s₂.heap.objs.size) ∧
      (∀ C i v s₃ m₃ E', s₂.heap.objs.size ≤ C → i < n → P i v → s₃.heap.Ns C m₃ → m₃ x = some v → (∀ b o, b ∉ wr → s₂.heap.get? b = some o → s₃.heap.get? b = some o) →
        wpAny (model prog w) A (eval elt (compEnvC scope cl C env)) (fun y s₄ => IsPair s₄.heap y (f i) ∧ Keeps s₃ s₄) E' s₃) ∧
      (∀ D h' tk ys, s₂.heap.get? D = none → h'.PlainList D ys → Made f h' ys n → (∀ b o, b ∉ wr → s₂.heap.get? b = some o → h'.get? b = some o) → Q (.ref D) { s₂ with heap := h', toks := tk })) E s := by
  have hol := (N _ hD).1
  have hls : s.heap.IsList D vs.toArray := ⟨_, hol, rfl, k, rfl⟩
  have hne : D ≠ s.heap.objs.size := Nat.ne_of_lt (Heap.lt_size hol)
  refine wpAny_pyIter_list hls ?_
  have W := Walks.list (prog := prog) (w := w) hh s.heap.objs.size D hne vs.toArray
  have hlen : vs.toArray.size = xs.length := by simp [hi.length]
  rw [hlen] at W
  have up : ∀ (h' : Heap) (o' : Obj), (∀ b o, b ∉ [s.heap.objs.size] → (s.heap.push o').get? b = some o → h'.get? b = some o) →
      ∀ b o, s.heap.get? b = some o → h'.get? b = some o := fun h' o' k b o e => k b o (fun hm => by rw [List.mem_singleton.mp hm] at e; exact Nat.lt_irrefl _ (Heap.lt_size e)) (Heap.get?_push_of_some _ e)
  refine ⟨s.heap.objs.size, _, _, xs.length, _, _, rfl, W, hn, ?_, ⟨⟨_, Heap.get?_push_size _ rfl, rfl, rfl⟩, hls.at fun o e => Heap.get?_push_of_some _ e⟩, ?_, ?_, ?_⟩
  · rintro i h ⟨⟨o, ho, hc, _⟩, _⟩ b hb
    rw [List.mem_singleton.mp hb]
    exact ⟨o, ho, by rw [hc]; simp⟩
  · intro b hb
    rw [Heap.size_push]
    rcases List.mem_cons.mp hb with rfl | hb
    · exact Nat.lt_succ_self _
    · rw [List.mem_singleton.mp hb]; exact Nat.lt_succ_of_lt (Heap.lt_size hol)
  · rintro C i v s₃ m₃ E' hC hi' hv hns hm hk
    have hxi : xs[i]? = some xs[i] := by simp [hi']
    obtain ⟨t, ht⟩ := hi.get i xs[i] hxi
    have hv' : v = .int xs[i] t := by
      have hv'' : vs[i]? = some v := by simpa using hv
      rw [ht] at hv''; exact (Option.some.inj hv'').symm
    subst hv'
    exact helt C i t s₃ m₃ E' xs[i] (Nat.le_of_lt (by rw [Heap.size_push] at hC; exact hC)) hxi hns hm (F.keeps (up _ _ hk)) (fun p hp => ⟨up _ _ hk _ _ (N p hp).1, (N p hp).2⟩) (up _ _ hk)
  · intro D' h' tk ys hD' hl hM hk
    refine hQ D' h' tk ys ?_ hl hM (F.keeps (up _ _ hk)) (fun p hp => ⟨up _ _ hk _ _ (N p hp).1, (N p hp).2⟩) (up _ _ hk)
    cases e : s.heap.get? D' with
    | none => rfl
    | some o => rw [Heap.get?_push_of_some _ e] at hD'; cases hD'
end
end Mine

/- part C7 -/
namespace Mine
local macro_rules | `(tactic| tb_start) => `(tactic| (refine' code_defG ?k1 ?k2 ?k3 ?k4 ?k5 ?kA ?kF ?kK ?k6 ?k7 ?k8 ?k9 ?kB ?_ ?c2 ?c3 ?c4 ?c5; (case kA => exact rfl); (case kF => exact rfl); (case kK => assumption); (case k1 => k_asm); (case k2 => k_asm); (case k3 => k_asm); (case k4 => exact News.nil); (case k5 => k_asm); (case k6 => k_is); (case k7 => k_is); (case k8 => ktr_room); (case k9 => exact BindsTo.of_eq rfl); (case c5 => decide); (case kB => exact locs rfl); (case c2 => exact rfl); (case c3 => exact rfl); (case c4 => exact rfl); k_whole))

local macro_rules | `(tactic| walk_at "pyIter ref") => `(tactic| (k_here; refine Hold.out ?_))
local macro_rules | `(tactic| walk_at "eval ListComp") => `(tactic| (k_here; refine Hold.out ?_))
local macro_rules | `(tactic| walk_at "binaryOp Mult ref int") => `(tactic| (k_here; refine Hold.out ?_))
local macro_rules | `(tactic| walk_at "newTuple") => `(tactic| (k_here; refine Hold.out ?_))
local macro_rules | `(tactic| walk_at "setItem ref int") => `(tactic| (k_here; refine Hold.out ?_))
local macro_rules | `(tactic| walk_at "subscriptTail") => `(tactic| (k_here; k_dflt (refine' item_at ?k1 ?k2 ?k3 ?k4 ?k5 ?k6 ?_ ?k7; (case k1 => k_asm); (case k2 => k_asm); (case k3 => exact List.Mem.head _); (case k4 => assumption); (case k5 => omega); (case k6 => assumption); (case k7 => with_unfolding_all rfl); k_whole)))

def sqTo (n : Nat) : Nat → List Int
  | 0 => List.replicate n 0
  | i + 1 => if (0 - (n : Int) + (i : Int)) * (0 - (n : Int) + (i : Int)) < (n : Int) then (sqTo n i).set ((0 - (n : Int) + (i : Int)) * (0 - (n : Int) + (i : Int))).toNat ((sqTo n i).getD ((0 - (n : Int) + (i : Int)) * (0 - (n : Int) + (i : Int))).toNat 0 + 1) else sqTo n i
theorem sqTo_length (n : Nat) : ∀ i, (sqTo n i).length = n
  | 0 => by simp [sqTo]
  | i + 1 => by
    unfold sqTo
    split
    · rw [List.length_set, sqTo_length n i]
    · exact sqTo_length n i
def squaresOf (n : Nat) : List Int := sqTo n (2 * n + 1)
theorem ints_replicate (x : Int) (t : Tok) : ∀ n, IntsAre (List.replicate n (.int x t)) (List.replicate n x)
  | 0 => .nil
  | n + 1 => .cons x t (ints_replicate x t n)

theorem sq_nonneg' (a : Int) : 0 ≤ a * a := by
  rcases Int.le_total 0 a with h | h
  · exact Int.mul_nonneg h h
  · exact Int.mul_nonneg_of_nonpos_of_nonpos h h

theorem end_L {g h' : Heap} {L D : Addr} {m' m₀ : Str → Option Value} {x : Str} {vs : List Value} {k : Nat} {own : List (Addr × Obj)} {s₁ : Shared} {tk : Nat} {S' : List Int} (F : Fr g L h' m') (N : News g L h' ((D, listOf vs.toArray k) :: own)) (ho : OwnOff own [D]) (hI : IntsAre vs S')
    (hr : ∀ z, z ≠ x → m' z = m₀ z) : InvEndG g L (fun m' nx' => (∃ vs' k', nx' = [(D, listOf vs'.toArray k')] ∧ IntsAre vs' S') ∧ ∀ z, z ≠ x → m' z = m₀ z) own s₁ { s₁ with heap := h', toks := tk } :=
  InvEndG.intro F N ⟨⟨vs, k, rfl, hI⟩, hr⟩ ho (fun p hp => by rw [List.mem_singleton.mp hp]; exact List.Mem.head _) (fun p hp => List.mem_cons_of_mem _ hp)

theorem getD_some {l : List Int} {k : Nat} (h : k < l.length) : l[k]? = some (l.getD k 0) := by
  rw [List.getD_eq_getElem?_getD, List.getElem?_eq_getElem h]; rfl

theorem range_getD {l : List Int} {n : Nat} (h : l.length = n) : (List.range n).map (fun i => l.getD i 0) = l := by
  subst h
  apply List.ext_getElem
  · simp
  · intro i h1 h2
    simp [List.getD_eq_getElem?_getD, List.getElem?_eq_getElem h2]

theorem squares_pc (w : World) (loose : List Str) (mean : ExcName → Option Value) (mg mb : Str → Option Value) (n : Nat) (t : Tok) (s : Shared) (hn₀ : 1 ≤ n) (hn : n ≤ 64) :
    PC w loose mean mg mb 144 [.int n t] 2 32 s (fun r h => IsPairs h r (squaresOf n)) := by
  unfold PC
  w_top off
  k_with_none
  intro dp un gd cn cs a ccd cl outer A₀ base h₀ L m Q E B F X T hk hd hu hret
  refine wpAny_call ?_
  k_dflt tb_start
  intro g L' h₁ FG F₁ N₁ B₁ X₁ T₁ kG
  (try dsimp only)
  (try k_fold)
  k_steps
  refine Hold.go ?_
  refine' KMa.mul (ws := List.replicate n (Value.int 0 _)) ?zF ?zN ?zl ?zlo ?zhi ?zz ?ze ?_
  case zF => k_asm
  case zN => k_asm
  case zl => is_list
  case zlo => omega
  case zhi => omega
  case zz => simp only [List.length_cons, List.length_nil]; omega
  case ze => rw [Int.toNat_natCast]; exact flat_one _ _
  intro D h₂ F₂ N₂ l₂
  k_steps
  refine Hold.go ?_
  with_unfolding_all refine' range_loopL (2 * n + 1) (sqTo n) ?hh ?hr ?hs ?hz ?hF ?hN ?hD ?hV ?turn ?done
  case hh => rfl
  case hr => assumption
  case hs => exact small_one (by omega) (by omega) (by omega) (by omega)
  case hz => rw [rangeSize_one]; split <;> omega
  case hF => k_asm
  case hN => k_asm
  case hD => exact List.Mem.head _
  case hV => exact ints_replicate _ _ _
  case done =>
    intro u vs k h tk hi Fd Nd
    (try k_fold)
    k_steps
    refine Hold.go ?_
    with_unfolding_all refine' ListComp_pairs (fun i => (squaresOf n).getD i 0) ?c1 ?c2 ?c3 ?c4 ?c5 ?c6 ?c7
    case c1 => with_unfolding_all rfl
    case c2 => decide
    case c3 => rfl
    case c4 => decide
    case c5 => rfl
    case c7 => intro z; with_unfolding_all rfl
    case c6 =>
      k_steps
      refine Hold.go ?_
      refine' list_src (Q := fun v s' => qk (Flow.ret v) s') ?yh ?yF ?yN ?yD hi ?yn ?ye ?yQ
      case yh => rfl
      case yF => k_asm
      case yN => k_asm
      case yD => exact List.Mem.head _
      case yn => rw [sqTo_length]; exact Nat.le_trans hn (by decide)
      case yQ =>
        intro D' h' tk ys hD hl hM F₂ N₂ k₂
        refine leaveK_ F₂ N₂ ?_
        intro kF kN
        have e := made_pairs hl hM
        rw [sqTo_length, range_getD (by rw [squaresOf, sqTo_length])] at e
        exact hret _ _ _ (kept kG F₂) e
      case ye =>
        intro C i t s₃ m₃ E' y hC hy hns hm F₂ N₂ k₂
        have ey : y = (squaresOf n).getD i 0 := by
          rw [List.getD_eq_getElem?_getD, squaresOf, hy]; rfl
        k_steps
        refine Hold.go ?_
        refine wpAny_newObj_type ?_ (by size_fits)
        rw [← ey]
        exact ⟨⟨_, _, _, 0, rfl, Heap.get?_push_size _ rfl⟩, _, _, rfl, fun b o e => Heap.get?_push_of_some _ e⟩
  case turn =>
    intro i t' vs k h tk own hi ho hI Ft Nt
    have hnn : 0 ≤ (0 - (n : Int) + (i : Int)) * (0 - (n : Int) + (i : Int)) := sq_nonneg' _
    have hlen : vs.length = n := by rw [hI.length, sqTo_length]
    by_cases hlt : (0 - (n : Int) + (i : Int)) * (0 - (n : Int) + (i : Int)) < (n : Int)
    · have hin : ((0 - (n : Int) + (i : Int)) * (0 - (n : Int) + (i : Int))).toNat < (sqTo n i).length := by rw [sqTo_length]; omega
      obtain ⟨tc, htc⟩ := hI.get _ _ (getD_some hin)
      have hS : sqTo n (i + 1) = (sqTo n i).set ((0 - (n : Int) + (i : Int)) * (0 - (n : Int) + (i : Int))).toNat ((sqTo n i).getD ((0 - (n : Int) + (i : Int)) * (0 - (n : Int) + (i : Int))).toNat 0 + 1) := by
        rw [sqTo, if_pos hlt]
      (try k_fold)
      k_steps
      · refine Hold.go ?_
        refine set_at (by k_asm) (by k_asm) (OwnOff.ne ho (List.Mem.head _)) hnn (by omega) (by rw [hlen]; omega) ?_
        intro h₃ F₃ N₃
        k_steps
        exact end_L (by k_asm) (by k_asm) ho (hS ▸ ints_set hI) (by intro z h1; first | rfl | (simp [h1]; done) | (simp_all; done))
    · have hS : sqTo n (i + 1) = sqTo n i := by rw [sqTo, if_neg hlt]
      (try k_fold)
      k_steps
      exact end_L (by k_asm) (by k_asm) ho (hS ▸ hI) (by intro z h1; first | rfl | (simp [h1]; done) | (simp_all; done))
end Mine

/- part C8 -/
namespace Mine
local macro_rules | `(tactic| walk_at "nowhere") => `(tactic| skip)
local macro_rules | `(tactic| tb_start) => `(tactic| (refine' code_defG ?k1 ?k2 ?k3 ?k4 ?k5 ?kA ?kF ?kK ?k6 ?k7 ?k8 ?k9 ?kB ?_ ?c2 ?c3 ?c4 ?c5; (case kA => exact rfl); (case kF => exact rfl); (case kK => assumption); (case k1 => k_asm); (case k2 => k_asm); (case k3 => k_asm); (case k4 => exact News.nil); (case k5 => k_asm); (case k6 => k_is); (case k7 => k_is); (case k8 => ktr_room); (case k9 => exact BindsTo.of_eq rfl); (case c5 => decide); (case kB => exact locs rfl); (case c2 => exact rfl); (case c3 => exact rfl); (case c4 => exact rfl); k_whole))

local macro_rules | `(tactic| walk_at "pyIter ref") => `(tactic| (k_here; refine Hold.out ?_))
local macro_rules | `(tactic| walk_at "eval ListComp") => `(tactic| (k_here; refine Hold.out ?_))
local macro_rules | `(tactic| walk_at "binaryOp Mult ref int") => `(tactic| (k_here; refine Hold.out ?_))
local macro_rules | `(tactic| walk_at "newTuple") => `(tactic| (k_here; refine Hold.out ?_))
local macro_rules | `(tactic| walk_at "setItem ref int") => `(tactic| (k_here; refine Hold.out ?_))
local macro_rules | `(tactic| walk_at "subscriptTail") => `(tactic| (k_here; k_dflt (refine' item_at ?k1 ?k2 ?k3 ?k4 ?k5 ?k6 ?_ ?k7; (case k1 => k_asm); (case k2 => k_asm); (case k3 => exact List.Mem.head _); (case k4 => assumption); (case k5 => omega); (case k6 => assumption); (case k7 => with_unfolding_all rfl); k_whole)))

def trTo (n : Nat) : Nat → List Int
  | 0 => List.replicate n 0
  | i + 1 => if ((0 + (i : Int)) * (0 + (i : Int) + 1)).fdiv 2 < (n : Int) then (trTo n i).set (((0 + (i : Int)) * (0 + (i : Int) + 1)).fdiv 2).toNat 1 else trTo n i
theorem trTo_length (n : Nat) : ∀ i, (trTo n i).length = n
  | 0 => by simp [trTo]
  | i + 1 => by
    unfold trTo
    split
    · rw [List.length_set, trTo_length n i]
    · exact trTo_length n i
def trianglesOf (n : Nat) : List Int := trTo n n
theorem tri_nonneg (i : Nat) : 0 ≤ ((0 + (i : Int)) * (0 + (i : Int) + 1)).fdiv 2 := Int.fdiv_nonneg (Int.mul_nonneg (by omega) (by omega)) (by decide)

theorem triangles_pc (w : World) (loose : List Str) (mean : ExcName → Option Value) (mg mb : Str → Option Value) (n : Nat) (t : Tok) (s : Shared) (hn₀ : 1 ≤ n) (hn : n ≤ 64) :
    PC w loose mean mg mb 149 [.int n t] 2 32 s (fun r h => IsPairs h r (trianglesOf n)) := by
  unfold PC
  w_top off
  k_with_none
  intro dp un gd cn cs a ccd cl outer A₀ base h₀ L m Q E B F X T hk hd hu hret
  refine wpAny_call ?_
  k_dflt tb_start
  intro g L' h₁ FG F₁ N₁ B₁ X₁ T₁ kG
  (try dsimp only)
  (try k_fold)
  k_steps
  refine Hold.go ?_
  refine' KMa.mul (ws := List.replicate n (Value.int 0 _)) ?zF ?zN ?zl ?zlo ?zhi ?zz ?ze ?_
  case zF => k_asm
  case zN => k_asm
  case zl => is_list
  case zlo => omega
  case zhi => omega
  case zz => simp only [List.length_cons, List.length_nil]; omega
  case ze => rw [Int.toNat_natCast]; exact flat_one _ _
  intro D h₂ F₂ N₂ l₂
  k_steps
  refine Hold.go ?_
  with_unfolding_all refine' range_loopL n (trTo n) ?hh ?hr ?hs ?hz ?hF ?hN ?hD ?hV ?turn ?done
  case hh => rfl
  case hr => assumption
  case hs => exact small_one (by omega) (by omega) (by omega) (by omega)
  case hz => rw [rangeSize_one]; split <;> omega
  case hF => k_asm
  case hN => k_asm
  case hD => exact List.Mem.head _
  case hV => exact ints_replicate _ _ _
  case done =>
    intro u vs k h tk hi Fd Nd
    (try k_fold)
    k_steps
    refine Hold.go ?_
    with_unfolding_all refine' ListComp_pairs (fun i => (trianglesOf n).getD i 0) ?c1 ?c2 ?c3 ?c4 ?c5 ?c6 ?c7
    case c1 => with_unfolding_all rfl
    case c2 => decide
    case c3 => rfl
    case c4 => decide
    case c5 => rfl
    case c7 => intro z; with_unfolding_all rfl
    case c6 =>
      k_steps
      refine Hold.go ?_
      refine' list_src (Q := fun v s' => qk (Flow.ret v) s') ?yh ?yF ?yN ?yD hi ?yn ?ye ?yQ
      case yh => rfl
      case yF => k_asm
      case yN => k_asm
      case yD => exact List.Mem.head _
      case yn => rw [trTo_length]; exact Nat.le_trans hn (by decide)
      case yQ =>
        intro D' h' tk ys hD hl hM F₂ N₂ k₂
        refine leaveK_ F₂ N₂ ?_
        intro kF kN
        have e := made_pairs hl hM
        rw [trTo_length, range_getD (by rw [trianglesOf, trTo_length])] at e
        exact hret _ _ _ (kept kG F₂) e
      case ye =>
        intro C i t s₃ m₃ E' y hC hy hns hm F₂ N₂ k₂
        have ey : y = (trianglesOf n).getD i 0 := by
          rw [List.getD_eq_getElem?_getD, trianglesOf, hy]; rfl
        k_steps
        refine Hold.go ?_
        refine wpAny_newObj_type ?_ (by size_fits)
        rw [← ey]
        exact ⟨⟨_, _, _, 0, rfl, Heap.get?_push_size _ rfl⟩, _, _, rfl, fun b o e => Heap.get?_push_of_some _ e⟩
  case turn =>
    intro i t' vs k h tk own hi ho hI Ft Nt
    have hnn : 0 ≤ ((0 + (i : Int)) * (0 + (i : Int) + 1)).fdiv 2 := tri_nonneg i
    have hlen : vs.length = n := by rw [hI.length, trTo_length]
    by_cases hlt : ((0 + (i : Int)) * (0 + (i : Int) + 1)).fdiv 2 < (n : Int)
    · have hS : trTo n (i + 1) = (trTo n i).set (((0 + (i : Int)) * (0 + (i : Int) + 1)).fdiv 2).toNat 1 := by
        rw [trTo, if_pos hlt]
      (try k_fold)
      k_steps
      · refine Hold.go ?_
        refine set_at (by k_asm) (by k_asm) (OwnOff.ne ho (List.Mem.head _)) hnn (by omega) (by rw [hlen]; omega) ?_
        intro h₃ F₃ N₃
        k_steps
        exact end_L (by k_asm) (by k_asm) ho (hS ▸ ints_set hI) (by intro z h1; first | rfl | (simp [h1]; done) | (simp_all; done))
    · have hS : trTo n (i + 1) = trTo n i := by rw [trTo, if_neg hlt]
      (try k_fold)
      k_steps
      exact end_L (by k_asm) (by k_asm) ho (hS ▸ hI) (by intro z h1; first | rfl | (simp [h1]; done) | (simp_all; done))
end Mine

/- part Filt -/
namespace Mine

/-- the ints below n that pass -/
def passInts (n : Nat) (pz : Int → Bool) : List Int := ((List.range n).map fun (i : Nat) => (i : Int)).filter pz

theorem pass_ints {pz : Int → Bool} : ∀ {vs ys : List Value} {xs : List Int}, IntsAre vs xs → Paired (fun v y => y = v) (vs.filter fun v => match v with | .int z _ => pz z | _ => false) ys → IntsAre ys (xs.filter pz)
  | _, _, _, .nil, h => by cases h; exact .nil
  | _, ys, _, .cons z t r, h => by
    rw [List.filter_cons] at h ⊢
    by_cases e : pz z = true
    · rw [if_pos e] at h ⊢
      cases h with
      | cons h1 h2 => subst h1; exact .cons z t (pass_ints r h2)
    · rw [if_neg e] at h ⊢
      exact pass_ints r h

theorem ints_of_range : ∀ {n : Nat} {vs : List Value}, vs.length = n → (∀ (j : Nat) (v : Value), vs[j]? = some v → ∃ t, v = Value.int (j : Int) t) → IntsAre vs ((List.range n).map fun (i : Nat) => (i : Int)) := by
  have key : ∀ (vs : List Value) (k : Nat), (∀ (j : Nat) (v : Value), vs[j]? = some v → ∃ t, v = Value.int ((k + j : Nat) : Int) t) → IntsAre vs ((List.range' k vs.length).map fun (i : Nat) => (i : Int)) := by
    intro vs
    induction vs with
    | nil => intro k _; exact .nil
    | cons v vs ih =>
      intro k h
      obtain ⟨t, e⟩ := h 0 v rfl
      rw [List.length_cons, List.range'_succ, List.map_cons, e]
      refine .cons _ t (ih (k + 1) fun j v' hv => ?_)
      obtain ⟨t', e'⟩ := h (j + 1) v' (by simpa using hv)
      exact ⟨t', by rw [e']; congr 1; omega⟩
  intro n vs hn h
  subst hn
  rw [List.range_eq_range']
  exact key vs 0 fun j v hv => by simpa using h j v hv

section
variable {prog : Program} {w : World} {A : Around} {E : Value → Shared → Prop} {env : Env}

/-- [x for x in range(b) if ..] -/
theorem ListComp_filter {s : Shared} {iter c : Expr} {x : Str} {px px' : Pos} {scope : Scope} {cl : List (Str × Addr)} {pos : Pos} {Q : Value → Shared → Prop} (pz : Int → Bool)
    (hclos : closureFor scope env = pure cl) (hcell : ∀ y ∈ scope.names, y.2 ≠ .cell) (hkind : scope.kind = .function)
    (hnames : ∀ y ∈ scope.names, y.2 = .local → scope.names.lookup y.1 = some .local) (hx : scope.names.lookup x = some .local) (hdb : (x == ("__debug__" : Str)) = false)
    (h : wpAny (model prog w) A (eval iter env) (fun xv s₁ => Hold (∃ (r : Addr) (b₀ : Int) (t₀ u₀ v₀ : Tok) (n : Nat) (g : Heap) (L : Addr) (m : Str → Option Value) (news : List (Addr × Obj)), xv = .ref r ∧ A.handled = none ∧ IsRange s₁.heap r 0 b₀ 1 t₀ u₀ v₀ ∧ Builtin.Range.small 0 b₀ 1 = true ∧
      Builtin.Range.rangeSize 0 b₀ 1 = (n : Int) ∧ n ≤ sizeLine ∧ Fr g L s₁.heap m ∧ News g L s₁.heap news ∧
      (∀ C i t s₃ m₃ E', s₁.heap.objs.size ≤ C → i < n → s₃.heap.Ns C m₃ → m₃ x = some (.int (i : Int) t) → Fr g L s₃.heap m → News g L s₃.heap news → (∀ b o, s₁.heap.get? b = some o → s₃.heap.get? b = some o) →
        wpAny (model prog w) A (isTrue c (compEnvC scope cl C env) (eval c (compEnvC scope cl C env))) (fun ok s₄ => ok = pz (i : Int) ∧ Keeps s₃ s₄) E' s₃) ∧
      (∀ D h' tk ys k, IntsAre ys (passInts n pz) → Fr g L h' m → News g L h' ((D, listOf ys.toArray k) :: news) → (∀ p ∈ news, p.1 ≠ D) → (∀ b o, s₁.heap.get? b = some o → h'.get? b = some o) → Q (.ref D) { s₁ with heap := h', toks := tk }))) E s)
    (hs : ∀ x, foldedSetIterable iter env x = pure x) :
    wpAny (model prog w) A (eval (.ListComp (.Name x px') [⟨.Name x px, iter, [c], 0⟩] scope pos) env) Q E s := by
  refine wpAny_ListComp_free (fun v => match v with | .int z _ => pz z | _ => false) (fun v y => y = v) hclos hcell hkind hnames hx (wpAny_mono h (fun xv s₁ h₁ => ?_) fun _ _ e => e) hs
  replace h₁ := Hold.out h₁
  obtain ⟨r, b₀, t₀, u₀, v₀, n, g, L, m, news, rfl, hh, hr, hsmall, hsz, hn, F, N, htest, hQ⟩ := h₁
  refine wpAny_pyIter_range hr hsmall ?_
  have up : ∀ h' : Heap, (∀ b o, b ∉ [s₁.heap.objs.size] → (s₁.heap.push { cls := .type "range_iterator", data := .fields #[rawInt 0, rawInt (Builtin.Range.rangeSize 0 b₀ 1), rawInt 1] }).get? b = some o → h'.get? b = some o) →
      ∀ b o, s₁.heap.get? b = some o → h'.get? b = some o := fun h' k b o e => k b o (fun hm => by rw [List.mem_singleton.mp hm] at e; exact Nat.lt_irrefl _ (Heap.lt_size e)) (Heap.get?_push_of_some _ e)
  refine ⟨s₁.heap.objs.size, [s₁.heap.objs.size], [s₁.heap.objs.size], n, _, _, rfl, ((Walks.range hh _ 0 1 n).bound), hn, ?_, ?_, ⟨?_, ?_⟩, ?_⟩
  · show IsRangeIter _ _ _ _ _
    rw [hsz]; simpa using Heap.get?_push_size _ rfl
  · intro b hb
    rw [List.mem_singleton.mp hb, Heap.size_push]
    exact Nat.lt_succ_self _
  · rintro C i v s₃ m₃ E' hC ⟨hi, t, rfl⟩ hns hm hk htk
    have e1 : (0 : Int) + (i : Int) * 1 = (i : Int) := by omega
    rw [e1] at hm
    have := htest C i t s₃ m₃ E' (Nat.le_of_lt (by rw [Heap.size_push] at hC; exact hC)) hi hns hm (F.keeps (up _ hk)) (fun p hp => ⟨up _ hk _ _ (N p hp).1, (N p hp).2⟩) (up _ hk)
    rw [e1]
    exact wpAny_tests_one this
  · rintro C i v s₃ m₃ E' hC ⟨hi, t, rfl⟩ hp hns hm hk htk
    exact wpAny_Name (wpAny_loadName_local (by simp [compEnvC, relabel, hkind]) (lookup_relabel_local hx) hns hm ⟨rfl, _, _, rfl, fun _ _ e => e⟩) hdb
  · intro D h' tk ys vs hD hl hpl hlen hP hF hk
    obtain ⟨k, hpl⟩ := hpl
    have hIv : IntsAre vs ((List.range n).map fun (i : Nat) => (i : Int)) := ints_of_range hlen fun j v hv => by
      obtain ⟨_, t, e⟩ := hP j v hv
      exact ⟨t, by rw [e]; congr 1; omega⟩
    have hD' : s₁.heap.get? D = none := by
      cases e : s₁.heap.get? D with
      | none => rfl
      | some o => rw [Heap.get?_push_of_some _ e] at hD; cases hD
    refine hQ D h' tk ys.toList k (pass_ints hIv hF) (F.keeps (up _ hk)) (fun p hp => ?_) (fun p hp e => ?_) (up _ hk)
    · rcases List.mem_cons.mp hp with rfl | hp
      · exact ⟨hpl, new_off F hD'⟩
      · exact ⟨up _ hk _ _ (N p hp).1, (N p hp).2⟩
    · have q := (N p hp).1
      rw [e, hD'] at q; cases q

theorem reads_ints {h : Heap} : ∀ {vs : List Value} {xs : List Int}, IntsAre vs xs → ∃ as, ReadsAll h vs (xs.map .int) as
  | _, _, .nil => ⟨_, .nil⟩
  | _, _, .cons n t r => let ⟨as, ra⟩ := reads_ints r; ⟨_, .cons (.int n t) ra⟩
end
end Mine

/- part Loop3 -/
namespace Mine
section
variable {prog : Program} {w : World} {A : Around} {E : Value → Shared → Prop} {s : Shared} {env : Env} {h₀ : Heap} {x : Str} {body : List Stmt} {Q : Flow → Shared → Prop}

/-- a loop over a range that turns one int; some other names are stored and forgotten; the ledger stays -/
theorem range_loopS {r : Addr} {a₀ b₀ : Int} {t₀ u₀ v₀ : Tok} (n : Nat) {m₀ : Str → Option Value} {news : List (Addr × Obj)} (y : Str) (stored : List Str) (S : Nat → Int) (Led : List (Addr × Obj) → Prop) {tk₀ : Tok}
    (hh : A.handled = none) (hr : IsRange s.heap r a₀ b₀ 1 t₀ u₀ v₀) (hsmall : Builtin.Range.small a₀ b₀ 1 = true) (hsz : Builtin.Range.rangeSize a₀ b₀ 1 = (n : Int)) (F : Fr h₀ env.locals s.heap m₀) (N : News h₀ env.locals s.heap news)
    (hy : m₀ y = some (.int (S 0) tk₀)) (hled : Led news)
    (turn : ∀ i t ta (u : Str → Option Value) nx h tk own, i < n → Led nx → OwnOff own (nx.map (·.1)) → Fr h₀ env.locals h (fun z => if z = x then some (.int (a₀ + (i : Int)) t) else if z = y then some (.int (S i) ta) else if stored.contains z = true then u z else m₀ z) → News h₀ env.locals h (nx ++ own) →
      wpAny (model prog w) A (execs body env) (InvPostG h₀ env.locals (fun m' nx' => Led nx' ∧ (∃ tb, m' y = some (.int (S (i + 1)) tb)) ∧ ∀ z, z ≠ x → z ≠ y → stored.contains z = false → m' z = m₀ z) own { s with heap := h, toks := tk } Q) E { s with heap := h, toks := tk })
    (done : ∀ (u : Str → Option Value) ta nx h tk, Led nx → Fr h₀ env.locals h (fun z => if z = x then u z else if z = y then some (.int (S n) ta) else if stored.contains z = true then u z else m₀ z) → News h₀ env.locals h nx → Q .next { s with heap := h, toks := tk }) :
    wpAny (model prog w) A (pyIter (.ref r)) (fun it s₂ => LoopAtV prog w A h₀ env x body Q E it s₂) E s := by
  refine wpAny_pyIter_range hr hsmall ?_
  have W : Walks prog w A s.heap.objs.size [s.heap.objs.size] [s.heap.objs.size] n (fun i v => i < n ∧ ∃ t, v = .int (a₀ + i * 1) t)
      (fun i h => IsRangeIter h s.heap.objs.size (a₀ + (i : Nat) * 1) ((n : Int) - (i : Nat)) 1) := (Walks.range hh _ a₀ 1 n).bound
  refine kdr_loop (fun i m nx => Led nx ∧ (∃ tb, m y = some (.int (S i) tb)) ∧ ∀ z, z ≠ x → z ≠ y → stored.contains z = false → m z = m₀ z) W (fun _ h => h) (fun _ h => h) ?_ ?_ ?_ ?_ (by show IsRangeIter _ _ _ _ _; rw [hsz]; simpa using Heap.get?_push_size _ rfl) (F.push _)
    (fun p hp => ⟨Heap.get?_push_of_some _ (N p hp).1, (N p hp).2⟩) ⟨hled, ⟨tk₀, hy⟩, fun _ _ _ _ => rfl⟩ ?_ ?_
  · intro i h hi b hb
    rw [List.mem_singleton.mp hb]
    exact ⟨_, hi⟩
  · intro hm
    exact absurd F.ns.lt ((List.mem_singleton.mp hm) ▸ Nat.lt_irrefl _)
  · intro b hb
    rw [List.mem_singleton.mp hb]
    exact next_is_new F
  · intro p hp hI
    exact absurd (Heap.lt_size (N p hp).1) ((List.mem_singleton.mp hI) ▸ Nat.lt_irrefl _)
  · rintro i v m₁ nx h tk own hi ⟨_, t, rfl⟩ hoff ⟨hl, ⟨ta, hv⟩, hm⟩ F₁ N₁
    refine turn i t ta m₁ nx h tk own hi hl hoff ?_ N₁
    have e : (fun z => if z = x then some (Value.int (a₀ + (i : Int) * 1) t) else m₁ z) = fun z => if z = x then some (.int (a₀ + (i : Int)) t) else if z = y then some (.int (S i) ta) else if stored.contains z = true then m₁ z else m₀ z := by
      funext z
      by_cases h1 : z = x
      · simp [h1]
      · simp only [if_neg h1]
        by_cases h2 : z = y
        · subst h2; simp [hv]
        · simp only [if_neg h2]
          cases h3 : stored.contains z with
          | true => simp
          | false => simpa using hm z h1 h2 h3
    rw [e] at F₁
    exact F₁
  · rintro m₁ nx h tk ⟨hl, ⟨ta, hv⟩, hm⟩ F₁ N₁
    refine done m₁ ta nx h tk hl ?_ N₁
    have e : (fun z => if z = x then m₁ z else if z = y then some (.int (S n) ta) else if stored.contains z = true then m₁ z else m₀ z) = m₁ := by
      funext z
      by_cases h1 : z = x
      · simp [h1]
      · simp only [if_neg h1]
        by_cases h2 : z = y
        · subst h2; simp [hv]
        · simp only [if_neg h2]
          cases h3 : stored.contains z with
          | true => simp
          | false => simpa using (hm z h1 h2 h3).symm
    rw [e]; exact F₁

theorem end_S {g h' : Heap} {L : Addr} {m' m₀ : Str → Option Value} {x y : Str} {stored : List Str} {Led : List (Addr × Obj) → Prop} {own nx news' : List (Addr × Obj)} {s₁ : Shared} {tk : Nat} {a c : Int} {tb : Tok} (hc : c = a) (hl : Led nx) (F : Fr g L h' m') (N : News g L h' news') (ho : OwnOff own (nx.map (·.1)))
    (hn : ∀ p ∈ nx, p ∈ news') (hw : ∀ p ∈ own, p ∈ news') (hm : m' y = some (.int c tb)) (hr : ∀ z, z ≠ x → z ≠ y → stored.contains z = false → m' z = m₀ z) :
    InvEndG g L (fun m' nx' => Led nx' ∧ (∃ tb, m' y = some (.int a tb)) ∧ ∀ z, z ≠ x → z ≠ y → stored.contains z = false → m' z = m₀ z) own s₁ { s₁ with heap := h', toks := tk } := by
  subst hc
  exact InvEndG.intro F N ⟨hl, ⟨tb, hm⟩, hr⟩ ho hn hw
end
end Mine

/- part C9 -/
namespace Mine
local macro_rules | `(tactic| tb_start) => `(tactic| (refine' code_cellsG ?k1 ?k2 ?k3 ?k5 ?kA ?kF ?kK ?k6 ?k7 ?k8 ?k9 ?kB ?kD ?_ ?c2 ?c3 ?c4; (case kA => exact rfl); (case kF => exact rfl); (case kK => assumption); (case k1 => k_asm); (case k2 => k_asm); (case k3 => k_asm); (case k5 => k_asm); (case k6 => k_is); (case k7 => k_is); (case k8 => ktr_room); (case k9 => exact BindsTo.of_eq rfl); (case kB => exact rfl); (case kD => decide +kernel); (case c2 => exact rfl); (case c3 => exact rfl); (case c4 => exact rfl); k_whole))
local macro_rules | `(tactic| walk_at "pyIter ref") => `(tactic| (k_here; refine Hold.out ?_))
local macro_rules | `(tactic| walk_at "storeName") => `(tactic| (k_here; k_dflt (refine' storeX_C ?k1 ?k2 ?k3 ?k4 ?k5 ?_; (case k1 => k_asm); (case k2 => k_asm); (case k3 => with_unfolding_all rfl); (case k4 => k_extra "cell"); (case k5 => assumption); k_whole; intro h' o' F' N' d1'; (try dsimp only at N'); (try k_sweep))))
local macro_rules | `(tactic| walk_at "eval ListComp") => `(tactic| (k_here; refine Hold.out ?_))

def rootOf (left : Int) : List Int := if 0 ≤ left then passInts (left + 1).toNat (fun t => t * t == left) else []
def addOf (left : Int) : Int := match rootOf left with
  | [] => 0
  | z :: _ => if z = 0 then 1 else 2
def inTo (n : Nat) (one : Int) : Nat → Int
  | 0 => 0
  | j + 1 => inTo n one j + addOf ((n : Int) - one * one - (0 - (n : Int) + (j : Int)) * (0 - (n : Int) + (j : Int)))
def outTo (n : Nat) : Nat → Int
  | 0 => 0
  | i + 1 => if (0 - (n : Int) + (i : Int)) * (0 - (n : Int) + (i : Int)) ≤ (n : Int) then outTo n i + inTo n (0 - (n : Int) + (i : Int)) (2 * n + 1) else outTo n i
def waysOf (n : Nat) : Int := outTo n (2 * n + 1)

theorem mem_led {q : Addr × Obj} {own l : List (Addr × Obj)} (h : q ∈ l ∧ ∀ p ∈ own, p ∈ l) : ∀ p ∈ q :: own, p ∈ l := by
  intro p hp
  rcases List.mem_cons.mp hp with rfl | hp
  · exact h.1
  · exact h.2 p hp

theorem ways_pc (w : World) (loose : List Str) (mean : ExcName → Option Value) (mg mb : Str → Option Value) (n : Nat) (t : Tok) (s : Shared) (hn : n ≤ 16) :
    PC w loose mean mg mb 154 [.int n t] 2 96 s (fun r _ => ∃ t, r = .int (waysOf n) t) := by
  unfold PC
  w_top off
  k_with_none
  intro dp un gd cn cs a ccd cl outer A₀ base h₀ L m Q E B F X T hk hd hu hret
  refine wpAny_call ?_
  k_dflt tb_start
  intro g L' h₁ tk₁ cells FG F₁ N₁ Y₁ B₁ X₁ T₁ kG
  k_cells Y₁
  (try dsimp only)
  (try k_fold)
  k_steps
  refine Hold.go ?_
  with_unfolding_all refine' range_loopS (2 * n + 1) (Str.ofString "found") ["other", "root"] (outTo n) (fun nx => ∃ (o : Obj) (v : Option Value), nx = [(L' + 1, o)] ∧ o.data = .cell v) ?hh ?hr ?hs ?hz ?hF ?hN ?hy ?hl ?turn ?done
  case hh => rfl
  case hr => assumption
  case hs => exact small_one (by omega) (by omega) (by omega) (by omega)
  case hz => rw [rangeSize_one]; split <;> omega
  case hF => k_asm
  case hN => k_asm
  case hy => with_unfolding_all rfl
  case hl => exact ⟨_, _, rfl, by assumption⟩
  case done =>
    intro u ta nx h tk hl Fd Nd
    (try k_fold)
    k_steps
    exact hret _ _ _ (kept kG (by assumption)) ⟨_, rfl⟩
  case turn =>
    rintro i t' ta u _ h tk own hi ⟨o, v, rfl, hv⟩ ho Ft Nt
    by_cases hlt : (0 - (n : Int) + (i : Int)) * (0 - (n : Int) + (i : Int)) ≤ (n : Int)
    · have hS : outTo n (i + 1) = outTo n i + inTo n (0 - (n : Int) + (i : Int)) (2 * n + 1) := by rw [outTo, if_pos hlt]
      (try k_fold)
      k_steps
      refine Hold.go ?_
      with_unfolding_all refine' range_loopS (2 * n + 1) (Str.ofString "found") ["root"] (fun j => outTo n i + inTo n (0 - (n : Int) + (i : Int)) j) (fun nx => ∃ (o : Obj) (v : Option Value), nx = (L' + 1, o) :: own ∧ o.data = .cell v) ?ih ?ir ?is ?iz ?iF ?iN ?iy ?il ?it ?id
      case ih => rfl
      case ir => assumption
      case is => exact small_one (by omega) (by omega) (by omega) (by omega)
      case iz => rw [rangeSize_one]; split <;> omega
      case iF => k_asm
      case iN => k_asm
      case iy => with_unfolding_all exact congrArg (fun x => some (Value.int x ta)) (Int.add_zero _).symm
      case il => exact ⟨o, v, rfl, hv⟩
      case id =>
        rintro u₂ ta₂ _ h₂ tk₂ ⟨o₂, v₂, rfl, hv₂⟩ Fd Nd
        (try k_fold)
        k_steps
        exact end_S hS.symm ⟨o₂, v₂, rfl, hv₂⟩ (by k_asm) (by k_asm) ho (fun p hp => List.mem_append_left _ hp) (fun p hp => List.mem_append_right _ hp) (by with_unfolding_all rfl) (by intro z h1 h2 h3; first | rfl | (simp [h1, h2]; done) | (simp_all; done))
      case it =>
        rintro j t₂ ta₂ u₂ _ h₂ tk₂ own₂ hj ⟨o₂, v₂, rfl, hv₂⟩ ho₂ Ft₂ Nt₂
        have hSj : inTo n (0 - (n : Int) + (i : Int)) (j + 1) = inTo n (0 - (n : Int) + (i : Int)) j + addOf ((n : Int) - (0 - (n : Int) + (i : Int)) * (0 - (n : Int) + (i : Int)) - (0 - (n : Int) + (j : Int)) * (0 - (n : Int) + (j : Int))) := rfl
        have sqi := sq_nonneg' (0 - (n : Int) + (i : Int))
        have sqj := sq_nonneg' (0 - (n : Int) + (j : Int))
        have offA : ∀ p ∈ own ++ own₂, p.1 ≠ L' + 1 := fun p hp => (List.mem_append.mp hp).elim (fun h => ho p h _ (List.Mem.head _)) (fun h => ho₂ p h _ (List.Mem.head _))
        have Nt₃ : News g L' h₂ ((L' + 1, o₂) :: (own ++ own₂)) := Nt₂
        have ho₃ : OwnOff own₂ ((L' + 1) :: own.map (·.1)) := ho₂
        clear Nt₂
        k_with "cell" => exact UpdF.head offA
        by_cases h0 : 0 ≤ (n : Int) - (0 - (n : Int) + (i : Int)) * (0 - (n : Int) + (i : Int)) - (0 - (n : Int) + (j : Int)) * (0 - (n : Int) + (j : Int))
        · (try k_fold)
          k_steps
          refine Hold.go ?_
          with_unfolding_all refine' ListComp_filter (fun z => z * z == (n : Int) - (0 - (n : Int) + (i : Int)) * (0 - (n : Int) + (i : Int)) - (0 - (n : Int) + (j : Int)) * (0 - (n : Int) + (j : Int))) ?c1 ?c2 ?c3 ?c4 ?c5 ?c6 ?c7 ?c8
          case c1 => with_unfolding_all rfl
          case c2 => decide
          case c3 => rfl
          case c4 => decide
          case c5 => rfl
          case c6 => decide
          case c8 => intro z; with_unfolding_all rfl
          case c7 =>
            k_steps
            refine Hold.go ?_
            refine' ⟨_, _, _, _, _, ((n : Int) - (0 - (n : Int) + (i : Int)) * (0 - (n : Int) + (i : Int)) - (0 - (n : Int) + (j : Int)) * (0 - (n : Int) + (j : Int)) + 1).toNat, g, L', _, _, rfl, rfl, ?f1, ?f2, ?f3, ?f4, ?f5, ?f6, ?f7, ?f8⟩
            case f1 => assumption
            case f5 => k_asm
            case f6 => k_asm
            case f2 => exact small_one (by omega) (by omega) (by omega) (by omega)
            case f3 => rw [rangeSize_one]; split <;> omega
            case f4 => exact Nat.le_trans (by omega : _ ≤ 64) (by decide)
            case f7 =>
              intro C q tq s₃ m₃ E' hC hq hns hm F₂ N₂ k₂
              have hq₂ : q < 64 := by omega
              k_steps
              exact ⟨_, _, rfl, fun _ _ e => e⟩
            case f8 =>
              intro D h' tk ys k hI F₂ N₂ O₂ k₂
              have hr : rootOf ((n : Int) - (0 - (n : Int) + (i : Int)) * (0 - (n : Int) + (i : Int)) - (0 - (n : Int) + (j : Int)) * (0 - (n : Int) + (j : Int))) = passInts ((n : Int) - (0 - (n : Int) + (i : Int)) * (0 - (n : Int) + (i : Int)) - (0 - (n : Int) + (j : Int)) * (0 - (n : Int) + (j : Int)) + 1).toNat (fun z => z * z == (n : Int) - (0 - (n : Int) + (i : Int)) * (0 - (n : Int) + (i : Int)) - (0 - (n : Int) + (j : Int)) * (0 - (n : Int) + (j : Int))) := by rw [rootOf, if_pos h0]
              generalize passInts _ _ = zs at hI hr
              cases hI with
              | nil =>
                (try k_fold)
                k_steps
                clear hv₂
                have ea : addOf ((n : Int) - (0 - (n : Int) + (i : Int)) * (0 - (n : Int) + (i : Int)) - (0 - (n : Int) + (j : Int)) * (0 - (n : Int) + (j : Int))) = 0 := by rw [addOf, hr]
                exact end_S (by show _ = outTo n i + inTo n _ (j + 1); rw [hSj, ea, Int.add_zero]) ⟨_, _, rfl, by assumption⟩ (by k_asm) (by k_asm) ho₃ (mem_led ⟨by simp, fun p hp => by simp [hp]⟩) (fun p hp => by simp [hp]) (by with_unfolding_all rfl) (by intro z h1 h2 h3; first | rfl | (simp [h1, h2]; done) | (simp_all; done))
              | cons z tz hI =>
                have ea : addOf ((n : Int) - (0 - (n : Int) + (i : Int)) * (0 - (n : Int) + (i : Int)) - (0 - (n : Int) + (j : Int)) * (0 - (n : Int) + (j : Int))) = if z = 0 then 1 else 2 := by rw [addOf, hr]
                by_cases hz : z = 0
                · rw [if_pos hz] at ea
                  (try k_fold)
                  k_steps
                  clear hv₂
                  all_goals first | (exfalso; rename decide (_ :: _ = []) = true => hc; exact List.cons_ne_nil _ _ (of_decide_eq_true hc)) | skip
                  all_goals first | (exfalso; rename List.getD (_ :: _) _ _ = 0 => hq; exact hz hq) | (exfalso; rename List.getD (_ :: _) _ _ ≠ 0 => hq; exact hq hz) | (exfalso; rename ¬ List.getD (_ :: _) _ _ = 0 => hq; exact hq hz) | skip
                  refine end_S ?_ ⟨_, _, rfl, by assumption⟩ (by k_asm) (by k_asm) ho₃ (mem_led ⟨by simp, fun p hp => by simp [hp]⟩) (fun p hp => by simp [hp]) (by with_unfolding_all rfl) (by intro z h1 h2 h3; first | rfl | (simp [h1, h2]; done) | (simp_all; done))
                  show _ = outTo n i + inTo n _ (j + 1)
                  rw [hSj, ea, Int.add_assoc]
                · rw [if_neg hz] at ea
                  (try k_fold)
                  k_steps
                  clear hv₂
                  all_goals first | (exfalso; rename decide (_ :: _ = []) = true => hc; exact List.cons_ne_nil _ _ (of_decide_eq_true hc)) | skip
                  all_goals first | (exfalso; rename List.getD (_ :: _) _ _ = 0 => hq; exact hz hq) | (exfalso; rename List.getD (_ :: _) _ _ ≠ 0 => hq; exact hq hz) | (exfalso; rename ¬ List.getD (_ :: _) _ _ = 0 => hq; exact hq hz) | skip
                  refine end_S ?_ ⟨_, _, rfl, by assumption⟩ (by k_asm) (by k_asm) ho₃ (mem_led ⟨by simp, fun p hp => by simp [hp]⟩) (fun p hp => by simp [hp]) (by with_unfolding_all rfl) (by intro z h1 h2 h3; first | rfl | (simp [h1, h2]; done) | (simp_all; done))
                  show _ = outTo n i + inTo n _ (j + 1)
                  rw [hSj, ea, Int.add_assoc]
        · (try k_fold)
          k_steps
          clear hv₂
          have ea : addOf ((n : Int) - (0 - (n : Int) + (i : Int)) * (0 - (n : Int) + (i : Int)) - (0 - (n : Int) + (j : Int)) * (0 - (n : Int) + (j : Int))) = 0 := by rw [addOf, rootOf, if_neg h0]
          exact end_S (by show _ = outTo n i + inTo n _ (j + 1); rw [hSj, ea, Int.add_zero]) ⟨_, _, rfl, by assumption⟩ (by k_asm) (by k_asm) ho₃ (mem_led ⟨by simp, fun p hp => by simp [hp]⟩) (fun p hp => by simp [hp]) (by with_unfolding_all rfl) (by intro z h1 h2 h3; first | rfl | (simp [h1, h2]; done) | (simp_all; done))
    · have hS : outTo n (i + 1) = outTo n i := by rw [outTo, if_neg hlt]
      (try k_fold)
      k_steps
      exact end_S hS.symm ⟨o, v, rfl, hv⟩ (by k_asm) (by k_asm) ho (fun p hp => List.mem_append_left _ hp) (fun p hp => List.mem_append_right _ hp) (by with_unfolding_all rfl) (by intro z h1 h2 h3; first | rfl | (simp [h1, h2]; done) | (simp_all; done))
end Mine

/- part C10 -/
namespace Mine
local macro_rules | `(tactic| tb_start) => `(tactic| (refine' code_defG ?k1 ?k2 ?k3 ?k4 ?k5 ?kA ?kF ?kK ?k6 ?k7 ?k8 ?k9 ?kB ?_ ?c2 ?c3 ?c4 ?c5; (case kA => exact rfl); (case kF => exact rfl); (case kK => assumption); (case k1 => k_asm); (case k2 => k_asm); (case k3 => k_asm); (case k4 => exact News.nil); (case k5 => k_asm); (case k6 => k_is); (case k7 => k_is); (case k8 => ktr_room); (case k9 => exact BindsTo.of_eq rfl); (case c5 => decide); (case kB => exact locs rfl); (case c2 => exact rfl); (case c3 => exact rfl); (case c4 => exact rfl); k_whole))

def isNoneF : Nat → Nat → Bool
  | 0, n => n % 8 == 7
  | f + 1, n => if 0 < n ∧ n % 4 = 0 then isNoneF f (n / 4) else n % 8 == 7
def isNone (z : Int) : Bool := isNoneF z.toNat z.toNat

theorem none_pc (w : World) (loose : List Str) (mean : ExcName → Option Value) (mg mb : Str → Option Value) (z : Int) (t : Tok) (s : Shared) (h0 : 0 ≤ z) (h1 : z ≤ 16) :
    PC w loose mean mg mb 161 [.int z t] 1 8 s (fun r _ => r = .bool (isNone z)) := by
  unfold PC
  w_top off
  k_with_none
  intro dp un gd cn cs a ccd cl outer A₀ base h₀ L m Q E B F X T hk hd hu hret
  have hz : z = 0 ∨ z = 1 ∨ z = 2 ∨ z = 3 ∨ z = 4 ∨ z = 5 ∨ z = 6 ∨ z = 7 ∨ z = 8 ∨ z = 9 ∨ z = 10 ∨ z = 11 ∨ z = 12 ∨ z = 13 ∨ z = 14 ∨ z = 15 ∨ z = 16 := by omega
  refine wpAny_call ?_
  k_dflt tb_start
  intro g L' h₁ FG F₁ N₁ B₁ X₁ T₁ kG
  (try dsimp only)
  (try k_fold)
  rcases hz with rfl | rfl | rfl | rfl | rfl | rfl | rfl | rfl | rfl | rfl | rfl | rfl | rfl | rfl | rfl | rfl | rfl
  all_goals
    k_steps
    exact hret _ _ _ (kept kG (by assumption)) (congrArg Value.bool (by decide))
end Mine

/- part C11 -/
namespace Mine
local macro_rules | `(tactic| tb_start) => `(tactic| (refine' code_defG ?k1 ?k2 ?k3 ?k4 ?k5 ?kA ?kF ?kK ?k6 ?k7 ?k8 ?k9 ?kB ?_ ?c2 ?c3 ?c4 ?c5; (case kA => exact rfl); (case kF => exact rfl); (case kK => assumption); (case k1 => k_asm); (case k2 => k_asm); (case k3 => k_asm); (case k4 => assumption); (case k5 => k_asm); (case k6 => k_is); (case k7 => k_is); (case k8 => ktr_room); (case k9 => exact BindsTo.of_eq rfl); (case c5 => decide); (case kB => exact locs rfl); (case c2 => exact rfl); (case c3 => exact rfl); (case c4 => exact rfl); k_whole))

local macro_rules | `(tactic| walk_at "call builtin:len") => `(tactic| (k_here; k_dflt (refine' len_listC ?k1 ?k2 ?k3 ?k4 ?_; (case k1 => k_asm); (case k2 => assumption); (case k3 => assumption); (case k4 => omega); k_whole)))
local macro_rules | `(tactic| walk_at "subscriptTail") => `(tactic| (k_here; k_dflt (refine' item_listC ?k1 ?k2 ?k3 ?k4 ?k5 ?_ ?k7; (case k1 => k_asm); (case k2 => assumption); (case k3 => omega); (case k4 => omega); (case k5 => assumption); (case k7 => with_unfolding_all rfl); k_whole)))
theorem fmod_nine (x : Int) : 0 ≤ x.fmod 9 ∧ x.fmod 9 < 9 := ⟨Int.fmod_nonneg_of_pos x (by decide), Int.fmod_lt_of_pos x (by decide)⟩
theorem take_pc {w : World} {loose : List Str} {mean : ExcName → Option Value} {mg mb : Str → Option Value} {s : Shared} {b i : Addr} {c : Int} {tc t : Tok} {nb ni : Nat} {vs : List Value} {ns : List Int}
    {dp un : Nat} {gd : Option (List Code)} {cn : Str} {cs : Scope} {a : Addr} {ccd : Value} {cl : List (Str × Addr)} {outer : List Env} {A₀ : Around} {base h₀ : Heap} {L : Addr} {m : Str → Option Value}
    {Q E : Value → Shared → Prop}
    (B : Below A₀ base outer h₀) (F : Fr h₀ L s.heap m) (X : (Mine.hd.heap_39 w.params).In h₀) (T : Top Mine.hd.view_39 loose mean mg mb h₀) (hk : cs.kind = .function) (hd : dp + 1 < recursionLimit) (hu : un + 8 < cLine)
    (N : News h₀ L s.heap [(b, listOf [.ref i, .int c tc].toArray nb)]) (qi : s.heap.get? i = some (listOf vs.toArray ni)) (hI : IntsAre vs ns) (hl : ns.length ≤ 63) (hib : i ≠ b) (hc0 : 0 ≤ c) (hc1 : c ≤ 9)
    (h : ∀ v t' tc' h' tk', 0 ≤ v → v < 9 → (∀ x o, x ≠ b → s.heap.get? x = some o → h'.get? x = some o) → h'.get? b = some (listOf [.ref i, .int (c + 1) tc'].toArray nb) → Fr h₀ L h' m → Q (.int v t') { s with heap := h', toks := tk' }) :
    wpAny (model PySem.Challenge.rw_tk0028_01.row.prog w) (ktrTop dp un gd cn cs L a ccd cl outer) (call (.ref 139) [.ref b, .int 9 t]) Q E s := by
  refine wpAny_call ?_
  k_dflt tb_start
  intro g L' h₁ FG F₁ N₁ B₁ X₁ T₁ kG
  have qi' : g.get? i = some (listOf vs.toArray ni) := kG _ _ qi (by simp [hib])
  have hlen := hI.length
  by_cases hcl : c + 1 ≤ (ns.length : Int)
  · obtain ⟨tv, htv⟩ := hI.get c.toNat _ (getD_some (by omega))
    have hitem : vs[(c + 1 - 1).toNat]? = some (.int (ns.getD c.toNat 0) tv) := by rw [show (c + 1 - 1).toNat = c.toNat by omega]; exact htv
    (try dsimp only)
    (try k_fold)
    k_steps
    refine h _ _ _ _ _ ?_ ?_ (fun x o hx e => Fr.keep (by assumption) _ _ (kG _ _ e (by simp [hx]))) (News.get (h₀ := g) (L := L') (by assumption) (List.Mem.head _)) (by assumption)
    · exact (fmod_nine _).1
    · exact (fmod_nine _).2
  · (try dsimp only)
    (try k_fold)
    k_steps
    refine h _ _ _ _ _ ?_ ?_ (fun x o hx e => Fr.keep (by assumption) _ _ (kG _ _ e (by simp [hx]))) (News.get (h₀ := g) (L := L') (by assumption) (List.Mem.head _)) (by assumption)
    · exact (fmod_nine _).1
    · exact (fmod_nine _).2
end Mine

/- part Pure -/
namespace Mine
def toldOf (n : Nat) : List Int := conv (conv (oneOf n) (squaresOf n)) (conv (squaresOf n) (squaresOf n))
def threesOf (k : Nat) : List Int := conv (conv (oneOf k) (trianglesOf k)) (conv (trianglesOf k) (trianglesOf k))
def smallB (l : List Int) : Bool := l.all fun x => decide (x.natAbs < 2 ^ 15)
theorem small_of {l : List Int} (h : smallB l = true) : ∀ x ∈ l, x.natAbs < 2 ^ 15 := fun x hx => of_decide_eq_true (List.all_eq_true.mp h x hx)
def lawA (n : Nat) : Bool := smallB (squaresOf n) && smallB (conv (squaresOf n) (squaresOf n)) && smallB (conv (oneOf n) (squaresOf n)) && smallB (conv (oneOf n) (conv (squaresOf n) (squaresOf n)))
def lawB (n : Nat) : Bool := (List.range n).all fun i => ((toldOf n).getD i 0 == 0) == isNone (i : Int)
def lawC (n : Nat) : Bool := conv (squaresOf n) (conv (oneOf n) (conv (squaresOf n) (squaresOf n))) == toldOf n
def lawD (n : Nat) : Bool := (List.range 9).all fun p => (toldOf n).getD p 0 == waysOf p
def lawE (n : Nat) : Bool := (List.range n).all fun i => i % 4 != 0 || (toldOf n).getD i 0 == (toldOf n).getD (i / 4) 0
def lawF (n : Nat) : Bool := smallB (trianglesOf ((n + 4) / 8)) && smallB (conv (trianglesOf ((n + 4) / 8)) (trianglesOf ((n + 4) / 8))) && smallB (conv (oneOf ((n + 4) / 8)) (trianglesOf ((n + 4) / 8))) && smallB (threesOf ((n + 4) / 8))
def lawG (n : Nat) : Bool := (List.range ((n + 4) / 8)).all fun i => 8 * (threesOf ((n + 4) / 8)).getD i 0 == (toldOf n).getD (8 * i + 3) 0
def lawAll (n : Nat) : Bool := lawA n && lawB n && lawC n && lawD n && lawE n && lawF n && lawG n
theorem law_all {n : Nat} (h0 : 9 ≤ n) (h1 : n ≤ 17) : lawAll n = true := by
  have h : n = 9 ∨ n = 10 ∨ n = 11 ∨ n = 12 ∨ n = 13 ∨ n = 14 ∨ n = 15 ∨ n = 16 ∨ n = 17 := by omega
  rcases h with rfl | rfl | rfl | rfl | rfl | rfl | rfl | rfl | rfl <;> decide +kernel
end Mine

/- part Ints -/
namespace Mine

theorem ints_of_paired {R : Value → Int → Prop} {f : Int → Int} (hR : ∀ v x y, R v x → R v y → x = y) : ∀ {vs ys : List Value} {xs : List Int}, vs.length = xs.length → (∀ (j : Nat) (v : Value), vs[j]? = some v → ∃ x, xs[j]? = some x ∧ R v x) →
    Paired (fun v y => ∃ x t, R v x ∧ y = Value.int (f x) t) vs ys → IntsAre ys (xs.map f)
  | [], _, [], _, _, h => by cases h; exact .nil
  | v :: vs, _, x :: xs, hl, hv, h => by
    cases h with
    | cons h1 h2 =>
      obtain ⟨x', t, hx', rfl⟩ := h1
      obtain ⟨x'', e, hx''⟩ := hv 0 v rfl
      cases e
      rw [hR _ _ _ hx' hx'']
      exact .cons _ t (ints_of_paired hR (Nat.succ.inj hl) (fun j v hj => hv (j + 1) v (by simpa using hj)) h2)
  | [], _, _ :: _, hl, _, _ => by cases hl
  | _ :: _, _, [], hl, _, _ => by cases hl

theorem pair_one {h : Heap} {v : Value} {x y : Int} (p : IsPair h v x) (q : IsPair h v y) : x = y := by
  obtain ⟨a, t, u, n, rfl, e⟩ := p
  obtain ⟨a', t', u', n', e', q⟩ := q
  cases e'
  rw [e] at q
  cases q
  rfl

section
variable {prog : Program} {w : World} {A : Around} {E : Value → Shared → Prop} {env : Env}

/-- [.. for x in range(b)], ints -/
theorem ListComp_intsR {s : Shared} {iter elt : Expr} {x : Str} {px : Pos} {scope : Scope} {cl : List (Str × Addr)} {pos : Pos} {Q : Value → Shared → Prop} (f : Int → Int)
    (hclos : closureFor scope env = pure cl) (hcell : ∀ y ∈ scope.names, y.2 ≠ .cell) (hkind : scope.kind = .function)
    (hnames : ∀ y ∈ scope.names, y.2 = .local → scope.names.lookup y.1 = some .local) (hx : scope.names.lookup x = some .local)
    (h : wpAny (model prog w) A (eval iter env) (fun xv s₁ => Hold (∃ (r : Addr) (b₀ : Int) (t₀ u₀ v₀ : Tok) (n : Nat) (g : Heap) (L : Addr) (m : Str → Option Value) (news : List (Addr × Obj)), xv = .ref r ∧ A.handled = none ∧ IsRange s₁.heap r 0 b₀ 1 t₀ u₀ v₀ ∧ Builtin.Range.small 0 b₀ 1 = true ∧
      Builtin.Range.rangeSize 0 b₀ 1 = (n : Int) ∧ n ≤ sizeLine ∧ Fr g L s₁.heap m ∧ News g L s₁.heap news ∧
      (∀ C i t s₃ m₃ E', s₁.heap.objs.size ≤ C → i < n → s₃.heap.Ns C m₃ → m₃ x = some (.int (i : Int) t) → Fr g L s₃.heap m → News g L s₃.heap news → (∀ b o, s₁.heap.get? b = some o → s₃.heap.get? b = some o) →
        wpAny (model prog w) A (eval elt (compEnvC scope cl C env)) (fun y s₄ => Hold ((∃ t, y = .int (f (i : Int)) t) ∧ Keeps s₃ s₄)) E' s₃) ∧
      (∀ D h' tk ys k, IntsAre ys (((List.range n).map fun (i : Nat) => (i : Int)).map f) → Fr g L h' m → News g L h' ((D, listOf ys.toArray k) :: news) → (∀ p ∈ news, p.1 ≠ D) → (∀ b o, s₁.heap.get? b = some o → h'.get? b = some o) → Q (.ref D) { s₁ with heap := h', toks := tk }))) E s)
    (hs : ∀ x, foldedSetIterable iter env x = pure x) :
    wpAny (model prog w) A (eval (.ListComp elt [⟨.Name x px, iter, [], 0⟩] scope pos) env) Q E s := by
  refine wpAny_ListComp_free (fun _ => true) (fun v y => ∃ z t, (∃ t', v = Value.int z t') ∧ y = Value.int (f z) t) hclos hcell hkind hnames hx (wpAny_mono h (fun xv s₁ h₁ => ?_) fun _ _ e => e) hs
  replace h₁ := Hold.out h₁
  obtain ⟨r, b₀, t₀, u₀, v₀, n, g, L, m, news, rfl, hh, hr, hsmall, hsz, hn, F, N, helt, hQ⟩ := h₁
  refine wpAny_pyIter_range hr hsmall ?_
  have up : ∀ h' : Heap, (∀ b o, b ∉ [s₁.heap.objs.size] → (s₁.heap.push { cls := .type "range_iterator", data := .fields #[rawInt 0, rawInt (Builtin.Range.rangeSize 0 b₀ 1), rawInt 1] }).get? b = some o → h'.get? b = some o) →
      ∀ b o, s₁.heap.get? b = some o → h'.get? b = some o := fun h' k b o e => k b o (fun hm => by rw [List.mem_singleton.mp hm] at e; exact Nat.lt_irrefl _ (Heap.lt_size e)) (Heap.get?_push_of_some _ e)
  refine ⟨s₁.heap.objs.size, [s₁.heap.objs.size], [s₁.heap.objs.size], n, _, _, rfl, ((Walks.range hh _ 0 1 n).bound), hn, ?_, ?_, ⟨?_, ?_⟩, ?_⟩
  · show IsRangeIter _ _ _ _ _
    rw [hsz]; simpa using Heap.get?_push_size _ rfl
  · intro b hb
    rw [List.mem_singleton.mp hb, Heap.size_push]
    exact Nat.lt_succ_self _
  · rintro C i v s₃ m₃ E' hC ⟨hi, t, rfl⟩ hns hm hk htk
    exact wpAny_tests_nil ⟨rfl, _, _, rfl, fun _ _ e => e⟩
  · rintro C i v s₃ m₃ E' hC ⟨hi, t, rfl⟩ hp hns hm hk htk
    have e1 : (0 : Int) + (i : Int) * 1 = (i : Int) := by omega
    rw [e1] at hm
    refine wpAny_mono (helt C i t s₃ m₃ E' (Nat.le_of_lt (by rw [Heap.size_push] at hC; exact hC)) hi hns hm (F.keeps (up _ hk)) (fun p hp => ⟨up _ hk _ _ (N p hp).1, (N p hp).2⟩) (up _ hk)) (fun y s₄ h₄ => ?_) fun _ _ e => e
    obtain ⟨⟨u, e⟩, k⟩ := Hold.out h₄
    exact ⟨⟨i, u, ⟨t, by rw [e1]⟩, e⟩, k⟩
  · intro D h' tk ys vs hD hl hpl hlen hP hF hk
    obtain ⟨k, hpl⟩ := hpl
    rw [List.filter_eq_self.mpr (fun _ _ => rfl)] at hF
    have hI := ints_of_paired (R := fun v z => ∃ t', v = Value.int z t') (fun v a b ha hb => by obtain ⟨_, rfl⟩ := ha; obtain ⟨_, e⟩ := hb; cases e; rfl) (xs := (List.range n).map fun (i : Nat) => (i : Int)) (by simp [hlen]) (fun j v hv => by
      obtain ⟨hj, t, e⟩ := hP j v hv
      refine ⟨(j : Int), by simp [hj], t, ?_⟩
      rw [e]; congr 1; omega) hF
    have hD' : s₁.heap.get? D = none := by
      cases e : s₁.heap.get? D with
      | none => rfl
      | some o => rw [Heap.get?_push_of_some _ e] at hD; cases hD
    refine hQ D h' tk ys.toList k hI (F.keeps (up _ hk)) (fun p hp => ?_) (fun p hp e => ?_) (up _ hk)
    · rcases List.mem_cons.mp hp with rfl | hp
      · exact ⟨hpl, new_off F hD'⟩
      · exact ⟨up _ hk _ _ (N p hp).1, (N p hp).2⟩
    · have q := (N p hp).1
      rw [e, hD'] at q; cases q

/-- [.. for x in a list of pairs], ints -/
theorem ListComp_intsP {s : Shared} {iter elt : Expr} {x : Str} {px : Pos} {scope : Scope} {cl : List (Str × Addr)} {pos : Pos} {Q : Value → Shared → Prop} (f : Int → Int)
    (hclos : closureFor scope env = pure cl) (hcell : ∀ y ∈ scope.names, y.2 ≠ .cell) (hkind : scope.kind = .function)
    (hnames : ∀ y ∈ scope.names, y.2 = .local → scope.names.lookup y.1 = some .local) (hx : scope.names.lookup x = some .local)
    (h : wpAny (model prog w) A (eval iter env) (fun xv s₁ => Hold (∃ (xs : List Int) (g : Heap) (L : Addr) (m : Str → Option Value) (news : List (Addr × Obj)), IsPairs s₁.heap xv xs ∧ A.handled = none ∧ xs.length ≤ sizeLine ∧ Fr g L s₁.heap m ∧ News g L s₁.heap news ∧
      (∀ (C i : Nat) (a : Addr) (y : Int) (t u : Tok) (k : Nat) (s₃ : Shared) (m₃ : Str → Option Value) E', s₁.heap.objs.size ≤ C → xs[i]? = some y → s₃.heap.Ns C m₃ → m₃ x = some (.ref a) → s₃.heap.get? a = some { cls := .type "tuple", data := .seq [.int y t, .int 1 u].toArray k } → Fr g L s₃.heap m → News g L s₃.heap news → (∀ b o, s₁.heap.get? b = some o → s₃.heap.get? b = some o) →
        wpAny (model prog w) A (eval elt (compEnvC scope cl C env)) (fun z s₄ => Hold ((∃ t, z = .int (f y) t) ∧ Keeps s₃ s₄)) E' s₃) ∧
      (∀ D h' tk ys k, IntsAre ys (xs.map f) → Fr g L h' m → News g L h' ((D, listOf ys.toArray k) :: news) → (∀ p ∈ news, p.1 ≠ D) → (∀ b o, s₁.heap.get? b = some o → h'.get? b = some o) → Q (.ref D) { s₁ with heap := h', toks := tk }))) E s)
    (hs : ∀ x, foldedSetIterable iter env x = pure x) :
    wpAny (model prog w) A (eval (.ListComp elt [⟨.Name x px, iter, [], 0⟩] scope pos) env) Q E s := by
  rw [eval_ListComp]
  refine wpAny_comprehension_free (use := none) rfl hs hclos hkind hnames (wpAny_mono h (fun xv s₁ h₁ => ?_) fun _ _ e => e)
  replace h₁ := Hold.out h₁
  obtain ⟨xs, g, L, m, news, hp, hh, hn, F, N, helt, hQ⟩ := h₁
  obtain ⟨T, its, k₀, rfl, hol, hlenI, hits⟩ := hp
  have hls : s₁.heap.IsList T its.toArray := ⟨_, hol, rfl, k₀, rfl⟩
  have hne : T ≠ s₁.heap.objs.size := Nat.ne_of_lt (Heap.lt_size hol)
  refine wpAny_pyIter_list hls ?_
  have W := Walks.list (prog := prog) (w := w) hh s₁.heap.objs.size T hne its.toArray
  have hlen' : its.toArray.size = xs.length := by simp [hlenI]
  rw [hlen'] at W
  have up : ∀ (h' : Heap) (o' : Obj), (∀ b o, b ∉ [s₁.heap.objs.size] → (s₁.heap.push o').get? b = some o → h'.get? b = some o) →
      ∀ b o, s₁.heap.get? b = some o → h'.get? b = some o := fun h' o' k b o e => k b o (fun hm => by rw [List.mem_singleton.mp hm] at e; exact Nat.lt_irrefl _ (Heap.lt_size e)) (Heap.get?_push_of_some _ e)
  have hat : ∀ (j : Nat) (v : Value), its[j]? = some v → ∃ x, xs[j]? = some x ∧ IsPair s₁.heap v x := by
    intro j v hv
    have hj : j < xs.length := by rw [← hlenI]; exact (List.getElem?_eq_some_iff.mp hv).1
    obtain ⟨v', h1, h2⟩ := hits j xs[j] (by simp [hj])
    rw [hv] at h1; cases h1
    exact ⟨xs[j], by simp [hj], h2⟩
  refine comp_block_walkC (RR := fun acc C => compPost (model prog w) A E none Q acc C) W hn (fun _ => true) (fun v y => ∃ z t, IsPair s₁.heap v z ∧ y = Value.int (f z) t) hcell hkind hx ⟨⟨_, Heap.get?_push_size _ rfl, rfl, rfl⟩, hls.at fun o e => Heap.get?_push_of_some _ e⟩ ?_ ⟨?_, ?_⟩ ?_
  · intro b hb
    rw [Heap.size_push]
    rcases List.mem_cons.mp hb with rfl | hb
    · exact Nat.lt_succ_self _
    · rw [List.mem_singleton.mp hb]; exact Nat.lt_succ_of_lt (Heap.lt_size hol)
  · intro C i v s₃ m₃ E' hC hi hns hm hk htk
    exact wpAny_tests_nil ⟨rfl, _, _, rfl, fun _ _ e => e⟩
  · intro C i v s₃ m₃ E' hC hi _ hns hm hk htk
    obtain ⟨y, hy, p⟩ := hat i v (by simpa using hi)
    obtain ⟨a, t, u, q, rfl, e⟩ := id p
    refine wpAny_mono (helt C i a y t u q s₃ m₃ E' (Nat.le_of_lt (by rw [Heap.size_push] at hC; exact hC)) hy hns hm (up _ _ hk _ _ e) (F.keeps (up _ _ hk)) (fun p hp => ⟨up _ _ hk _ _ (N p hp).1, (N p hp).2⟩) (up _ _ hk)) (fun z s₄ h₄ => ?_) fun _ _ e => e
    obtain ⟨⟨u, e⟩, k⟩ := Hold.out h₄
    exact ⟨⟨y, u, p, e⟩, k⟩
  · intro D C h' tk m' ys vs hD hC hDC hns hl hpl hlen hP hF hk
    rw [List.filter_eq_self.mpr (fun _ _ => rfl)] at hF
    have hI := ints_of_paired (R := IsPair s₁.heap) (fun v a b ha hb => pair_one ha hb) (xs := xs) hlen (fun j v hv => hat j v (by simpa using hP j v hv)) hF
    have hD' : s₁.heap.get? D = none := by
      cases e : s₁.heap.get? D with
      | none => rfl
      | some o => rw [Heap.get?_push_of_some _ e] at hD; cases hD
    have hC' : s₁.heap.get? C = none := by
      cases e : s₁.heap.get? C with
      | none => rfl
      | some o => rw [Heap.get?_push_of_some _ e] at hC; cases hC
    refine ⟨m', hns, fun h'' hs'' => ?_⟩
    have up' : ∀ b o, s₁.heap.get? b = some o → h''.get? b = some o := fun b o e => hs''.extBut b o (fun e' => by rw [e', hC'] at e; cases e) (up _ _ hk b o e)
    obtain ⟨k, hpl⟩ := hpl
    refine hQ D h'' tk ys.toList k hI (F.keeps up') (fun p hp => ?_) (fun p hp e => ?_) up'
    · rcases List.mem_cons.mp hp with rfl | hp
      · exact ⟨hs''.extBut _ _ hDC hpl, new_off F hD'⟩
      · exact ⟨up' _ _ (N p hp).1, (N p hp).2⟩
    · have q := (N p hp).1
      rw [e, hD'] at q; cases q
end
end Mine

/- part Law2 -/
namespace Mine

theorem squaresOf_length (n : Nat) : (squaresOf n).length = n := sqTo_length n _
theorem trianglesOf_length (n : Nat) : (trianglesOf n).length = n := trTo_length n _
def twoOf (n : Nat) : List Int := conv (oneOf n) (conv (squaresOf n) (squaresOf n))
theorem toldOf_length {n : Nat} (h : 1 ≤ n) : (toldOf n).length = n := by
  rw [toldOf, conv_length, conv_length, conv_length, oneOf_length h, squaresOf_length]; omega
theorem twoOf_length {n : Nat} (h : 1 ≤ n) : (twoOf n).length = n := by
  rw [twoOf, conv_length, conv_length, oneOf_length h, squaresOf_length]; omega
theorem threesOf_length {n : Nat} (h : 1 ≤ n) : (threesOf n).length = n := by
  rw [threesOf, conv_length, conv_length, conv_length, oneOf_length h, trianglesOf_length]; omega

structure Facts (n : Nat) : Prop where
  lo : 9 ≤ n
  hi : n ≤ 17
  a1 : ∀ x ∈ squaresOf n, x.natAbs < 2 ^ 15
  a2 : ∀ x ∈ conv (squaresOf n) (squaresOf n), x.natAbs < 2 ^ 15
  a3 : ∀ x ∈ conv (oneOf n) (squaresOf n), x.natAbs < 2 ^ 15
  a4 : ∀ x ∈ twoOf n, x.natAbs < 2 ^ 15
  b : ∀ i : Nat, i < n → ((toldOf n).getD i 0 == 0) = isNone (i : Int)
  c : conv (squaresOf n) (twoOf n) = toldOf n
  d : ∀ p : Nat, p < 9 → (toldOf n).getD p 0 = waysOf p
  e : ∀ i : Nat, i < n → i % 4 = 0 → (toldOf n).getD i 0 = (toldOf n).getD (i / 4) 0
  f1 : ∀ x ∈ trianglesOf ((n + 4) / 8), x.natAbs < 2 ^ 15
  f2 : ∀ x ∈ conv (trianglesOf ((n + 4) / 8)) (trianglesOf ((n + 4) / 8)), x.natAbs < 2 ^ 15
  f3 : ∀ x ∈ conv (oneOf ((n + 4) / 8)) (trianglesOf ((n + 4) / 8)), x.natAbs < 2 ^ 15
  f4 : ∀ x ∈ threesOf ((n + 4) / 8), x.natAbs < 2 ^ 15
  g : ∀ i : Nat, i < (n + 4) / 8 → 8 * (threesOf ((n + 4) / 8)).getD i 0 = (toldOf n).getD (8 * i + 3) 0

theorem facts {n : Nat} (h0 : 9 ≤ n) (h1 : n ≤ 17) : Facts n := by
  have h := law_all h0 h1
  simp only [lawAll, Bool.and_eq_true] at h
  obtain ⟨⟨⟨⟨⟨⟨hA, hB⟩, hC⟩, hD⟩, hE⟩, hF⟩, hG⟩ := h
  simp only [lawA, Bool.and_eq_true] at hA
  simp only [lawF, Bool.and_eq_true] at hF
  simp only [lawB, List.all_eq_true, List.mem_range, beq_iff_eq] at hB
  simp only [lawD, List.all_eq_true, List.mem_range, beq_iff_eq] at hD
  simp only [lawE, List.all_eq_true, List.mem_range, Bool.or_eq_true, bne_iff_ne, ne_eq, beq_iff_eq] at hE
  simp only [lawG, List.all_eq_true, List.mem_range, beq_iff_eq] at hG
  exact ⟨h0, h1, small_of hA.1.1.1, small_of hA.1.1.2, small_of hA.1.2, small_of hA.2, hB, beq_iff_eq.mp hC, hD, fun i hi h4 => (hE i hi).resolve_left (fun k => k h4), small_of hF.1.1.1, small_of hF.1.1.2, small_of hF.1.2, small_of hF.2, hG⟩

section
variable (w : World) (loose : List Str) (mean : ExcName → Option Value) (mg mb : Str → Option Value)
theorem told_pc (v₁ : Value) (t : Tok) (n : Nat) (s : Shared) (f : Facts n) (p₁ : IsPairs s.heap v₁ (squaresOf n)) : PC w loose mean mg mb 132 [v₁, .int 3 t] 6 192 s (fun r h => IsPairs h r (toldOf n)) := by
  have hlo := f.lo
  have hhi := f.hi
  have e := squaresOf_length n
  have := power3_pc w loose mean mg mb v₁ t (squaresOf n) s p₁ (by omega) (by omega) f.a1 f.a2 (by rw [e]; exact f.a3)
  rw [e] at this
  exact this
theorem two_pc (v₁ : Value) (t : Tok) (n : Nat) (s : Shared) (f : Facts n) (p₁ : IsPairs s.heap v₁ (squaresOf n)) : PC w loose mean mg mb 132 [v₁, .int 2 t] 6 192 s (fun r h => IsPairs h r (twoOf n)) := by
  have hlo := f.lo
  have hhi := f.hi
  have e := squaresOf_length n
  have := power2_pc w loose mean mg mb v₁ t (squaresOf n) s p₁ (by omega) (by omega) f.a1 f.a2
  rw [e] at this
  exact this
theorem smul2_pc (v₁ v₂ : Value) (n : Nat) (s : Shared) (f : Facts n) (p₁ : IsPairs s.heap v₁ (squaresOf n)) (p₂ : IsPairs s.heap v₂ (twoOf n)) : PC w loose mean mg mb 118 [v₁, v₂] 5 160 s (fun r h => IsPairs h r (toldOf n)) := by
  have hlo := f.lo
  have hhi := f.hi
  have e := squaresOf_length n
  have e2 := twoOf_length (n := n) (by omega)
  have := smul_pc w loose mean mg mb v₁ v₂ (squaresOf n) (twoOf n) s p₁ p₂ (by omega) (by omega) f.a1 f.a4
  rw [f.c] at this
  exact this
theorem threes_pc (v₁ : Value) (t : Tok) (n : Nat) (s : Shared) (f : Facts n) (p₁ : IsPairs s.heap v₁ (trianglesOf ((n + 4) / 8))) : PC w loose mean mg mb 132 [v₁, .int 3 t] 6 192 s (fun r h => IsPairs h r (threesOf ((n + 4) / 8))) := by
  have hlo := f.lo
  have hhi := f.hi
  have e := trianglesOf_length ((n + 4) / 8)
  have := power3_pc w loose mean mg mb v₁ t (trianglesOf ((n + 4) / 8)) s p₁ (by omega) (by omega) f.f1 f.f2 (by rw [e]; exact f.f3)
  rw [e] at this
  exact this
end

/-- a pair as data -/
def pairD (x : Int) : PyData := .tuple [.int x, .int 1]
theorem reads_pairs {h : Heap} : ∀ {vs : List Value} {xs : List Int}, vs.length = xs.length → (∀ (i : Nat) (x : Int), xs[i]? = some x → ∃ v, vs[i]? = some v ∧ IsPair h v x) → ∃ as, ReadsAll h vs (xs.map pairD) as
  | [], [], _, _ => ⟨_, .nil⟩
  | v :: vs, x :: xs, hl, r => by
    obtain ⟨v', e, p⟩ := r 0 x rfl
    cases e
    obtain ⟨as, ra⟩ := reads_pair p
    obtain ⟨bs, rb⟩ := reads_pairs (Nat.succ.inj hl) (fun i y hy => r (i + 1) y hy)
    exact ⟨_, .cons ra rb⟩
  | [], _ :: _, hl, _ => by cases hl
  | _ :: _, [], hl, _ => by cases hl
theorem canLay_pairs : ∀ xs : List Int, PyData.canLayAll0 (xs.map pairD) = true
  | [] => rfl
  | x :: xs => by
    show (PyData.canLay0 (pairD x) && PyData.canLayAll0 (xs.map pairD)) = true
    rw [canLay_pairs xs]; rfl
theorem depth_pairs : ∀ xs : List Int, PyData.depthAll (xs.map pairD) ≤ 1
  | [] => by decide
  | x :: xs => by
    show max (PyData.depth (pairD x)) (PyData.depthAll (xs.map pairD)) ≤ 1
    have h1 : PyData.depth (pairD x) = 1 := rfl
    have h2 := depth_pairs xs
    omega
theorem shaped_pairs (xs : List Int) : SeqAt.shaped (.list (xs.map pairD)) = true := by
  show (PyData.canLay0 (.list (xs.map pairD)) && decide (PyData.depth (.list (xs.map pairD)) ≤ 64)) = true
  have h1 : PyData.canLay0 (.list (xs.map pairD)) = true := canLay_pairs xs
  have h2 : PyData.depth (.list (xs.map pairD)) ≤ 64 := by
    show PyData.depthAll (xs.map pairD) + 1 ≤ 64
    have := depth_pairs xs
    omega
  rw [h1, decide_eq_true h2]; rfl
theorem eqv_pairs : ∀ xs : List Int, PyData.eqvAll (xs.map pairD) (xs.map pairD) = true
  | [] => rfl
  | x :: xs => by
    show (PyData.eqv (pairD x) (pairD x) && PyData.eqvAll (xs.map pairD) (xs.map pairD)) = true
    rw [eqv_pairs xs]
    simp [pairD, PyData.eqv, PyData.eqvAll]
theorem pairs_ne_same {prog : Program} {w : World} {A : Around} {E : Value → Shared → Prop} {s : Shared} {v w' : Value} {xs : List Int} {Q : Value → Shared → Prop} (p : IsPairs s.heap v xs) (q : IsPairs s.heap w' xs) (hu : A.units + 64 < cLine) (h : Q (.bool false) s) :
    wpAny (model prog w) A (compareOp .NotEq v w') Q E s := by
  obtain ⟨a, vs, n, rfl, e, l, r⟩ := p
  obtain ⟨b, us, m, rfl, e', l', r'⟩ := q
  obtain ⟨as, ra⟩ := reads_pairs l r
  obtain ⟨bs, rb⟩ := reads_pairs l' r'
  refine SeqAt.compareNe_shaped (.list e rfl rfl (by simpa using ra)) (.list e' rfl rfl (by simpa using rb)) (shaped_pairs xs) (shaped_pairs xs) hu ?_
  have : PyData.eqv (.list (xs.map pairD)) (.list (xs.map pairD)) = true := eqv_pairs xs
  rw [this]; exact h

section
variable {prog : Program} {w : World} {A : Around} {E : Value → Shared → Prop} {s : Shared}
theorem len_any {a : Addr} {l : List Value} {n k : Nat} {Q : Value → Shared → Prop} (ho : s.heap.get? a = some (listOf l.toArray n)) (hl : l.length = k) (hk : k < 2 ^ 63) (h : Q (.int k (s.toks + 1)) { s with toks := s.toks + 1 + 1 }) :
    wpAny (model prog w) A (call (.builtin "len") [.ref a]) Q E s := by
  subst hl
  exact len_list (items := l.toArray) ⟨_, ho, rfl, n, rfl⟩ (by rw [List.size_toArray]; omega) (by rw [List.size_toArray]; exact h)
theorem item_any {a : Addr} {value slice : Expr} {l : List Value} {n : Nat} {k : Int} {u : Tok} {v : Value} {Q : Value → Shared → Prop}
    (ho : s.heap.get? a = some (listOf l.toArray n)) (h0 : 0 ≤ k) (hhi : k < 2 ^ 63) (hx : l[k.toNat]? = some v) (h : Q v s)
    (hs : subscripted slice false (.ref a) (.int k u) = operate [.ref a, .int k u] (getItem (.ref a) (.int k u)) := by with_unfolding_all rfl) :
    wpAny (model prog w) A (subscriptTail value slice (.ref a) (.int k u)) Q E s :=
  have hl : s.heap.IsList a l.toArray := ⟨_, ho, rfl, n, rfl⟩
  tail_any hl.typeIs slot_list_getitem.lookup (wpAny_getItem_list hl h0 hhi (by simpa using hx) h) hs
theorem pair_any {a : Addr} {value slice : Expr} {l : List Value} {n : Nat} {k : Int} {u : Tok} {j : Nat} {v : Value} {Q : Value → Shared → Prop}
    (ho : s.heap.get? a = some { cls := .type "tuple", data := .seq l.toArray n }) (hlo : -(2 ^ 63) ≤ k) (hhi : k < 2 ^ 63) (hj : seqIndex? k l.length = some j) (hx : l[j]? = some v) (h : Q v s)
    (hs : subscripted slice false (.ref a) (.int k u) = operate [.ref a, .int k u] (getItem (.ref a) (.int k u)) := by with_unfolding_all rfl) :
    wpAny (model prog w) A (subscriptTail value slice (.ref a) (.int k u)) Q E s :=
  item_tupleT ⟨_, ho, rfl, n, rfl⟩ hlo hhi hj hx h hs
end

/-- the list told and its items, wherever the ledger stands -/
theorem PairsIn.told {g : Heap} {own : List (Addr × Obj)} {D : Addr} {xs : List Int} (p : PairsIn g own (.ref D) xs) : ∃ (vs : List Value) (n : Nat), vs.length = xs.length ∧ (∀ {h : Heap} {L : Addr} {m : Str → Option Value} {news : List (Addr × Obj)}, Fr g L h m → News g L h news → (∀ q ∈ own, q ∈ news) → h.get? D = some (listOf vs.toArray n)) ∧
    ∀ (i : Nat), i < xs.length → ∃ (a : Addr) (t u : Tok) (k : Nat), vs[i]? = some (.ref a) ∧ ∀ {h : Heap} {L : Addr} {m : Str → Option Value} {news : List (Addr × Obj)}, Fr g L h m → News g L h news → (∀ q ∈ own, q ∈ news) →
      h.get? a = some { cls := .type "tuple", data := .seq [.int (xs.getD i 0) t, .int 1 u].toArray k } := by
  obtain ⟨a, vs, n, e, q, l, r⟩ := p
  cases e
  refine ⟨vs, n, l, fun F N k => q.elim (F.keep _ _) fun m => (N _ (k _ m)).1, fun i hi => ?_⟩
  obtain ⟨v, h1, a, t, u, k, rfl, h2⟩ := r i (xs.getD i 0) (getD_some hi)
  exact ⟨a, t, u, k, h1, fun F N kk => h2.elim (F.keep _ _) fun m => (N _ (kk _ m)).1⟩
theorem pair_ne_same {prog : Program} {w : World} {A : Around} {E : Value → Shared → Prop} {s : Shared} {v w' : Value} {x : Int} {Q : Value → Shared → Prop} (p : IsPair s.heap v x) (q : IsPair s.heap w' x) (hu : A.units + 64 < cLine) (h : Q (.bool false) s) :
    wpAny (model prog w) A (compareOp .NotEq v w') Q E s := pair_ne p q hu (by have e : (x != x) = false := by simp
                                                                               rw [e]; exact h)
end Mine

/- part C12 -/
open Mine
local macro_rules | `(tactic| walk_at "eval ListComp") => `(tactic| (k_here; refine Mine.Hold.out ?_))
local macro_rules | `(tactic| walk_at "call ref") => `(tactic| (k_here; refine Mine.Hold.out ?_))
local macro_rules | `(tactic| walk_at "call ref") => `(tactic| (k_here; (with_unfolding_all refine' use_list (two_pc _ _ _ _ _ _ _ _ _ ?ff ?p1) ?k1 ?k2 ?k3 ?k4 ?k5 ?kK ?k6 ?k7 ?_); (case p1 => exact PairsIn.pairs (by assumption) (by k_asm) (by k_asm) (fun q hq => by simp only [List.mem_append, List.mem_cons, hq, true_or, or_true])); (case ff => assumption); (case k1 => k_asm); (case k2 => k_asm); (case k3 => k_asm); (case k4 => k_asm); (case k5 => k_asm); (case kK => first | exact rfl | assumption); (case k6 => ktr_room); (case k7 => ktr_units); k_whole; intro D9 o9 h9 tk9 F9 N9 P9 R9; (try dsimp only); (try k_fold)))
local macro_rules | `(tactic| walk_at "call ref") => `(tactic| (k_here; (with_unfolding_all refine' use_list (smul2_pc _ _ _ _ _ _ _ _ _ ?ff ?p1 ?p2) ?k1 ?k2 ?k3 ?k4 ?k5 ?kK ?k6 ?k7 ?_); (case p1 => exact PairsIn.pairs (by assumption) (by k_asm) (by k_asm) (fun q hq => by simp only [List.mem_append, List.mem_cons, hq, true_or, or_true])); (case p2 => exact PairsIn.pairs (by assumption) (by k_asm) (by k_asm) (fun q hq => by simp only [List.mem_append, List.mem_cons, hq, true_or, or_true])); (case ff => assumption); (case k1 => k_asm); (case k2 => k_asm); (case k3 => k_asm); (case k4 => k_asm); (case k5 => k_asm); (case kK => first | exact rfl | assumption); (case k6 => ktr_room); (case k7 => ktr_units); k_whole; intro D9 o9 h9 tk9 F9 N9 P9 R9; (try dsimp only); (try k_fold)))
local macro_rules | `(tactic| walk_at "compareOp NotEq ref ref") => `(tactic| (k_here; k_dflt (refine' pairs_ne_same ?k1 ?k2 ?k3 ?_; (case k1 => exact PairsIn.pairs (by assumption) (by k_asm) (by k_asm) (fun q hq => by simp only [List.mem_append, List.mem_cons, hq, true_or, or_true])); (case k2 => exact PairsIn.pairs (by assumption) (by k_asm) (by k_asm) (fun q hq => by simp only [List.mem_append, List.mem_cons, hq, true_or, or_true])); (case k3 => ktr_units); k_whole)))
local macro_rules | `(tactic| walk_at "compareOp NotEq ref ref") => `(tactic| (k_here; k_dflt (refine' pair_ne_same ?k1 ?k2 ?k3 ?_; (case k1 => k_extra "pair"); (case k2 => k_extra "pair"); (case k3 => ktr_units); k_whole)))
local macro_rules | `(tactic| walk_at "call ref") => `(tactic| (k_here; (with_unfolding_all refine' use_int (ways_pc _ _ _ _ _ _ _ _ ?h1) ?k1 ?k2 ?k3 ?k4 ?k5 ?kK ?k6 ?k7 ?_); (case h1 => omega); (case k1 => k_asm); (case k2 => k_asm); (case k3 => k_asm); (case k4 => k_asm); (case k5 => k_asm); (case kK => first | exact rfl | assumption); (case k6 => ktr_room); (case k7 => ktr_units); k_whole; intro t9 h9 tk9 F9 N9; (try dsimp only); (try k_fold)))
local macro_rules | `(tactic| walk_at "call ref") => `(tactic| (k_here; (with_unfolding_all refine' use_list (threes_pc _ _ _ _ _ _ _ _ _ ?ff ?p1) ?k1 ?k2 ?k3 ?k4 ?k5 ?kK ?k6 ?k7 ?_); (case p1 => exact PairsIn.pairs (by assumption) (by k_asm) (by k_asm) (fun q hq => by simp only [List.mem_append, List.mem_cons, hq, true_or, or_true])); (case ff => assumption); (case k1 => k_asm); (case k2 => k_asm); (case k3 => k_asm); (case k4 => k_asm); (case k5 => k_asm); (case kK => first | exact rfl | assumption); (case k6 => ktr_room); (case k7 => ktr_units); k_whole; intro D9 o9 h9 tk9 F9 N9 P9 R9; (try dsimp only); (try k_fold)))
local macro_rules | `(tactic| walk_at "call builtin:len") => `(tactic| (k_here; k_dflt (refine' len_any ?k1 ?k2 ?k3 ?_; (case k1 => k_extra "get"); (case k2 => k_extra "len"); (case k3 => omega); k_whole)))
local macro_rules | `(tactic| walk_at "subscriptTail") => `(tactic| (k_here; k_dflt (refine' item_any ?k1 ?k3 ?k4 ?k5 ?_ ?k7; (case k1 => k_extra "get"); (case k3 => omega); (case k4 => omega); (case k5 => k_extra "item"); (case k7 => with_unfolding_all rfl); k_whole)))
local macro_rules | `(tactic| walk_at "subscriptTail") => `(tactic| (k_here; k_dflt (refine' pair_any ?k2 ?k3 ?k4 ?k5 ?k6 ?_ ?k7; (case k2 => k_extra "getp"); (case k3 => decide); (case k4 => decide); (case k5 => rfl); (case k6 => rfl); (case k7 => with_unfolding_all rfl); k_whole)))
namespace Mine
theorem news_head {h₀ h : Heap} {L : Addr} {q : Addr × Obj} {r : List (Addr × Obj)} (N : News h₀ L h (q :: r)) : News h₀ L h [q] := fun p hp => N p (by rw [List.mem_singleton.mp hp]; exact List.Mem.head _)
theorem after_take {h₀ h h' : Heap} {L b : Addr} {o o' : Obj} {rest : List (Addr × Obj)} (N : News h₀ L h ((b, o) :: rest)) (hoff : ∀ p ∈ rest, p.1 ≠ b) (kp : ∀ x o, x ≠ b → h.get? x = some o → h'.get? x = some o) (qb : h'.get? b = some o') :
    News h₀ L h' ((b, o') :: rest) := by
  intro p hp
  rcases List.mem_cons.mp hp with rfl | hp
  · exact ⟨qb, (N _ (List.Mem.head _)).2⟩
  · have := N p (List.mem_cons_of_mem _ hp)
    exact ⟨kp _ _ (hoff p hp) this.1, this.2⟩
theorem news_swap {h₀ h : Heap} {L : Addr} {a b : List (Addr × Obj)} (N : News h₀ L h (a ++ b)) : News h₀ L h (b ++ a) := fun p hp => N p (List.mem_append.mpr (Or.symm (List.mem_append.mp hp)))
theorem news_told {h₀ h : Heap} {L : Addr} {x y z : Addr × Obj} {a b : List (Addr × Obj)} (N : News h₀ L h (a ++ (x :: y :: z :: b))) : News h₀ L h (x :: y :: z :: (a ++ b)) := by
  intro p hp
  refine N p ?_
  simp only [List.mem_cons, List.mem_append] at hp ⊢
  rcases hp with hp | hp | hp | hp | hp <;> simp [hp]
theorem news_tail₃ {h₀ h : Heap} {L : Addr} {x y z : Addr × Obj} {a : List (Addr × Obj)} (N : News h₀ L h (x :: y :: z :: a)) : News h₀ L h a := fun p hp => N p (List.mem_cons_of_mem _ (List.mem_cons_of_mem _ (List.mem_cons_of_mem _ hp)))
theorem off_two {own : List (Addr × Obj)} {a b : Addr} (h : ∀ p ∈ own, p.1 ≠ a) (k : ∀ p ∈ own, p.1 ≠ b) : OwnOff own [a, b] := by
  intro p hp c hc
  rcases List.mem_cons.mp hc with rfl | hc
  · exact h p hp
  · rw [List.mem_singleton.mp hc]; exact k p hp
theorem news_drop {h₀ h : Heap} {L : Addr} {x y z : Addr × Obj} {a : List (Addr × Obj)} (N : News h₀ L h (x :: y :: z :: a)) : News h₀ L h (x :: y :: a) := by
  intro p hp
  refine N p ?_
  simp only [List.mem_cons] at hp ⊢
  rcases hp with hp | hp | hp <;> simp [hp]
theorem news_five {h₀ h : Heap} {L : Addr} {u v x y z : Addr × Obj} {a b own : List (Addr × Obj)} (N : News h₀ L h (a ++ (b ++ (u :: v :: x :: y :: z :: own)))) : News h₀ L h (x :: y :: z :: own) := by
  intro p hp
  refine N p ?_
  simp only [List.mem_cons, List.mem_append] at hp ⊢
  rcases hp with hp | hp | hp | hp <;> simp [hp]
theorem fmod_four (q : Nat) : (q : Int).fmod 4 = ((q % 4 : Nat) : Int) := by
  rw [Int.fmod_eq_emod_of_nonneg _ (by decide)]; omega
theorem fdiv_four (q : Nat) : (q : Int).fdiv 4 = ((q / 4 : Nat) : Int) := by
  rw [Int.fdiv_eq_ediv_of_nonneg _ (by decide)]; omega
theorem fdiv_eight (q : Nat) : ((q : Int) + 4).fdiv 8 = (((q + 4) / 8 : Nat) : Int) := by
  rw [Int.fdiv_eq_ediv_of_nonneg _ (by decide)]; omega
theorem last_eq {n : Nat} (f : Facts n) : (threesOf ((n + 4) / 8)).map (fun y => 8 * y) = ((List.range ((n + 4) / 8)).map fun (i : Nat) => (i : Int)).map (fun z => (toldOf n).getD (8 * z + 3).toNat 0) := by
  have hlo := f.lo
  apply List.ext_getElem
  · simp [threesOf_length (n := (n + 4) / 8) (by omega)]
  · intro i h1 h2
    have hi : i < (n + 4) / 8 := by simpa using h2
    have h3 : i < (threesOf ((n + 4) / 8)).length := by simpa using h1
    have := f.g i hi
    rw [List.getD_eq_getElem?_getD, List.getElem?_eq_getElem h3] at this
    have e8 : (8 * (i : Int) + 3).toNat = 8 * i + 3 := by omega
    simp only [List.getElem_map, List.getElem_range, e8]
    exact this
theorem news_last {h₀ h : Heap} {L : Addr} {d e₁ e₂ e₃ x y z : Addr × Obj} {a b own : List (Addr × Obj)} (N : News h₀ L h (d :: (a ++ (b ++ (e₁ :: e₂ :: e₃ :: x :: y :: z :: own))))) : News h₀ L h (d :: z :: own) := by
  intro p hp
  refine N p ?_
  simp only [List.mem_cons, List.mem_append] at hp ⊢
  rcases hp with hp | hp | hp <;> simp [hp]
theorem small_map {h₀ h : Heap} {L : Addr} {x : Str} {v : Option Value} {m₀ : Str → Option Value} (F : Fr h₀ L h (fun y => if y = x then v else m₀ y)) : ∃ m₀ : Str → Option Value, Fr h₀ L h (fun y => if y = x then v else m₀ y) := ⟨m₀, F⟩
end Mine
open Mine
theorem PySem.Challenge.cw_tk0028_01_holds : PySem.Challenge.rw_tk0028_01.Holds :=
  Mine.hd (by
  w_strict (
    k_go0
    (all_goals try k_fold)
    k_steps
    refine Hold.go ?_
    rename_i dA ws hA hIw hCw hLw lA di ni hB lB db hC lC hD Fl Nl
    obtain ⟨m₀, Fl⟩ := small_map Fl
    with_unfolding_all refine' take_pc ?B ?F ?X ?T ?hk ?hd ?hu ?N ?qi ?hI ?hl ?hib ?hc0 ?hc1 ?h
    case B => k_asm
    case F => exact Fl
    case X => k_asm
    case T => k_asm
    case hk => rfl
    case hd => ktr_room
    case hu => ktr_units
    case N => exact news_head Nl
    case qi => exact (Nl _ (List.Mem.tail _ (List.Mem.head _))).1
    case hI => assumption
    case hl => omega
    case hib => k_ne
    case hc0 => decide
    case hc1 => decide
    case h =>
      intro v t' tc' h₂ tk₂ hv0 hv1 kp qb F₂
      have N₂ := news_drop (after_take Nl (by k_all) kp qb)
      clear kp qb Nl Fl
      obtain ⟨n, hn⟩ : ∃ n : Nat, (17 : Int) - v = n := ⟨(17 - v).toNat, by omega⟩
      (try k_fold)
      k_steps
      refine Hold.go ?_
      have ff : Facts n := facts (by omega) (by omega)
      have hn9 : 9 ≤ n := ff.lo
      have hn17 : n ≤ 17 := ff.hi
      generalize (17 : Int) - v = z at *
      subst hn
      rename Fr _ _ _ _ => Fl
      rename News _ _ _ _ => Nl
      with_unfolding_all refine' use_list (squares_pc _ _ _ _ _ n _ _ ?s1 ?s2) ?B ?F ?X ?N ?T ?hk ?hd ?hu ?h
      case s1 => omega
      case s2 => omega
      case B => k_asm
      case F => exact Fl
      case X => k_asm
      case N => exact Nl
      case T => k_asm
      case hk => rfl
      case hd => ktr_room
      case hu => ktr_units
      case h =>
        clear Fl Nl
        intro Dq oq h₃ tk₃ F₃ N₃ P₃ R₃
        replace N₃ := news_swap N₃
        simp only [List.cons_append, List.nil_append] at N₃
        (try k_fold)
        k_steps
        refine Hold.go ?_
        rename Fr _ _ _ _ => Fl
        rename News _ _ _ _ => Nl
        with_unfolding_all refine' use_list (told_pc _ _ _ _ _ _ _ n _ ff ?s1) ?B ?F ?X ?N ?T ?hk ?hd ?hu ?h
        case s1 => exact PairsIn.pairs R₃ Fl Nl (fun q hq => by simp only [List.mem_append, List.mem_cons, hq, true_or, or_true])
        case B => k_asm
        case F => exact Fl
        case X => k_asm
        case N => exact Nl
        case T => k_asm
        case hk => rfl
        case hd => ktr_room
        case hu => ktr_units
        case h =>
          clear Fl Nl
          intro Dt ot h₄ tk₄ F₄ N₄ P₄ R₄
          have N₅ := news_told N₄
          clear N₄
          have off₁ := Plainly.offBox (P₄.append P₃) (news_tail₃ N₅) (N₅ _ (List.Mem.head _)).1
          have off₂ := Plainly.offCell (P₄.append P₃) (news_tail₃ N₅) (N₅ _ (List.Mem.tail _ (List.Mem.tail _ (List.Mem.head _)))).1 (by assumption)
          replace R₃ := R₃.mono (nx' := ot ++ oq) (fun q hq => List.mem_append_right _ hq)
          replace R₄ := R₄.mono (nx' := ot ++ oq) (fun q hq => List.mem_append_left _ hq)
          have P₅ := P₄.append P₃
          clear P₃ P₄
          generalize ot ++ oq = own at *
          have offA : OwnOff own [db, _] := off_two off₁ off₂
          obtain ⟨vsT, nT, lenT, getT, itemT⟩ := R₄.told
          rw [toldOf_length (by omega)] at lenT itemT
          k_with "get" => exact getT (by k_asm) (by k_asm) (fun q hq => by simp [hq])
          k_with "len" => exact lenT
          (try k_fold)
          k_steps
          refine Hold.go ?_
          with_unfolding_all refine' ListComp_filter (fun _ => false) ?c1 ?c2 ?c3 ?c4 ?c5 ?c6 ?c7 ?c8
          case c1 => with_unfolding_all rfl
          case c2 => decide
          case c3 => rfl
          case c4 => decide
          case c5 => rfl
          case c6 => decide
          case c8 => intro z; with_unfolding_all rfl
          case c7 =>
            k_steps
            refine Hold.go ?_
            refine' ⟨_, _, _, _, _, n, _, _, _, _, rfl, rfl, ?f1, ?f2, ?f3, ?f4, ?f5, ?f6, ?f7, ?f8⟩
            case f1 => assumption
            case f5 => k_asm
            case f6 => k_asm
            case f2 => exact small_one (by omega) (by omega) (by omega) (by omega)
            case f3 => rw [rangeSize_one]; split <;> omega
            case f4 => exact Nat.le_trans hn17 (by decide)
            case f7 =>
              intro C q tq s₃ m₃ E' hC hq hns hm Fq Nq kq
              obtain ⟨aq, t₁, u₁, k₁, hvq, getq⟩ := itemT q hq
              have hvq' : vsT[((q : Nat) : Int).toNat]? = some (.ref aq) := by rw [Int.toNat_natCast]; exact hvq
              have hb := ff.b q hq
              k_with "item" => exact hvq'
              k_with "getp" => exact getq (by k_asm) (by k_asm) (fun q hq => by simp [hq])
              k_steps
              refine Hold.go ?_
              with_unfolding_all refine' use_any (none_pc _ _ _ _ _ (q : Int) _ _ ?s1 ?s2) ?B ?F ?X ?N ?T ?hk ?hd ?hu ?h
              case s1 => omega
              case s2 => omega
              case B => k_asm
              case F => exact Fq
              case X => k_asm
              case N => exact Nq
              case T => k_asm
              case hk => rfl
              case hd => ktr_room
              case hu => ktr_units
              case h =>
                intro r9 h9 tk9 k9 F9 N9 p9
                subst p9
                rw [hb]
                generalize isNone (q : Int) = bq
                cases bq <;> (k_steps; exact ⟨_, _, rfl, k9⟩)
            case f8 =>
              intro D h' tk ys k hI Fq Nq Oq kq
              have hz : passInts n (fun _ => false) = [] := by simp [passInts]
              rw [hz] at hI
              cases hI
              (try k_fold)
              k_steps
              refine Hold.go ?_
              rename Fr _ _ _ _ => Fl
              rename News _ _ _ _ => Nl
              have N₆ := news_five Nl
              clear Nl
              with_unfolding_all refine' take_pc ?B ?F ?X ?T ?hk ?hd ?hu ?N ?qi ?hI ?hl ?hib ?hc0 ?hc1 ?h
              case B => k_asm
              case F => exact Fl
              case X => k_asm
              case T => k_asm
              case hk => rfl
              case hd => ktr_room
              case hu => ktr_units
              case N => exact news_head N₆
              case qi => exact (N₆ _ (List.Mem.tail _ (List.Mem.head _))).1
              case hI => assumption
              case hl => omega
              case hib => k_ne
              case hc0 => decide
              case hc1 => decide
              case h =>
                intro v₂ t₂' tc₂' h₅ tk₅ hv0' hv1' kp qb F₅
                have N₇ := after_take N₆ (by k_all) kp qb
                clear kp qb N₆ Fl
                obtain ⟨p, hp⟩ : ∃ p : Nat, v₂ = p := ⟨v₂.toNat, by omega⟩
                subst hp
                have hp9 : p < 9 := by omega
                obtain ⟨ap, tp, up, kp, hvp, getp⟩ := itemT p (by omega)
                rw [ff.d p hp9] at getp
                have hvp' : vsT[((p : Nat) : Int).toNat]? = some (.ref ap) := by rw [Int.toNat_natCast]; exact hvp
                k_with "item" => exact hvp'
                k_with "pair" => first
                  | exact ⟨ap, tp, up, kp, rfl, getp (by k_asm) (by k_asm) (fun q hq => by simp [hq])⟩
                  | exact new_pair (by k_asm)
                (try k_fold)
                k_steps
                refine Hold.go ?_
                with_unfolding_all refine' ListComp_filter (fun _ => false) ?d1 ?d2 ?d3 ?d4 ?d5 ?d6 ?d7 ?d8
                case d1 => with_unfolding_all rfl
                case d2 => decide
                case d3 => rfl
                case d4 => decide
                case d5 => rfl
                case d6 => decide
                case d8 => intro z; with_unfolding_all rfl
                case d7 =>
                  k_steps
                  refine Hold.go ?_
                  refine' ⟨_, _, _, _, _, n, _, _, _, _, rfl, rfl, ?f1, ?f2, ?f3, ?f4, ?f5, ?f6, ?f7, ?f8⟩
                  case f1 => assumption
                  case f5 => k_asm
                  case f6 => k_asm
                  case f2 => exact small_one (by omega) (by omega) (by omega) (by omega)
                  case f3 => rw [rangeSize_one]; split <;> omega
                  case f4 => exact Nat.le_trans hn17 (by decide)
                  case f7 =>
                    intro C q tq s₃ m₃ E' hC hq hns hm Fq Nq kq
                    by_cases h4 : q % 4 = 0
                    · have hf : (q : Int).fmod 4 = 0 := by rw [fmod_four, h4]; rfl
                      have hd4 := fdiv_four q
                      obtain ⟨aq, t₁, u₁, k₁, hvq, getq⟩ := itemT q hq
                      obtain ⟨a4, t₄, u₄, k₄, hv4, get4⟩ := itemT (q / 4) (by omega)
                      rw [ff.e q hq h4] at getq
                      have hvq' : vsT[((q : Nat) : Int).toNat]? = some (.ref aq) := by rw [Int.toNat_natCast]; exact hvq
                      have hv4' : vsT[((q : Int).fdiv 4).toNat]? = some (.ref a4) := by rw [hd4, Int.toNat_natCast]; exact hv4
                      k_with "item" => first | exact hvq' | exact hv4'
                      k_with "pair" => first
                        | exact ⟨aq, t₁, u₁, k₁, rfl, getq (by k_asm) (by k_asm) (fun q hq => by simp [hq])⟩
                        | exact ⟨a4, t₄, u₄, k₄, rfl, get4 (by k_asm) (by k_asm) (fun q hq => by simp [hq])⟩
                      k_steps
                      all_goals exact ⟨_, _, rfl, fun _ _ e => e⟩
                    · have hf : ¬ (q : Int).fmod 4 = 0 := by rw [fmod_four]; omega
                      k_steps
                      all_goals first | exact ⟨_, _, rfl, fun _ _ e => e⟩ | (exfalso; exact hf (by assumption)) | (exfalso; omega)
                  case f8 =>
                    intro D₂ h' tk ys k hI Fq Nq Oq kq
                    have hz : passInts n (fun _ => false) = [] := by simp [passInts]
                    rw [hz] at hI
                    cases hI
                    (try k_fold)
                    k_steps
                    refine Hold.go ?_
                    generalize hq8 : ((n : Int) + 4).fdiv 8 = z8 at *
                    rw [fdiv_eight] at hq8
                    subst hq8
                    rename Fr _ _ _ _ => Fl
                    rename News _ _ _ _ => Nl
                    with_unfolding_all refine' use_list (triangles_pc _ _ _ _ _ ((n + 4) / 8) _ _ ?s1 ?s2) ?B ?F ?X ?N ?T ?hk ?hd ?hu ?h
                    case s1 => omega
                    case s2 => omega
                    case B => k_asm
                    case F => exact Fl
                    case X => k_asm
                    case N => exact Nl
                    case T => k_asm
                    case hk => rfl
                    case hd => ktr_room
                    case hu => ktr_units
                    case h =>
                      clear Fl Nl
                      intro Dr od h₆ tk₆ F₆ N₈ P₆ R₆
                      (try k_fold)
                      k_steps
                      refine Hold.go ?_
                      with_unfolding_all refine' ListComp_intsP (fun y => 8 * y) ?e1 ?e2 ?e3 ?e4 ?e5 ?e6 ?e7
                      case e1 => with_unfolding_all rfl
                      case e2 => decide
                      case e3 => rfl
                      case e4 => decide
                      case e5 => rfl
                      case e7 => intro z; with_unfolding_all rfl
                      case e6 =>
                        k_steps
                        refine Hold.go ?_
                        refine' ⟨threesOf ((n + 4) / 8), _, _, _, _, ?g1, rfl, ?g2, ?g3, ?g4, ?g5, ?g6⟩
                        case g3 => k_asm
                        case g4 => k_asm
                        case g1 => exact PairsIn.pairs (by assumption) (by k_asm) (by k_asm) (fun q hq => by simp only [List.mem_append, List.mem_cons, hq, true_or, or_true])
                        case g2 => rw [threesOf_length (by omega)]; exact Nat.le_trans (by omega : (n + 4) / 8 ≤ 64) (by decide)
                        case g5 =>
                          intro C i a y t u k s₃ m₃ E' hC hy hns hm hget Fq Nq kq
                          k_with "getp" => exact hget
                          have hyb : y.natAbs < 2 ^ 15 := ff.f4 _ (List.mem_of_getElem? hy)
                          k_steps
                          exact Hold.go ⟨⟨_, rfl⟩, _, _, rfl, fun _ _ e => e⟩
                        case g6 =>
                          intro D₃ h₇ tk₇ ys₃ k₃ hI₃ Fq Nq Oq kq
                          have N₉ := news_last Nq
                          clear Nq Oq kq
                          (try k_fold)
                          k_steps
                          refine Hold.go ?_
                          with_unfolding_all refine' ListComp_intsR (fun z => (toldOf n).getD (8 * z + 3).toNat 0) ?j1 ?j2 ?j3 ?j4 ?j5 ?j6 ?j7
                          case j1 => with_unfolding_all rfl
                          case j2 => decide
                          case j3 => rfl
                          case j4 => decide
                          case j5 => rfl
                          case j7 => intro z; with_unfolding_all rfl
                          case j6 =>
                            k_steps
                            refine Hold.go ?_
                            refine' ⟨_, _, _, _, _, (n + 4) / 8, _, _, _, _, rfl, rfl, ?f1, ?f2, ?f3, ?f4, ?f5, ?f6, ?f7, ?f8⟩
                            case f1 => assumption
                            case f5 => k_asm
                            case f6 => k_asm
                            case f2 => exact small_one (by omega) (by omega) (by omega) (by omega)
                            case f3 => rw [rangeSize_one]; split <;> omega
                            case f4 => exact Nat.le_trans (by omega : (n + 4) / 8 ≤ 64) (by decide)
                            case f7 =>
                              intro C q tq s₃ m₃ E' hC hq hns hm Fq Nq kq
                              obtain ⟨a8, t₈, u₈, k₈, hv8, get8⟩ := itemT (8 * q + 3) (by omega)
                              have e8 : (8 * (q : Int) + 3).toNat = 8 * q + 3 := by omega
                              have hv8' : vsT[(8 * (q : Int) + 3).toNat]? = some (.ref a8) := by rw [e8]; exact hv8
                              rw [← e8] at get8
                              k_with "item" => exact hv8'
                              k_with "getp" => exact get8 (by k_asm) (by k_asm) (fun q hq => by simp [hq])
                              k_steps
                              exact Hold.go ⟨⟨_, rfl⟩, _, _, rfl, fun _ _ e => e⟩
                            case f8 =>
                              intro D₄ h₈ tk₈ ys₄ k₄ hI₄ Fr4 Nr4 Or4 kr4
                              rw [last_eq ff] at hI₃
                              (try k_fold)
                              k_steps))

