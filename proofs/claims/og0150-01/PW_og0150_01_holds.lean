import PyProof.Rows.All
import Wide.All
import OpenK.AllK
import Wide.FinOn
import PyProof.SetKind
import PyProof.TupleKey
import PyProof.SetNew
import PyProof.IsRules
import PyProof.SetRoads
import PyProof.ListCopy
import PyProof.Walks
import Lean
import PySem.Challenge.RW_og0150_01
set_option Elab.async false
namespace Mine
-- part H0
section
open PySem PySem.W PyProof.Rows
set_option maxRecDepth 100000
set_option maxHeartbeats 0
section
local macro_rules | `(tactic| o_head $_H) => `(tactic| assumption)
theorem k0 (h : PySem.Challenge.rw_og0150_01.row.Holds) : PySem.Challenge.rw_og0150_01.row.Holds := by k_head
end

end
-- part L1
section
open PySem PySem.W PyProof.Rows
set_option maxRecDepth 100000
set_option maxHeartbeats 4000000

section
variable {prog : Program} {w : World} {A : Around} {E : Value → Shared → Prop} {s : Shared} {env : Env} {h₀ : Heap} {x : Str} {body : List Stmt} {Q : Flow → Shared → Prop}

/-- an iterator's object -/
def IsIt (o : Obj) : Prop := o.cls = .type "range_iterator" ∨ o.cls = .type "list_iterator" ∨ o.cls = .type "tuple_iterator"

def LpEnd {σ : Type} (h₀ : Heap) (L : Addr) (x : Str) (ps : σ → List (Str × Value)) (stored : List Str) (m₀ : Str → Option Value) (R : σ → List (Addr × Obj) → Prop) (q : Addr × Obj) (s₁ s₂ : Shared) : Prop :=
  ∃ h' tk m' n9 c, s₂ = { s₁ with heap := h', toks := tk } ∧ Fr h₀ L h' m' ∧ News h₀ L h' n9 ∧ q ∈ n9 ∧ (∃ nx, (∀ p ∈ nx, p ∈ n9) ∧ (∀ p ∈ nx, p.1 ≠ q.1) ∧ R c nx) ∧ (∀ p ∈ ps c, m' p.1 = some p.2) ∧ (∀ z, z ≠ x → (∀ p ∈ ps c, z ≠ p.1) → stored.contains z = false → m' z = m₀ z)
def LpPost {σ : Type} (h₀ : Heap) (L : Addr) (x : Str) (ps : σ → List (Str × Value)) (stored : List Str) (m₀ : Str → Option Value) (R : σ → List (Addr × Obj) → Prop) (q : Addr × Obj) (s₁ : Shared) (Q : Flow → Shared → Prop) (f : Flow) (s₂ : Shared) : Prop :=
  match f with
  | .ret v => Q (.ret v) s₂
  | .brk => Q .next s₂
  | _ => LpEnd h₀ L x ps stored m₀ R q s₁ s₂

theorem lp_loop {σ : Type} {I : Addr} {fp : List Addr} {n : Nat} {P : Nat → Value → Prop} {St : Nat → Heap → Prop} {m₀ : Str → Option Value} {news : List (Addr × Obj)} (ps : σ → List (Str × Value)) (stored : List Str) (R : Nat → σ → List (Addr × Obj) → Prop)
    (W : Walks prog w A I fp [I] n P St) (hIfp : I ∈ fp) (hfix : ∀ b ∈ fp, b ≠ I → ∃ o, ∀ i c nx, R i c nx → (b, o) ∈ nx) (hob : ∀ i h, St i h → ∃ o, h.get? I = some o ∧ IsIt o)
    (hLf : env.locals ∉ fp) (hwr : h₀.get? I = none) (hnw : ∀ p ∈ news, p.1 ≠ I) (hst : St 0 s.heap) (F : Fr h₀ env.locals s.heap m₀) (N : News h₀ env.locals s.heap news) (h0 : ∃ c₀, (∀ p ∈ ps c₀, m₀ p.1 = some p.2) ∧ R 0 c₀ news)
    (turn : ∀ i v c (u : Str → Option Value) nx h tk q, i < n → P i v → R i c nx → IsIt q.2 → (∀ p ∈ nx, p.1 ≠ q.1) →
      Fr h₀ env.locals h (fun y => if y = x then some v else kstB (fun z => if stored.contains z then u z else m₀ z) (ps c) y) → News h₀ env.locals h (q :: nx) →
      wpAny (model prog w) A (execs body env) (LpPost h₀ env.locals x ps stored m₀ (R (i + 1)) q { s with heap := h, toks := tk } Q) E { s with heap := h, toks := tk })
    (done : ∀ c (u : Str → Option Value) nx h tk, R n c nx → Fr h₀ env.locals h (fun y => if y = x then u y else kstB (fun z => if stored.contains z then u z else m₀ z) (ps c) y) → News h₀ env.locals h nx → Q .next { s with heap := h, toks := tk }) :
    LoopAtV prog w A h₀ env x body Q E (.ref I) s := by
  obtain ⟨c₀, hk, h0⟩ := h0
  refine ⟨I, fp, [I], n, P, St, m₀, news, (fun i m nx => ∃ c, (∀ p ∈ ps c, m p.1 = some p.2) ∧ (∀ z, z ≠ x → (∀ p ∈ ps c, z ≠ p.1) → stored.contains z = false → m z = m₀ z) ∧ R i c nx), rfl, W, hLf, ?_, ?_, hst, F, N, ⟨c₀, hk, fun _ _ _ _ => rfl, h0⟩, ?_, ?_⟩
  · intro b hb
    rw [List.mem_singleton.mp hb]
    exact hwr
  · intro p hp hI
    exact hnw p hp (List.mem_singleton.mp hI)
  · rintro i v m₁ nx s₁ own ⟨hh', tk', rfl⟩ hin hP ⟨c, h1, h2, hR⟩ hoff hown hget hmem hst' F₁ N₁
    obtain ⟨oI, hoI, hit⟩ := hob _ _ hst'
    have hq : (I, oI) ∈ own := hmem I hIfp hwr oI hoI
    have F₂ := kst_fr h1 h2 F₁
    have N₂ : News h₀ env.locals hh' ((I, oI) :: nx) := fun p hp => by
      rcases List.mem_cons.mp hp with rfl | hp
      · exact N₁ _ (List.mem_append.mpr (.inl hq))
      · exact N₁ p (List.mem_append.mpr (.inr hp))
    refine wpAny_mono (turn i v c m₁ nx hh' tk' (I, oI) hin hP hR hit (fun p hp e => hoff p hp (List.mem_singleton.mpr e)) F₂ N₂) (fun f s₂ p => ?_) fun _ _ e => e
    have fin : LpEnd h₀ env.locals x ps stored m₀ (R (i + 1)) (I, oI) { s with heap := hh', toks := tk' } s₂ →
        LoopStepU h₀ env.locals [I] own (fun m nx => ∃ c, (∀ p ∈ ps c, m p.1 = some p.2) ∧ (∀ z, z ≠ x → (∀ p ∈ ps c, z ≠ p.1) → stored.contains z = false → m z = m₀ z) ∧ R (i + 1) c nx) { s with heap := hh', toks := tk' } .next s₂ := by
      rintro ⟨h', tk, m', n9, c', e, F', N', hqn, ⟨nx', hn, ho, hR'⟩, k1, k2⟩
      refine ⟨rfl, h', tk, m', nx', e, F', fun p hp => ?_, fun p hp hI => ho p hp (List.mem_singleton.mp hI), c', k1, k2, hR'⟩
      rcases List.mem_append.mp hp with hp | hp
      · by_cases hI : p.1 = I
        · have e2 := hget p hp
          rw [hI] at e2
          have e3 : hh'.get? I = some oI := hoI
          have : p = (I, oI) := Prod.ext hI (Option.some.inj (e2.symm.trans e3))
          rw [this]
          exact N' _ hqn
        · obtain ⟨o, ho'⟩ := hfix p.1 (hown p hp) hI
          have a1 := (N₁ _ (List.mem_append.mpr (.inr (ho' i c nx hR)))).1
          have a2 := hget p hp
          have : p = (p.1, o) := Prod.ext rfl (Option.some.inj (a2.symm.trans a1))
          rw [this]
          exact N' _ (hn _ (ho' _ c' nx' hR'))
      · exact N' p (hn p hp)
    cases f with
    | ret v => exact .ret p
    | brk => exact .brk p
    | next => exact .next (fin p)
    | cont => exact .cont (fin p)
  · rintro h' tk m' news' F' N' _ ⟨c, h1, h2, hR⟩
    exact done c m' news' h' tk hR (kst_frOut h1 h2 F') N'

theorem for_range {σ : Type} {r : Addr} {b₀ : Int} {t₀ u₀ v₀ : Tok} {n : Nat} {m₀ : Str → Option Value} {news : List (Addr × Obj)} (ps : σ → List (Str × Value)) (stored : List Str) (R : Nat → σ → List (Addr × Obj) → Prop)
    (hh : A.handled = none) (hr : IsRange s.heap r 0 b₀ 1 t₀ u₀ v₀) (hsmall : Builtin.Range.small 0 b₀ 1 = true) (hn : Builtin.Range.rangeSize 0 b₀ 1 = (n : Int)) (F : Fr h₀ env.locals s.heap m₀) (N : News h₀ env.locals s.heap news) (h0 : ∃ c₀, (∀ p ∈ ps c₀, m₀ p.1 = some p.2) ∧ R 0 c₀ news)
    (turn : ∀ (i : Nat) t c (u : Str → Option Value) nx h tk q, i < n → R i c nx → IsIt q.2 → (∀ p ∈ nx, p.1 ≠ q.1) →
      Fr h₀ env.locals h (fun y => if y = x then some (.int (i : Int) t) else kstB (fun z => if stored.contains z then u z else m₀ z) (ps c) y) → News h₀ env.locals h (q :: nx) →
      wpAny (model prog w) A (execs body env) (LpPost h₀ env.locals x ps stored m₀ (R (i + 1)) q { s with heap := h, toks := tk } Q) E { s with heap := h, toks := tk })
    (done : ∀ c (u : Str → Option Value) nx h tk, R n c nx → Fr h₀ env.locals h (fun y => if y = x then u y else kstB (fun z => if stored.contains z then u z else m₀ z) (ps c) y) → News h₀ env.locals h nx → Q .next { s with heap := h, toks := tk }) :
    wpAny (model prog w) A (pyIter (.ref r)) (fun it s₂ => LoopAtV prog w A h₀ env x body Q E it s₂) E s := by
  refine wpAny_pyIter_range hr hsmall ?_
  have W : Walks prog w A s.heap.objs.size [s.heap.objs.size] [s.heap.objs.size] n (fun i v => i < n ∧ ∃ t, v = .int (0 + i * 1) t)
      (fun i h => IsRangeIter h s.heap.objs.size (0 + (i : Nat) * 1) ((n : Int) - (i : Nat)) 1) := (Walks.range hh _ 0 1 n).bound
  refine lp_loop ps stored R W (.head _) ?_ ?_ ?_ (next_is_new F) ?_ (by show IsRangeIter _ _ _ _ _; rw [hn]; simpa using Heap.get?_push_size _ rfl) (F.push _) (fun p hp => ⟨Heap.get?_push_of_some _ (N p hp).1, (N p hp).2⟩) h0 ?_ ?_
  · intro b hb hne
    exact absurd (List.mem_singleton.mp hb) hne
  · intro i h hi
    exact ⟨_, hi, .inl rfl⟩
  · intro hm
    exact absurd F.ns.lt ((List.mem_singleton.mp hm) ▸ Nat.lt_irrefl _)
  · intro p hp hI
    exact absurd (Heap.lt_size (N p hp).1) (hI ▸ Nat.lt_irrefl _)
  · rintro i v c u nx h tk q hi ⟨_, t, rfl⟩ hR hit hoff F₁ N₁
    have e1 : (0 : Int) + (i : Int) * 1 = (i : Int) := by omega
    rw [e1] at F₁
    exact turn i t c u nx h tk q hi hR hit hoff F₁ N₁
  · exact done

theorem for_list {σ : Type} {l : Addr} {vs : List Value} {nn : Nat} {m₀ : Str → Option Value} {news : List (Addr × Obj)} (ps : σ → List (Str × Value)) (stored : List Str) (R : Nat → σ → List (Addr × Obj) → Prop)
    (hh : A.handled = none) (hl : ∀ i c nx, R i c nx → (l, listOf vs.toArray nn) ∈ nx) (F : Fr h₀ env.locals s.heap m₀) (N : News h₀ env.locals s.heap news) (h0 : ∃ c₀, (∀ p ∈ ps c₀, m₀ p.1 = some p.2) ∧ R 0 c₀ news)
    (turn : ∀ (i : Nat) v c (u : Str → Option Value) nx h tk q, i < vs.length → vs[i]? = some v → R i c nx → IsIt q.2 → (∀ p ∈ nx, p.1 ≠ q.1) →
      Fr h₀ env.locals h (fun y => if y = x then some v else kstB (fun z => if stored.contains z then u z else m₀ z) (ps c) y) → News h₀ env.locals h (q :: nx) →
      wpAny (model prog w) A (execs body env) (LpPost h₀ env.locals x ps stored m₀ (R (i + 1)) q { s with heap := h, toks := tk } Q) E { s with heap := h, toks := tk })
    (done : ∀ c (u : Str → Option Value) nx h tk, R vs.length c nx → Fr h₀ env.locals h (fun y => if y = x then u y else kstB (fun z => if stored.contains z then u z else m₀ z) (ps c) y) → News h₀ env.locals h nx → Q .next { s with heap := h, toks := tk }) :
    wpAny (model prog w) A (pyIter (.ref l)) (fun it s₂ => LoopAtV prog w A h₀ env x body Q E it s₂) E s := by
  obtain ⟨c₀, hk, h0'⟩ := id h0
  have hol : s.heap.get? l = some (listOf vs.toArray nn) := (N _ (hl _ _ _ h0')).1
  have hls : s.heap.IsList l vs.toArray := ⟨_, hol, rfl, nn, rfl⟩
  have hne : l ≠ s.heap.objs.size := Nat.ne_of_lt (Heap.lt_size hol)
  refine wpAny_pyIter_list hls ?_
  have W := Walks.list (prog := prog) (w := w) hh s.heap.objs.size l hne vs.toArray
  have hlen : vs.toArray.size = vs.length := by simp
  rw [hlen] at W
  refine lp_loop ps stored R W (.head _) ?_ ?_ ?_ (next_is_new F) ?_ ⟨⟨_, Heap.get?_push_size _ rfl, rfl, rfl⟩, hls.at fun o e => Heap.get?_push_of_some _ e⟩ (F.push _) (fun p hp => ⟨Heap.get?_push_of_some _ (N p hp).1, (N p hp).2⟩) h0 ?_ ?_
  · intro b hb hne
    rcases List.mem_cons.mp hb with e | hb
    · exact absurd e hne
    · exact ⟨listOf vs.toArray nn, fun i c nx hR => by rw [List.mem_singleton.mp hb]; exact hl i c nx hR⟩
  · rintro i h ⟨⟨o, ho, hc, _⟩, _⟩
    exact ⟨o, ho, .inr (.inl hc)⟩
  · intro hm
    rcases List.mem_cons.mp hm with e | hm
    · exact absurd F.ns.lt (e ▸ Nat.lt_irrefl _)
    · exact (N _ (hl _ _ _ h0')).2.1 ((List.mem_singleton.mp hm).symm)
  · intro p hp hI
    exact absurd (Heap.lt_size (N p hp).1) (hI ▸ Nat.lt_irrefl _)
  · rintro i v c u nx h tk q hi hP hR hit hoff F₁ N₁
    exact turn i v c u nx h tk q hi (by simpa using hP) hR hit hoff F₁ N₁
  · exact done

theorem for_tuple {σ : Type} {l : Addr} {vs : List Value} {m₀ : Str → Option Value} {news : List (Addr × Obj)} (ps : σ → List (Str × Value)) (stored : List Str) (R : Nat → σ → List (Addr × Obj) → Prop)
    (hh : A.handled = none) (hl : ∀ i c nx, R i c nx → (l, ({ cls := .type "tuple", data := .seq vs.toArray } : Obj)) ∈ nx) (F : Fr h₀ env.locals s.heap m₀) (N : News h₀ env.locals s.heap news) (h0 : ∃ c₀, (∀ p ∈ ps c₀, m₀ p.1 = some p.2) ∧ R 0 c₀ news)
    (turn : ∀ (i : Nat) v c (u : Str → Option Value) nx h tk q, i < vs.length → vs[i]? = some v → R i c nx → IsIt q.2 → (∀ p ∈ nx, p.1 ≠ q.1) →
      Fr h₀ env.locals h (fun y => if y = x then some v else kstB (fun z => if stored.contains z then u z else m₀ z) (ps c) y) → News h₀ env.locals h (q :: nx) →
      wpAny (model prog w) A (execs body env) (LpPost h₀ env.locals x ps stored m₀ (R (i + 1)) q { s with heap := h, toks := tk } Q) E { s with heap := h, toks := tk })
    (done : ∀ c (u : Str → Option Value) nx h tk, R vs.length c nx → Fr h₀ env.locals h (fun y => if y = x then u y else kstB (fun z => if stored.contains z then u z else m₀ z) (ps c) y) → News h₀ env.locals h nx → Q .next { s with heap := h, toks := tk }) :
    wpAny (model prog w) A (pyIter (.ref l)) (fun it s₂ => LoopAtV prog w A h₀ env x body Q E it s₂) E s := by
  obtain ⟨c₀, hk, h0'⟩ := id h0
  have hol : s.heap.get? l = some { cls := .type "tuple", data := .seq vs.toArray } := (N _ (hl _ _ _ h0')).1
  have hls : s.heap.IsTuple l vs.toArray := ⟨_, hol, rfl, _, rfl⟩
  have hne : l ≠ s.heap.objs.size := Nat.ne_of_lt (Heap.lt_size hol)
  refine wpAny_pyIter_tuple hls ?_
  have W := Walks.tuple (prog := prog) (w := w) hh s.heap.objs.size l hne vs.toArray
  have hlen : vs.toArray.size = vs.length := by simp
  rw [hlen] at W
  refine lp_loop ps stored R W (.head _) ?_ ?_ ?_ (next_is_new F) ?_ ⟨⟨_, Heap.get?_push_size _ rfl, rfl, rfl⟩, hls.at fun o e => Heap.get?_push_of_some _ e⟩ (F.push _) (fun p hp => ⟨Heap.get?_push_of_some _ (N p hp).1, (N p hp).2⟩) h0 ?_ ?_
  · intro b hb hne
    rcases List.mem_cons.mp hb with e | hb
    · exact absurd e hne
    · exact ⟨_, fun i c nx hR => by rw [List.mem_singleton.mp hb]; exact hl i c nx hR⟩
  · rintro i h ⟨⟨o, ho, hc, _⟩, _⟩
    exact ⟨o, ho, .inr (.inr hc)⟩
  · intro hm
    rcases List.mem_cons.mp hm with e | hm
    · exact absurd F.ns.lt (e ▸ Nat.lt_irrefl _)
    · exact (N _ (hl _ _ _ h0')).2.1 ((List.mem_singleton.mp hm).symm)
  · intro p hp hI
    exact absurd (Heap.lt_size (N p hp).1) (hI ▸ Nat.lt_irrefl _)
  · rintro i v c u nx h tk q hi hP hR hit hoff F₁ N₁
    exact turn i v c u nx h tk q hi (by simpa using hP) hR hit hoff F₁ N₁
  · exact done

theorem LpEnd.intro {σ : Type} {L : Addr} {ps : σ → List (Str × Value)} {stored : List Str} {m₀ : Str → Option Value} {R : σ → List (Addr × Obj) → Prop} {q : Addr × Obj} {s₁ : Shared} {h' : Heap} {tk : Nat} {m' : Str → Option Value} {tl nx : List (Addr × Obj)} (c : σ)
    (F : Fr h₀ L h' m') (N : News h₀ L h' (tl ++ (q :: nx))) (h1 : ∀ p ∈ tl, p.1 ≠ q.1) (h2 : ∀ p ∈ nx, p.1 ≠ q.1) (hR : R c (tl ++ nx)) (hk : ∀ p ∈ ps c, m' p.1 = some p.2) (hm : ∀ z, z ≠ x → (∀ p ∈ ps c, z ≠ p.1) → stored.contains z = false → m' z = m₀ z) :
    LpEnd h₀ L x ps stored m₀ R q s₁ { s₁ with heap := h', toks := tk } := by
  refine ⟨h', tk, m', _, c, rfl, F, N, List.mem_append.mpr (.inr (.head _)), ⟨tl ++ nx, fun p hp => ?_, fun p hp => ?_, hR⟩, hk, hm⟩
  · rcases List.mem_append.mp hp with hp | hp
    · exact List.mem_append.mpr (.inl hp)
    · exact List.mem_append.mpr (.inr (.tail _ hp))
  · rcases List.mem_append.mp hp with hp | hp
    · exact h1 p hp
    · exact h2 p hp
end

section
variable {prog : Program} {w : World} {A : Around} {E : Value → Shared → Prop} {s : Shared} {h₀ : Heap} {L l : Addr} {vs : List Value} {n : Nat} {news : List (Addr × Obj)} {Q : Value → Shared → Prop}
theorem len_led (N : News h₀ L s.heap news) (hm : (l, listOf vs.toArray n) ∈ news) (hz : vs.length ≤ 1000000) (h : Q (.int vs.length (s.toks + 1)) { s with toks := s.toks + 1 + 1 }) :
    wpAny (model prog w) A (call (.builtin "len") [.ref l]) Q E s := by
  have hl := News.isList N hm
  have e : (vs.toArray.size : Int) = vs.length := by simp
  refine len_list hl (by rw [e]; omega) ?_
  rw [e]
  exact h
theorem item_led {value slice : PySem.Expr} {k : Int} {u : Tok} {v : Value} (N : News h₀ L s.heap news) (hm : (l, listOf vs.toArray n) ∈ news) (h0 : 0 ≤ k) (h1 : k < 1000000) (hx : vs[k.toNat]? = some v) (h : Q v s)
    (hs : subscripted slice false (.ref l) (.int k u) = operate [.ref l, .int k u] (getItem (.ref l) (.int k u)) := by with_unfolding_all rfl) :
    wpAny (model prog w) A (subscriptTail value slice (.ref l) (.int k u)) Q E s :=
  tail_any (News.isList N hm).typeIs slot_list_getitem.lookup (wpAny_getItem_list (News.isList N hm) h0 (by omega) (by simpa using hx) h) hs
end
section
variable {prog : Program} {w : World} {A : Around} {E : Value → Shared → Prop} {s : Shared} {h₀ : Heap} {L l : Addr} {m : Str → Option Value} {vs : List Value} {n : Nat} {news : List (Addr × Obj)} {Q : Value → Shared → Prop}
theorem upto_led {value slice : PySem.Expr} {k : Nat} {u : Tok} (F : Fr h₀ L s.heap m) (N : News h₀ L s.heap news) (hm : (l, listOf vs.toArray n) ∈ news) (hz : vs.length ≤ 1000000) (hk : k ≤ vs.length)
    (h : ∀ D h', Fr h₀ L h' m → News h₀ L h' ((D, listOf (vs.take k).toArray 0) :: news) → (∀ p ∈ news, p.1 ≠ D) → Q (.ref D) { s with heap := h' })
    (hs : subscripted slice false (.ref l) (.ref s.heap.objs.size) = operate [.ref s.heap.objs.size, .ref l] (getItem (.ref l) (.ref s.heap.objs.size)) := by with_unfolding_all rfl)
    (ht : ∀ r, letTemporaryGo value (.ref l) r = pure () := by intro _; with_unfolding_all rfl) :
    wpAny (model prog w) A (subscriptTail value slice (.ref l) (.ref s.heap.objs.size)) Q E { s with heap := s.heap.push { cls := .type "slice", data := .fields #[.none, .int k u, .none] } } := by
  refine slice_list (lo := none) (hi := some (k : Int)) F N (News.isList N hm) .none (.int _ _) (fun h' F' N' => h _ h' F' ?_ fun p hp => Nat.ne_of_lt (Nat.lt_succ_of_lt (Heap.lt_size (N p hp).1))) hs ht (by simp; rw [sizeLine_eq]; omega)
  rw [slicePick_upto vs.toArray k (by simpa using hk)] at N'
  exact N'
theorem from_led {value slice : PySem.Expr} {k : Nat} {u : Tok} (F : Fr h₀ L s.heap m) (N : News h₀ L s.heap news) (hm : (l, listOf vs.toArray n) ∈ news) (hz : vs.length ≤ 1000000) (hk : k ≤ vs.length)
    (h : ∀ D h', Fr h₀ L h' m → News h₀ L h' ((D, listOf (vs.drop k).toArray 0) :: news) → (∀ p ∈ news, p.1 ≠ D) → Q (.ref D) { s with heap := h' })
    (hs : subscripted slice false (.ref l) (.ref s.heap.objs.size) = operate [.ref s.heap.objs.size, .ref l] (getItem (.ref l) (.ref s.heap.objs.size)) := by with_unfolding_all rfl)
    (ht : ∀ r, letTemporaryGo value (.ref l) r = pure () := by intro _; with_unfolding_all rfl) :
    wpAny (model prog w) A (subscriptTail value slice (.ref l) (.ref s.heap.objs.size)) Q E { s with heap := s.heap.push { cls := .type "slice", data := .fields #[.int k u, .none, .none] } } := by
  refine slice_list (lo := some (k : Int)) (hi := none) F N (News.isList N hm) (.int _ _) .none (fun h' F' N' => h _ h' F' ?_ fun p hp => Nat.ne_of_lt (Nat.lt_succ_of_lt (Heap.lt_size (N p hp).1))) hs ht (by simp; rw [sizeLine_eq]; omega)
  rw [slicePick_from vs.toArray k (by simpa using hk)] at N'
  exact N'
theorem add_led {b : Addr} {ws : List Value} {n2 : Nat} (F : Fr h₀ L s.heap m) (N : News h₀ L s.heap news) (hm : (l, listOf vs.toArray n) ∈ news) (hb : (b, listOf ws.toArray n2) ∈ news) (hz : vs.length + ws.length ≤ 1000000)
    (h : ∀ D h', Fr h₀ L h' m → News h₀ L h' ((D, listOf (vs ++ ws).toArray 0) :: news) → (∀ p ∈ news, p.1 ≠ D) → Q (.ref D) { s with heap := h' }) :
    wpAny (model prog w) A (binaryOp .Add (.ref l) (.ref b)) Q E s :=
  add_lists F N (News.isList N hm) (News.isList N hb) (fun h' F' N' => h _ h' F' N' fun p hp => Nat.ne_of_lt (Heap.lt_size (N p hp).1)) (by rw [sizeLine_eq]; omega)
end
theorem hk_none {m₀ : Str → Option Value} : ∀ p ∈ ([] : List (Str × Value)), m₀ p.1 = some p.2 := fun _ h => nomatch h
theorem hk_one {m₀ : Str → Option Value} {y : Str} {v : Value} (h : m₀ y = some v) : ∀ p ∈ [(y, v)], m₀ p.1 = some p.2 := fun p hp => by rw [List.mem_singleton.mp hp]; exact h
theorem hk_two {m₀ : Str → Option Value} {y z : Str} {v u : Value} (h : m₀ y = some v) (k : m₀ z = some u) : ∀ p ∈ [(y, v), (z, u)], m₀ p.1 = some p.2 := fun p hp => by
  rcases List.mem_cons.mp hp with rfl | hp
  · exact h
  · rw [List.mem_singleton.mp hp]; exact k
theorem range_size (n : Nat) : Builtin.Range.rangeSize 0 (n : Int) 1 = (n : Int) := by
  unfold Builtin.Range.rangeSize
  simp
  omega
theorem range_small {n : Nat} (h : n ≤ 1000000) : Builtin.Range.small 0 (n : Int) 1 = true := by
  unfold Builtin.Range.small
  rw [range_size]
  unfold Builtin.Range.rangeFitsLong
  simp
  omega

end
-- part L2
section
open PySem PySem.W PyProof.Rows
set_option maxRecDepth 100000
set_option maxHeartbeats 4000000

section
open PyProof.Rows.LCg PyProof.Rows.LCt
variable {prog : Program} {w : World} {A : Around} {E : Value → Shared → Prop} {s : Shared} {h₀ : Heap} {L : Addr} {m : Str → Option Value} {env : Env}

theorem cend_mono {s₁ : Shared} {I C D : Addr} {oI oC oD : Obj} {S : List (Addr × Obj) → Prop} {r r' : Value → List (Addr × Obj) → Prop} {y : Value} {s₂ : Shared} (h : CompEnd h₀ L m s₁ I oI C oC D oD S r y s₂) (k : ∀ y n, r y n → r' y n) : CompEnd h₀ L m s₁ I oI C oC D oD S r' y s₂ := by
  obtain ⟨h', tk, n, a, b, c, d, e, f⟩ := h
  exact ⟨h', tk, n, a, b, c, d, e, k _ _ f⟩

theorem cend_gr {s₁ : Shared} {I C D : Addr} {oI oC oD : Obj} {S : List (Addr × Obj) → Prop} {r : Value → List (Addr × Obj) → Prop} {y : Value} {h' : Heap} {tk : Nat} {tl news : List (Addr × Obj)} (F : Fr h₀ L h' m) (N : News h₀ L h' (tl ++ ((I, oI) :: (C, oC) :: (D, oD) :: news)))
    (hab : ∀ q ∈ (I, oI) :: (C, oC) :: (D, oD) :: news, ∀ p ∈ tl, p.1 ≠ q.1) (off : Off3 I C D news) (hS : S (tl ++ news)) (hr : r y (tl ++ news)) : CompEnd h₀ L m s₁ I oI C oC D oD S r y { s₁ with heap := h', toks := tk } := by
  refine CompEnd.intro F N (tl ++ news) (fun p hp => ?_) (Off3.of fun p hp => ?_) hS hr
  · rcases List.mem_cons.mp hp with rfl | hp
    · exact List.mem_append.mpr (.inr (.head _))
    rcases List.mem_cons.mp hp with rfl | hp
    · exact List.mem_append.mpr (.inr (.tail _ (.head _)))
    rcases List.mem_cons.mp hp with rfl | hp
    · exact List.mem_append.mpr (.inr (.tail _ (.tail _ (.head _))))
    rcases List.mem_append.mp hp with hp | hp
    · exact List.mem_append.mpr (.inl hp)
    · exact List.mem_append.mpr (.inr (.tail _ (.tail _ (.tail _ hp))))
  · rcases List.mem_append.mp hp with hp | hp
    · exact ⟨hab _ (.head _) p hp, hab _ (.tail _ (.head _)) p hp, hab _ (.tail _ (.tail _ (.head _))) p hp⟩
    · exact off.mem p hp

theorem comp_all {elt : PySem.Expr} {x : Str} {scope : Scope} {cl : List (Str × Addr)} {S : List (Addr × Obj) → Prop} {P : Nat → Value → Prop} {Fin : List Value → List (Addr × Obj) → Prop} {n : Nat} (R : Nat → List Value → List (Addr × Obj) → Prop)
    (turn : ∀ i ys news v I oI C oC D m₂ h tk (E' : Value → Shared → Prop), i < n → P i v → R i ys news → NsObj oC m₂ → m₂ x = some v → Fr h₀ L h m → News h₀ L h ((I, oI) :: (C, oC) :: (D, lst ys) :: news) → Off3 I C D news → ((@Ne Nat I C) ∧ (@Ne Nat I D) ∧ (@Ne Nat C D)) →
      wpAny (model prog w) A (eval elt (compEnvC scope cl C env)) (CompEnd h₀ L m { s with heap := h, toks := tk } I oI C oC D (lst ys) S (fun y news' => R (i + 1) (ys ++ [y]) news')) E' { s with heap := h, toks := tk })
    (fin : ∀ ys news, R n ys news → Fin ys news) : ∀ k i ys news, i + k = n → R i ys news → CompRest prog w A h₀ L m env elt x scope cl s S P Fin k i ys news
  | 0, i, ys, news, e, r => CompRest.zero (fin ys news (by rw [← e]; exact r))
  | k + 1, i, ys, news, e, r => CompRest.succ fun v I oI C oC D m₂ h tk E' hP hC hx F N off ne =>
    wpAny_mono (turn i ys news v I oI C oC D m₂ h tk E' (by omega) hP r hC hx F N off ne) (fun _ _ q => cend_mono q fun y n' r' => comp_all R turn fin k (i + 1) (ys ++ [y]) n' (by omega) r') fun _ _ z => z

theorem comp_test {ct elt : PySem.Expr} {x : Str} {scope : Scope} {cl : List (Str × Addr)} {S : List (Addr × Obj) → Prop} {P : Nat → Value → Prop} {Fin : List Value → List (Addr × Obj) → Prop} {n : Nat} (R : Nat → List Value → List (Addr × Obj) → Prop)
    (turn : ∀ i ys news v I oI C oC D m₂ h tk (E' : Value → Shared → Prop), i < n → P i v → R i ys news → NsObj oC m₂ → m₂ x = some v → Fr h₀ L h m → News h₀ L h ((I, oI) :: (C, oC) :: (D, lst ys) :: news) → Off3 I C D news → ((@Ne Nat I C) ∧ (@Ne Nat I D) ∧ (@Ne Nat C D)) →
      wpAny (model prog w) A (isTrue ct (compEnvC scope cl C env) (eval ct (compEnvC scope cl C env))) (fun ok s' => if ok = true then
        wpAny (model prog w) A (eval elt (compEnvC scope cl C env)) (CompEnd h₀ L m { s with heap := h, toks := tk } I oI C oC D (lst ys) S (fun y news' => R (i + 1) (ys ++ [y]) news')) E' s'
        else CompEnd h₀ L m { s with heap := h, toks := tk } I oI C oC D (lst ys) S (fun _ news' => R (i + 1) ys news') Value.none s') E' { s with heap := h, toks := tk })
    (fin : ∀ ys news, R n ys news → Fin ys news) : ∀ k i ys news, i + k = n → R i ys news → CompRestT prog w A h₀ L m env ct elt x scope cl s S P Fin k i ys news
  | 0, i, ys, news, e, r => CompRestT.zero (fin ys news (by rw [← e]; exact r))
  | k + 1, i, ys, news, e, r => CompRestT.succ fun v I oI C oC D m₂ h tk E' hP hC hx F N off ne =>
    wpAny_mono (turn i ys news v I oI C oC D m₂ h tk E' (by omega) hP r hC hx F N off ne) (fun ok s' q => by
      cases ok with
      | true =>
        simp only [if_true] at q ⊢
        exact wpAny_mono q (fun _ _ q => cend_mono q fun y n' r' => comp_test R turn fin k (i + 1) (ys ++ [y]) n' (by omega) r') fun _ _ z => z
      | false =>
        simp only [Bool.false_eq_true, if_false] at q ⊢
        exact cend_mono q fun y n' r' => comp_test R turn fin k (i + 1) ys n' (by omega) r') fun _ _ z => z
theorem off1_ne {D : Addr} : ∀ {l : List (Addr × Obj)}, Off1 D l → ∀ p ∈ l, p.1 ≠ D
  | [], _, _, h => nomatch h
  | _ :: _, x, p, h => by
    rcases List.mem_cons.mp h with rfl | h
    · exact x.1
    · exact off1_ne x.2 p h
theorem allLt_ne {D : Addr} : ∀ {l : List (Addr × Obj)}, AllLt D l → ∀ p ∈ l, p.1 ≠ D
  | [], _, _, h => nomatch h
  | _ :: _, x, p, h => by
    rcases List.mem_cons.mp h with rfl | h
    · exact Nat.ne_of_lt x.1
    · exact allLt_ne x.2 p h
end

end
-- part S1
section
open PySem PySem.W PyProof.Rows
set_option maxRecDepth 100000
set_option maxHeartbeats 4000000

section
variable {κ : Nat → Int} {n : Nat}
/-- a sort's questions answered by whole numbers -/
def wpT {α : Type} (κ : Nat → Int) (n : Nat) : KasT α → (α → Prop) → Prop
  | .ret a, Q => Q a
  | .ask i j k, Q => i < n ∧ j < n ∧ wpT κ n (k (decide (κ i < κ j))) Q
theorem wpT_bind {α β : Type} {f : α → KasT β} {Q : β → Prop} : ∀ {t : KasT α}, wpT κ n t (fun a => wpT κ n (f a) Q) → wpT κ n (t.bind f) Q
  | .ret _, h => h
  | .ask _ _ _, h => ⟨h.1, h.2.1, wpT_bind h.2.2⟩
def kk (κ : Nat → Int) (p : Array Nat) (i : Nat) : Int := match p[i]? with
  | some a => κ a
  | none => 0
theorem kk_congr {p q : Array Nat} {i j : Nat} (h : p[i]? = q[j]?) : kk κ p i = kk κ q j := by unfold kk; rw [h]
def Ups (κ : Nat → Int) (p : Array Nat) (k : Nat) : Prop := ∀ i j, i ≤ j → j < k → kk κ p i ≤ kk κ p j
def Downs (κ : Nat → Int) (p : Array Nat) (k : Nat) : Prop := ∀ i j, i ≤ j → j < k → kk κ p j ≤ kk κ p i
abbrev PermN (p : Array Nat) (n : Nat) : Prop := p.Perm (List.range n).toArray
theorem PermN.size {p : Array Nat} (h : PermN p n) : p.size = n := by rw [h.size_eq]; simp
theorem PermN.lt {p : Array Nat} (h : PermN p n) {i : Nat} (hi : i < n) : p.getD i 0 < n ∧ κ (p.getD i 0) = kk κ p i := by
  have hi' : i < p.size := by rw [h.size]; exact hi
  have e : p.getD i 0 = p[i] := by simp [Array.getD, hi']
  have hm : p[i] ∈ (List.range n) := (Array.perm_iff_toList_perm.mp h).mem_iff.mp (by simp)
  refine ⟨by rw [e]; exact List.mem_range.mp hm, ?_⟩
  unfold kk
  rw [e, getElem?_pos _ i hi']
theorem ask_ok {α : Type} {p : Array Nat} {i j : Nat} {k : Bool → KasT α} {Q : α → Prop} (h : PermN p n) (hi : i < n) (hj : j < n) (hq : wpT κ n (k (decide (kk κ p i < kk κ p j))) Q) : wpT κ n (.ask (p.getD i 0) (p.getD j 0) k) Q := by
  refine ⟨(h.lt (κ := κ) hi).1, (h.lt (κ := κ) hj).1, ?_⟩
  rw [(h.lt (κ := κ) hi).2, (h.lt (κ := κ) hj).2]
  exact hq
theorem kk_mirror {p : Array Nat} {i j : Nat} (hj : j ≤ p.size) (k : Nat) : kk κ (kas_rev p i j) k = if i ≤ k ∧ k < j then kk κ p (i + j - 1 - k) else kk κ p k := by
  have e := getElem?_mirror_all (xs := p) (i := i) hj k
  unfold kas_rev
  by_cases h1 : i ≤ k ∧ k < j
  · rw [if_pos h1] at e ⊢; exact kk_congr e
  · rw [if_neg h1] at e ⊢; exact kk_congr e
theorem kk_mirror_eq {p : Array Nat} {i j : Nat} (hj : j ≤ p.size) (heq : ∀ k, i ≤ k → k < j → kk κ p k = kk κ p (j - 1)) (k : Nat) : kk κ (kas_rev p i j) k = kk κ p k := by
  rw [kk_mirror hj]
  split
  · rw [heq _ (by omega) (by omega), heq k (by omega) (by omega)]
  · rfl
theorem rev_perm {p : Array Nat} (h : PermN p n) (i j : Nat) : PermN (kas_rev p i j) n := (mirror_perm _ _ _ _).trans h
theorem kk_bubble {p : Array Nat} {src d : Nat} (hs : src < p.size) (hd : d ≤ src) (k : Nat) :
    kk κ (bubble p src d) k = if k = src - d then kk κ p src else if src - d < k ∧ k ≤ src then kk κ p (k - 1) else kk κ p k := by
  have e := getElem?_bubble hs d hd k
  by_cases h1 : k = src - d
  · rw [if_pos h1] at e ⊢; exact kk_congr e
  · rw [if_neg h1] at e ⊢
    by_cases h2 : src - d < k ∧ k ≤ src
    · rw [if_pos h2] at e ⊢; exact kk_congr e
    · rw [if_neg h2] at e ⊢; exact kk_congr e

theorem wp_asc {p : Array Nat} (hp : PermN p n) : ∀ (f a : Nat) {Q : Nat → Prop}, a + f ≤ n → 1 ≤ a → Ups κ p a →
    (∀ m, a ≤ m → m ≤ a + f → Ups κ p m → (m = a + f ∨ kk κ p m < kk κ p (m - 1)) → Q m) → wpT κ n (kas_asc p f a) Q
  | 0, a, Q, _, _, hs, h => h a (Nat.le_refl _) (Nat.le_refl _) hs (.inl rfl)
  | f + 1, a, Q, hn, h1, hs, h => by
    unfold kas_asc
    refine ask_ok hp (by omega) (by omega) ?_
    by_cases hl : kk κ p a < kk κ p (a - 1)
    · simp only [hl, decide_true, if_true]
      exact h a (Nat.le_refl _) (by omega) hs (.inr hl)
    · simp only [hl, decide_false, Bool.false_eq_true, if_false]
      refine wp_asc hp f (a + 1) (by omega) (by omega) (fun i j hij hj => ?_) fun m a1 a2 a3 a4 => h m (by omega) (by omega) a3 (a4.imp (fun e => by omega) id)
      by_cases hja : j < a
      · exact hs i j hij hja
      · have hj' : j = a := by omega
        subst hj'
        by_cases hi' : i = j
        · subst hi'; exact Int.le_refl _
        · exact Int.le_trans (hs i (j - 1) (by omega) (by omega)) (Int.not_lt.mp hl)

theorem wp_tail3 {p : Array Nat} {a nrem : Nat} {Q : Nat × Array Nat → Prop} (hp : PermN p n) (hn : nrem ≤ n) (h1 : 1 ≤ a) (ha : a ≤ nrem) (hs : Downs κ p a)
    (h : ∀ m p', PermN p' n → 1 ≤ m → m ≤ nrem → Ups κ p' m → Q (m, p')) : wpT κ n (kas_tail3 a nrem p) Q := by
  unfold kas_tail3
  have hsz : a ≤ p.size := by rw [hp.size]; omega
  refine wpT_bind (wp_asc (rev_perm hp 0 a) (nrem - a) a (by omega) h1 (fun i j hij hj => ?_) fun m a1 a2 a3 _ => h m _ (rev_perm hp 0 a) (by omega) (by omega) a3)
  rw [kk_mirror hsz, kk_mirror hsz, if_pos (by omega), if_pos (by omega)]
  exact hs _ _ (by omega) (by omega)

theorem wp_desc : ∀ (f : Nat) (p : Array Nat) (a q : Nat) {Q : Array Nat × Nat × Nat → Prop}, PermN p n → a + f ≤ n → 1 ≤ a → Downs κ p a → q + 1 ≤ a → (∀ i, a - (q + 1) ≤ i → i < a → kk κ p i = kk κ p (a - 1)) →
    (∀ p' m q', PermN p' n → a ≤ m → m ≤ a + f → Downs κ p' m → q' + 1 ≤ m → (∀ i, m - (q' + 1) ≤ i → i < m → kk κ p' i = kk κ p' (m - 1)) → Q (p', m, q')) → wpT κ n (kas_desc f p a q) Q
  | 0, p, a, q, Q, hp, _, _, hs, hq, he, h => h p a q hp (Nat.le_refl _) (Nat.le_refl _) hs hq he
  | f + 1, p, a, q, Q, hp, hn, h1, hs, hq, he, h => by
    unfold kas_desc
    have hsz : a ≤ p.size := by rw [hp.size]; omega
    refine ask_ok hp (by omega) (by omega) ?_
    by_cases hl : kk κ p a < kk κ p (a - 1)
    · simp only [hl, decide_true, if_true]
      have step1 : ∀ xs : Array Nat, (∀ k, kk κ xs k = kk κ p k) → Downs κ xs (a + 1) := by
        intro xs hk i j hij hj
        rw [hk, hk]
        by_cases hja : j < a
        · exact hs i j hij hja
        · have hj' : j = a := by omega
          subst hj'
          by_cases hi' : i = j
          · subst hi'; exact Int.le_refl _
          · exact Int.le_trans (Int.le_of_lt hl) (hs i (j - 1) (by omega) (by omega))
      by_cases hneq : q > 0
      · rw [if_pos hneq]
        exact wp_desc f _ (a + 1) 0 (rev_perm hp _ _) (by omega) (by omega) (step1 _ (kk_mirror_eq hsz he)) (by omega) (fun i h1 h2 => by congr 1; omega) fun p' m q' b1 b2 b3 b4 b5 b6 => h p' m q' b1 (by omega) (by omega) b4 b5 b6
      · rw [if_neg hneq]
        exact wp_desc f _ (a + 1) 0 hp (by omega) (by omega) (step1 _ fun _ => rfl) (by omega) (fun i h1 h2 => by congr 1; omega) fun p' m q' b1 b2 b3 b4 b5 b6 => h p' m q' b1 (by omega) (by omega) b4 b5 b6
    · simp only [hl, decide_false, Bool.false_eq_true, if_false]
      refine ask_ok hp (by omega) (by omega) ?_
      by_cases hg : kk κ p (a - 1) < kk κ p a
      · simp only [hg, decide_true, if_true]
        exact h p a q hp (Nat.le_refl _) (by omega) hs hq he
      · simp only [hg, decide_false, Bool.false_eq_true, if_false]
        have heq : kk κ p a = kk κ p (a - 1) := by omega
        refine wp_desc f p (a + 1) (q + 1) hp (by omega) (by omega) (fun i j hij hj => ?_) (by omega) (fun i b1 b2 => ?_) fun p' m q' b1 b2 b3 b4 b5 b6 => h p' m q' b1 (by omega) (by omega) b4 b5 b6
        · by_cases hja : j < a
          · exact hs i j hij hja
          · have hj' : j = a := by omega
            subst hj'
            by_cases hi' : i = j
            · subst hi'; exact Int.le_refl _
            · rw [heq]; exact hs i (j - 1) (by omega) (by omega)
        · rw [show a + 1 - 1 = a by omega]
          by_cases hia : i = a
          · subst hia; rfl
          · rw [heq]; exact he i (by omega) (by omega)

theorem wp_descPart {p : Array Nat} {a nrem : Nat} {Q : Nat × Array Nat → Prop} (hp : PermN p n) (hn : nrem ≤ n) (ha : a + 1 ≤ nrem) (hs : Downs κ p (a + 1))
    (h : ∀ m p', PermN p' n → 1 ≤ m → m ≤ nrem → Ups κ p' m → Q (m, p')) : wpT κ n (kas_descPart a nrem p) Q := by
  unfold kas_descPart
  refine wpT_bind (wp_desc _ p (a + 1) 0 hp (by omega) (by omega) hs (by omega) (fun i h1 h2 => by congr 1; omega) fun p' m q' b1 b2 b3 b4 b5 b6 => ?_)
  dsimp only
  have hsz : m ≤ p'.size := by rw [b1.size]; omega
  by_cases hq : q' > 0
  · rw [if_pos hq]
    refine wp_tail3 (rev_perm b1 _ _) hn (by omega) (by omega) (fun i j hij hj => ?_) h
    rw [kk_mirror_eq hsz b6, kk_mirror_eq hsz b6]
    exact b4 i j hij hj
  · rw [if_neg hq]
    exact wp_tail3 b1 hn (by omega) (by omega) b4 h

theorem wp_count {p : Array Nat} {Q : Nat × Array Nat → Prop} (hp : PermN p n) (h1 : 1 ≤ n)
    (h : ∀ m p', PermN p' n → 1 ≤ m → m ≤ n → Ups κ p' m → Q (m, p')) : wpT κ n (kas_count n p) Q := by
  unfold kas_count
  refine wpT_bind (wp_asc hp (n - 1) 1 (by omega) (Nat.le_refl _) (fun i j hij hj => by obtain rfl : i = j := by omega
                                                                                        exact Int.le_refl _) fun m a1 a2 a3 a4 => ?_)
  by_cases hm : m = n
  · rw [if_pos (by simpa using hm)]
    exact h m p hp a1 (by omega) a3
  · rw [if_neg (by simpa using hm)]
    have hlt : kk κ p m < kk κ p (m - 1) := a4.resolve_left (by omega)
    by_cases hgt : m > 1
    · rw [if_pos hgt]
      refine ask_ok hp (by omega) (by omega) ?_
      by_cases hr : kk κ p 0 < kk κ p (m - 1)
      · simp only [hr, decide_true, if_true]
        exact h m p hp a1 (by omega) a3
      · simp only [hr, decide_false, Bool.false_eq_true, if_false]
        have hsz : m ≤ p.size := by rw [hp.size]; omega
        have hall : ∀ k, 0 ≤ k → k < m → kk κ p k = kk κ p (m - 1) := by
          intro k _ hk
          have b1 := a3 0 k (by omega) hk
          have b2 := a3 k (m - 1) (by omega) (by omega)
          omega
        refine wp_descPart (rev_perm hp _ _) (Nat.le_refl _) (by omega) (fun i j hij hj => ?_) h
        rw [kk_mirror_eq hsz hall, kk_mirror_eq hsz hall]
        by_cases hjm : j < m
        · rw [hall i (by omega) (by omega), hall j (by omega) hjm]; exact Int.le_refl _
        · obtain rfl : j = m := by omega
          by_cases hi' : i = j
          · subst hi'; exact Int.le_refl _
          · rw [hall i (by omega) (by omega)]; exact Int.le_of_lt hlt
    · rw [if_neg hgt]
      obtain rfl : m = 1 := by omega
      refine wp_descPart hp (Nat.le_refl _) (by omega) (fun i j hij hj => ?_) h
      by_cases hi' : i = j
      · subst hi'; exact Int.le_refl _
      · obtain rfl : i = 0 := by omega
        obtain rfl : j = 1 := by omega
        exact Int.le_of_lt hlt

theorem wp_place {p : Array Nat} {k : Nat} (hp : PermN p n) (hk : k < n) (hs : Ups κ p k) : ∀ (f l r : Nat) {Q : Nat → Prop}, l ≤ r → r ≤ k → r - l ≤ f → (∀ i, i < l → kk κ p i ≤ kk κ p k) → (∀ i, r ≤ i → i < k → kk κ p k < kk κ p i) →
    (∀ l, l ≤ k → (∀ i, i < l → kk κ p i ≤ kk κ p k) → (∀ i, l ≤ i → i < k → kk κ p k < kk κ p i) → Q l) → wpT κ n (kas_place p k f l r) Q
  | 0, l, r, Q, hlr, hrk, hf, hlo, hhi, h => by
    obtain rfl : l = r := by omega
    exact h l hrk hlo hhi
  | f + 1, l, r, Q, hlr, hrk, hf, hlo, hhi, h => by
    unfold kas_place
    by_cases hge : l ≥ r
    · rw [if_pos hge]
      obtain rfl : l = r := by omega
      exact h l hrk hlo hhi
    · rw [if_neg hge]
      refine ask_ok hp (by omega) (by omega) ?_
      by_cases hl : kk κ p k < kk κ p ((l + r) / 2)
      · simp only [hl, decide_true, if_true]
        exact wp_place hp hk hs f l ((l + r) / 2) (by omega) (by omega) (by omega) hlo (fun i h1 h2 => Int.lt_of_lt_of_le hl (hs _ _ h1 h2)) h
      · simp only [hl, decide_false, Bool.false_eq_true, if_false]
        exact wp_place hp hk hs f ((l + r) / 2 + 1) r (by omega) (by omega) (by omega) (fun i h1 => Int.le_trans (hs i ((l + r) / 2) (by omega) (by omega)) (Int.not_lt.mp hl)) hhi h

theorem wp_bin : ∀ (f : Nat) (p : Array Nat) (k : Nat) {Q : Array Nat → Prop}, PermN p n → k + f = n → Ups κ p k → (∀ p', PermN p' n → Ups κ p' n → Q p') → wpT κ n (kas_bin f p k) Q
  | 0, p, k, Q, hp, hk, hs, h => by
    obtain rfl : k = n := by omega
    exact h p hp hs
  | f + 1, p, k, Q, hp, hk, hs, h => by
    unfold kas_bin
    refine wpT_bind (wp_place hp (by omega) hs k 0 k (Nat.zero_le _) (Nat.le_refl _) (by omega) (fun i hi => by omega) (fun i h1 h2 => by omega) fun l hlk hlo hhi => ?_)
    refine wp_bin f _ (k + 1) ((bubble_perm _ _ _).trans hp) (by omega) (fun i j hij hj => ?_) h
    have hks : k < p.size := by rw [hp.size]; omega
    rw [kk_bubble hks (by omega), kk_bubble hks (by omega), show k - (k - l) = l by omega]
    repeat' split
    all_goals first
      | (exfalso; omega)
      | exact Int.le_refl _
      | exact hlo _ (by omega)
      | exact Int.le_of_lt (hhi _ (by omega) (by omega))
      | exact hs _ _ (by omega) (by omega)

theorem wp_sort {Q : Array Nat → Prop} (h1 : 1 ≤ n) (h : ∀ p, PermN p n → Ups κ p n → Q p) : wpT κ n (kas_sort n) Q := by
  unfold kas_sort
  refine wpT_bind (wp_count (Array.Perm.refl _) h1 fun m p hp a1 a2 a3 => ?_)
  dsimp only
  by_cases hm : m < n
  · rw [if_pos hm]
    rw [show max m 1 = m by omega]
    exact wp_bin _ p m hp (by omega) a3 h
  · rw [if_neg hm]
    obtain rfl : m = n := by omega
    exact h p hp a3
theorem ups_list {p : Array Nat} (hp : PermN p n) (h : Ups κ p n) : p.toList.Perm (List.range n) ∧ p.toList.Pairwise (fun a b => κ a ≤ κ b) := by
  refine ⟨by simpa using Array.perm_iff_toList_perm.mp hp, ?_⟩
  rw [List.pairwise_iff_getElem]
  intro i j hi hj hij
  have hi' : i < p.size := by simpa using hi
  have hj' : j < p.size := by simpa using hj
  have q := h i j (Nat.le_of_lt hij) (by rw [← hp.size]; exact hj')
  unfold kk at q
  rw [getElem?_pos _ i hi', getElem?_pos _ j hj'] at q
  simpa using q
end

end
-- part L3
section
open PySem PySem.W PyProof.Rows PySem.Calls
set_option maxRecDepth 100000
set_option maxHeartbeats 4000000

/-- a key of three numbers -/
abbrev keyObj (a b c : Int) (t1 t2 t3 : Tok) : Obj := { cls := .type "tuple", data := .seq #[.int a t1, .int b t2, .int c t3] }
def SrtEnd (h₀ : Heap) (L : Addr) (m : Str → Option Value) (led : List (Addr × Obj)) (a b c : Int) (s₁ : Shared) (v : Value) (s₂ : Shared) : Prop :=
  ∃ h' tk x t1 t2 t3, s₂ = { s₁ with heap := h', toks := tk } ∧ v = .ref x ∧ Fr h₀ L h' m ∧ News h₀ L h' ((x, keyObj a b c t1 t2 t3) :: led)
/-- the keys that lie in the ledger -/
inductive KeyL (own : List (Addr × Obj)) (ka kb : Nat → Int) : Nat → List Value → Prop
  | nil : KeyL own ka kb 0 []
  | snoc {i : Nat} {ks : List Value} {x : Addr} {t1 t2 t3 : Tok} : KeyL own ka kb i ks → (x, keyObj (ka i) (kb i) i t1 t2 t3) ∈ own → KeyL own ka kb (i + 1) (ks ++ [.ref x])
theorem KeyL.sub {own own' : List (Addr × Obj)} {ka kb : Nat → Int} {i : Nat} {ks : List Value} (h : KeyL own ka kb i ks) (g : ∀ p ∈ own, p ∈ own') : KeyL own' ka kb i ks := by
  induction h with
  | nil => exact .nil
  | snoc _ a ih => exact .snoc ih (g _ a)
theorem KeyL.len {own : List (Addr × Obj)} {ka kb : Nat → Int} {i : Nat} {ks : List Value} (h : KeyL own ka kb i ks) : ks.length = i := by
  induction h with
  | nil => rfl
  | snoc _ a ih => simp [ih]
theorem KeyL.get {own : List (Addr × Obj)} {ka kb : Nat → Int} {i : Nat} {ks : List Value} (h : KeyL own ka kb i ks) : ∀ j, j < i → ∃ x t1 t2 t3, ks.getD j .none = .ref x ∧ (x, keyObj (ka j) (kb j) j t1 t2 t3) ∈ own := by
  induction h with
  | nil => intro j hj; exact absurd hj (Nat.not_lt_zero _)
  | @snoc i ks x t1 t2 t3 hk a ih =>
    intro j hj
    have hl := hk.len
    by_cases hji : j < i
    · obtain ⟨y, u1, u2, u3, e, hm⟩ := ih j hji
      refine ⟨y, u1, u2, u3, ?_, hm⟩
      rw [← e]
      simp [List.getD_eq_getElem?_getD, List.getElem?_append, hl, hji]
    · obtain rfl : j = i := by omega
      exact ⟨x, t1, t2, t3, by simp [List.getD_eq_getElem?_getD, hl.symm], a⟩
theorem KatTups.snoc {h : Heap} {a : Addr} {o : Obj} {xs : Array Value} {n : Nat} {f : Value} (ho : h.get? a = some o) (hc : o.cls = .type "tuple") (hd : o.data = .seq xs n) (hf : xs[0]? = some f) : ∀ {vs fs : List Value}, KatTups h vs fs → KatTups h (vs ++ [.ref a]) (fs ++ [f])
  | [], [], _ => KatTups.cons ho hc hd hf .nil
  | [], _ :: _, t => t.elim
  | _ :: _, [], t => t.elim
  | _ :: _, _ :: _, t => ⟨t.1, KatTups.snoc ho hc hd hf t.2⟩
theorem KeyL.tups {own : List (Addr × Obj)} {ka kb : Nat → Int} {i : Nat} {ks : List Value} {h : Heap} (hk : KeyL own ka kb i ks) (N : ∀ p ∈ own, h.get? p.1 = some p.2) : ∃ fs : List Value, fs.length = i ∧ (∀ v ∈ fs, ∃ a t, v = .int a t) ∧ KatTups h ks fs := by
  induction hk with
  | nil => exact ⟨[], rfl, (fun _ h => nomatch h), .nil⟩
  | @snoc i ks x t1 t2 t3 hk a ih =>
    obtain ⟨fs, e, hi, ht⟩ := ih
    refine ⟨fs ++ [.int (ka i) t1], by simp [e], fun v hv => ?_, KatTups.snoc (N _ a) rfl rfl rfl ht⟩
    rcases List.mem_append.mp hv with hv | hv
    · exact hi v hv
    · exact ⟨_, _, List.mem_singleton.mp hv⟩

/-- three numbers as one -/
def lexK (a b : Int) (i : Nat) : Int := a * 256000000 + b * 64 + i
theorem lexK_lt {a b c d : Int} {i j : Nat} (hb : -1000000 ≤ b ∧ b ≤ 1000000) (hd : -1000000 ≤ d ∧ d ≤ 1000000) (hi : i < 64) (hj : j < 64) :
    decide (lexK a b i < lexK c d j) = if a = c then if b = d then decide (i < j) else decide (b < d) else decide (a < c) := by
  unfold lexK
  split
  · split
    · exact decide_eq_decide.mpr (by omega)
    · exact decide_eq_decide.mpr (by omega)
  · exact decide_eq_decide.mpr (by omega)

section
variable {prog : Program} {w : World} {A : Around} {E : Value → Shared → Prop} {s : Shared}
theorem lex_asks {a b c d i j : Int} {t1 t2 t3 u1 u2 u3 : Tok} {Q : Bool → Shared → Prop} (h : Q (if a = c then if b = d then decide (i < j) else decide (b < d) else decide (a < c)) s) (hi : i ≠ j ∨ i = j) {f : Bool} (hf : f = false) :
    KatLex prog w A true f Q [(.int a t1, .int c u1), (.int b t2, .int d u2), (.int i t3, .int j u3)] 0 s := by
  refine kat_cons (wpAny_eqBool_int ?_)
  by_cases e1 : a = c
  · rw [if_pos e1] at h
    rw [beq_iff_eq.mpr e1]
    refine kat_yes (kat_cons (wpAny_eqBool_int ?_))
    by_cases e2 : b = d
    · rw [if_pos e2] at h
      rw [beq_iff_eq.mpr e2]
      refine kat_yes (kat_cons (wpAny_eqBool_int ?_))
      by_cases e3 : i = j
      · rw [beq_iff_eq.mpr e3]
        refine kat_yes (kat_nil ?_)
        rw [hf]
        have : decide (i < j) = false := decide_eq_false (by omega)
        rw [this] at h
        exact h
      · rw [beq_eq_false_iff_ne.mpr e3]
        exact kat_no (kat_one _ _ (lt_int h))
    · rw [if_neg e2] at h
      rw [beq_eq_false_iff_ne.mpr e2]
      exact kat_no (kat_one _ _ (lt_int h))
  · rw [if_neg e1] at h
    rw [beq_eq_false_iff_ne.mpr e1]
    exact kat_no (oneLt_int h)

theorem wpT_run {κ : Nat → Int} {n : Nat} {cmp : Nat → Nat → (Bool → Shared → Prop) → Shared → Prop} {s : Shared} (hc : ∀ i j (C : Bool → Shared → Prop), i < n → j < n → C (decide (κ i < κ j)) s → cmp i j C s) {α : Type} {G : α → Shared → Prop} {Q : α → Prop} (hQ : ∀ a, Q a → G a s) :
    ∀ {t : KasT α}, wpT κ n t Q → t.kasWp cmp G s
  | .ret a, h => hQ a h
  | .ask i j k, h => hc i j _ h.1 h.2.1 (wpT_run hc hQ h.2.2)
end

section
variable {prog : Program} {w : World} {A : Around} {E : Value → Shared → Prop} {s : Shared} {h₀ : Heap} {L a kS : Addr} {m : Str → Option Value} {news : List (Addr × Obj)} {vs ks : List Value}

theorem srt_end {own : List (Addr × Obj)} {ka kb : Nat → Int} {n e e1 : Nat} {P : PySem.Fin → Shared → Prop} (F : Fr h₀ L s.heap m) (N : News h₀ L s.heap (own ++ (kS, seqObj "list" ks.toArray e) :: (a, seqObj "list" #[] e1) :: news)) (hk : KeyL own ka kb n ks)
    (hn : vs.length = n) (h64 : n < 64) (hkb : ∀ i, i < n → -1000000 ≤ kb i ∧ kb i ≤ 1000000) (h1 : ∀ p ∈ own, p.1 ≠ kS) (h2 : ∀ p ∈ own, p.1 ≠ a) (hak : a ≠ kS) (h3 : ∀ p ∈ news, p.1 ≠ kS) (h4 : ∀ p ∈ news, p.1 ≠ a)
    (h : ∀ (os : List Nat) h' c, os.Perm (List.range n) → os.Pairwise (fun i j => lexK (ka i) (kb i) i ≤ lexK (ka j) (kb j) j) → Fr h₀ L h' m → News h₀ L h' ((a, listOf (os.map fun i => vs.getD i .none).toArray c) :: news) → P (.done (.ret .none)) { s with heap := h' }) :
    wpAny (model prog w) A (ksk_end a false vs.toArray e1 (.ref kS) ks.toArray) P E s := by
  have hlen := hk.len
  have fin : ∀ (os : List Nat) (s' : Shared), s' = s → os.Perm (List.range n) → os.Pairwise (fun i j => lexK (ka i) (kb i) i ≤ lexK (ka j) (kb j) j) →
      KatFin h₀ L m kS a ks e e1 (katRev false (os.map fun i => (katRev false vs).getD i Value.none)) (fun s3 => P (.done (.ret .none)) s3) s' := by
    rintro os s' rfl hp hs
    refine KatFin.intro (news := own ++ (kS, seqObj "list" ks.toArray e) :: (a, seqObj "list" #[] e1) :: news) (g := fun o => own ++ (kS, o) :: (a, seqObj "list" #[] e1) :: news) F N ?_ fun h' c F' N' => ?_
    · clear N h hk
      induction own with
      | nil =>
        refine .head fun p hp => ?_
        rcases List.mem_cons.mp hp with rfl | hp
        · exact hak
        · exact h3 p hp
      | cons q r ih => exact .tail (h1 q (.head _)) (ih (fun p hp => h1 p (.tail _ hp)) fun p hp => h2 p (.tail _ hp))
    · refine KasFin.intro (news := own ++ (kS, seqObj "list" #[] c) :: (a, seqObj "list" #[] e1) :: news) (g := fun o => own ++ (kS, seqObj "list" #[] c) :: (a, o) :: news) F' N' ?_ fun h'' c' F'' N'' => ?_
      · clear N N' h hk
        induction own with
        | nil => exact .tail hak.symm (.head h4)
        | cons q r ih => exact .tail (h2 q (.head _)) (ih (fun p hp => h1 p (.tail _ hp)) fun p hp => h2 p (.tail _ hp))
      · refine h os h'' c' hp hs F'' fun p hp => N'' p (List.mem_append.mpr (.inr (.tail _ ?_)))
        exact hp
  by_cases hn2 : n < 2
  · unfold ksk_end
    have hsz : vs.toArray.size < 2 := by rw [List.size_toArray]; omega
    simp only [Bool.false_eq_true, if_false]
    rw [if_pos hsz, if_pos hsz]
    refine wpAny_bind (wpAny_pure ?_)
    rw [StateT.run_pure]
    refine wpAny_bind (wpAny_pure ?_)
    try dsimp only
    have e2 : ((ks.toArray.zip vs.toArray).map (·.2)) = vs.toArray := by
      apply Array.toList_inj.mp
      rw [Array.toList_map, ksk_zip]
      exact List.map_snd_zip (by simp [hlen, hn])
    refine kat_tail (ks := ks) (e := e) (h₀ := h₀) (L := L) (m := m) (out := vs) e2 (by omega) (by omega) rfl ?_
    have e3 : vs = (List.range n).map fun i => vs.getD i Value.none := by
      apply List.ext_getElem (by simp [hn])
      intro i h1 h2
      simp [h1]
    have z := fin (List.range n) s rfl (List.Perm.refl _) ?_
    · show KatFin h₀ L m kS a ks e e1 vs _ s
      rw [e3]
      exact z
    · have : n = 0 ∨ n = 1 := by omega
      rcases this with rfl | rfl
      · exact .nil
      · exact List.pairwise_singleton _ _
  · obtain ⟨fs, hfl, hfi, hft⟩ := hk.tups (h := s.heap) fun p hp => (N p (List.mem_append.mpr (.inl hp))).1
    refine kat_end (ks := ks) (e := e) (h₀ := h₀) (L := L) (m := m) (by omega) (by omega) (by omega) (kat_kind hft (by omega) (T := .type "int") (fun v hv => ?_) rfl ?_)
    · obtain ⟨z, t, rfl⟩ := hfi v hv
      exact Looks.of_pure rfl
    rw [hn]
    refine wpT_run (κ := fun i => lexK (ka i) (kb i) i) (n := n) (Q := fun p => PermN p n ∧ Ups (fun i => lexK (ka i) (kb i) i) p n) (fun i j C hi hj hC => ?_) (fun p hp => ?_) (wp_sort (by omega) fun p hp hu => ⟨hp, hu⟩)
    · obtain ⟨x, t1, t2, t3, ex, hx⟩ := hk.get i hi
      obtain ⟨y, u1, u2, u3, ey, hy⟩ := hk.get j hj
      unfold kas_ask
      show wpAny _ _ (keyLt' _ (ks.getD i _) (ks.getD j _)) _ _ _
      rw [ex, ey]
      refine kat_lt (N _ (List.mem_append.mpr (.inl hx))).1 rfl (N _ (List.mem_append.mpr (.inl hy))).1 rfl ?_
      refine lex_asks ?_ (by omega) rfl
      rw [lexK_lt (hkb i hi) (hkb j hj) (by omega) (by omega)] at hC
      have ez : decide ((i : Int) < (j : Int)) = decide (i < j) := decide_eq_decide.mpr (by omega)
      rw [ez]
      exact hC
    · obtain ⟨a1, a2⟩ := ups_list hp.1 hp.2
      exact fin p.toList s rfl a1 a2

theorem srt_rest {f : Value} {e1 : Nat} {P : PySem.Fin → Shared → Prop} (hk : s.heap.get? kS = some (seqObj "list" #[] 0)) (h64 : vs.length < 64)
    (h : KatKeys prog w A h₀ L m kS f (fun ks e s' => wpAny (model prog w) A (ksk_end a false vs.toArray e1 (.ref kS) (List.toArray ks)) P E s') vs [] 0 s) :
    wpAny (model prog w) A (ksk_rest a f false vs.toArray e1 (.ref kS)) P E s := by
  unfold ksk_rest
  refine wpAny_bind (wpAny_rule ?_)
  rw [List.forIn_toArray]
  refine wpAny_bind (wpAny_mono (kat_fold h64 (fun x ks e s' C hz hx => ?_) vs [] 0 s (by simp) hk h) (fun _ s' hd => ?_) fun _ _ x => x)
  · refine wpAny_bind (wpAny_attempt (wpAny_mono hx (fun k s'' hk => ?_) fun _ _ hF => hF.elim))
    obtain ⟨news', g, F', N', U, c⟩ := hk
    obtain ⟨pre, post, e0, hg, x1, x2⟩ := U.split
    rw [e0] at N'
    have nk := N' (kS, seqObj "list" (List.toArray ks) e) (List.mem_append_right _ (.head _))
    have s1 := Heap.SameBut.update s''.heap kS (Obj.mapSeq (·.push k))
    have ea : (List.toArray ks).push k = List.toArray (ks ++ [k]) := by simp
    obtain ⟨c2, hc2⟩ : ∃ c2, (s''.heap.update kS (Obj.mapSeq (·.push k))).get? kS = some (seqObj "list" (List.toArray (ks ++ [k])) c2) := ⟨_, by rw [← ea]; exact get?_update_seq nk.1 (·.push k)⟩
    try dsimp only
    refine wpAny_bind (listUpdate_at nk.1 rfl ?_ (by rw [List.size_toArray, sizeLine_eq]; omega) (Nat.le_trans (Nat.le_of_eq (Array.size_push ..)) (by rw [List.size_toArray, sizeLine_eq]; omega)))
    exact wpAny_pure ⟨rfl, k, c2, hc2, c _ c2 (kas_fr F' s1 nk.2.1 nk.2.2) (by rw [hg]; exact news_set N' x1 x2 s1 hc2)⟩
  · obtain ⟨ks, e, hk', hl, fin⟩ := hd
    try dsimp only
    refine wpAny_bind (listItems_at hk' rfl ?_)
    exact fin

/-- the keys, each by a call -/
theorem srt_keys {f : Value} {ka kb : Nat → Int} {e1 : Nat} {Fin : List Value → Nat → Shared → Prop} (hak : a ≠ kS) (h3 : ∀ p ∈ news, p.1 ≠ kS)
    (turn : ∀ (i : Nat) (v : Value) (h : Heap) (tk : Nat) (led : List (Addr × Obj)), vs[i]? = some v → Fr h₀ L h m → News h₀ L h led → (∀ p ∈ news, p ∈ led) →
      wpAny (model prog w) A (call f [v]) (SrtEnd h₀ L m led (ka i) (kb i) i { s with heap := h, toks := tk }) (fun _ _ => False) { s with heap := h, toks := tk })
    (fin : ∀ own ks e h' tk, Fr h₀ L h' m → News h₀ L h' (own ++ (kS, seqObj "list" ks.toArray e) :: (a, seqObj "list" #[] e1) :: news) → KeyL own ka kb vs.length ks → (∀ p ∈ own, p.1 ≠ kS) → (∀ p ∈ own, p.1 ≠ a) → Fin ks e { s with heap := h', toks := tk }) :
    ∀ (r : List Value) (i : Nat) (own : List (Addr × Obj)) (ks : List Value) (e : Nat) (h : Heap) (tk : Nat), vs.drop i = r → Fr h₀ L h m → News h₀ L h (own ++ (kS, seqObj "list" ks.toArray e) :: (a, seqObj "list" #[] e1) :: news) → KeyL own ka kb i ks → (∀ p ∈ own, p.1 ≠ kS) → (∀ p ∈ own, p.1 ≠ a) → i ≤ vs.length →
      KatKeys prog w A h₀ L m kS f Fin r ks e { s with heap := h, toks := tk }
  | [], i, own, ks, e, h, tk, hr, F, N, hk, h1, h2, hi => by
    have : i = vs.length := by have := congrArg List.length hr; simp at this; omega
    exact KatKeys.nil (fin own ks e h tk F N (this ▸ hk) h1 h2)
  | v :: r, i, own, ks, e, h, tk, hr, F, N, hk, h1, h2, hi => by
    have hlt : i < vs.length := by
      apply Nat.lt_of_not_le
      intro hle
      rw [List.drop_eq_nil_of_le hle] at hr
      cases hr
    have hv : vs[i]? = some v := by
      have := congrArg (fun l => l[0]?) hr
      simpa using this
    have hr' : vs.drop (i + 1) = r := by
      have := congrArg List.tail hr
      simpa using this
    refine KatKeys.cons (wpAny_mono (turn i v h tk _ hv F N fun p hp => List.mem_append.mpr (.inr (.tail _ (.tail _ hp)))) (fun x s' hx => ?_) fun _ _ z => z)
    obtain ⟨h', tk', x, t1, t2, t3, rfl, rfl, F', N'⟩ := hx
    have nx := N' _ (.head _)
    have nk := N' (kS, seqObj "list" ks.toArray e) (.tail _ (List.mem_append.mpr (.inr (.head _))))
    have na := N' (a, seqObj "list" #[] e1) (.tail _ (List.mem_append.mpr (.inr (.tail _ (.head _)))))
    have hxk : x ≠ kS := fun q => by
      have e1 := nx.1
      have e2 := nk.1
      rw [show ((x, keyObj (ka i) (kb i) i t1 t2 t3) : Addr × Obj).1 = kS from q] at e1
      have e3 := Option.some.inj (e1.symm.trans e2)
      have := congrArg Obj.cls e3
      simp at this
    have hxa : x ≠ a := fun q => by
      have e1 := nx.1
      have e2 := na.1
      rw [show ((x, keyObj (ka i) (kb i) i t1 t2 t3) : Addr × Obj).1 = a from q] at e1
      have e3 := Option.some.inj (e1.symm.trans e2)
      have := congrArg Obj.cls e3
      simp at this
    have o1 : ∀ p ∈ (x, keyObj (ka i) (kb i) i t1 t2 t3) :: own, p.1 ≠ kS := fun p hp => by
      rcases List.mem_cons.mp hp with rfl | hp
      · exact hxk
      · exact h1 p hp
    have o2 : ∀ p ∈ (x, keyObj (ka i) (kb i) i t1 t2 t3) :: own, p.1 ≠ a := fun p hp => by
      rcases List.mem_cons.mp hp with rfl | hp
      · exact hxa
      · exact h2 p hp
    refine KatBack.intro (news := ((x, keyObj (ka i) (kb i) i t1 t2 t3) :: own) ++ (kS, seqObj "list" ks.toArray e) :: (a, seqObj "list" #[] e1) :: news) (g := fun o => ((x, keyObj (ka i) (kb i) i t1 t2 t3) :: own) ++ (kS, o) :: (a, seqObj "list" #[] e1) :: news) F' N' ?_ fun h'' c F'' N'' => ?_
    · generalize (x, keyObj (ka i) (kb i) i t1 t2 t3) :: own = own' at o1
      clear N N' hk h1 h2 o2 F
      induction own' with
      | nil =>
        refine .head fun p hp => ?_
        rcases List.mem_cons.mp hp with rfl | hp
        · exact hak
        · exact h3 p hp
      | cons q r ih => exact .tail (o1 q (.head _)) (ih fun p hp => o1 p (.tail _ hp))
    · exact srt_keys hak h3 turn fin r (i + 1) _ _ c h'' tk' hr' F'' N'' (.snoc (hk.sub fun p hp => .tail _ hp) (.head _)) o1 o2 hlt

theorem srt_tree {f : Value} {n : Nat} {ka kb : Nat → Int} {P : PySem.Fin → Shared → Prop} (F : Fr h₀ L s.heap m) (N : News h₀ L s.heap news) (ho : s.heap.get? a = some (seqObj "list" vs.toArray n)) (haL : a ≠ L) (ha0 : h₀.get? a = none) (hna : ∀ p ∈ news, p.1 ≠ a)
    (h64 : vs.length < 64) (hkb : ∀ i, i < vs.length → -1000000 ≤ kb i ∧ kb i ≤ 1000000)
    (turn : ∀ (i : Nat) (v : Value) (h : Heap) (tk : Nat) (led : List (Addr × Obj)), vs[i]? = some v → Fr h₀ L h m → News h₀ L h led → (∀ p ∈ news, p ∈ led) →
      wpAny (model prog w) A (call f [v]) (SrtEnd h₀ L m led (ka i) (kb i) i { s with heap := h, toks := tk }) (fun _ _ => False) { s with heap := h, toks := tk })
    (h : ∀ (os : List Nat) h' tk c, os.Perm (List.range vs.length) → os.Pairwise (fun i j => lexK (ka i) (kb i) i ≤ lexK (ka j) (kb j) j) → Fr h₀ L h' m → News h₀ L h' ((a, listOf (os.map fun i => vs.getD i .none).toArray c) :: news) → P (.done (.ret .none)) { s with heap := h', toks := tk }) :
    wpAny (model prog w) A (ksk_tree a f false) P E s := by
  have ha : a < s.heap.objs.size := Heap.lt_size ho
  have s1 := Heap.SameBut.update s.heap a (Obj.mapSeq fun _ => (#[] : Array Value))
  obtain ⟨e1, ho1⟩ : ∃ e1, (s.heap.update a (Obj.mapSeq fun _ => (#[] : Array Value))).get? a = some (seqObj "list" #[] e1) := ⟨_, get?_update_seq ho fun _ => #[]⟩
  have F1 := kas_fr F s1 haL ha0
  have N1 := kas_news N s1 hna
  have hkS : ((s.heap.update a (Obj.mapSeq fun _ => (#[] : Array Value))).push (seqObj "tuple" vs.toArray 0)).objs.size = s.heap.objs.size + 1 := by rw [size_push', Heap.size_update]
  have hLk : L < ((s.heap.update a (Obj.mapSeq fun _ => (#[] : Array Value))).push (seqObj "tuple" vs.toArray 0)).objs.size := (F1.push _).ns.lt
  have hak : a ≠ ((s.heap.update a (Obj.mapSeq fun _ => (#[] : Array Value))).push (seqObj "tuple" vs.toArray 0)).objs.size := by rw [hkS]; exact Nat.ne_of_lt (Nat.lt_succ_of_lt ha)
  have h3 : ∀ p ∈ news, p.1 ≠ ((s.heap.update a (Obj.mapSeq fun _ => (#[] : Array Value))).push (seqObj "tuple" vs.toArray 0)).objs.size := fun p hp => by rw [hkS]; exact Nat.ne_of_lt (Nat.lt_succ_of_lt (Heap.lt_size (N p hp).1))
  unfold ksk_tree
  refine wpAny_bind (listItems_at ho rfl ?_)
  refine wpAny_bind (listUpdate_at ho rfl ?_ (by rw [List.size_toArray, sizeLine_eq]; omega) (Nat.zero_le _))
  refine wpAny_bind (seqEpoch_at ho1 rfl ?_)
  refine wpAny_bind (wpAny_newTuple ?_ (by show vs.length ≤ _; rw [sizeLine_eq]; omega))
  refine wpAny_bind (wpAny_newList ?_ (Nat.zero_le _))
  refine wpAny_holding ?_
  refine srt_rest (s := { s with heap := ((s.heap.update a (Obj.mapSeq fun _ => (#[] : Array Value))).push (seqObj "tuple" vs.toArray 0)).push (seqObj "list" #[] 0) }) (kS := ((s.heap.update a (Obj.mapSeq fun _ => (#[] : Array Value))).push (seqObj "tuple" vs.toArray 0)).objs.size) (h₀ := h₀) (L := L) (m := m)
    (Heap.get?_push_size _ rfl) h64 ?_
  refine srt_keys (s := s) (news := news) (a := a) (ka := ka) (kb := kb) (e1 := e1) hak h3 turn (fun own ks e h' tk F' N' hk o1 o2 => ?_) vs 0 [] [] 0 _ _ rfl ((F1.push _).push _) (fun p hp => ?_) .nil (fun _ h => nomatch h) (fun _ h => nomatch h) (Nat.zero_le _)
  · exact srt_end (s := { s with heap := h', toks := tk }) F' N' hk rfl h64 hkb o1 o2 hak h3 hna fun os h'' c z1 z2 z3 z4 => h os h'' tk c z1 z2 z3 z4
  · rcases List.mem_cons.mp hp with rfl | hp
    · exact ⟨Heap.get?_push_size _ rfl, Nat.ne_of_gt hLk, Heap.get?_none_of_le (Nat.le_trans F.above (Nat.le_of_lt hLk))⟩
    · rcases List.mem_cons.mp hp with rfl | hp
      · exact ⟨Heap.get?_push_of_some _ (Heap.get?_push_of_some _ ho1), haL, ha0⟩
      · exact ⟨Heap.get?_push_of_some _ (Heap.get?_push_of_some _ (N1 p hp).1), (N1 p hp).2⟩

theorem collect_range {r : Addr} {t u v : Tok} {n : Nat} {Q : List Value → Shared → Prop} (hh : A.handled = none) (hr : IsRange s.heap r 0 n 1 t u v) (hn : n ≤ 1000)
    (h : ∀ vs h' tk, vs.length = n → (∀ (i : Nat) x, vs[i]? = some x → ∃ t, x = Value.int (i : Int) t) → (∀ b o, s.heap.get? b = some o → h'.get? b = some o) → Q vs { s with heap := h', toks := tk }) :
    wpAny (model prog w) A (collect (.ref r)) Q E s := by
  have keep : ∀ b o, s.heap.get? b = some o → (s.heap.push (seqObj "list" #[] 0)).get? b = some o := fun b o e => Heap.get?_push_of_some _ e
  have key : ∀ R : Result → Shared → Prop, (∀ h' tk acc' c', (∀ b o, s.heap.get? b = some o → h'.get? b = some o) → h'.get? s.heap.objs.size = some { cls := .type "list", dict := none, data := .seq acc' c', slots := #[] } →
      ItemsOf (fun i v => ∃ t, v = .int (0 + i * 1) t) acc' n → R (.ok (.ret (.ref s.heap.objs.size))) { s with heap := h', toks := tk }) →
      codeAny (model prog w) A (.builtin "list.__iadd__" ⟨[.ref s.heap.objs.size, .ref r], []⟩) R { s with heap := s.heap.push (seqObj "list" #[] 0) } := by
    intro R hR
    refine codeAny_builtin entry_list_iadd' ?_
    rw [Around.under_plainId (by decide +kernel)]
    show wpAny _ _ (Builtin.List.listExtendWith (.ref s.heap.objs.size) (.ref r) (.ref s.heap.objs.size)) _ _ _
    exact wpAny_extend_range (R := R) (s := { s with heap := s.heap.push (seqObj "list" #[] 0) }) hh (keep _ _ hr) (range_small (by omega)) (range_size n) (by omega) s.heap.objs.size _ 0 (Heap.get?_push_size _ rfl) fun h' tk acc' c' hk hS hacc =>
      hR h' tk acc' c' (fun b o e => hk b o (Nat.ne_of_lt (Heap.lt_size e)) (keep b o e)) hS hacc
  unfold collect
  refine wpAny_bind (wpAny_runValue (codeAny_builtin entry_proto_collect' ?_))
  show wpAny _ _ (do again (.builtin "list.__iadd__" ⟨[← newList [], .ref r], []⟩)) _ _ s
  refine wpAny_bind (wpAny_newList (wpAny_pure ⟨Code.quiet_builtin _ (by decide +kernel), key _ fun h' tk acc' c' hk hS hacc => ?_⟩))
  show wpAny (model prog w) A (do
      let o ← load s.heap.objs.size
      match o.data with
      | .seq xs _ => pure xs.toList
      | _ => unsupported "internal:collect") Q E { s with heap := h', toks := tk }
  refine wpAny_bind (wpAny_load hS ?_)
  refine wpAny_pure (h _ _ _ (by rw [Array.length_toList]; exact hacc.1) (fun i x hx => ?_) hk)
  obtain ⟨t, e⟩ := hacc.2 i x (by simpa using hx)
  exact ⟨t, by rw [e]; congr 1; omega⟩

theorem sorted_range {r q : Addr} {t u v : Tok} {n : Nat} {ka kb : Nat → Int} {Q : Value → Shared → Prop} (hh : A.handled = none) (F : Fr h₀ L s.heap m) (N : News h₀ L s.heap news) (hr : IsRange s.heap r 0 n 1 t u v) (h64 : n < 64) (hkb : ∀ i, i < n → -1000000 ≤ kb i ∧ kb i ≤ 1000000)
    (turn : ∀ (i : Nat) (t : Tok) (h : Heap) (tk : Nat) (led : List (Addr × Obj)), i < n → Fr h₀ L h m → News h₀ L h led → (∀ p ∈ news, p ∈ led) →
      wpAny (model prog w) A.in1.in1 (call (.ref q) [.int i t]) (SrtEnd h₀ L m led (ka i) (kb i) i { s with heap := h, toks := tk }) (fun _ _ => False) { s with heap := h, toks := tk })
    (h : ∀ D (os : List Nat) (out : List Value) h' tk c, os.Perm (List.range n) → os.Pairwise (fun i j => lexK (ka i) (kb i) i ≤ lexK (ka j) (kb j) j) → IntsAre out (os.map fun (i : Nat) => (i : Int)) → Fr h₀ L h' m → News h₀ L h' ((D, listOf out.toArray c) :: news) → (∀ p ∈ news, p.1 ≠ D) → Q (.ref D) { s with heap := h', toks := tk }) :
    wpAny (model prog w) A (call (.builtin "sorted") [.ref r] [(Str.ofString "key", .ref q)]) Q E s := by
  refine call_function_entry_kw kind_sorted plain_sorted entry_sorted (ksk_s1 _ _) ?_
  unfold Builtin.«sorted»
  refine wpAny_bind (m := checkCount "sorted" 1 1 _) (wpAny_pure ?_)
  refine wpAny_bind (collect_range hh hr (by omega) fun vs h1 tk1 hl hv k1 => ?_)
  refine wpAny_bind (wpAny_newList ?_ (by rw [sizeLine_eq]; omega))
  have keep : ∀ b o, s.heap.get? b = some o → (h1.push (seqObj "list" vs.toArray 0)).get? b = some o := fun b o e => Heap.get?_push_of_some _ (k1 b o e)
  have hL : L < s.heap.objs.size := F.ns.lt
  have F1 := F.kept keep
  have hLD : L < h1.objs.size := (F.kept k1).ns.lt
  have hnD : ∀ p ∈ news, p.1 ≠ h1.objs.size := fun p hp => Nat.ne_of_lt (Heap.lt_size (k1 _ _ (N p hp).1))
  show wpAny _ _ _ _ _ { s with heap := h1.push (seqObj "list" vs.toArray 0), toks := tk1 }
  refine wpAny_bind (wpAny_holding (wpAny_call_entry_kw slot_list_sort ⟨_, Heap.get?_push_size _ rfl, rfl⟩ entry_list_sort ?body (ksk_l1 _ _)))
  case body =>
    show wpAny (model prog w) A.in1.in1 (Builtin.«list.sort» ⟨[.ref h1.objs.size], [(Str.ofString "key", .ref q)]⟩) _ _ _
    rw [ksk_t1]
    refine srt_tree (s := { s with heap := h1.push (seqObj "list" vs.toArray 0), toks := tk1 }) (ka := ka) (kb := kb) F1 (N.grown keep) (Heap.get?_push_size _ rfl) (Nat.ne_of_gt hLD) (Heap.get?_none_of_le (Nat.le_trans F.above (Nat.le_of_lt hLD))) hnD (by omega) (by rw [hl]; exact hkb)
      (fun i v h tk led hvi F' N' hs => ?_) fun os h' tk c z1 z2 z3 z4 => ?_
    · obtain ⟨t, rfl⟩ := hv i v hvi
      exact turn i t h tk led (by rw [← hl]; exact (List.getElem?_eq_some_iff.mp hvi).1) F' N' hs
    · refine ⟨_, rfl, wpAny_pure ⟨_, rfl, h _ os _ h' tk c (hl ▸ z1) z2 ?_ z3 z4 hnD⟩⟩
      have hos : ∀ i ∈ os, i < vs.length := fun i hi => List.mem_range.mp (z1.mem_iff.mp hi)
      clear z1 z2 z4
      induction os with
      | nil => exact .nil
      | cons i r ih =>
        have hi := hos i (.head _)
        have e : vs[i]? = some vs[i] := List.getElem?_eq_getElem hi
        obtain ⟨t, ht⟩ := hv i _ e
        have e2 : vs.getD i Value.none = .int i t := by rw [List.getD_eq_getElem?_getD, e, ← ht]; rfl
        simp only [List.map_cons, e2]
        exact .cons _ _ (ih fun j hj => hos j (.tail _ hj))
end

end
-- part L6
section
open PySem PySem.W PyProof.Rows
set_option maxRecDepth 100000
set_option maxHeartbeats 4000000
/-- texts in a list, by place -/
def StrsAt (vs : List Value) (xs : List Str) : Prop := vs.length = xs.length ∧ ∀ (i : Nat) (x : Str), xs[i]? = some x → ∃ t, vs[i]? = some (Value.str x t)
theorem all_eq_lists {xs ys : List Str} (h : xs.length = ys.length) : (List.range xs.length).all (fun i => xs.getD i Str.empty == ys.getD i Str.empty) = decide (xs = ys) := by
  by_cases e : xs = ys
  · rw [decide_eq_true e, e]
    simp
  · rw [decide_eq_false e]
    apply Bool.eq_false_iff.mpr
    intro ha
    refine e (List.ext_getElem h fun i h1 h2 => ?_)
    have := List.all_eq_true.mp ha i (List.mem_range.mpr h1)
    rw [beq_iff_eq, List.getD_eq_getElem?_getD, List.getD_eq_getElem?_getD, List.getElem?_eq_getElem h1, List.getElem?_eq_getElem h2] at this
    exact this
section
variable {prog : Program} {w : World} {A : Around} {E : Value → Shared → Prop} {s : Shared} {h₀ : Heap} {L l b : Addr} {vs us : List Value} {xs ys : List Str} {n n2 : Nat} {news : List (Addr × Obj)} {Q : Value → Shared → Prop}
theorem ne_nil_led (N : News h₀ L s.heap news) (hm : (l, W.listOf vs.toArray n) ∈ news) (hb : (b, W.listOf #[] n2) ∈ news) (hu : A.units < cLine) (h : Q (.bool (!vs.isEmpty)) s) :
    wpAny (model prog w) A (compareOp .NotEq (.ref l) (.ref b)) Q E s := by
  have h1 := News.isList N hm
  have h2 := News.isList N hb
  show wpAny _ _ (richCompare .NotEq (.ref l) (.ref b)) _ _ _
  cases vs with
  | nil => exact SeqAt.RcNeAt.lists (e := fun _ => true) h1 h2 rfl hu (fun j hj => absurd hj (Nat.not_lt_zero _)) prog w E Q h
  | cons v vs => exact SeqAt.RcNeAt.lists_lengths h1 h2 (by simp) hu prog w E Q h
theorem strs_items (hx : StrsAt vs xs) (hy : StrsAt us ys) (e : xs.length = ys.length) : ∀ j (h1 : j < vs.toArray.size) (h2 : j < us.toArray.size), SeqAt.EqAt A.in1 s vs.toArray[j] us.toArray[j] (xs.getD j Str.empty == ys.getD j Str.empty) := by
  intro j h1 h2
  have g1 : j < xs.length := hx.1 ▸ (by simpa using h1)
  have g2 : j < ys.length := e ▸ g1
  obtain ⟨t, e1⟩ := hx.2 j _ (List.getElem?_eq_getElem g1)
  obtain ⟨u, e2⟩ := hy.2 j _ (List.getElem?_eq_getElem g2)
  have f1 : vs.toArray[j] = .str xs[j] t := by
    have := List.getElem?_eq_some_iff.mp e1
    simpa using this.2
  have f2 : us.toArray[j] = .str ys[j] u := by
    have := List.getElem?_eq_some_iff.mp e2
    simpa using this.2
  rw [f1, f2, List.getD_eq_getElem?_getD, List.getD_eq_getElem?_getD, List.getElem?_eq_getElem g1, List.getElem?_eq_getElem g2]
  exact SeqAt.EqAt.str_str _ _ _ _
theorem eq_strs (N : News h₀ L s.heap news) (hm : (l, W.listOf vs.toArray n) ∈ news) (hb : (b, W.listOf us.toArray n2) ∈ news) (hx : StrsAt vs xs) (hy : StrsAt us ys) (hu : A.units < cLine) (h : Q (.bool (decide (xs = ys))) s) :
    wpAny (model prog w) A (compareOp .Eq (.ref l) (.ref b)) Q E s := by
  have h1 := News.isList N hm
  have h2 := News.isList N hb
  show wpAny _ _ (richCompare .Eq (.ref l) (.ref b)) _ _ _
  by_cases e : xs.length = ys.length
  · have := SeqAt.RcAt.lists h1 h2 (by have a := hx.1; have b := hy.1; simp; omega) hu (strs_items hx hy e)
    have e2 : vs.toArray.size = xs.length := by have a := hx.1; simp; omega
    rw [e2, all_eq_lists e] at this
    exact this prog w E Q h
  · have e2 : decide (xs = ys) = false := decide_eq_false fun q => e (by rw [q])
    rw [e2] at h
    exact SeqAt.RcAt.lists_lengths h1 h2 (by have a := hx.1; have b := hy.1; simp; omega) hu prog w E Q h
theorem ne_strs (N : News h₀ L s.heap news) (hm : (l, W.listOf vs.toArray n) ∈ news) (hb : (b, W.listOf us.toArray n2) ∈ news) (hx : StrsAt vs xs) (hy : StrsAt us ys) (hu : A.units < cLine) (h : Q (.bool (!decide (xs = ys))) s) :
    wpAny (model prog w) A (compareOp .NotEq (.ref l) (.ref b)) Q E s := by
  have h1 := News.isList N hm
  have h2 := News.isList N hb
  show wpAny _ _ (richCompare .NotEq (.ref l) (.ref b)) _ _ _
  by_cases e : xs.length = ys.length
  · have := SeqAt.RcNeAt.lists h1 h2 (by have a := hx.1; have b := hy.1; simp; omega) hu (strs_items hx hy e)
    have e2 : vs.toArray.size = xs.length := by have a := hx.1; simp; omega
    rw [e2, all_eq_lists e] at this
    exact this prog w E Q h
  · have e2 : decide (xs = ys) = false := decide_eq_false fun q => e (by rw [q])
    rw [e2] at h
    exact SeqAt.RcNeAt.lists_lengths h1 h2 (by have a := hx.1; have b := hy.1; simp; omega) hu prog w E Q h
end

end
-- part C1
section
open PySem PySem.W PyProof.Rows
set_option maxRecDepth 100000
set_option maxHeartbeats 0

/-- what a call yields, over the ledger it is made in -/
def Ok (w : World) (news : List (Addr × Obj)) (f : Value) (vs : List Value) (D U : Nat) (Post : Value → List (Addr × Obj) → Prop) : Prop :=
  ∀ (pr : Program) (loose : List Str) (mean : ExcName → Option Value) (mg mb : Str → Option Value) (dp un : Nat) (gd : Option (List Code)) (cn : Str) (cs : Scope) (a : Addr) (ccd : Value) (cl : List (Str × Addr)) (outer : List Env) (A₀ : Around) (base h₀ : Heap) (L : Addr) (m : Str → Option Value) (s : Shared)
    (Q E : Value → Shared → Prop),
    Below A₀ base outer h₀ → Fr h₀ L s.heap m → (k0.heap_1 w.params).In h₀ → News h₀ L s.heap news → Top pr loose mean mg mb h₀ → cs.kind = .function → dp + D < recursionLimit → un + U < cLine →
    (∀ r news' h' tk', Fr h₀ L h' m → News h₀ L h' news' → Post r news' → Q r { s with heap := h', toks := tk' }) →
    wpAny (model PySem.Challenge.rw_og0150_01.row.prog w) (ktrTop dp un gd cn cs L a ccd cl outer) (call f vs) Q E s

theorem ok_room {dp D n a D' : Nat} (h : dp + D < n) (k : Nat.ble (a + D') D = true) : dp + a + D' < n := by
  have := Nat.le_of_ble_eq_true k
  omega

theorem ok_use {w : World} {news : List (Addr × Obj)} {f : Value} {vs : List Value} {D U : Nat} {Post : Value → List (Addr × Obj) → Prop} (C : Ok w news f vs D U Post)
    {pr : Program} {loose : List Str} {mean : ExcName → Option Value} {mg mb : Str → Option Value} {dp un : Nat} {gd : Option (List Code)} {cn : Str} {cs : Scope} {a : Addr} {ccd : Value} {cl : List (Str × Addr)} {outer : List Env} {A₀ : Around} {base h₀ : Heap} {L : Addr} {m : Str → Option Value} {s : Shared}
    {Q E : Value → Shared → Prop} (B : Below A₀ base outer h₀) (F : Fr h₀ L s.heap m) (X : (k0.heap_1 w.params).In h₀) (N : News h₀ L s.heap news) (T : Top pr loose mean mg mb h₀) (hk : cs.kind = .function) (hd : dp + D < recursionLimit) (hu : un + U < cLine)
    (ret : ∀ r news' h' tk', Fr h₀ L h' m → News h₀ L h' news' → Post r news' → Q r { s with heap := h', toks := tk' }) :
    wpAny (model PySem.Challenge.rw_og0150_01.row.prog w) (ktrTop dp un gd cn cs L a ccd cl outer) (call f vs) Q E s := C _ _ _ _ _ _ _ _ _ _ _ _ _ _ _ _ _ _ _ _ _ _ B F X N T hk hd hu ret



/-- the ledger grows at its top -/
def Gr (news news' : List (Addr × Obj)) : Prop := ∃ tl, news' = tl ++ news ∧ ∀ q ∈ news, ∀ p ∈ tl, p.1 ≠ q.1
theorem Gr.refl (news : List (Addr × Obj)) : Gr news news := ⟨[], rfl, fun _ _ _ h => nomatch h⟩
theorem Gr.sub {n n' : List (Addr × Obj)} (g : Gr n n') {p : Addr × Obj} (h : p ∈ n) : p ∈ n' := by
  obtain ⟨tl, rfl, _⟩ := g
  exact List.mem_append.mpr (.inr h)
theorem Gr.trans {n n' n'' : List (Addr × Obj)} (g : Gr n n') (g' : Gr n' n'') : Gr n n'' := by
  obtain ⟨tl, rfl, a⟩ := g
  obtain ⟨tl', rfl, b⟩ := g'
  refine ⟨tl' ++ tl, (List.append_assoc ..).symm, fun q hq p hp => ?_⟩
  rcases List.mem_append.mp hp with hp | hp
  · exact b q (List.mem_append.mpr (.inr hq)) p hp
  · exact a q hq p hp
theorem Gr.put {n n' : List (Addr × Obj)} (g : Gr n n') {x : Addr} {o : Obj} (h : ∀ p ∈ n', p.1 ≠ x) : Gr n ((x, o) :: n') := by
  refine g.trans ⟨[(x, o)], rfl, fun q hq p hp => ?_⟩
  rw [List.mem_singleton.mp hp]
  exact fun e => h q hq e.symm
theorem Gr.one {n n' : List (Addr × Obj)} (g : Gr n n') {x : Addr} {o : Obj} (h : ∀ p ∈ n', p.1 < x) : Gr n ((x, o) :: n') := g.put fun p hp => Nat.ne_of_lt (h p hp)
theorem Gr.two {n n' : List (Addr × Obj)} (g : Gr n n') {x y : Addr} {o u : Obj} (h : ∀ p ∈ n', p.1 < y) (h2 : y < x) : Gr n ((x, o) :: (y, u) :: n') := by
  refine (g.one h).one fun p hp => ?_
  rcases List.mem_cons.mp hp with rfl | hp
  · exact h2
  · exact Nat.lt_trans (h p hp) h2

theorem sign_of_ok (w : World) (n : Int) (t : Tok) (news : List (Addr × Obj)) : Ok w news (.ref 161) [.int n t] 4 40 (fun r news' => news' = news ∧ ∃ t', r = .int n.sign t') := by
  ((((unfold Ok; k_fill; intro pr loose mean mg mb dp un gd cn cs a ccd cl outer A₀ base h₀ L m s Q E B F X N T hk hd hu hret)); refine wpAny_call ?_; k_dflt ktr_enter))
  k_steps
  · have e : n = 0 := by assumption
    (refine hret _ _ _ _ (by k_asm) (by k_asm) ?_)
    exact ⟨rfl, _, by rw [e]; rfl⟩
  · (refine hret _ _ _ _ (by k_asm) (by k_asm) ?_)
    exact ⟨rfl, _, by rw [Int.sign_eq_one_of_pos (by assumption)]⟩
  · (refine hret _ _ _ _ (by k_asm) (by k_asm) ?_)
    exact ⟨rfl, _, by rw [Int.sign_eq_neg_one_of_neg (by omega)]⟩

/-- a number of the program's: t over 10 ^ p, in hundredths c -/
def Sc (p t c : Int) : Prop := (p = 0 ∧ c = t * 100) ∨ (p = 1 ∧ c = t * 10) ∨ (p = 2 ∧ c = t)
abbrev decDict (w : World) (t p : Int) (k1 k2 t1 t2 : Tok) : Obj :=
  dictOf [⟨PyData.keyHash w.params (Str.ofString "top"), .str (Str.ofString "top") k1, .int t t1⟩, ⟨PyData.keyHash w.params (Str.ofString "places"), .str (Str.ofString "places") k2, .int p t2⟩] 2
/-- v is such a number, of at most b places -/
inductive IsDec (w : World) (news : List (Addr × Obj)) : Value → Int → Int → Prop
  | mk {x dx : Addr} {t p b c : Int} {k1 k2 t1 t2 : Tok} : (x, instObj 143 dx) ∈ news → (dx, decDict w t p k1 k2 t1 t2) ∈ news → Sc p t c → p ≤ b → IsDec w news (.ref x) b c
theorem IsDec.mono {w : World} {n n' : List (Addr × Obj)} {v : Value} {b c : Int} (h : IsDec w n v b c) (g : Gr n n') : IsDec w n' v b c := by
  cases h with
  | mk a b s q => exact .mk (g.sub a) (g.sub b) s q
theorem IsDec.le {w : World} {n : List (Addr × Obj)} {v : Value} {b b' c : Int} (h : IsDec w n v b c) (g : b ≤ b') : IsDec w n v b' c := by
  cases h with
  | mk a b s q => exact .mk a b s (Int.le_trans q g)
theorem IsDec.sub {w : World} {n n' : List (Addr × Obj)} {v : Value} {b c : Int} (h : IsDec w n v b c) (g : ∀ p ∈ n, p ∈ n') : IsDec w n' v b c := by
  cases h with
  | mk a b s q => exact .mk (g _ a) (g _ b) s q
theorem Sc.bd {p t c : Int} (h : Sc p t c) : 0 ≤ p ∧ p ≤ 2 := by rcases h with ⟨rfl, _⟩ | ⟨rfl, _⟩ | ⟨rfl, _⟩ <;> decide
theorem Sc.top {p t c : Int} (h : Sc p t c) (hc : -1000000 ≤ c ∧ c ≤ 1000000) : -1000000 ≤ t ∧ t ≤ 1000000 := by rcases h with ⟨rfl, _⟩ | ⟨rfl, _⟩ | ⟨rfl, _⟩ <;> omega
theorem Sc.sub {p a b c d : Int} (h : Sc p a c) (k : Sc p b d) : Sc p (a - b) (c - d) := by
  rcases h with ⟨rfl, rfl⟩ | ⟨rfl, rfl⟩ | ⟨rfl, rfl⟩ <;> rcases k with ⟨e, rfl⟩ | ⟨e, rfl⟩ | ⟨e, rfl⟩ <;> (unfold Sc; omega)
theorem Sc.sgn {p a b c d : Int} (h : Sc p a c) (k : Sc p b d) : (a - b).sign = (c - d).sign := by
  have z := h.sub k
  have e1 : Int.sign 100 = 1 := rfl
  have e2 : Int.sign 10 = 1 := rfl
  rcases z with ⟨_, e⟩ | ⟨_, e⟩ | ⟨_, e⟩ <;> rw [e]
  · rw [Int.sign_mul, e1, Int.mul_one]
  · rw [Int.sign_mul, e2, Int.mul_one]
theorem Sc.neg {p a c : Int} (h : Sc p a c) : Sc p (-a) (-c) := by
  rcases h with ⟨rfl, rfl⟩ | ⟨rfl, rfl⟩ | ⟨rfl, rfl⟩ <;> (unfold Sc; omega)
theorem Sc.mul {p a c k t q : Int} (h : Sc p a c) (hk : Sc q t (k * 100)) (hq : q ≤ 0) : Sc (p + q) (a * t) (c * k) := by
  have e : q = 0 := by have := hk.bd; omega
  subst e
  have e : t = k := by rcases hk with ⟨_, e⟩ | ⟨e, _⟩ | ⟨e, _⟩ <;> omega
  subst e
  rw [Int.add_zero]
  rcases h with ⟨rfl, rfl⟩ | ⟨rfl, rfl⟩ | ⟨rfl, rfl⟩
  · exact .inl ⟨rfl, by rw [Int.mul_assoc, Int.mul_assoc, Int.mul_comm 100]⟩
  · exact .inr (.inl ⟨rfl, by rw [Int.mul_assoc, Int.mul_assoc, Int.mul_comm 10]⟩)
  · exact .inr (.inr ⟨rfl, rfl⟩)
theorem Sc.int {q t k : Int} (hk : Sc q t (k * 100)) (hq : q ≤ 0) : q = 0 ∧ t = k := by
  have e : q = 0 := by have := hk.bd; omega
  subst e
  exact ⟨rfl, by rcases hk with ⟨_, e⟩ | ⟨e, _⟩ | ⟨e, _⟩ <;> omega⟩

theorem dec_norm {p t c k : Int} (hs : Sc p t c) (h1 : k ≤ p) (h2 : min p 0 ≤ k)
    (h3 : ∀ j, k < j → j ≤ p → (if 0 < j then if ((accDown (fun _ (x : Int) => x.fdiv 10) p t j).fmod 10 == 0) = true then true else false else false) = true) :
    Sc k (accDown (fun _ (x : Int) => x.fdiv 10) p t k) c := by
  have key : ∀ j, k < j → j ≤ p → (accDown (fun _ (x : Int) => x.fdiv 10) p t j) = 10 * (accDown (fun _ (x : Int) => x.fdiv 10) p t (j - 1)) := by
    intro j a b
    have := h3 j a b
    have hj : 0 < j := by
      by_cases q : 0 < j
      · exact q
      · rw [if_neg q] at this; cases this
    rw [if_pos hj] at this
    have q : (accDown (fun _ (x : Int) => x.fdiv 10) p t j).fmod 10 = 0 := by
      by_cases q : ((accDown (fun _ (x : Int) => x.fdiv 10) p t j).fmod 10 == 0) = true
      · exact beq_iff_eq.mp q
      · rw [if_neg q] at this; cases this
    rw [accDown_succ b]
    rw [Int.fmod_eq_emod_of_nonneg _ (by decide)] at q
    rw [Int.fdiv_eq_ediv_of_nonneg _ (by decide)]
    omega
  have st : accDown (fun _ (x : Int) => x.fdiv 10) p t p = t := accDown_start
  rcases hs with ⟨rfl, rfl⟩ | ⟨rfl, rfl⟩ | ⟨rfl, rfl⟩
  · obtain rfl : k = 0 := by omega
    rw [st]; exact .inl ⟨rfl, rfl⟩
  · have : k = 0 ∨ k = 1 := by omega
    rcases this with rfl | rfl
    · have a := key 1 (by decide) (by decide)
      rw [st] at a
      exact .inl ⟨rfl, by have : (1 : Int) - 1 = 0 := rfl; rw [this] at a; omega⟩
    · rw [st]; exact .inr (.inl ⟨rfl, rfl⟩)
  · have : k = 0 ∨ k = 1 ∨ k = 2 := by omega
    rcases this with rfl | rfl | rfl
    · have a := key 2 (by decide) (by decide)
      have b := key 1 (by decide) (by decide)
      have e1 : (2 : Int) - 1 = 1 := rfl
      have e0 : (1 : Int) - 1 = 0 := rfl
      rw [st, e1] at a
      rw [e0] at b
      exact .inl ⟨rfl, by omega⟩
    · have a := key 2 (by decide) (by decide)
      have e1 : (2 : Int) - 1 = 1 := rfl
      rw [st, e1] at a
      exact .inr (.inl ⟨rfl, by omega⟩)
    · rw [st]; exact .inr (.inr ⟨rfl, rfl⟩)

theorem dec_ok (w : World) (t p c : Int) (k1 k2 : Tok) (news : List (Addr × Obj)) (hs : Sc p t c) : Ok w news (.ref 143) [.int t k1, .int p k2] 4 40 (fun r news' => Gr news news' ∧ IsDec w news' r p c) := by
  ((unfold Ok; k_fill; intro pr loose mean mg mb dp un gd cn cs a ccd cl outer A₀ base h₀ L m s Q E B F X N T hk hd hu hret))
  ((k_dflt (refine' call_cls ?k1 ?k2 ?k3 ?k4 ?k5 ?k6 ?_; (case k1 => k_asm); (case k2 => k_asm); (case k3 => k_asm); (case k4 => k_is); (case k5 => k_is); (case k6 => k_is); k_whole; intro x' d' h' F' N' l1 l2; (try k_lt2 l2); k_sweep; ktr_enter)))
  k_steps
  (refine hret _ _ _ _ (by k_asm) (by k_asm) ?_)
  exact ⟨(Gr.refl _).two l1 l2, .mk (.head _) (.tail _ (.head _)) (dec_norm hs (by assumption) (by assumption) (by assumption)) (by assumption)⟩

theorem decimal_of_ok (w : World) (v : Value) (b c : Int) (news : List (Addr × Obj)) (hv : IsDec w news v b c) : Ok w news (.ref 168) [v] 4 40 (fun r news' => news' = news ∧ r = v) := by
  obtain ⟨hm, hd, hs, -⟩ := hv
  ((((unfold Ok; k_fill; intro pr loose mean mg mb dp un gd cn cs a ccd cl outer A₀ base h₀ L m s Q E B F X N T hk hd hu hret)); refine wpAny_call ?_; k_dflt ktr_enter))
  k_steps
  (refine hret _ _ _ _ (by k_asm) (by k_asm) ?_)
  exact ⟨rfl, rfl⟩
theorem decimal_of_int (w : World) (t : Int) (k1 : Tok) (news : List (Addr × Obj)) : Ok w news (.ref 168) [.int t k1] 8 80 (fun r news' => Gr news news' ∧ IsDec w news' r 0 (t * 100)) := by
  ((((unfold Ok; k_fill; intro pr loose mean mg mb dp un gd cn cs a ccd cl outer A₀ base h₀ L m s Q E B F X N T hk hd hu hret)); refine wpAny_call ?_; k_dflt ktr_enter))
  k_steps
  ((k_dflt (refine' ok_use (dec_ok w _ _ _ _ _ _ (.inl ⟨rfl, rfl⟩)) ?k1 ?k2 ?k3 ?k4 ?k5 ?kK ?kd ?ku ?_; (case k1 => k_asm); (case k2 => k_asm); (case k3 => k_asm); (case k4 => k_asm); (case k5 => k_asm); (case kK => first | exact rfl | assumption); (case kd => first | exact ok_room hd rfl | ktr_room); (case ku => first | exact ok_room hu rfl | ktr_units)); intro r9 n9 h9 tk9 F9 N9 P9; (try dsimp only); (try k_fold)))
  k_steps
  (refine hret _ _ _ _ (by k_asm) (by k_asm) ?_)
  exact P9

end
-- part C2
section
open PySem PySem.W PyProof.Rows
set_option maxRecDepth 100000
set_option maxHeartbeats 0

local macro_rules | `(tactic| walk_at "binaryOp Pow int int") => `(tactic| ((with_reducible refine pow_int_small ?kb1 ?kb2 ?kb3 ?_); (case kb1 => split <;> omega); (case kb2 => split <;> omega); (case kb3 => decide)))

/-- the sum of both tops over the greater count of places -/
theorem scale_is {p1 t1 c p2 t2 d : Int} (h1 : Sc p1 t1 c) (h2 : Sc p2 t2 d) :
    Sc (if p2 > p1 then p2 else p1) (t1 * 10 ^ ((if p2 > p1 then p2 else p1) - p1).toNat) c ∧ Sc (if p2 > p1 then p2 else p1) (t2 * 10 ^ ((if p2 > p1 then p2 else p1) - p2).toNat) d := by
  rcases h1 with ⟨rfl, rfl⟩ | ⟨rfl, rfl⟩ | ⟨rfl, rfl⟩ <;> rcases h2 with ⟨rfl, rfl⟩ | ⟨rfl, rfl⟩ | ⟨rfl, rfl⟩ <;> (simp [Sc]; try omega)

inductive IsTrio (news : List (Addr × Obj)) : Value → Int → Int → Prop
  | mk {D : Addr} {A B P c d : Int} {ta tb tp : Tok} : (D, ({ cls := .type "tuple", data := .seq #[.int A ta, .int B tb, .int P tp] } : Obj)) ∈ news → Sc P A c → Sc P B d → IsTrio news (.ref D) c d

theorem at_one_scale_ok (w : World) (v u : Value) (c d b e : Int) (news : List (Addr × Obj)) (hv : IsDec w news v b c) (hw : IsDec w news u e d) (hc : -1000000 ≤ c ∧ c ≤ 1000000) (hdd : -1000000 ≤ d ∧ d ≤ 1000000) :
    Ok w news (.ref 175) [v, u] 8 80 (fun r news' => Gr news news' ∧ IsTrio news' r c d) := by
  ((((unfold Ok; k_fill; intro pr loose mean mg mb dp un gd cn cs a ccd cl outer A₀ base h₀ L m s Q E B F X N T hk hd hu hret)); refine wpAny_call ?_; k_dflt ktr_enter))
  k_steps
  ((k_dflt (refine' ok_use (decimal_of_ok w _ _ _ _ hv) ?k1 ?k2 ?k3 ?k4 ?k5 ?kK ?kd ?ku ?_; (case k1 => k_asm); (case k2 => k_asm); (case k3 => k_asm); (case k4 => k_asm); (case k5 => k_asm); (case kK => first | exact rfl | assumption); (case kd => first | exact ok_room hd rfl | ktr_room); (case ku => first | exact ok_room hu rfl | ktr_units)); intro r9 n9 h9 tk9 F9 N9 P9; (try dsimp only); (try k_fold)))
  obtain ⟨e1, e2⟩ := P9
  subst e1 e2
  k_steps
  ((k_dflt (refine' ok_use (decimal_of_ok w _ _ _ _ hw) ?k1 ?k2 ?k3 ?k4 ?k5 ?kK ?kd ?ku ?_; (case k1 => k_asm); (case k2 => k_asm); (case k3 => k_asm); (case k4 => k_asm); (case k5 => k_asm); (case kK => first | exact rfl | assumption); (case kd => first | exact ok_room hd rfl | ktr_room); (case ku => first | exact ok_room hu rfl | ktr_units)); intro r9 n9 h9 tk9 F9 N9 P9; (try dsimp only); (try k_fold)))
  obtain ⟨e1, e2⟩ := P9
  subst e1 e2
  obtain ⟨hm1, hd1, hs1, -⟩ := hv
  obtain ⟨hm2, hd2, hs2, -⟩ := hw
  have hp1 := hs1.bd
  have hp2 := hs2.bd
  have ht1 := hs1.top hc
  have ht2 := hs2.top hdd
  (repeat' (first | (k_unfold; (try dsimp only)) | (k_end; wrow_close) | walk1 | (dsimp only; walk1) | (leave1; walk_say "STEP leave1"; try dsimp only) | fail "no step"))
  (refine hret _ _ _ _ (by k_asm) (by k_asm) ?_)
  exact ⟨(Gr.refl _).one (by assumption), .mk (.head _) (scale_is hs1 hs2).1 (scale_is hs1 hs2).2⟩

end
-- part C3
section
open PySem PySem.W PyProof.Rows
set_option maxRecDepth 100000
set_option maxHeartbeats 0

theorem minus_ok (w : World) (v u : Value) (c d b e : Int) (news : List (Addr × Obj)) (hv : IsDec w news v b c) (hw : IsDec w news u e d) (hc : -1000000 ≤ c ∧ c ≤ 1000000) (hdd : -1000000 ≤ d ∧ d ≤ 1000000) :
    Ok w news (.ref 77) [v, u] 12 120 (fun r news' => Gr news news' ∧ IsDec w news' r 2 (c - d)) := by
  ((((unfold Ok; k_fill; intro pr loose mean mg mb dp un gd cn cs a ccd cl outer A₀ base h₀ L m s Q E B F X N T hk hd hu hret)); refine wpAny_call ?_; k_dflt ktr_enter))
  k_steps
  ((k_dflt (refine' ok_use (at_one_scale_ok w _ _ _ _ _ _ _ hv hw hc hdd) ?k1 ?k2 ?k3 ?k4 ?k5 ?kK ?kd ?ku ?_; (case k1 => k_asm); (case k2 => k_asm); (case k3 => k_asm); (case k4 => k_asm); (case k5 => k_asm); (case kK => first | exact rfl | assumption); (case kd => first | exact ok_room hd rfl | ktr_room); (case ku => first | exact ok_room hu rfl | ktr_units)); intro r9 n9 h9 tk9 F9 N9 P9; (try dsimp only); (try k_fold)))
  obtain ⟨g1, ht⟩ := P9
  obtain ⟨hm, hs1, hs2⟩ := ht
  (repeat' (first | (k_unfold; (try dsimp only)) | (k_end; wrow_close) | walk1 | (dsimp only; walk1) | (leave1; walk_say "STEP leave1"; try dsimp only) | fail "no step"))
  ((k_dflt (refine' ok_use (dec_ok w _ _ _ _ _ _ (hs1.sub hs2)) ?k1 ?k2 ?k3 ?k4 ?k5 ?kK ?kd ?ku ?_; (case k1 => k_asm); (case k2 => k_asm); (case k3 => k_asm); (case k4 => k_asm); (case k5 => k_asm); (case kK => first | exact rfl | assumption); (case kd => first | exact ok_room hd rfl | ktr_room); (case ku => first | exact ok_room hu rfl | ktr_units)); intro r9 n9 h9 tk9 F9 N9 P9; (try dsimp only); (try k_fold)))
  (repeat' (first | (k_unfold; (try dsimp only)) | (k_end; wrow_close) | walk1 | (dsimp only; walk1) | (leave1; walk_say "STEP leave1"; try dsimp only) | fail "no step"))
  (refine hret _ _ _ _ (by k_asm) (by k_asm) ?_)
  exact ⟨g1.trans P9.1, P9.2.le hs1.bd.2⟩

theorem compared_ok (w : World) (v u : Value) (c d b e : Int) (news : List (Addr × Obj)) (hv : IsDec w news v b c) (hw : IsDec w news u e d) (hc : -1000000 ≤ c ∧ c ≤ 1000000) (hdd : -1000000 ≤ d ∧ d ≤ 1000000) :
    Ok w news (.ref 98) [v, u] 12 120 (fun r news' => Gr news news' ∧ ∃ t, r = .int (c - d).sign t) := by
  ((((unfold Ok; k_fill; intro pr loose mean mg mb dp un gd cn cs a ccd cl outer A₀ base h₀ L m s Q E B F X N T hk hd hu hret)); refine wpAny_call ?_; k_dflt ktr_enter))
  k_steps
  ((k_dflt (refine' ok_use (at_one_scale_ok w _ _ _ _ _ _ _ hv hw hc hdd) ?k1 ?k2 ?k3 ?k4 ?k5 ?kK ?kd ?ku ?_; (case k1 => k_asm); (case k2 => k_asm); (case k3 => k_asm); (case k4 => k_asm); (case k5 => k_asm); (case kK => first | exact rfl | assumption); (case kd => first | exact ok_room hd rfl | ktr_room); (case ku => first | exact ok_room hu rfl | ktr_units)); intro r9 n9 h9 tk9 F9 N9 P9; (try dsimp only); (try k_fold)))
  obtain ⟨g1, ht⟩ := P9
  obtain ⟨hm, hs1, hs2⟩ := ht
  (repeat' (first | (k_unfold; (try dsimp only)) | (k_end; wrow_close) | walk1 | (dsimp only; walk1) | (leave1; walk_say "STEP leave1"; try dsimp only) | fail "no step"))
  ((k_dflt (refine' ok_use (sign_of_ok w _ _ _) ?k1 ?k2 ?k3 ?k4 ?k5 ?kK ?kd ?ku ?_; (case k1 => k_asm); (case k2 => k_asm); (case k3 => k_asm); (case k4 => k_asm); (case k5 => k_asm); (case kK => first | exact rfl | assumption); (case kd => first | exact ok_room hd rfl | ktr_room); (case ku => first | exact ok_room hu rfl | ktr_units)); intro r9 n9 h9 tk9 F9 N9 P9; (try dsimp only); (try k_fold)))
  (repeat' (first | (k_unfold; (try dsimp only)) | (k_end; wrow_close) | walk1 | (dsimp only; walk1) | (leave1; walk_say "STEP leave1"; try dsimp only) | fail "no step"))
  (refine hret _ _ _ _ (by k_asm) (by k_asm) ?_)
  obtain ⟨rfl, t, rfl⟩ := P9
  exact ⟨g1, t, by rw [hs1.sgn hs2]⟩

theorem times_ok (w : World) (v : Value) (c b k : Int) (t : Tok) (news : List (Addr × Obj)) (hv : IsDec w news v b c) (hc : -1000000 ≤ c ∧ c ≤ 1000000) (hkk : 0 ≤ k ∧ k ≤ 10) :
    Ok w news (.ref 84) [v, .int k t] 12 120 (fun r news' => Gr news news' ∧ IsDec w news' r 2 (c * k)) := by
  ((((unfold Ok; k_fill; intro pr loose mean mg mb dp un gd cn cs a ccd cl outer A₀ base h₀ L m s Q E B F X N T hk hd hu hret)); refine wpAny_call ?_; k_dflt ktr_enter))
  k_steps
  ((k_dflt (refine' ok_use (decimal_of_int w _ _ _) ?k1 ?k2 ?k3 ?k4 ?k5 ?kK ?kd ?ku ?_; (case k1 => k_asm); (case k2 => k_asm); (case k3 => k_asm); (case k4 => k_asm); (case k5 => k_asm); (case kK => first | exact rfl | assumption); (case kd => first | exact ok_room hd rfl | ktr_room); (case ku => first | exact ok_room hu rfl | ktr_units)); intro r9 n9 h9 tk9 F9 N9 P9; (try dsimp only); (try k_fold)))
  obtain ⟨g1, hw⟩ := P9
  have hv := hv.mono g1
  obtain ⟨hm1, hd1, hs1, -⟩ := hv
  obtain ⟨hm2, hd2, hs2, hq⟩ := hw
  obtain ⟨e1, e2⟩ := hs2.int hq
  subst e1 e2
  have ht1 := hs1.top hc
  have hb := hs1.bd
  (repeat' (first | (k_unfold; (try dsimp only)) | (k_end; wrow_close) | walk1 | (dsimp only; walk1) | (leave1; walk_say "STEP leave1"; try dsimp only) | fail "no step"))
  ((k_dflt (refine' ok_use (dec_ok w _ _ _ _ _ _ (hs1.mul hs2 hq)) ?k1 ?k2 ?k3 ?k4 ?k5 ?kK ?kd ?ku ?_; (case k1 => k_asm); (case k2 => k_asm); (case k3 => k_asm); (case k4 => k_asm); (case k5 => k_asm); (case kK => first | exact rfl | assumption); (case kd => first | exact ok_room hd rfl | ktr_room); (case ku => first | exact ok_room hu rfl | ktr_units)); intro r9 n9 h9 tk9 F9 N9 P9; (try dsimp only); (try k_fold)))
  (repeat' (first | (k_unfold; (try dsimp only)) | (k_end; wrow_close) | walk1 | (dsimp only; walk1) | (leave1; walk_say "STEP leave1"; try dsimp only) | fail "no step"))
  (refine hret _ _ _ _ (by k_asm) (by k_asm) ?_)
  exact ⟨g1.trans P9.1, P9.2.le (by omega)⟩

theorem negated_ok (w : World) (v : Value) (c b : Int) (news : List (Addr × Obj)) (hv : IsDec w news v b c) :
    Ok w news (.ref 91) [v] 8 80 (fun r news' => Gr news news' ∧ IsDec w news' r 2 (-c)) := by
  obtain ⟨hm1, hd1, hs1, -⟩ := hv
  ((((unfold Ok; k_fill; intro pr loose mean mg mb dp un gd cn cs a ccd cl outer A₀ base h₀ L m s Q E B F X N T hk hd hu hret)); refine wpAny_call ?_; k_dflt ktr_enter))
  (repeat' (first | (k_unfold; (try dsimp only)) | (k_end; wrow_close) | walk1 | (dsimp only; walk1) | (leave1; walk_say "STEP leave1"; try dsimp only) | fail "no step"))
  ((k_dflt (refine' ok_use (dec_ok w _ _ _ _ _ _ hs1.neg) ?k1 ?k2 ?k3 ?k4 ?k5 ?kK ?kd ?ku ?_; (case k1 => k_asm); (case k2 => k_asm); (case k3 => k_asm); (case k4 => k_asm); (case k5 => k_asm); (case kK => first | exact rfl | assumption); (case kd => first | exact ok_room hd rfl | ktr_room); (case ku => first | exact ok_room hu rfl | ktr_units)); intro r9 n9 h9 tk9 F9 N9 P9; (try dsimp only); (try k_fold)))
  (repeat' (first | (k_unfold; (try dsimp only)) | (k_end; wrow_close) | walk1 | (dsimp only; walk1) | (leave1; walk_say "STEP leave1"; try dsimp only) | fail "no step"))
  (refine hret _ _ _ _ (by k_asm) (by k_asm) ?_)
  exact ⟨P9.1, P9.2.le hs1.bd.2⟩

theorem absolute_ok (w : World) (v : Value) (c b : Int) (news : List (Addr × Obj)) (hv : IsDec w news v b c) :
    Ok w news (.ref 187) [v] 12 120 (fun r news' => Gr news news' ∧ IsDec w news' r 2 (if c < 0 then -c else c)) := by
  ((((unfold Ok; k_fill; intro pr loose mean mg mb dp un gd cn cs a ccd cl outer A₀ base h₀ L m s Q E B F X N T hk hd hu hret)); refine wpAny_call ?_; k_dflt ktr_enter))
  (repeat' (first | (k_unfold; (try dsimp only)) | (k_end; wrow_close) | walk1 | (dsimp only; walk1) | (leave1; walk_say "STEP leave1"; try dsimp only) | fail "no step"))
  ((k_dflt (refine' ok_use (decimal_of_ok w _ _ _ _ hv) ?k1 ?k2 ?k3 ?k4 ?k5 ?kK ?kd ?ku ?_; (case k1 => k_asm); (case k2 => k_asm); (case k3 => k_asm); (case k4 => k_asm); (case k5 => k_asm); (case kK => first | exact rfl | assumption); (case kd => first | exact ok_room hd rfl | ktr_room); (case ku => first | exact ok_room hu rfl | ktr_units)); intro r9 n9 h9 tk9 F9 N9 P9; (try dsimp only); (try k_fold)))
  obtain ⟨e1, e2⟩ := P9
  subst e1 e2
  have hv' := hv
  obtain ⟨hm1, hd1, hs1, -⟩ := hv
  (repeat' (first | (k_unfold; (try dsimp only)) | (k_end; wrow_close) | walk1 | (dsimp only; walk1) | (leave1; walk_say "STEP leave1"; try dsimp only) | fail "no step"))
  · ((k_dflt (refine' ok_use (negated_ok w _ _ _ _ hv') ?k1 ?k2 ?k3 ?k4 ?k5 ?kK ?kd ?ku ?_; (case k1 => k_asm); (case k2 => k_asm); (case k3 => k_asm); (case k4 => k_asm); (case k5 => k_asm); (case kK => first | exact rfl | assumption); (case kd => first | exact ok_room hd rfl | ktr_room); (case ku => first | exact ok_room hu rfl | ktr_units)); intro r9 n9 h9 tk9 F9 N9 P9; (try dsimp only); (try k_fold)))
    (repeat' (first | (k_unfold; (try dsimp only)) | (k_end; wrow_close) | walk1 | (dsimp only; walk1) | (leave1; walk_say "STEP leave1"; try dsimp only) | fail "no step"))
    (refine hret _ _ _ _ (by k_asm) (by k_asm) ?_)
    rw [if_pos (by rcases hs1 with ⟨_, e⟩ | ⟨_, e⟩ | ⟨_, e⟩ <;> omega)]
    exact P9
  · (refine hret _ _ _ _ (by k_asm) (by k_asm) ?_)
    rw [if_neg (by rcases hs1 with ⟨_, e⟩ | ⟨_, e⟩ | ⟨_, e⟩ <;> omega)]
    exact ⟨Gr.refl _, .mk hm1 hd1 hs1 hs1.bd.2⟩

end
-- part C4
section
open PySem PySem.W PyProof.Rows
set_option maxRecDepth 100000
set_option maxHeartbeats 0

abbrev ent (w : World) (n : String) (k : Tok) (v : Value) : DictEntry := ⟨PyData.keyHash w.params (Str.ofString n), .str (Str.ofString n) k, v⟩
/-- a glyph as the plain reading sees it -/
structure Gl where
  text : Str
  x : Int
  y : Int
  wd : Int
  sz : Int
structure Gl.Small (g : Gl) : Prop where
  len : g.text.length ≤ 8
  x : -10000 ≤ g.x ∧ g.x ≤ 10000
  y : -10000 ≤ g.y ∧ g.y ≤ 10000
  wd : -10000 ≤ g.wd ∧ g.wd ≤ 10000
  sz : -10000 ≤ g.sz ∧ g.sz ≤ 10000
inductive IsGl (w : World) (news : List (Addr × Obj)) : Value → Gl → Prop
  | mk {a da : Addr} {g : Gl} {vx vy vw vs : Value} {k1 k2 k3 k4 k5 t1 : Tok} : (a, instObj 211 da) ∈ news →
    (da, dictOf [ent w "text" k1 (.str g.text t1), ent w "x" k2 vx, ent w "y" k3 vy, ent w "width" k4 vw, ent w "size" k5 vs] 5) ∈ news →
    IsDec w news vx 2 g.x → IsDec w news vy 2 g.y → IsDec w news vw 2 g.wd → IsDec w news vs 2 g.sz → g.Small → IsGl w news (.ref a) g
theorem IsGl.mono {w : World} {n n' : List (Addr × Obj)} {v : Value} {g : Gl} (h : IsGl w n v g) (l : Gr n n') : IsGl w n' v g := by
  cases h with
  | mk a b c d e f q => exact .mk (l.sub a) (l.sub b) (c.mono l) (d.mono l) (e.mono l) (f.mono l) q

abbrev apart (b f : Gl) (k : Int) : Prop := (if b.sz < 0 then -b.sz else b.sz) * k < (f.x - b.x - b.wd) * 10

theorem is_apart_ok (w : World) (v u : Value) (b f : Gl) (k : Int) (t : Tok) (news : List (Addr × Obj)) (hv : IsGl w news v b) (hw : IsGl w news u f) (hkk : 0 ≤ k ∧ k ≤ 10) :
    Ok w news (.ref 222) [v, u, .int k t] 20 200 (fun r news' => Gr news news' ∧ r = .bool (decide (apart b f k))) := by
  obtain ⟨m1, d1, x1, y1, w1, s1, q1⟩ := hv
  obtain ⟨m2, d2, x2, y2, w2, s2, q2⟩ := hw
  have x2c := x2
  obtain ⟨xm, xd, xs, -⟩ := x2
  have b1 := q1.x
  have b2 := q1.wd
  have b3 := q1.sz
  have b4 := q2.x
  ((((unfold Ok; k_fill; intro pr loose mean mg mb dp un gd cn cs a ccd cl outer A₀ base h₀ L m s Q E B F X N T hk hd hu hret)); refine wpAny_call ?_; k_dflt ktr_enter))
  (repeat' (first | (k_unfold; (try dsimp only)) | (k_end; wrow_close) | walk1 | (dsimp only; walk1) | (leave1; walk_say "STEP leave1"; try dsimp only) | fail "no step"))
  ((k_dflt (refine' ok_use (minus_ok w _ _ _ _ _ _ _ x2c x1 (by omega) (by omega)) ?k1 ?k2 ?k3 ?k4 ?k5 ?kK ?kd ?ku ?_; (case k1 => k_asm); (case k2 => k_asm); (case k3 => k_asm); (case k4 => k_asm); (case k5 => k_asm); (case kK => first | exact rfl | assumption); (case kd => first | exact ok_room hd rfl | ktr_room); (case ku => first | exact ok_room hu rfl | ktr_units)); intro r9 n9 h9 tk9 F9 N9 P9; (try dsimp only); (try k_fold)))
  obtain ⟨g1, r1⟩ := P9
  have r1c := r1
  obtain ⟨rm, rd, rs, -⟩ := r1
  have m1 := g1.sub m1
  have d1 := g1.sub d1
  have w1 := w1.mono g1
  have s1 := s1.mono g1
  (repeat' (first | (k_unfold; (try dsimp only)) | (k_end; wrow_close) | walk1 | (dsimp only; walk1) | (leave1; walk_say "STEP leave1"; try dsimp only) | fail "no step"))
  ((k_dflt (refine' ok_use (minus_ok w _ _ _ _ _ _ _ r1c w1 (by omega) (by omega)) ?k1 ?k2 ?k3 ?k4 ?k5 ?kK ?kd ?ku ?_; (case k1 => k_asm); (case k2 => k_asm); (case k3 => k_asm); (case k4 => k_asm); (case k5 => k_asm); (case kK => first | exact rfl | assumption); (case kd => first | exact ok_room hd rfl | ktr_room); (case ku => first | exact ok_room hu rfl | ktr_units)); intro r9 n9 h9 tk9 F9 N9 P9; (try dsimp only); (try k_fold)))
  obtain ⟨g2, r2⟩ := P9
  have r2c := r2
  obtain ⟨rm2, rd2, rs2, -⟩ := r2
  have m1 := g2.sub m1
  have d1 := g2.sub d1
  have s1 := s1.mono g2
  (repeat' (first | (k_unfold; (try dsimp only)) | (k_end; wrow_close) | walk1 | (dsimp only; walk1) | (leave1; walk_say "STEP leave1"; try dsimp only) | fail "no step"))
  ((k_dflt (refine' ok_use (times_ok w _ _ _ _ _ _ r2c (by omega) (by omega)) ?k1 ?k2 ?k3 ?k4 ?k5 ?kK ?kd ?ku ?_; (case k1 => k_asm); (case k2 => k_asm); (case k3 => k_asm); (case k4 => k_asm); (case k5 => k_asm); (case kK => first | exact rfl | assumption); (case kd => first | exact ok_room hd rfl | ktr_room); (case ku => first | exact ok_room hu rfl | ktr_units)); intro r9 n9 h9 tk9 F9 N9 P9; (try dsimp only); (try k_fold)))
  obtain ⟨g3, r3⟩ := P9
  have r3c := r3
  obtain ⟨rm3, rd3, rs3, -⟩ := r3
  have m1 := g3.sub m1
  have d1 := g3.sub d1
  have s1 := s1.mono g3
  (repeat' (first | (k_unfold; (try dsimp only)) | (k_end; wrow_close) | walk1 | (dsimp only; walk1) | (leave1; walk_say "STEP leave1"; try dsimp only) | fail "no step"))
  ((k_dflt (refine' ok_use (absolute_ok w _ _ _ _ s1) ?k1 ?k2 ?k3 ?k4 ?k5 ?kK ?kd ?ku ?_; (case k1 => k_asm); (case k2 => k_asm); (case k3 => k_asm); (case k4 => k_asm); (case k5 => k_asm); (case kK => first | exact rfl | assumption); (case kd => first | exact ok_room hd rfl | ktr_room); (case ku => first | exact ok_room hu rfl | ktr_units)); intro r9 n9 h9 tk9 F9 N9 P9; (try dsimp only); (try k_fold)))
  obtain ⟨g4, r4⟩ := P9
  have r4c := r4
  obtain ⟨rm4, rd4, rs4, -⟩ := r4
  have r3c := r3c.mono g4
  (repeat' (first | (k_unfold; (try dsimp only)) | (k_end; wrow_close) | walk1 | (dsimp only; walk1) | (leave1; walk_say "STEP leave1"; try dsimp only) | fail "no step"))
  ((k_dflt (refine' ok_use (times_ok w _ _ _ _ _ _ r4c (by split <;> omega) (by omega)) ?k1 ?k2 ?k3 ?k4 ?k5 ?kK ?kd ?ku ?_; (case k1 => k_asm); (case k2 => k_asm); (case k3 => k_asm); (case k4 => k_asm); (case k5 => k_asm); (case kK => first | exact rfl | assumption); (case kd => first | exact ok_room hd rfl | ktr_room); (case ku => first | exact ok_room hu rfl | ktr_units)); intro r9 n9 h9 tk9 F9 N9 P9; (try dsimp only); (try k_fold)))
  obtain ⟨g5, r5⟩ := P9
  have r3c := r3c.mono g5
  (repeat' (first | (k_unfold; (try dsimp only)) | (k_end; wrow_close) | walk1 | (dsimp only; walk1) | (leave1; walk_say "STEP leave1"; try dsimp only) | fail "no step"))
  have hb1 : -1000000 ≤ (if b.sz < 0 then -b.sz else b.sz) * k ∧ (if b.sz < 0 then -b.sz else b.sz) * k ≤ 1000000 := by
    have h0 : 0 ≤ (if b.sz < 0 then -b.sz else b.sz) ∧ (if b.sz < 0 then -b.sz else b.sz) ≤ 100000 := by split <;> omega
    generalize (if b.sz < 0 then -b.sz else b.sz) = z at h0
    have h1 := Int.mul_nonneg h0.1 hkk.1
    have h2 := Int.mul_le_mul h0.2 hkk.2 hkk.1 (by decide)
    omega
  ((k_dflt (refine' ok_use (compared_ok w _ _ _ _ _ _ _ r3c r5 (by omega) hb1) ?k1 ?k2 ?k3 ?k4 ?k5 ?kK ?kd ?ku ?_; (case k1 => k_asm); (case k2 => k_asm); (case k3 => k_asm); (case k4 => k_asm); (case k5 => k_asm); (case kK => first | exact rfl | assumption); (case kd => first | exact ok_room hd rfl | ktr_room); (case ku => first | exact ok_room hu rfl | ktr_units)); intro r9 n9 h9 tk9 F9 N9 P9; (try dsimp only); (try k_fold)))
  obtain ⟨g6, t6, rfl⟩ := P9
  (repeat' (first | (k_unfold; (try dsimp only)) | (k_end; wrow_close) | walk1 | (dsimp only; walk1) | (leave1; walk_say "STEP leave1"; try dsimp only) | fail "no step"))
  (refine hret _ _ _ _ (by k_asm) (by k_asm) ?_)
  refine ⟨((((g1.trans g2).trans g3).trans g4).trans g5).trans g6, congrArg Value.bool ?_⟩
  refine decide_eq_decide.mpr ?_
  unfold apart
  generalize (if b.sz < 0 then -b.sz else b.sz) * k = z
  generalize (f.x - b.x - b.wd) * 10 = y
  constructor
  · intro h
    have := Int.sign_pos_iff.mp h
    omega
  · intro h
    exact Int.sign_pos_iff.mpr (by omega)

end
-- part C5
section
open PySem PySem.W PyProof.Rows
set_option maxRecDepth 100000
set_option maxHeartbeats 0

local macro_rules | `(tactic| walk_at "call builtin:len") => `(tactic| (k_here; (with_reducible show wpAny _ _ (call (Value.builtin "len") [Value.ref _]) _ _ _); k_dflt (refine' len_led ?N ?m ?z ?_; (case N => k_asm); (case m => k_mem); (case z => omega); k_whole)))
local macro_rules | `(tactic| walk_at "subscriptTail") => `(tactic| (k_here; (with_reducible show wpAny _ _ (subscriptTail _ _ (Value.ref _) (Value.int _ _)) _ _ _); k_dflt (refine' item_led ?N ?m ?a ?b ?x ?_ ?s; (case N => k_asm); (case m => k_mem); (case a => omega); (case b => omega); (case x => assumption); (case s => with_unfolding_all rfl); k_whole)))

theorem IsGl.sub {w : World} {n n' : List (Addr × Obj)} {v : Value} {g : Gl} (h : IsGl w n v g) (l : ∀ p ∈ n, p ∈ n') : IsGl w n' v g := by
  cases h with
  | mk a b c d e f q => exact .mk (l _ a) (l _ b) (c.sub l) (d.sub l) (e.sub l) (f.sub l) q
theorem IsGl.len {w : World} {n : List (Addr × Obj)} {v : Value} {g : Gl} (h : IsGl w n v g) : g.text.length ≤ 8 := by cases h with | mk _ _ _ _ _ _ q => exact q.len
/-- glyphs in a list -/
inductive AreGls (w : World) (news : List (Addr × Obj)) : List Value → List Gl → Prop
  | nil : AreGls w news [] []
  | cons {v : Value} {g : Gl} {vs : List Value} {gs : List Gl} : IsGl w news v g → AreGls w news vs gs → AreGls w news (v :: vs) (g :: gs)
theorem AreGls.mono {w : World} {n n' : List (Addr × Obj)} {vs : List Value} {gs : List Gl} (h : AreGls w n vs gs) (l : Gr n n') : AreGls w n' vs gs := by
  induction h with
  | nil => exact .nil
  | cons a _ ih => exact .cons (a.mono l) ih
theorem AreGls.len {w : World} {n : List (Addr × Obj)} {vs : List Value} {gs : List Gl} (h : AreGls w n vs gs) : vs.length = gs.length := by
  induction h with
  | nil => rfl
  | cons a _ ih => simp [ih]
theorem AreGls.get {w : World} {n : List (Addr × Obj)} {vs : List Value} {gs : List Gl} (h : AreGls w n vs gs) : ∀ (i : Nat), i < vs.length → ∃ v g, vs[i]? = some v ∧ gs[i]? = some g ∧ IsGl w n v g := by
  induction h with
  | nil => intro i hi; exact absurd hi (Nat.not_lt_zero _)
  | cons a _ ih =>
    intro i hi
    match i, hi with
    | 0, _ => exact ⟨_, _, rfl, rfl, a⟩
    | i + 1, hi => exact ih i (Nat.lt_of_succ_lt_succ hi)

local macro_rules | `(tactic| walk_at "execs nil") => `(tactic| (with_reducible refine wpAny_execs_nil ?_))

/-- the text so far, a blank behind it where the gap asks for one -/
def joinT (k : Int) (tx : Str) (b g : Gl) : Str := if (Txt.item tx (-1) != Str.ofString " ") = true ∧ (Txt.item g.text 0 != Str.ofString " ") = true ∧ apart b g k then tx ++ Str.ofString " " else tx
def rtStep (k : Int) (st : Str × Option Gl) (g : Gl) : Str × Option Gl := ((match st.2 with | none => st.1 | some b => joinT k st.1 b g) ++ g.text, some g)
def rowText (k : Int) (gs : List Gl) : Str := (gs.foldl (rtStep k) (Str.ofString "", none)).1
theorem rt_snd (k : Int) : ∀ (gs : List Gl) (s : Str × Option Gl) (g : Gl), gs.getLast? = some g → (gs.foldl (rtStep k) s).2 = some g := by
  intro gs
  induction gs with
  | nil => intro s g h; cases h
  | cons a r ih =>
    intro s g h
    rw [List.foldl_cons]
    cases r with
    | nil => simp at h; subst h; rfl
    | cons b r => exact ih _ g (by simpa using h)
theorem rowText_one (k : Int) (gs : List Gl) (g : Gl) (h : gs[0]? = some g) : rowText k (gs.take 1) = Str.ofString "" ++ g.text := by
  cases gs with
  | nil => cases h
  | cons a r => simp at h; subst h; rfl
theorem rtStep_some {k : Int} {st : Str × Option Gl} {b g : Gl} (h : st.2 = some b) : (rtStep k st g).1 = joinT k st.1 b g ++ g.text := by
  unfold rtStep
  rw [h]
theorem rowText_succ (k : Int) (gs : List Gl) (b g : Gl) (i : Nat) (hb : gs[i]? = some b) (h : gs[i + 1]? = some g) :
    rowText k (gs.take (i + 1 + 1)) = joinT k (rowText k (gs.take (i + 1))) b g ++ g.text := by
  have e : gs.take (i + 1 + 1) = gs.take (i + 1) ++ [g] := by rw [List.take_add_one, h]; rfl
  have e2 : gs.take (i + 1) = gs.take i ++ [b] := by rw [List.take_add_one, hb]; rfl
  unfold rowText
  rw [e, List.foldl_append, List.foldl_cons, List.foldl_nil]
  exact rtStep_some (rt_snd k (gs.take (i + 1)) (Str.ofString "", none) b (by rw [e2]; simp))

theorem text_of_row_ok (w : World) (ra : Addr) (vs : List Value) (rn : Nat) (gs : List Gl) (k : Int) (t : Tok) (news : List (Addr × Obj)) (hm : (ra, listOf vs.toArray rn) ∈ news) (hg : AreGls w news vs gs) (hkk : 0 ≤ k ∧ k ≤ 10) (hn : vs.length ≤ 100) (hne : ∀ g ∈ gs, 0 < g.text.length) :
    Ok w news (.ref 229) [.ref ra, .int k t] 24 240 (fun r news' => Gr news news' ∧ ∃ tt, r = .str (rowText k gs) tt) := by
  ((((unfold Ok; k_fill; intro pr loose mean mg mb dp un gd cn cs a ccd cl outer A₀ base h₀ L m s Q E B F X N T hk hd hu hret)); refine wpAny_call ?_; k_dflt ktr_enter))
  (repeat' (first | (k_unfold; (try dsimp only)) | (k_end; wrow_close) | (((fail_if_success (with_reducible show wpAny _ _ (exec (Stmt.For _ _ _ _ _) _) _ _ _))); ((fail_if_success (with_reducible show wpAny _ _ (pyIter _) _ _ _))); (((fail_if_success (with_reducible show wpAny _ _ (eval (PySem.Expr.ListComp _ _ _ _) _) _ _ _)); (fail_if_success (with_reducible show wpAny _ _ (exec (Stmt.Assign _ (PySem.Expr.ListComp _ _ _ _) _) _) _ _ _)))); walk1) | (dsimp only; ((fail_if_success (with_reducible show wpAny _ _ (exec (Stmt.For _ _ _ _ _) _) _ _ _))); ((fail_if_success (with_reducible show wpAny _ _ (pyIter _) _ _ _))); (((fail_if_success (with_reducible show wpAny _ _ (eval (PySem.Expr.ListComp _ _ _ _) _) _ _ _)); (fail_if_success (with_reducible show wpAny _ _ (exec (Stmt.Assign _ (PySem.Expr.ListComp _ _ _ _) _) _) _ _ _)))); walk1) | (leave1; walk_say "STEP leave1"; try dsimp only) | fail "no step"))
  (((rename Fr _ _ _ _ => lF'); (with_unfolding_all refine' For_invVF lF' ?k1 ?k2 ?_; (case k1 => exact rfl); (case k2 => exact rfl); k_whole)))
  (repeat' (first | (k_unfold; (try dsimp only)) | (k_end; wrow_close) | (((fail_if_success (with_reducible show wpAny _ _ (exec (Stmt.For _ _ _ _ _) _) _ _ _))); ((fail_if_success (with_reducible show wpAny _ _ (pyIter _) _ _ _))); (((fail_if_success (with_reducible show wpAny _ _ (eval (PySem.Expr.ListComp _ _ _ _) _) _ _ _)); (fail_if_success (with_reducible show wpAny _ _ (exec (Stmt.Assign _ (PySem.Expr.ListComp _ _ _ _) _) _) _ _ _)))); walk1) | (dsimp only; ((fail_if_success (with_reducible show wpAny _ _ (exec (Stmt.For _ _ _ _ _) _) _ _ _))); ((fail_if_success (with_reducible show wpAny _ _ (pyIter _) _ _ _))); (((fail_if_success (with_reducible show wpAny _ _ (eval (PySem.Expr.ListComp _ _ _ _) _) _ _ _)); (fail_if_success (with_reducible show wpAny _ _ (exec (Stmt.Assign _ (PySem.Expr.ListComp _ _ _ _) _) _) _ _ _)))); walk1) | (leave1; walk_say "STEP leave1"; try dsimp only) | fail "no step"))
  refine' for_range (n := vs.length) (fun (c : Str × Tok) => [(Str.ofString "text", Value.str c.1 c.2)]) [] (fun i c nx => Gr news nx ∧ (0 < i → 0 < c.1.length) ∧ c.1.length ≤ 9 * i ∧ c.1 = rowText k (gs.take i)) ?hh ?hr ?hs ?hn ?F ?N ?h0 ?turn ?done
  case F => k_asm
  case N => k_asm
  case hr => assumption
  case hh => rfl
  case hs => exact range_small (by omega)
  case hn => exact range_size _
  case h0 => exact ⟨(Str.ofString "", _), fun p hp => by rw [List.mem_singleton.mp hp]; rfl, Gr.refl _, fun h => absurd h (by decide), by exact Nat.le_refl 0, rfl⟩
  case turn =>
    rintro i t1 ⟨tx, tt⟩ u nx hh tkk q hi ⟨g1, h1, h2, h3⟩ hit hoff F1 N1
    have hm1 : (ra, listOf vs.toArray rn) ∈ q :: nx := .tail _ (g1.sub hm)
    obtain ⟨v, g, hv, hg1, hgl⟩ := (hg.mono g1).get i hi
    have q2 := hgl.len
    have q3 := hne g (List.mem_of_getElem? hg1)
    have hgl : IsGl w (q :: nx) v g := hgl.sub fun p hp => .tail _ hp
    dsimp only at F1 h1 h2 h3
    show wpAny _ _ _ _ _ _
    cases i with
    | zero =>
      obtain ⟨m1, d1, -⟩ := hgl
      (repeat' (first | (k_unfold; (try dsimp only)) | (k_end; wrow_close) | (((fail_if_success (with_reducible show wpAny _ _ (exec (Stmt.For _ _ _ _ _) _) _ _ _))); ((fail_if_success (with_reducible show wpAny _ _ (pyIter _) _ _ _))); (((fail_if_success (with_reducible show wpAny _ _ (eval (PySem.Expr.ListComp _ _ _ _) _) _ _ _)); (fail_if_success (with_reducible show wpAny _ _ (exec (Stmt.Assign _ (PySem.Expr.ListComp _ _ _ _) _) _) _ _ _)))); walk1) | (dsimp only; ((fail_if_success (with_reducible show wpAny _ _ (exec (Stmt.For _ _ _ _ _) _) _ _ _))); ((fail_if_success (with_reducible show wpAny _ _ (pyIter _) _ _ _))); (((fail_if_success (with_reducible show wpAny _ _ (eval (PySem.Expr.ListComp _ _ _ _) _) _ _ _)); (fail_if_success (with_reducible show wpAny _ _ (exec (Stmt.Assign _ (PySem.Expr.ListComp _ _ _ _) _) _) _ _ _)))); walk1) | (leave1; walk_say "STEP leave1"; try dsimp only) | fail "no step"))
      refine LpEnd.intro (tl := []) (nx := nx) (_, _) (by k_asm) (by k_asm) (fun _ h => nomatch h) hoff ⟨g1, fun _ => ?_, ?_, ?_⟩ (hk_one rfl) ?_
      · show 0 < (tx ++ g.text).length
        omega
      · show (tx ++ g.text).length ≤ _
        omega
      · show tx ++ g.text = _
        rw [h3, rowText_one k gs g hg1]
        rfl
      · intro z h4 h5 _
        have h6 : z ≠ Str.ofString "text" := h5 _ (.head _)
        simp [h4, h6, kstB]
    | succ i =>
      obtain ⟨v', g', hv', hg2, hgl'⟩ := (hg.mono g1).get i (by omega)
      have hgl' : IsGl w (q :: nx) v' g' := hgl'.sub fun p hp => .tail _ hp
      have hv1 : vs[((i + 1 : Nat) : Int).toNat]? = some v := hv
      have hv2 : vs[(((i + 1 : Nat) : Int) - 1).toNat]? = some v' := by
        have : (((i + 1 : Nat) : Int) - 1).toNat = i := by omega
        rw [this]; exact hv'
      have h1 := h1 (Nat.succ_pos _)
      have hglc := hgl
      have hrt := rowText_succ k gs g' g i hg2 hg1
      rw [← h3] at hrt
      obtain ⟨m1, d1, -⟩ := hgl
      (repeat' (first | (k_unfold; (try dsimp only)) | (k_end; wrow_close) | (((fail_if_success (with_reducible show wpAny _ _ (exec (Stmt.For _ _ _ _ _) _) _ _ _))); ((fail_if_success (with_reducible show wpAny _ _ (pyIter _) _ _ _))); (((fail_if_success (with_reducible show wpAny _ _ (eval (PySem.Expr.ListComp _ _ _ _) _) _ _ _)); (fail_if_success (with_reducible show wpAny _ _ (exec (Stmt.Assign _ (PySem.Expr.ListComp _ _ _ _) _) _) _ _ _)))); walk1) | (dsimp only; ((fail_if_success (with_reducible show wpAny _ _ (exec (Stmt.For _ _ _ _ _) _) _ _ _))); ((fail_if_success (with_reducible show wpAny _ _ (pyIter _) _ _ _))); (((fail_if_success (with_reducible show wpAny _ _ (eval (PySem.Expr.ListComp _ _ _ _) _) _ _ _)); (fail_if_success (with_reducible show wpAny _ _ (exec (Stmt.Assign _ (PySem.Expr.ListComp _ _ _ _) _) _) _ _ _)))); walk1) | (leave1; walk_say "STEP leave1"; try dsimp only) | fail "no step"))
      · ((k_dflt (refine' ok_use (is_apart_ok w _ _ _ _ _ _ _ hgl' hglc hkk) ?k1 ?k2 ?k3 ?k4 ?k5 ?kK ?kd ?ku ?_; (case k1 => k_asm); (case k2 => k_asm); (case k3 => k_asm); (case k4 => k_asm); (case k5 => k_asm); (case kK => first | exact rfl | assumption); (case kd => first | exact ok_room hd rfl | ktr_room); (case ku => first | exact ok_room hu rfl | ktr_units)); intro r9 n9 h9 tk9 F9 N9 P9; (try dsimp only); (try k_fold)))
        obtain ⟨⟨tl, rfl, hab⟩, rfl⟩ := P9
        have m1 : (_, _) ∈ tl ++ (q :: nx) := List.mem_append.mpr (.inr m1)
        have d1 : (_, _) ∈ tl ++ (q :: nx) := List.mem_append.mpr (.inr d1)
        have hm1 : (_, _) ∈ tl ++ (q :: nx) := List.mem_append.mpr (.inr hm1)
        have hab1 : ∀ p ∈ tl, p.1 ≠ q.1 := hab q (.head _)
        have hgr : Gr nx (tl ++ nx) := ⟨tl, rfl, fun a ha => hab a (.tail _ ha)⟩
        (repeat' (first | (k_unfold; (try dsimp only)) | (k_end; wrow_close) | (((fail_if_success (with_reducible show wpAny _ _ (exec (Stmt.For _ _ _ _ _) _) _ _ _))); ((fail_if_success (with_reducible show wpAny _ _ (pyIter _) _ _ _))); (((fail_if_success (with_reducible show wpAny _ _ (eval (PySem.Expr.ListComp _ _ _ _) _) _ _ _)); (fail_if_success (with_reducible show wpAny _ _ (exec (Stmt.Assign _ (PySem.Expr.ListComp _ _ _ _) _) _) _ _ _)))); walk1) | (dsimp only; ((fail_if_success (with_reducible show wpAny _ _ (exec (Stmt.For _ _ _ _ _) _) _ _ _))); ((fail_if_success (with_reducible show wpAny _ _ (pyIter _) _ _ _))); (((fail_if_success (with_reducible show wpAny _ _ (eval (PySem.Expr.ListComp _ _ _ _) _) _ _ _)); (fail_if_success (with_reducible show wpAny _ _ (exec (Stmt.Assign _ (PySem.Expr.ListComp _ _ _ _) _) _) _ _ _)))); walk1) | (leave1; walk_say "STEP leave1"; try dsimp only) | fail "no step"))
        · refine LpEnd.intro (tl := tl) (nx := nx) (_, _) (by k_asm) (by k_asm) hab1 hoff ⟨g1.trans hgr, fun _ => ?_, ?_, ?_⟩ (hk_one rfl) ?_
          · show 0 < ((tx ++ Str.ofString " ") ++ g.text).length
            omega
          · show ((tx ++ Str.ofString " ") ++ g.text).length ≤ _
            have : (Str.ofString " ").length = 1 := rfl
            omega
          · show (tx ++ Str.ofString " ") ++ g.text = _
            rw [hrt, joinT, if_pos ⟨by assumption, by assumption, by assumption⟩]
          · intro z h4 h5 _
            have h6 : z ≠ Str.ofString "text" := h5 _ (.head _)
            simp [h4, h6, kstB]
        · refine LpEnd.intro (tl := tl) (nx := nx) (_, _) (by k_asm) (by k_asm) hab1 hoff ⟨g1.trans hgr, fun _ => ?_, ?_, ?_⟩ (hk_one rfl) ?_
          · show 0 < (tx ++ g.text).length
            omega
          · show (tx ++ g.text).length ≤ _
            omega
          · show tx ++ g.text = _
            rw [hrt, joinT, if_neg (fun h => absurd h.2.2 (by assumption))]
          · intro z h4 h5 _
            have h6 : z ≠ Str.ofString "text" := h5 _ (.head _)
            simp [h4, h6, kstB]
      · have hne' : (Txt.item g.text 0 != Str.ofString " ") = false := by assumption
        refine LpEnd.intro (tl := []) (nx := nx) (_, _) (by k_asm) (by k_asm) (fun _ h => nomatch h) hoff ⟨g1, fun _ => ?_, ?_, ?_⟩ (hk_one rfl) ?_
        · show 0 < (tx ++ g.text).length
          omega
        · show (tx ++ g.text).length ≤ _
          omega
        · show tx ++ g.text = _
          rw [hrt, joinT, if_neg (fun h => absurd h.2.1 (by rw [hne']; decide))]
        · intro z h4 h5 _
          have h6 : z ≠ Str.ofString "text" := h5 _ (.head _)
          simp [h4, h6, kstB]
      · have hne' : (Txt.item tx (-1) != Str.ofString " ") = false := by assumption
        refine LpEnd.intro (tl := []) (nx := nx) (_, _) (by k_asm) (by k_asm) (fun _ h => nomatch h) hoff ⟨g1, fun _ => ?_, ?_, ?_⟩ (hk_one rfl) ?_
        · show 0 < (tx ++ g.text).length
          omega
        · show (tx ++ g.text).length ≤ _
          omega
        · show tx ++ g.text = _
          rw [hrt, joinT, if_neg (fun h => absurd h.1 (by rw [hne']; decide))]
        · intro z h4 h5 _
          have h6 : z ≠ Str.ofString "text" := h5 _ (.head _)
          simp [h4, h6, kstB]
  case done =>
    rintro ⟨tx, tt⟩ u nx hh tkk ⟨g1, h1, h2, h3⟩ F1 N1
    dsimp only at F1 h3
    rw [List.take_of_length_le (Nat.le_of_eq hg.len.symm)] at h3
    show wpAny _ _ _ _ _ _
    (repeat' (first | (k_unfold; (try dsimp only)) | (k_end; wrow_close) | (((fail_if_success (with_reducible show wpAny _ _ (exec (Stmt.For _ _ _ _ _) _) _ _ _))); ((fail_if_success (with_reducible show wpAny _ _ (pyIter _) _ _ _))); (((fail_if_success (with_reducible show wpAny _ _ (eval (PySem.Expr.ListComp _ _ _ _) _) _ _ _)); (fail_if_success (with_reducible show wpAny _ _ (exec (Stmt.Assign _ (PySem.Expr.ListComp _ _ _ _) _) _) _ _ _)))); walk1) | (dsimp only; ((fail_if_success (with_reducible show wpAny _ _ (exec (Stmt.For _ _ _ _ _) _) _ _ _))); ((fail_if_success (with_reducible show wpAny _ _ (pyIter _) _ _ _))); (((fail_if_success (with_reducible show wpAny _ _ (eval (PySem.Expr.ListComp _ _ _ _) _) _ _ _)); (fail_if_success (with_reducible show wpAny _ _ (exec (Stmt.Assign _ (PySem.Expr.ListComp _ _ _ _) _) _) _ _ _)))); walk1) | (leave1; walk_say "STEP leave1"; try dsimp only) | fail "no step"))
    (refine hret _ _ _ _ (by k_asm) (by k_asm) ?_)
    exact ⟨g1, tt, by rw [h3]⟩

end
-- part D1
section
open PySem PySem.W PyProof.Rows
set_option maxRecDepth 100000
set_option maxHeartbeats 0
local macro_rules | `(tactic| walk_at "call builtin:len") => `(tactic| (k_here; (with_reducible show wpAny _ _ (call (Value.builtin "len") [Value.ref _]) _ _ _); k_dflt (refine' len_led ?N ?m ?z ?_; (case N => k_asm); (case m => k_mem); (case z => omega); k_whole)))
local macro_rules | `(tactic| k_mem) => `(tactic| first | ktr_member | exact List.Mem.head _ | (refine List.mem_cons_of_mem _ ?_; k_mem))
local macro_rules | `(tactic| k_all) => `(tactic| assumption)
local macro_rules | `(tactic| walk_at "subscriptTail") => `(tactic| (k_here; (with_reducible show wpAny _ _ (subscriptTail _ _ (Value.ref _) (Value.int _ _)) _ _ _); k_dflt (refine' item_anyK ?h ?k2 ?k3 ?k4 ?k5 ?_ ?k6; (case h => exact News.isList (by k_asm) (by k_mem)); (case k2 => assumption); (case k3 => l_idx); (case k4 => l_idx); (case k5 => l_idx); (case k6 => with_unfolding_all rfl); k_whole); intro _))
abbrev tapeObj (ca : Addr) (i : Int) (t : Tok) (n : Nat) : Obj := listOf #[.ref ca, .int i t] n
theorem draw_ok (w : World) (ta ca : Addr) (cvs : List Value) (cn n : Nat) (ns : List Int) (i lim : Int) (t k : Tok) (rest : List (Addr × Obj)) (hoff : ∀ p ∈ rest, p.1 ≠ ta) (hc : (ca, listOf cvs.toArray cn) ∈ rest) (hi : IntsAre cvs ns) (h0 : 0 < ns.length) (h48 : ns.length ≤ 48) (hi0 : 0 ≤ i ∧ i ≤ 1000) (hl : 0 < lim ∧ lim ≤ 200) :
    Ok w ((ta, tapeObj ca i t n) :: rest) (.ref 249) [.ref ta, .int lim k] 4 40 (fun r news' => ∃ t', news' = (ta, tapeObj ca (i + 1) t' n) :: rest ∧ ∃ d tk, r = .int d tk ∧ 0 ≤ d ∧ d < lim) := by
  have hlen := hi.length
  ((((unfold Ok; k_fill; intro pr loose mean mg mb dp un gd cn cs a ccd cl outer A₀ base h₀ L m s Q E B F X N T hk hd hu hret)); refine wpAny_call ?_; k_dflt ktr_enter))
  (repeat' (first | (k_unfold; (try dsimp only)) | (k_end; wrow_close) | (((fail_if_success (with_reducible show wpAny _ _ (exec (Stmt.For _ _ _ _ _) _) _ _ _))); ((fail_if_success (with_reducible show wpAny _ _ (pyIter _) _ _ _))); (((fail_if_success (with_reducible show wpAny _ _ (eval (PySem.Expr.ListComp _ _ _ _) _) _ _ _)); (fail_if_success (with_reducible show wpAny _ _ (exec (Stmt.Assign _ (PySem.Expr.ListComp _ _ _ _) _) _) _ _ _)))); walk1) | (dsimp only; ((fail_if_success (with_reducible show wpAny _ _ (exec (Stmt.For _ _ _ _ _) _) _ _ _))); ((fail_if_success (with_reducible show wpAny _ _ (pyIter _) _ _ _))); (((fail_if_success (with_reducible show wpAny _ _ (eval (PySem.Expr.ListComp _ _ _ _) _) _ _ _)); (fail_if_success (with_reducible show wpAny _ _ (exec (Stmt.Assign _ (PySem.Expr.ListComp _ _ _ _) _) _) _ _ _)))); walk1) | (leave1; walk_say "STEP leave1"; try dsimp only) | fail "no step"))
  (refine hret _ _ _ _ (by k_asm) (by k_asm) ?_)
  exact ⟨_, rfl, _, _, rfl, fmod_lo _ hl.1, fmod_hi _ hl.1⟩

end
-- part D2
section
open PySem PySem.W PyProof.Rows
set_option maxRecDepth 100000
set_option maxHeartbeats 0


theorem IsDec.out {w : World} {n : List (Addr × Obj)} {v : Value} {b c : Int} (h : IsDec w n v b c) : ∃ x dx t p k1 k2 t1 t2, v = .ref x ∧ (x, instObj 143 dx) ∈ n ∧ (dx, decDict w t p k1 k2 t1 t2) ∈ n ∧ Sc p t c ∧ p ≤ b := by
  cases h with
  | mk a b c d => exact ⟨_, _, _, _, _, _, _, _, rfl, a, b, c, d⟩
/-- numbers in a list -/
inductive AreDecs (w : World) (news : List (Addr × Obj)) : List Value → List Int → Prop
  | nil : AreDecs w news [] []
  | cons {v : Value} {c : Int} {vs : List Value} {cs : List Int} : IsDec w news v 2 c → AreDecs w news vs cs → AreDecs w news (v :: vs) (c :: cs)
theorem AreDecs.len {w : World} {n : List (Addr × Obj)} {vs : List Value} {gs : List Int} (h : AreDecs w n vs gs) : vs.length = gs.length := by
  induction h with
  | nil => rfl
  | cons a _ ih => simp [ih]
theorem AreDecs.get {w : World} {n : List (Addr × Obj)} {vs : List Value} {gs : List Int} (h : AreDecs w n vs gs) : ∀ (i : Nat), i < vs.length → ∃ v g, vs[i]? = some v ∧ gs[i]? = some g ∧ IsDec w n v 2 g := by
  induction h with
  | nil => intro i hi; exact absurd hi (Nat.not_lt_zero _)
  | cons a _ ih =>
    intro i hi
    match i, hi with
    | 0, _ => exact ⟨_, _, rfl, rfl, a⟩
    | i + 1, hi => exact ih i (Nat.lt_of_succ_lt_succ hi)

local macro_rules | `(tactic| k_all) => `(tactic| assumption)
local macro_rules | `(tactic| k_mem) => `(tactic| first | ktr_member | exact List.Mem.head _ | (refine List.mem_cons_of_mem _ ?_; k_mem))
local macro_rules | `(tactic| walk_at "binaryOp Pow int int") => `(tactic| ((with_reducible refine pow_int_small ?kb1 ?kb2 ?kb3 ?_); (case kb1 => omega); (case kb2 => omega); (case kb3 => decide)))
theorem scale_one {p t c P : Int} (h : Sc p t c) (h1 : p ≤ P) (h2 : P ≤ 2) : Sc P (t * 10 ^ (P - p).toNat) c := by
  have := h.bd
  have e : P = 0 ∨ P = 1 ∨ P = 2 := by omega
  rcases h with ⟨rfl, rfl⟩ | ⟨rfl, rfl⟩ | ⟨rfl, rfl⟩ <;> rcases e with rfl | rfl | rfl <;> first | omega | (simp [Sc]; done) | (simp [Sc]; omega)
inductive ScAll (P : Int) : List Int → List Int → Prop
  | nil : ScAll P [] []
  | cons {t c : Int} {ts cs : List Int} : Sc P t c → ScAll P ts cs → ScAll P (t :: ts) (c :: cs)
theorem ScAll.snoc {P t c : Int} {ts cs : List Int} (h : ScAll P ts cs) (k : Sc P t c) : ScAll P (ts ++ [t]) (cs ++ [c]) := by
  induction h with
  | nil => exact .cons k .nil
  | cons a _ ih => exact .cons a ih
abbrev tupObj (vs : Array Value) : Obj := { cls := .type "tuple", data := .seq vs }
/-- what tops_of hands back -/
inductive TopsAt (news : List (Addr × Obj)) : Value → List Int → Prop
  | mk {T la : Addr} {tvs : List Value} {ln : Nat} {P : Int} {tp : Tok} {ts cs : List Int} : (T, tupObj #[.ref la, .int P tp]) ∈ news → (la, listOf tvs.toArray ln) ∈ news → IntsAre tvs ts → ScAll P ts cs → TopsAt news (.ref T) cs
theorem tops_of_ok (w : World) (va : Addr) (vs : List Value) (vn : Nat) (zs : List Int) (news : List (Addr × Obj)) (hm : (va, listOf vs.toArray vn) ∈ news) (hv : AreDecs w news vs zs) (hn : vs.length ≤ 100) (hb : ∀ c ∈ zs, -1000000 ≤ c ∧ c ≤ 1000000) :
    Ok w news (.ref 180) [.ref va] 12 120 (fun r news' => ∃ tl, news' = tl ++ news ∧ (∀ q ∈ news, ∀ p ∈ tl, p.1 ≠ q.1) ∧ TopsAt tl r zs) := by
  ((((unfold Ok; k_fill; intro pr loose mean mg mb dp un gd cn cs a ccd cl outer A₀ base h₀ L m s Q E B F X N T hk hd hu hret)); refine wpAny_call ?_; k_dflt (refine' code_defC ?k1 ?k2 ?k3 ?k4 ?k5 ?kA ?kF ?kK ?k6 ?k7 ?k8 ?k9 ?kB ?kD ?_ ?c2 ?c3 ?c4; (case kA => exact rfl); (case kF => exact rfl); (case kK => assumption); (case k1 => k_asm); (case k2 => k_asm); (case k3 => k_asm); (case k4 => k_asm); (case k5 => k_asm); (case k6 => k_is); (case k7 => k_is); (case k8 => ktr_room); (case k9 => first | exact BindsTo.of_eq rfl | exact binds_K (by k_in) rfl (by k_is) rfl rfl rfl); (case kB => exact rfl); (case kD => decide +kernel); (case c2 => exact rfl); (case c3 => exact rfl); (case c4 => exact rfl); k_whole; intro g' L' h' tk' cells' FG' F' N' Y' B' X' T' l1; k_cells Y'; (try simp only [List.cons_append, List.nil_append] at N'); (try dsimp only); (try k_fold))))
  have l2 : ∀ p ∈ news, p.1 ≠ L' + 1 := fun p hp => Nat.ne_of_lt (Nat.lt_succ_of_lt (l1 p hp))
  (repeat' (first | (k_unfold; (try dsimp only)) | (k_end; wrow_close) | (((fail_if_success (with_reducible show wpAny _ _ (exec (Stmt.For _ _ _ _ _) _) _ _ _))); ((fail_if_success (with_reducible show wpAny _ _ (pyIter _) _ _ _))); (((fail_if_success (with_reducible show wpAny _ _ (eval (PySem.Expr.ListComp _ _ _ _) _) _ _ _)); (fail_if_success (with_reducible show wpAny _ _ (exec (Stmt.Assign _ (PySem.Expr.ListComp _ _ _ _) _) _) _ _ _)))); walk1) | (dsimp only; ((fail_if_success (with_reducible show wpAny _ _ (exec (Stmt.For _ _ _ _ _) _) _ _ _))); ((fail_if_success (with_reducible show wpAny _ _ (pyIter _) _ _ _))); (((fail_if_success (with_reducible show wpAny _ _ (eval (PySem.Expr.ListComp _ _ _ _) _) _ _ _)); (fail_if_success (with_reducible show wpAny _ _ (exec (Stmt.Assign _ (PySem.Expr.ListComp _ _ _ _) _) _) _ _ _)))); walk1) | (leave1; walk_say "STEP leave1"; try dsimp only) | fail "no step"))
  (((rename Fr _ _ _ _ => lF'); (with_unfolding_all refine' For_invVF lF' ?k1 ?k2 ?_; (case k1 => exact rfl); (case k2 => exact rfl); k_whole)))
  (repeat' (first | (k_unfold; (try dsimp only)) | (k_end; wrow_close) | (((fail_if_success (with_reducible show wpAny _ _ (exec (Stmt.For _ _ _ _ _) _) _ _ _))); ((fail_if_success (with_reducible show wpAny _ _ (pyIter _) _ _ _))); (((fail_if_success (with_reducible show wpAny _ _ (eval (PySem.Expr.ListComp _ _ _ _) _) _ _ _)); (fail_if_success (with_reducible show wpAny _ _ (exec (Stmt.Assign _ (PySem.Expr.ListComp _ _ _ _) _) _) _ _ _)))); walk1) | (dsimp only; ((fail_if_success (with_reducible show wpAny _ _ (exec (Stmt.For _ _ _ _ _) _) _ _ _))); ((fail_if_success (with_reducible show wpAny _ _ (pyIter _) _ _ _))); (((fail_if_success (with_reducible show wpAny _ _ (eval (PySem.Expr.ListComp _ _ _ _) _) _ _ _)); (fail_if_success (with_reducible show wpAny _ _ (exec (Stmt.Assign _ (PySem.Expr.ListComp _ _ _ _) _) _) _ _ _)))); walk1) | (leave1; walk_say "STEP leave1"; try dsimp only) | fail "no step"))
  refine' for_list (vs := vs) (nn := vn) (fun (_ : Int) => []) [] (fun i P nx => ∃ o t, nx = (L' + 1, o) :: news ∧ o.data = .cell (some (.int P t)) ∧ 0 ≤ P ∧ P ≤ 2 ∧ ∀ j v c, j < i → vs[j]? = some v → zs[j]? = some c → IsDec w news v P c) ?hh ?hl ?F ?N ?h0 ?turn ?done
  case F => k_asm
  case N => k_asm
  case hh => rfl
  case hl =>
    rintro i c nx ⟨o, t, rfl, -⟩
    exact .tail _ hm
  case h0 => exact ⟨0, hk_none, _, _, rfl, by assumption, by decide, by decide, fun j _ _ h => absurd h (Nat.not_lt_zero j)⟩
  case turn =>
    rintro i v P u nx hh tkk q hi hvv ⟨o, t, rfl, hdd, hP0, hP2, hPs⟩ hit hoff F1 N1
    obtain ⟨v1, c1, e1, e2, hdec⟩ := hv.get i hi
    obtain rfl : v1 = v := Option.some.inj (e1.symm.trans hvv)
    have hdc := hdec
    have hdec : IsDec w (q :: (L' + 1, o) :: news) v1 2 c1 := hdec.sub fun p hp => .tail _ (.tail _ hp)
    have hq := neN (fun e : q.1 = L' + 1 => hoff _ (.head _) e.symm)
    dsimp only at F1
    show wpAny _ _ _ _ _ _
    (repeat' (first | (k_unfold; (try dsimp only)) | (k_end; wrow_close) | (((fail_if_success (with_reducible show wpAny _ _ (exec (Stmt.For _ _ _ _ _) _) _ _ _))); ((fail_if_success (with_reducible show wpAny _ _ (pyIter _) _ _ _))); (((fail_if_success (with_reducible show wpAny _ _ (eval (PySem.Expr.ListComp _ _ _ _) _) _ _ _)); (fail_if_success (with_reducible show wpAny _ _ (exec (Stmt.Assign _ (PySem.Expr.ListComp _ _ _ _) _) _) _ _ _)))); walk1) | (dsimp only; ((fail_if_success (with_reducible show wpAny _ _ (exec (Stmt.For _ _ _ _ _) _) _ _ _))); ((fail_if_success (with_reducible show wpAny _ _ (pyIter _) _ _ _))); (((fail_if_success (with_reducible show wpAny _ _ (eval (PySem.Expr.ListComp _ _ _ _) _) _ _ _)); (fail_if_success (with_reducible show wpAny _ _ (exec (Stmt.Assign _ (PySem.Expr.ListComp _ _ _ _) _) _) _ _ _)))); walk1) | (leave1; walk_say "STEP leave1"; try dsimp only) | fail "no step"))
    ((k_dflt (refine' ok_use (decimal_of_ok w _ _ _ _ hdec) ?k1 ?k2 ?k3 ?k4 ?k5 ?kK ?kd ?ku ?_; (case k1 => k_asm); (case k2 => k_asm); (case k3 => k_asm); (case k4 => k_asm); (case k5 => k_asm); (case kK => first | exact rfl | assumption); (case kd => first | exact ok_room hd rfl | ktr_room); (case ku => first | exact ok_room hu rfl | ktr_units)); intro r9 n9 h9 tk9 F9 N9 P9; (try dsimp only); (try k_fold)))
    obtain ⟨rfl, rfl⟩ := P9
    obtain ⟨x1, dx1, tv, pv, k1, k2, t1, t2, rfl, n1, n2, s1, -⟩ := hdc.out
    have m1 : (_, _) ∈ q :: (L' + 1, o) :: news := .tail _ (.tail _ n1)
    have d1 : (_, _) ∈ q :: (L' + 1, o) :: news := .tail _ (.tail _ n2)
    have z1 := s1.bd
    (repeat' (first | (k_unfold; (try dsimp only)) | (k_end; wrow_close) | (((fail_if_success (with_reducible show wpAny _ _ (exec (Stmt.For _ _ _ _ _) _) _ _ _))); ((fail_if_success (with_reducible show wpAny _ _ (pyIter _) _ _ _))); (((fail_if_success (with_reducible show wpAny _ _ (eval (PySem.Expr.ListComp _ _ _ _) _) _ _ _)); (fail_if_success (with_reducible show wpAny _ _ (exec (Stmt.Assign _ (PySem.Expr.ListComp _ _ _ _) _) _) _ _ _)))); walk1) | (dsimp only; ((fail_if_success (with_reducible show wpAny _ _ (exec (Stmt.For _ _ _ _ _) _) _ _ _))); ((fail_if_success (with_reducible show wpAny _ _ (pyIter _) _ _ _))); (((fail_if_success (with_reducible show wpAny _ _ (eval (PySem.Expr.ListComp _ _ _ _) _) _ _ _)); (fail_if_success (with_reducible show wpAny _ _ (exec (Stmt.Assign _ (PySem.Expr.ListComp _ _ _ _) _) _) _ _ _)))); walk1) | (leave1; walk_say "STEP leave1"; try dsimp only) | fail "no step"))
    have hmx : 0 ≤ (if pv > P then pv else P) ∧ (if pv > P then pv else P) ≤ 2 ∧ P ≤ (if pv > P then pv else P) ∧ pv ≤ (if pv > P then pv else P) := by split <;> omega
    refine LpEnd.intro (tl := []) (nx := _ :: news) (if pv > P then pv else P) (by k_asm) (by k_asm) (fun _ h => nomatch h) (fun p hp => ?_) ⟨_, _, rfl, by assumption, hmx.1, hmx.2.1, fun j v c hj hv' hc' => ?_⟩ hk_none ?_
    · rcases List.mem_cons.mp hp with rfl | hp
      · exact hq.symm
      · exact hoff p (.tail _ hp)
    · by_cases hji : j < i
      · exact (hPs j v c hji hv' hc').le hmx.2.2.1
      · obtain rfl : j = i := by omega
        obtain rfl : _ = v := Option.some.inj (e1.symm.trans hv')
        obtain rfl : _ = c := Option.some.inj (e2.symm.trans hc')
        exact .mk n1 n2 s1 hmx.2.2.2
    · intro z h4 _ _
      simp [h4, kstB]
  case done =>
    rintro P u nx hh tkk ⟨o, t, rfl, hdd, hP0, hP2, hPs⟩ F1 N1
    dsimp only at F1
    show wpAny _ _ _ _ _ _
    (repeat' (first | (k_unfold; (try dsimp only)) | (k_end; wrow_close) | (((fail_if_success (with_reducible show wpAny _ _ (exec (Stmt.For _ _ _ _ _) _) _ _ _))); ((fail_if_success (with_reducible show wpAny _ _ (pyIter _) _ _ _))); (((fail_if_success (with_reducible show wpAny _ _ (eval (PySem.Expr.ListComp _ _ _ _) _) _ _ _)); (fail_if_success (with_reducible show wpAny _ _ (exec (Stmt.Assign _ (PySem.Expr.ListComp _ _ _ _) _) _) _ _ _)))); walk1) | (dsimp only; ((fail_if_success (with_reducible show wpAny _ _ (exec (Stmt.For _ _ _ _ _) _) _ _ _))); ((fail_if_success (with_reducible show wpAny _ _ (pyIter _) _ _ _))); (((fail_if_success (with_reducible show wpAny _ _ (eval (PySem.Expr.ListComp _ _ _ _) _) _ _ _)); (fail_if_success (with_reducible show wpAny _ _ (exec (Stmt.Assign _ (PySem.Expr.ListComp _ _ _ _) _) _) _ _ _)))); walk1) | (leave1; walk_say "STEP leave1"; try dsimp only) | fail "no step"))
    k_dflt (refine LCg.ListComp_U (F₀ := by k_asm) (by with_unfolding_all rfl) (by decide) (by rfl) (by decide) (by rfl) ?_)
    (repeat' (first | (k_unfold; (try dsimp only)) | (k_end; wrow_close) | (((fail_if_success (with_reducible show wpAny _ _ (exec (Stmt.For _ _ _ _ _) _) _ _ _))); ((fail_if_success (with_reducible show wpAny _ _ (pyIter _) _ _ _))); (((fail_if_success (with_reducible show wpAny _ _ (eval (PySem.Expr.ListComp _ _ _ _) _) _ _ _)); (fail_if_success (with_reducible show wpAny _ _ (exec (Stmt.Assign _ (PySem.Expr.ListComp _ _ _ _) _) _) _ _ _)))); walk1) | (dsimp only; ((fail_if_success (with_reducible show wpAny _ _ (exec (Stmt.For _ _ _ _ _) _) _ _ _))); ((fail_if_success (with_reducible show wpAny _ _ (pyIter _) _ _ _))); (((fail_if_success (with_reducible show wpAny _ _ (eval (PySem.Expr.ListComp _ _ _ _) _) _ _ _)); (fail_if_success (with_reducible show wpAny _ _ (exec (Stmt.Assign _ (PySem.Expr.ListComp _ _ _ _) _) _) _ _ _)))); walk1) | (leave1; walk_say "STEP leave1"; try dsimp only) | fail "no step"))
    refine LCg.CompSrc.ledger rfl (by k_asm) (by k_asm) (List.mem_cons_of_mem _ hm) (by rw [List.size_toArray, sizeLine_eq]; omega) (fun g1 => ?_)
    refine comp_all (n := vs.length) (fun i ys nw => nw = (L' + 1, o) :: news ∧ ∃ ts, IntsAre ys ts ∧ ScAll P ts (zs.take i)) ?_ ?_ _ 0 [] _ (by simp) ⟨rfl, [], .nil, .nil⟩
    · rintro i ys nw v I oI C oC D m₂ h tk E' hi hPv ⟨rfl, ts, hts, hsc⟩ hC hx F2 N2 off ne
      obtain ⟨v1, c1, e1, e2, -⟩ := hv.get i hi
      obtain rfl : v1 = v := Option.some.inj (e1.symm.trans (by simpa using hPv))
      have hdc := hPs i v1 c1 hi e1 e2
      have hdec : IsDec w ((I, oI) :: (C, oC) :: (D, LCg.lst ys) :: (L' + 1, o) :: news) v1 P c1 := hdc.sub fun p hp => .tail _ (.tail _ (.tail _ (.tail _ hp)))
      obtain ⟨x1, dx1, tv, pv, k1, k2, t1, t2, rfl, n1, n2, s1, b1⟩ := hdec.out
      have z1 := s1.bd
      have z2 := s1.top (hb c1 (List.mem_of_getElem? e2))
      (repeat' (first | (k_unfold; (try dsimp only)) | (k_end; wrow_close) | (((fail_if_success (with_reducible show wpAny _ _ (exec (Stmt.For _ _ _ _ _) _) _ _ _))); ((fail_if_success (with_reducible show wpAny _ _ (pyIter _) _ _ _))); (((fail_if_success (with_reducible show wpAny _ _ (eval (PySem.Expr.ListComp _ _ _ _) _) _ _ _)); (fail_if_success (with_reducible show wpAny _ _ (exec (Stmt.Assign _ (PySem.Expr.ListComp _ _ _ _) _) _) _ _ _)))); walk1) | (dsimp only; ((fail_if_success (with_reducible show wpAny _ _ (exec (Stmt.For _ _ _ _ _) _) _ _ _))); ((fail_if_success (with_reducible show wpAny _ _ (pyIter _) _ _ _))); (((fail_if_success (with_reducible show wpAny _ _ (eval (PySem.Expr.ListComp _ _ _ _) _) _ _ _)); (fail_if_success (with_reducible show wpAny _ _ (exec (Stmt.Assign _ (PySem.Expr.ListComp _ _ _ _) _) _) _ _ _)))); walk1) | (leave1; walk_say "STEP leave1"; try dsimp only) | fail "no step"))
      ((k_dflt (refine' ok_use (decimal_of_ok w _ _ _ _ hdec) ?k1 ?k2 ?k3 ?k4 ?k5 ?kK ?kd ?ku ?_; (case k1 => k_asm); (case k2 => k_asm); (case k3 => k_asm); (case k4 => k_asm); (case k5 => k_asm); (case kK => first | exact rfl | assumption); (case kd => first | exact ok_room hd rfl | ktr_room); (case ku => first | exact ok_room hu rfl | ktr_units)); intro r9 n9 h9 tk9 F9 N9 P9; (try dsimp only); (try k_fold)))
      obtain ⟨rfl, rfl⟩ := P9
      (repeat' (first | (k_unfold; (try dsimp only)) | (k_end; wrow_close) | (((fail_if_success (with_reducible show wpAny _ _ (exec (Stmt.For _ _ _ _ _) _) _ _ _))); ((fail_if_success (with_reducible show wpAny _ _ (pyIter _) _ _ _))); (((fail_if_success (with_reducible show wpAny _ _ (eval (PySem.Expr.ListComp _ _ _ _) _) _ _ _)); (fail_if_success (with_reducible show wpAny _ _ (exec (Stmt.Assign _ (PySem.Expr.ListComp _ _ _ _) _) _) _ _ _)))); walk1) | (dsimp only; ((fail_if_success (with_reducible show wpAny _ _ (exec (Stmt.For _ _ _ _ _) _) _ _ _))); ((fail_if_success (with_reducible show wpAny _ _ (pyIter _) _ _ _))); (((fail_if_success (with_reducible show wpAny _ _ (eval (PySem.Expr.ListComp _ _ _ _) _) _ _ _)); (fail_if_success (with_reducible show wpAny _ _ (exec (Stmt.Assign _ (PySem.Expr.ListComp _ _ _ _) _) _) _ _ _)))); walk1) | (leave1; walk_say "STEP leave1"; try dsimp only) | fail "no step"))
      ((k_dflt (refine' ok_use (decimal_of_ok w _ _ _ _ hdec) ?k1 ?k2 ?k3 ?k4 ?k5 ?kK ?kd ?ku ?_; (case k1 => k_asm); (case k2 => k_asm); (case k3 => k_asm); (case k4 => k_asm); (case k5 => k_asm); (case kK => first | exact rfl | assumption); (case kd => first | exact ok_room hd rfl | ktr_room); (case ku => first | exact ok_room hu rfl | ktr_units)); intro r9 n9 h9 tk9 F9 N9 P9; (try dsimp only); (try k_fold)))
      obtain ⟨rfl, rfl⟩ := P9
      (repeat' (first | (k_unfold; (try dsimp only)) | (k_end; wrow_close) | (((fail_if_success (with_reducible show wpAny _ _ (exec (Stmt.For _ _ _ _ _) _) _ _ _))); ((fail_if_success (with_reducible show wpAny _ _ (pyIter _) _ _ _))); (((fail_if_success (with_reducible show wpAny _ _ (eval (PySem.Expr.ListComp _ _ _ _) _) _ _ _)); (fail_if_success (with_reducible show wpAny _ _ (exec (Stmt.Assign _ (PySem.Expr.ListComp _ _ _ _) _) _) _ _ _)))); walk1) | (dsimp only; ((fail_if_success (with_reducible show wpAny _ _ (exec (Stmt.For _ _ _ _ _) _) _ _ _))); ((fail_if_success (with_reducible show wpAny _ _ (pyIter _) _ _ _))); (((fail_if_success (with_reducible show wpAny _ _ (eval (PySem.Expr.ListComp _ _ _ _) _) _ _ _)); (fail_if_success (with_reducible show wpAny _ _ (exec (Stmt.Assign _ (PySem.Expr.ListComp _ _ _ _) _) _) _ _ _)))); walk1) | (leave1; walk_say "STEP leave1"; try dsimp only) | fail "no step"))
      refine cend_gr (tl := []) (by k_asm) (by k_asm) (fun _ _ _ h => nomatch h) off (.inr ⟨_, List.mem_cons_of_mem _ hm, rfl, _, rfl⟩) ⟨rfl, ts ++ [_], ksk_snoc hts, ?_⟩
      have e3 : zs.take (i + 1) = zs.take i ++ [c1] := by rw [List.take_add_one, e2]; rfl
      rw [e3]
      exact hsc.snoc (scale_one s1 b1 hP2)
    · rintro ys nw ⟨rfl, ts, hts, hsc⟩
      rw [List.take_of_length_le (Nat.le_of_eq hv.len.symm)] at hsc
      intro D h3 tk3 F3 N3 o3
      show wpAny _ _ _ _ _ _
      (repeat' (first | (k_unfold; (try dsimp only)) | (k_end; wrow_close) | (((fail_if_success (with_reducible show wpAny _ _ (exec (Stmt.For _ _ _ _ _) _) _ _ _))); ((fail_if_success (with_reducible show wpAny _ _ (pyIter _) _ _ _))); (((fail_if_success (with_reducible show wpAny _ _ (eval (PySem.Expr.ListComp _ _ _ _) _) _ _ _)); (fail_if_success (with_reducible show wpAny _ _ (exec (Stmt.Assign _ (PySem.Expr.ListComp _ _ _ _) _) _) _ _ _)))); walk1) | (dsimp only; ((fail_if_success (with_reducible show wpAny _ _ (exec (Stmt.For _ _ _ _ _) _) _ _ _))); ((fail_if_success (with_reducible show wpAny _ _ (pyIter _) _ _ _))); (((fail_if_success (with_reducible show wpAny _ _ (eval (PySem.Expr.ListComp _ _ _ _) _) _ _ _)); (fail_if_success (with_reducible show wpAny _ _ (exec (Stmt.Assign _ (PySem.Expr.ListComp _ _ _ _) _) _) _ _ _)))); walk1) | (leave1; walk_say "STEP leave1"; try dsimp only) | fail "no step"))
      (refine hret _ _ _ _ (by k_asm) (by k_asm) ?_)
      have o4 := allLt_ne (l := (D, LCg.lst ys) :: (L' + 1, o) :: news) (by assumption)
      have o5 := off1_ne o3
      refine ⟨_ :: _ :: [_], rfl, fun q hq p hp => ?_, .mk (.head _) (.tail _ (.head _)) hts hsc⟩
      rcases List.mem_cons.mp hp with rfl | hp
      · exact (o4 q (.tail _ (.tail _ hq))).symm
      rcases List.mem_cons.mp hp with rfl | hp
      · exact (o5 q (.tail _ hq)).symm
      · rw [List.mem_singleton.mp hp]
        exact (l2 q hq).symm

end
-- part L4
section
open PySem PySem.W PyProof.Rows
set_option maxRecDepth 100000
set_option maxHeartbeats 4000000

abbrev lamQ : Str := Str.ofString "glyph_rows.<locals>.<lambda>"
/-- the table of glyph_rows's codes -/
inductive TabOk (rest : List (Addr × Obj)) : Array Value → Prop
  | none : TabOk rest #[]
  | one {c' : Addr} {oc : Obj} {vs : Array Value} {t : Tok} : (c', oc) ∈ rest → oc.data = .fields vs → vs[1]? = some (.str lamQ t) → TabOk rest #[rawInt 114, rawInt 42, .ref c']
theorem TabOk.mono {rest rest' : List (Addr × Obj)} {ps : Array Value} (h : TabOk rest ps) (g : ∀ p ∈ rest, p ∈ rest') : TabOk rest' ps := by
  cases h with
  | none => exact .none
  | one a b c => exact .one (g _ a) b c

section
variable {M : Model} {A : Around} {E : Value → Shared → Prop} {s : Shared} {h₀ : Heap} {L a : Addr} {m mg mb : Str → Option Value} {cn : Str} {cs : Scope} {ccd : Value} {cl : List (Str × Addr)} {R : List (Addr × Obj)}
  {p : Program} {loose : List Str} {mean : ExcName → Option Value} {name : Str} {params : Arguments} {body : PySem.Expr} {scope : Scope} {ps : Array Value} {firstLine e1 e2 : Nat} {clos : List (Str × Addr)} {q1 q2 : Addr × Obj}
theorem lam_made {Q : Value → Shared → Prop} (F : Fr h₀ L s.heap m) (N : News h₀ L s.heap (q1 :: q2 :: (231, tabObj ps) :: R)) (T : Top p loose mean mg mb h₀) (C : CodeHd h₀ 233 231) (hcd : ccd = .ref 233) (ht : TabOk R ps)
    (o1 : ∀ p ∈ R, p.1 ≠ q1.1) (o2 : ∀ p ∈ R, p.1 ≠ q2.1) (o3 : ∀ p ∈ R, p.1 ≠ 231) (n1 : q1.1 ≠ 231) (n2 : q2.1 ≠ 231)
    (hcl : closureFor scope (envX cn cs L a ccd cl) = pure clos)
    (h : ∀ f c' oc vs t ctv h' tk R' ps', Fr h₀ L h' m → News h₀ L h' (q1 :: q2 :: (231, tabObj ps') :: R') → Gr R R' →
      (f, kla_obj name lamQ params body scope clos ((mg "__name__").getD .none) c' ctv) ∈ R' → (c', oc) ∈ R' → oc.data = .fields vs → vs[1]? = some (.str lamQ t) → TabOk R' ps' →
      (∀ p ∈ R', p.1 ≠ q1.1) → (∀ p ∈ R', p.1 ≠ q2.1) → (∀ p ∈ R', p.1 ≠ 231) → Q (.ref f) { s with heap := h', toks := tk }) :
    wpAny M A (makeFunction name lamQ params (.expr body) scope (envX cn cs L a ccd cl) [] [] [] ⟨114, 42, e1, e2⟩ firstLine) Q E s := by
  cases ht with
  | none =>
    refine kla_nest F N T C hcd (g := fun o => q1 :: q2 :: (231, o) :: R) (.tail n1 (.tail n2 (.head o3))) True.intro rfl hcl fun f c' oc vs t ctv h' tk F' N' d1 d2 l1 l2 => ?_
    have lc : ∀ p ∈ R, p.1 < c' := fun p hp => l1 p (.tail _ (.tail _ (.tail _ hp)))
    have b1 := l1 q1 (.head _)
    have b2 := l1 q2 (.tail _ (.head _))
    have b3 := l1 (231, tabObj #[]) (.tail _ (.tail _ (.head _)))
    refine h f c' oc vs t ctv h' tk ((f, _) :: (c', oc) :: R) _ F' (fun p hp => N' p ?_) ((Gr.refl R).two lc l2) (.head _) (.tail _ (.head _)) d1 d2 (.one (.tail _ (.head _)) d1 d2) ?_ ?_ ?_
    · rcases List.mem_cons.mp hp with rfl | hp
      · exact .tail _ (.tail _ (.head _))
      rcases List.mem_cons.mp hp with rfl | hp
      · exact .tail _ (.tail _ (.tail _ (.head _)))
      rcases List.mem_cons.mp hp with rfl | hp
      · exact .tail _ (.tail _ (.tail _ (.tail _ (.head _))))
      rcases List.mem_cons.mp hp with rfl | hp
      · exact .head _
      rcases List.mem_cons.mp hp with rfl | hp
      · exact .tail _ (.head _)
      · exact .tail _ (.tail _ (.tail _ (.tail _ (.tail _ hp))))
    · intro p hp
      rcases List.mem_cons.mp hp with rfl | hp
      · exact Nat.ne_of_gt (Nat.lt_trans b1 l2)
      rcases List.mem_cons.mp hp with rfl | hp
      · exact Nat.ne_of_gt b1
      · exact o1 p hp
    · intro p hp
      rcases List.mem_cons.mp hp with rfl | hp
      · exact Nat.ne_of_gt (Nat.lt_trans b2 l2)
      rcases List.mem_cons.mp hp with rfl | hp
      · exact Nat.ne_of_gt b2
      · exact o2 p hp
    · intro p hp
      rcases List.mem_cons.mp hp with rfl | hp
      · exact Nat.ne_of_gt (Nat.lt_trans b3 l2)
      rcases List.mem_cons.mp hp with rfl | hp
      · exact Nat.ne_of_gt b3
      · exact o3 p hp
  | @one c' oc vs t a b c =>
    refine kla_hit (c' := c') F N T C hcd (.tail _ (.tail _ (.head _))) True.intro rfl hcl fun f ctv h' tk F' N' l1 => ?_
    have lc : ∀ p ∈ R, p.1 < f := fun p hp => l1 p (.tail _ (.tail _ (.tail _ hp)))
    have b1 := l1 q1 (.head _)
    have b2 := l1 q2 (.tail _ (.head _))
    have b3 := l1 (231, tabObj _) (.tail _ (.tail _ (.head _)))
    refine h f c' oc vs t ctv h' tk ((f, _) :: R) _ F' (fun p hp => N' p ?_) ((Gr.refl R).one lc) (.head _) (.tail _ a) b c (.one (.tail _ a) b c) ?_ ?_ ?_
    · rcases List.mem_cons.mp hp with rfl | hp
      · exact .tail _ (.head _)
      rcases List.mem_cons.mp hp with rfl | hp
      · exact .tail _ (.tail _ (.head _))
      rcases List.mem_cons.mp hp with rfl | hp
      · exact .tail _ (.tail _ (.tail _ (.head _)))
      rcases List.mem_cons.mp hp with rfl | hp
      · exact .head _
      · exact .tail _ (.tail _ (.tail _ (.tail _ hp)))
    · intro p hp
      rcases List.mem_cons.mp hp with rfl | hp
      · exact Nat.ne_of_gt b1
      · exact o1 p hp
    · intro p hp
      rcases List.mem_cons.mp hp with rfl | hp
      · exact Nat.ne_of_gt b2
      · exact o2 p hp
    · intro p hp
      rcases List.mem_cons.mp hp with rfl | hp
      · exact Nat.ne_of_gt b3
      · exact o3 p hp
theorem news_range {h h' : Heap} {n : Nat} {t u v : Tok} {led : List (Addr × Obj)} (F : Fr h₀ L h m) (hr : IsRange h' h.objs.size 0 n 1 t u v) (N : News h₀ L h' led) : News h₀ L h' ((h.objs.size, { cls := .type "range", dict := none, data := .fields #[.int 0 t, .int n u, .int 1 v], slots := #[] }) :: led) := fun p hp => by
  rcases List.mem_cons.mp hp with rfl | hp
  · exact ⟨hr, Nat.ne_of_gt F.ns.lt, next_is_new F⟩
  · exact N p hp
end

end
-- part G1
section
open PySem PySem.W PyProof.Rows
set_option maxRecDepth 100000
set_option maxHeartbeats 0

theorem AreGls.sub {w : World} {n n' : List (Addr × Obj)} {vs : List Value} {gs : List Gl} (h : AreGls w n vs gs) (l : ∀ p ∈ n, p ∈ n') : AreGls w n' vs gs := by
  induction h with
  | nil => exact .nil
  | cons a _ ih => exact .cons (a.sub l) ih
theorem AreGls.snoc {w : World} {n : List (Addr × Obj)} {vs : List Value} {gs : List Gl} {v : Value} {g : Gl} (h : AreGls w n vs gs) (k : IsGl w n v g) : AreGls w n (vs ++ [v]) (gs ++ [g]) := by
  induction h with
  | nil => exact .cons k .nil
  | cons a _ ih => exact .cons a ih
theorem AreDecs.snoc {w : World} {n : List (Addr × Obj)} {vs : List Value} {gs : List Int} {v : Value} {g : Int} (h : AreDecs w n vs gs) (k : IsDec w n v 2 g) : AreDecs w n (vs ++ [v]) (gs ++ [g]) := by
  induction h with
  | nil => exact .cons k .nil
  | cons a _ ih => exact .cons a ih
theorem AreDecs.sub {w : World} {n n' : List (Addr × Obj)} {vs : List Value} {gs : List Int} (h : AreDecs w n vs gs) (l : ∀ p ∈ n, p ∈ n') : AreDecs w n' vs gs := by
  induction h with
  | nil => exact .nil
  | cons a _ ih => exact .cons (a.sub l) ih
theorem IsGl.out {w : World} {n : List (Addr × Obj)} {v : Value} {g : Gl} (h : IsGl w n v g) : ∃ a da vx vy vw vs k1 k2 k3 k4 k5 t1, v = .ref a ∧ (a, instObj 211 da) ∈ n ∧
    (da, dictOf [ent w "text" k1 (.str g.text t1), ent w "x" k2 vx, ent w "y" k3 vy, ent w "width" k4 vw, ent w "size" k5 vs] 5) ∈ n ∧ IsDec w n vx 2 g.x ∧ IsDec w n vy 2 g.y ∧ g.Small := by
  cases h with
  | mk a b c d e f q => exact ⟨_, _, _, _, _, _, _, _, _, _, _, _, rfl, a, b, c, d, q⟩
/-- the ledger with three entries ahead -/
theorem stage {h₀ h : Heap} {L : Addr} {tl R0 : List (Addr × Obj)} {d q1 q2 q3 : Addr × Obj} (N : News h₀ L h (tl ++ d :: q1 :: q2 :: q3 :: R0)) (ap : ∀ q ∈ d :: q1 :: q2 :: q3 :: R0, ∀ p ∈ tl, p.1 ≠ q.1) (dd : ∀ p ∈ q1 :: q2 :: q3 :: R0, p.1 ≠ d.1)
    (o1 : ∀ p ∈ R0, p.1 ≠ q1.1) (o2 : ∀ p ∈ R0, p.1 ≠ q2.1) (o3 : ∀ p ∈ R0, p.1 ≠ q3.1) :
    ∃ R, News h₀ L h (q1 :: q2 :: q3 :: R) ∧ Gr R0 R ∧ d ∈ R ∧ (∀ p ∈ tl, p ∈ R) ∧ (∀ p ∈ R, p.1 ≠ q1.1) ∧ (∀ p ∈ R, p.1 ≠ q2.1) ∧ ∀ p ∈ R, p.1 ≠ q3.1 := by
  have off : ∀ q : Addr × Obj, q ∈ [q1, q2, q3] → (∀ p ∈ R0, p.1 ≠ q.1) → ∀ p ∈ tl ++ d :: R0, p.1 ≠ q.1 := fun q hq hr p hp => by
    have hq' : q ∈ q1 :: q2 :: q3 :: R0 := by
      rcases List.mem_cons.mp hq with rfl | hq
      · exact .head _
      rcases List.mem_cons.mp hq with rfl | hq
      · exact .tail _ (.head _)
      rw [List.mem_singleton.mp hq]
      exact .tail _ (.tail _ (.head _))
    rcases List.mem_append.mp hp with hp | hp
    · exact ap q (.tail _ hq') p hp
    rcases List.mem_cons.mp hp with rfl | hp
    · exact (dd q hq').symm
    · exact hr p hp
  refine ⟨tl ++ d :: R0, fun p hp => N p ?_, ⟨tl ++ [d], by simp, fun q hq p hp => ?_⟩, List.mem_append.mpr (.inr (.head _)), fun p hp => List.mem_append.mpr (.inl hp), off q1 (.head _) o1, off q2 (.tail _ (.head _)) o2, off q3 (.tail _ (.tail _ (.head _))) o3⟩
  · rcases List.mem_cons.mp hp with rfl | hp
    · exact List.mem_append.mpr (.inr (.tail _ (.head _)))
    rcases List.mem_cons.mp hp with rfl | hp
    · exact List.mem_append.mpr (.inr (.tail _ (.tail _ (.head _))))
    rcases List.mem_cons.mp hp with rfl | hp
    · exact List.mem_append.mpr (.inr (.tail _ (.tail _ (.tail _ (.head _)))))
    rcases List.mem_append.mp hp with hp | hp
    · exact List.mem_append.mpr (.inl hp)
    rcases List.mem_cons.mp hp with rfl | hp
    · exact List.mem_append.mpr (.inr (.head _))
    · exact List.mem_append.mpr (.inr (.tail _ (.tail _ (.tail _ (.tail _ hp)))))
  · rcases List.mem_append.mp hp with hp | hp
    · exact ap q (.tail _ (.tail _ (.tail _ (.tail _ hq)))) p hp
    · rw [List.mem_singleton.mp hp]
      exact (dd q (.tail _ (.tail _ (.tail _ hq)))).symm

local macro_rules | `(tactic| k_all) => `(tactic| first | assumption | (refine' List.forall_mem_cons.mpr ⟨?a, ?b⟩; (case a => k_ne); (case b => k_all)))
local macro_rules | `(tactic| k_mem) => `(tactic| first | ktr_member | exact List.Mem.head _ | (refine List.mem_cons_of_mem _ ?_; k_mem))

local macro_rules | `(tactic| walk_at "subscriptTail") => `(tactic| (k_here; (with_reducible show wpAny _ _ (subscriptTail _ _ (Value.ref _) (Value.int _ _)) _ _ _); k_dflt (refine' item_led ?N ?m ?a ?b ?x ?_ ?s; (case N => k_asm); (case m => k_mem); (case a => omega); (case b => omega); (case x => assumption); (case s => with_unfolding_all rfl); k_whole)))
local macro_rules | `(tactic| walk_at "call builtin:len") => `(tactic| (k_here; (with_reducible show wpAny _ _ (call (Value.builtin "len") [Value.ref _]) _ _ _); k_dflt (refine' len_led ?N ?m ?z ?_; (case N => k_asm); (case m => k_mem); (case z => omega); k_whole)))
theorem TopsAt.out {n : List (Addr × Obj)} {v : Value} {cs : List Int} (h : TopsAt n v cs) : ∃ T la tvs ln P tp ts, v = .ref T ∧ (T, tupObj #[.ref la, .int P tp]) ∈ n ∧ (la, listOf tvs.toArray ln) ∈ n ∧ IntsAre tvs ts ∧ ScAll P ts cs := by
  cases h with
  | mk a b c d => exact ⟨_, _, _, _, _, _, _, rfl, a, b, c, d⟩
/-- a list of rows -/
inductive AreRows (w : World) (n : List (Addr × Obj)) : List Value → List (List Gl) → Prop
  | nil : AreRows w n [] []
  | snoc {vs : List Value} {gss : List (List Gl)} {a : Addr} {us : List Value} {gs : List Gl} {k : Nat} : AreRows w n vs gss → (a, listOf us.toArray k) ∈ n → AreGls w n us gs → AreRows w n (vs ++ [Value.ref a]) (gss ++ [gs])
theorem AreRows.sub {w : World} {n n' : List (Addr × Obj)} {vs : List Value} {gs : List (List Gl)} (h : AreRows w n vs gs) (l : ∀ p ∈ n, p ∈ n') : AreRows w n' vs gs := by
  induction h with
  | nil => exact .nil
  | snoc _ b c ih => exact .snoc ih (l _ b) (c.sub l)
theorem AreRows.len {w : World} {n : List (Addr × Obj)} {vs : List Value} {gs : List (List Gl)} (h : AreRows w n vs gs) : vs.length = gs.length := by
  induction h with
  | nil => rfl
  | snoc _ b c ih => simp [ih]
/-- glyphs in turn, cut where the height changes: the rows done, and the row under way -/
inductive Grp : List Gl → List (List Gl) → List Gl → Prop
  | one (g : Gl) : Grp [g] [] [g]
  | same {l : List Gl} {d : List (List Gl)} {la : List Gl} {p g : Gl} : Grp (l ++ [p]) d la → p.y = g.y → Grp (l ++ [p] ++ [g]) d (la ++ [g])
  | new {l : List Gl} {d : List (List Gl)} {la : List Gl} {p g : Gl} : Grp (l ++ [p]) d la → p.y ≠ g.y → Grp (l ++ [p] ++ [g]) (d ++ [la]) [g]
def noGl : Gl := ⟨Str.ofString "", 0, 0, 0, 0⟩
def glAt (gs : List Gl) (i : Nat) : Gl := gs.getD i noGl
/-- the loop's ledger -/
inductive RowsAt (w : World) (BB : List (Addr × Obj)) (ra : Addr) (sg : List Gl) : Nat → List (Addr × Obj) → Prop
  | start {n : Nat} : RowsAt w BB ra sg 0 ((ra, listOf #[] n) :: BB)
  | go {i : Nat} {K : List (Addr × Obj)} {done : List Value} {n n2 : Nat} {dgs : List (List Gl)} {la : Addr} {lvs : List Value} {lgs : List Gl} : Gr BB K → AreRows w K done dgs → AreGls w K lvs lgs → Grp (sg.take (i + 1)) dgs lgs → lvs.length ≤ i + 1 → done.length ≤ i →
    ra ≠ la → (∀ p ∈ K, p.1 ≠ ra) → (∀ p ∈ K, p.1 ≠ la) → RowsAt w BB ra sg (i + 1) ((ra, listOf (done ++ [Value.ref la]).toArray n) :: (la, listOf lvs.toArray n2) :: K)
theorem item_last {prog : Program} {w : World} {A : Around} {E : Value → Shared → Prop} {s : Shared} {h₀ : Heap} {L l : Addr} {news : List (Addr × Obj)} {Q : Value → Shared → Prop} {value slice : PySem.Expr} {u : Tok} {v : Value} {done : List Value} {n : Nat} (N : News h₀ L s.heap news) (hm : (l, listOf (done ++ [v]).toArray n) ∈ news) (h0 : done.length ≤ 1000000) (h : Q v s)
    (hs : subscripted slice false (.ref l) (.int (-1) u) = operate [.ref l, .int (-1) u] (getItem (.ref l) (.int (-1) u)) := by with_unfolding_all rfl) :
    wpAny (model prog w) A (subscriptTail value slice (.ref l) (.int (-1) u)) Q E s := by
  have e : (done ++ [v]).toArray.size = done.length + 1 := by simp
  refine tail_any (News.isList N hm).typeIs slot_list_getitem.lookup (wpAny_getItem_list_neg (News.isList N hm) (by decide) (by rw [e]; omega) (by decide) ?_ h) hs
  rw [e, show ((-1 : Int) + ((done.length + 1 : Nat) : Int)).toNat = done.length by omega]
  simp

theorem Sc.eq_iff {P t c t' c' : Int} (h : Sc P t c) (h' : Sc P t' c') : t = t' ↔ c = c' := by
  rcases h with ⟨rfl, rfl⟩ | ⟨rfl, rfl⟩ | ⟨rfl, rfl⟩ <;> rcases h' with ⟨e, rfl⟩ | ⟨e, rfl⟩ | ⟨e, rfl⟩ <;> omega
theorem sg_at {gs : List Gl} {os : List Nat} {i : Nat} {g : Gl} (hi : i < os.length) (h : gs[os.getD i 0]? = some g) : (os.map (glAt gs))[i]? = some g := by
  rw [List.getElem?_map, List.getElem?_eq_getElem hi]
  have e : os.getD i 0 = os[i] := by simp [hi]
  rw [e] at h
  simp [glAt, List.getD_eq_getElem?_getD, h]
theorem take_at {α : Type} {l : List α} {i : Nat} {g : α} (h : l[i]? = some g) : l.take (i + 1) = l.take i ++ [g] := by
  rw [List.take_add_one, h]; rfl
local macro_rules | `(tactic| walk_at "subscriptTail") => `(tactic| (k_here; (with_reducible show wpAny _ _ (subscriptTail _ _ (Value.ref _) (Value.int (-1) _)) _ _ _); k_dflt (refine' item_last ?N ?m ?z ?_ ?s; (case N => k_asm); (case m => k_mem); (case z => first | omega | (simp only [List.length_append, List.length_cons, List.length_nil]; omega)); (case s => with_unfolding_all rfl); k_whole)))
theorem at_ne {z : Str} (h : [Str.ofString "at"].contains z = false) : ¬ z = Str.ofString "at" := by
  rintro rfl
  exact absurd h (by decide)
theorem kst_at {z : Str} {u m : Str → Option Value} (h : [Str.ofString "at"].contains z = false) : kstB (fun z => if [Str.ofString "at"].contains z then u z else m z) [] z = m z := by
  show (if [Str.ofString "at"].contains z then u z else m z) = m z
  rw [h]
  rfl
theorem Sc.lt_iff {P t c t' c' : Int} (h : Sc P t c) (h' : Sc P t' c') : t < t' ↔ c < c' := by
  rcases h with ⟨rfl, rfl⟩ | ⟨rfl, rfl⟩ | ⟨rfl, rfl⟩ <;> rcases h' with ⟨e, rfl⟩ | ⟨e, rfl⟩ | ⟨e, rfl⟩ <;> omega
/-- the order of the rows' glyphs -/
def Before (gs : List Gl) (i j : Nat) : Prop := (glAt gs j).y < (glAt gs i).y ∨ (glAt gs i).y = (glAt gs j).y ∧ ((glAt gs i).x < (glAt gs j).x ∨ ((glAt gs i).x = (glAt gs j).x ∧ i ≤ j))
theorem before_of {gs : List Gl} {i j : Nat} {P1 P2 t t' u u' : Int} (h1 : Sc P1 t (glAt gs i).y) (h2 : Sc P1 t' (glAt gs j).y) (h3 : Sc P2 u (glAt gs i).x) (h4 : Sc P2 u' (glAt gs j).x) (hi : i < 64) (hj : j < 64) (b1 : -1000000 ≤ u ∧ u ≤ 1000000) (b2 : -1000000 ≤ u' ∧ u' ≤ 1000000)
    (h : lexK (-t) u i ≤ lexK (-t') u' j) : Before gs i j := by
  have e1 := h2.lt_iff h1
  have e2 := h1.eq_iff h2
  have e3 := h3.lt_iff h4
  have e4 := h3.eq_iff h4
  unfold lexK at h
  unfold Before
  omega
inductive Ordered (gs : List Gl) : List (List Gl) → Prop
  | none : gs = [] → Ordered gs []
  | some {os : List Nat} {d : List (List Gl)} {la : List Gl} : os.Perm (List.range gs.length) → os.Pairwise (Before gs) → Grp (os.map (glAt gs)) d la → Ordered gs (d ++ [la])
theorem rows_end {q1 q2 q3 : Addr × Obj} {R6 K xs : List (Addr × Obj)} (gK : Gr (q1 :: q2 :: q3 :: R6) K) (o1 : ∀ p ∈ R6, p.1 ≠ q1.1) (o2 : ∀ p ∈ R6, p.1 ≠ q2.1) (o3 : ∀ p ∈ R6, p.1 ≠ q3.1) (n1 : q1.1 ≠ q3.1) (n2 : q2.1 ≠ q3.1) (hx : ∀ x ∈ xs, ∀ p ∈ K, p.1 ≠ x.1) :
    ∃ rest', Gr R6 rest' ∧ (∀ p ∈ rest', p.1 ≠ q3.1) ∧ (∀ p ∈ q3 :: rest', p ∈ xs ++ K) ∧ ∀ p ∈ xs ++ K, p ∈ q3 :: rest' := by
  obtain ⟨tl, rfl, ap⟩ := gK
  have e : (xs ++ (tl ++ q1 :: q2 :: q3 :: R6)).Perm (q3 :: (xs ++ (tl ++ q1 :: q2 :: R6))) := by
    have := List.perm_middle (a := q3) (l₁ := xs ++ (tl ++ [q1, q2])) (l₂ := R6)
    simpa using this
  refine ⟨xs ++ (tl ++ q1 :: q2 :: R6), ⟨xs ++ (tl ++ [q1, q2]), by simp, fun q hq p hp => ?_⟩, fun p hp => ?_, fun p hp => ?_, fun p hp => ?_⟩
  · rcases List.mem_append.mp hp with hp | hp
    · exact (hx p hp q (by simp [hq])).symm
    rcases List.mem_append.mp hp with hp | hp
    · exact ap q (by simp [hq]) p hp
    rcases List.mem_cons.mp hp with rfl | hp
    · exact (o1 q hq).symm
    · rw [List.mem_singleton.mp hp]; exact (o2 q hq).symm
  · rcases List.mem_append.mp hp with hp | hp
    · exact (hx p hp q3 (by simp)).symm
    rcases List.mem_append.mp hp with hp | hp
    · exact ap q3 (by simp) p hp
    rcases List.mem_cons.mp hp with rfl | hp
    · exact n1
    rcases List.mem_cons.mp hp with rfl | hp
    · exact n2
    · exact o3 p hp
  · exact e.mem_iff.mpr hp
  · exact e.mem_iff.mp hp
theorem append_L {prog : Program} {w : World} {A : Around} {E : Value → Shared → Prop} {s : Shared} {h₀ : Heap} {L D : Addr} {m : Str → Option Value} {news news' : List (Addr × Obj)} {vs : List Value} {n : Nat} {x : Value} {Q : Value → Shared → Prop} (F : Fr h₀ L s.heap m) (N : News h₀ L s.heap news) (U : Upd D (listOf vs.toArray n) (listOf (vs ++ [x]).toArray (n + 1)) news news')
    (h0 : vs.length ≤ 1000000) (h : ∀ h', Fr h₀ L h' m → News h₀ L h' news' → Q .none { s with heap := h' }) : wpAny (model prog w) A (call (.builtin "list.append") [.ref D, x]) Q E s := by
  have e : vs.toArray.push x = (vs ++ [x]).toArray := by simp
  rw [← e] at U
  exact append_K F N U h (by rw [List.size_toArray, sizeLine_eq]; omega)
local macro_rules | `(tactic| k_ne) => `(tactic| first | assumption | (refine neN ?_; (try dsimp only); omega))
local macro_rules | `(tactic| walk_at "call builtin:list.append") => `(tactic| (k_here; (with_reducible show wpAny _ _ (call (Value.builtin _) [Value.ref _, _]) _ _ _); k_dflt (refine' append_L ?k1 ?k2 ?k3 ?z ?_; (case k1 => k_asm); (case k2 => k_asm); (case k3 => k_upd); (case z => first | omega | (simp only [List.length_append, List.length_cons, List.length_nil]; omega)); k_whole); intro h' F' N'; (try k_sweep)))

abbrev told (gs : List Gl) : List Gl := gs.filter fun g => g.text != Str.ofString ""
theorem ScAll.len {P : Int} {ts cs : List Int} (h : ScAll P ts cs) : ts.length = cs.length := by
  induction h with
  | nil => rfl
  | cons _ _ ih => simp [ih]
theorem ScAll.get {P : Int} {ts cs : List Int} (h : ScAll P ts cs) : ∀ i, i < ts.length → ∃ c, ts[i]? = some (ts.getD i 0) ∧ cs[i]? = some c ∧ Sc P (ts.getD i 0) c := by
  induction h with
  | nil => intro i hi; exact absurd hi (Nat.not_lt_zero _)
  | cons a _ ih =>
    intro i hi
    match i, hi with
    | 0, _ => exact ⟨_, rfl, rfl, a⟩
    | i + 1, hi => exact ih i (Nat.lt_of_succ_lt_succ hi)
theorem told_yes {gs : List Gl} {g : Gl} (h : (g.text != Str.ofString "") = true) : told (gs ++ [g]) = told gs ++ [g] := by
  unfold told
  rw [List.filter_append, List.filter_cons_of_pos (p := fun g : Gl => g.text != Str.ofString "") (a := g) h]
  rfl
theorem told_no {gs : List Gl} {g : Gl} (h : (g.text != Str.ofString "") = false) : told (gs ++ [g]) = told gs := by
  unfold told
  rw [List.filter_append, List.filter_cons_of_neg (p := fun g : Gl => g.text != Str.ofString "") (a := g) (by rw [h]; decide), List.filter_nil, List.append_nil]
theorem AreGls.small {w : World} {n : List (Addr × Obj)} {vs : List Value} {gs : List Gl} (h : AreGls w n vs gs) : ∀ g ∈ gs, g.Small := by
  induction h with
  | nil => exact fun _ h => nomatch h
  | cons a _ ih =>
    intro g hg
    rcases List.mem_cons.mp hg with rfl | hg
    · exact a.out.choose_spec.choose_spec.choose_spec.choose_spec.choose_spec.choose_spec.choose_spec.choose_spec.choose_spec.choose_spec.choose_spec.choose_spec.2.2.2.2.2
    · exact ih g hg
theorem glyph_rows_ok (w : World) (va : Addr) (vs : List Value) (vn : Nat) (gs : List Gl) (ps : Array Value) (rest : List (Addr × Obj)) (hm : (va, listOf vs.toArray vn) ∈ rest) (hv : AreGls w rest vs gs) (hn : vs.length ≤ 50) (ht : TabOk rest ps) (h0 : ∀ p ∈ rest, p.1 ≠ 231) :
    Ok w ((231, tabObj ps) :: rest) (.ref 234) [.ref va] 40 400 (fun r news' => ∃ rest' ps' ra rvs rn rows, news' = (231, tabObj ps') :: rest' ∧ Gr rest rest' ∧ TabOk rest' ps' ∧ (∀ p ∈ rest', p.1 ≠ 231) ∧ r = .ref ra ∧ (ra, listOf rvs.toArray rn) ∈ news' ∧ AreRows w news' rvs rows ∧ rvs.length ≤ 50 ∧ Ordered (told gs) rows) := by
  ((((unfold Ok; k_fill; intro pr loose mean mg mb dp un gd cn cs a ccd cl outer A₀ base h₀ L m s Q E B F X N T hk hd hu hret)); refine wpAny_call ?_; k_dflt (refine' code_defC ?k1 ?k2 ?k3 ?k4 ?k5 ?kA ?kF ?kK ?k6 ?k7 ?k8 ?k9 ?kB ?kD ?_ ?c2 ?c3 ?c4; (case kA => exact rfl); (case kF => exact rfl); (case kK => assumption); (case k1 => k_asm); (case k2 => k_asm); (case k3 => k_asm); (case k4 => k_asm); (case k5 => k_asm); (case k6 => k_is); (case k7 => k_is); (case k8 => ktr_room); (case k9 => first | exact BindsTo.of_eq rfl | exact binds_K (by k_in) rfl (by k_is) rfl rfl rfl); (case kB => exact rfl); (case kD => decide +kernel); (case c2 => exact rfl); (case c3 => exact rfl); (case c4 => exact rfl); k_whole; intro g' L' h' tk' cells' FG' F' N' Y' B' X' T' l1; k_cells Y'; (try simp only [List.cons_append, List.nil_append] at N'); (try dsimp only); (try k_fold))))
  have q1 : ∀ p ∈ rest, p.1 ≠ L' + 1 + 1 := fun p hp => Nat.ne_of_lt (Nat.lt_succ_of_lt (Nat.lt_succ_of_lt (l1 p (.tail _ hp))))
  have q2 : ∀ p ∈ rest, p.1 ≠ L' + 1 := fun p hp => Nat.ne_of_lt (Nat.lt_succ_of_lt (l1 p (.tail _ hp)))
  have hL : @LT.lt Nat _ 231 L' := l1 _ (.head _)
  rename_i oA oB dA dB
  (repeat' (first | (k_unfold; (try dsimp only)) | (k_end; wrow_close) | (((fail_if_success (with_reducible show wpAny _ _ (exec (Stmt.For _ _ _ _ _) _) _ _ _))); ((fail_if_success (with_reducible show wpAny _ _ (pyIter _) _ _ _))); (((fail_if_success (with_reducible show wpAny _ _ (eval (PySem.Expr.ListComp _ _ _ _) _) _ _ _)); (fail_if_success (with_reducible show wpAny _ _ (exec (Stmt.Assign _ (PySem.Expr.ListComp _ _ _ _) _) _) _ _ _)))); walk1) | (dsimp only; ((fail_if_success (with_reducible show wpAny _ _ (exec (Stmt.For _ _ _ _ _) _) _ _ _))); ((fail_if_success (with_reducible show wpAny _ _ (pyIter _) _ _ _))); (((fail_if_success (with_reducible show wpAny _ _ (eval (PySem.Expr.ListComp _ _ _ _) _) _ _ _)); (fail_if_success (with_reducible show wpAny _ _ (exec (Stmt.Assign _ (PySem.Expr.ListComp _ _ _ _) _) _) _ _ _)))); walk1) | (leave1; walk_say "STEP leave1"; try dsimp only) | fail "no step"))
  k_dflt (refine LCt.Assign_ListComp_T (F₀ := by k_asm) (by rfl) (by with_unfolding_all rfl) (by with_unfolding_all rfl) (by decide) (by rfl) (by decide) (by rfl) (by with_unfolding_all rfl) (by with_unfolding_all rfl) ?_)
  (repeat' (first | (k_unfold; (try dsimp only)) | (k_end; wrow_close) | (((fail_if_success (with_reducible show wpAny _ _ (exec (Stmt.For _ _ _ _ _) _) _ _ _))); ((fail_if_success (with_reducible show wpAny _ _ (pyIter _) _ _ _))); (((fail_if_success (with_reducible show wpAny _ _ (eval (PySem.Expr.ListComp _ _ _ _) _) _ _ _)); (fail_if_success (with_reducible show wpAny _ _ (exec (Stmt.Assign _ (PySem.Expr.ListComp _ _ _ _) _) _) _ _ _)))); walk1) | (dsimp only; ((fail_if_success (with_reducible show wpAny _ _ (exec (Stmt.For _ _ _ _ _) _) _ _ _))); ((fail_if_success (with_reducible show wpAny _ _ (pyIter _) _ _ _))); (((fail_if_success (with_reducible show wpAny _ _ (eval (PySem.Expr.ListComp _ _ _ _) _) _ _ _)); (fail_if_success (with_reducible show wpAny _ _ (exec (Stmt.Assign _ (PySem.Expr.ListComp _ _ _ _) _) _) _ _ _)))); walk1) | (leave1; walk_say "STEP leave1"; try dsimp only) | fail "no step"))
  refine LCt.CompSrcT.ledger rfl (by k_asm) (by k_asm) (List.mem_cons_of_mem _ (List.mem_cons_of_mem _ (List.mem_cons_of_mem _ hm))) (by rw [List.size_toArray, sizeLine_eq]; omega) (fun g1 => ?_)
  refine comp_test (n := vs.length) (fun i ys nw => nw = (L' + 1 + 1, oA) :: (L' + 1, oB) :: (231, tabObj ps) :: rest ∧ AreGls w rest ys (told (gs.take i))) ?_ ?_ _ 0 [] _ (by simp) ⟨rfl, .nil⟩
  · rintro i ys nw v I oI C oC D m₂ h tk E' hi hPv ⟨rfl, hys⟩ hC hx F2 N2 off ne
    obtain ⟨v1, g1, e1, e2, hgl⟩ := hv.get i hi
    obtain rfl : v1 = v := Option.some.inj (e1.symm.trans (by simpa using hPv))
    have e3 : gs.take (i + 1) = gs.take i ++ [g1] := by rw [List.take_add_one, e2]; rfl
    have hgc := hgl
    obtain ⟨x1, dx1, vx, vy, vw, vz, k1, k2, k3, k4, k5, t1, rfl, n1, n2, -, -, sm⟩ := hgl.out
    have m1 : (_, _) ∈ (I, oI) :: (C, oC) :: (D, LCg.lst ys) :: (L' + 1 + 1, oA) :: (L' + 1, oB) :: (231, tabObj ps) :: rest := .tail _ (.tail _ (.tail _ (.tail _ (.tail _ (.tail _ n1)))))
    have d1 : (_, _) ∈ (I, oI) :: (C, oC) :: (D, LCg.lst ys) :: (L' + 1 + 1, oA) :: (L' + 1, oB) :: (231, tabObj ps) :: rest := .tail _ (.tail _ (.tail _ (.tail _ (.tail _ (.tail _ n2)))))
    have hlen := sm.len
    (repeat' (first | (k_unfold; (try dsimp only)) | (k_end; wrow_close) | (((fail_if_success (with_reducible show wpAny _ _ (exec (Stmt.For _ _ _ _ _) _) _ _ _))); ((fail_if_success (with_reducible show wpAny _ _ (pyIter _) _ _ _))); (((fail_if_success (with_reducible show wpAny _ _ (eval (PySem.Expr.ListComp _ _ _ _) _) _ _ _)); (fail_if_success (with_reducible show wpAny _ _ (exec (Stmt.Assign _ (PySem.Expr.ListComp _ _ _ _) _) _) _ _ _)))); walk1) | (dsimp only; ((fail_if_success (with_reducible show wpAny _ _ (exec (Stmt.For _ _ _ _ _) _) _ _ _))); ((fail_if_success (with_reducible show wpAny _ _ (pyIter _) _ _ _))); (((fail_if_success (with_reducible show wpAny _ _ (eval (PySem.Expr.ListComp _ _ _ _) _) _ _ _)); (fail_if_success (with_reducible show wpAny _ _ (exec (Stmt.Assign _ (PySem.Expr.ListComp _ _ _ _) _) _) _ _ _)))); walk1) | (leave1; walk_say "STEP leave1"; try dsimp only) | fail "no step"))
    · refine cend_gr (tl := []) (by k_asm) (by k_asm) (fun _ _ _ h => nomatch h) off (.inr ⟨_, List.mem_cons_of_mem _ (List.mem_cons_of_mem _ (List.mem_cons_of_mem _ hm)), rfl, _, rfl⟩) ⟨rfl, ?_⟩
      rw [e3, told_yes (by assumption)]
      exact hys.snoc hgc
    · refine cend_gr (tl := []) (by k_asm) (by k_asm) (fun _ _ _ h => nomatch h) off (.inr ⟨_, List.mem_cons_of_mem _ (List.mem_cons_of_mem _ (List.mem_cons_of_mem _ hm)), rfl, _, rfl⟩) ⟨rfl, ?_⟩
      rw [e3, told_no (by assumption)]
      exact hys
  · rintro ys nw ⟨rfl, hys⟩
    rw [List.take_of_length_le (Nat.le_of_eq hv.len.symm)] at hys
    intro D h3 tk3 F3 N3 o3
    show wpAny _ _ _ _ _ _
    have o4 := off1_ne o3
    have hl1 := hys.len
    have hl2 : (told gs).length ≤ 50 := Nat.le_trans (List.length_filter_le _ _) (hv.len ▸ hn)
    obtain ⟨R, N4, G1, hD, -, r1, r2, r3⟩ := stage (tl := []) N3 (fun _ _ _ h => nomatch h) o4 q1 q2 h0
    have hys1 := hys.mono G1
    clear N3 o3 o4
    clear N' F' hys
    have by1 : ∀ c ∈ (told gs).map Gl.y, -1000000 ≤ c ∧ c ≤ 1000000 := fun c hc => by
      obtain ⟨g, hg, rfl⟩ := List.mem_map.mp hc
      have := (hys1.small g hg).y
      omega
    have bx1 : ∀ c ∈ (told gs).map Gl.x, -1000000 ≤ c ∧ c ≤ 1000000 := fun c hc => by
      obtain ⟨g, hg, rfl⟩ := List.mem_map.mp hc
      have := (hys1.small g hg).x
      omega
    (repeat' (first | (k_unfold; (try dsimp only)) | (k_end; wrow_close) | (((fail_if_success (with_reducible show wpAny _ _ (exec (Stmt.For _ _ _ _ _) _) _ _ _))); ((fail_if_success (with_reducible show wpAny _ _ (pyIter _) _ _ _))); (((fail_if_success (with_reducible show wpAny _ _ (eval (PySem.Expr.ListComp _ _ _ _) _) _ _ _)); (fail_if_success (with_reducible show wpAny _ _ (exec (Stmt.Assign _ (PySem.Expr.ListComp _ _ _ _) _) _) _ _ _)))); walk1) | (dsimp only; ((fail_if_success (with_reducible show wpAny _ _ (exec (Stmt.For _ _ _ _ _) _) _ _ _))); ((fail_if_success (with_reducible show wpAny _ _ (pyIter _) _ _ _))); (((fail_if_success (with_reducible show wpAny _ _ (eval (PySem.Expr.ListComp _ _ _ _) _) _ _ _)); (fail_if_success (with_reducible show wpAny _ _ (exec (Stmt.Assign _ (PySem.Expr.ListComp _ _ _ _) _) _) _ _ _)))); walk1) | (leave1; walk_say "STEP leave1"; try dsimp only) | fail "no step"))
    k_dflt (refine LCg.ListComp_U (F₀ := by k_asm) (by with_unfolding_all rfl) (by decide) (by rfl) (by decide) (by rfl) ?_)
    (repeat' (first | (k_unfold; (try dsimp only)) | (k_end; wrow_close) | (((fail_if_success (with_reducible show wpAny _ _ (exec (Stmt.For _ _ _ _ _) _) _ _ _))); ((fail_if_success (with_reducible show wpAny _ _ (pyIter _) _ _ _))); (((fail_if_success (with_reducible show wpAny _ _ (eval (PySem.Expr.ListComp _ _ _ _) _) _ _ _)); (fail_if_success (with_reducible show wpAny _ _ (exec (Stmt.Assign _ (PySem.Expr.ListComp _ _ _ _) _) _) _ _ _)))); walk1) | (dsimp only; ((fail_if_success (with_reducible show wpAny _ _ (exec (Stmt.For _ _ _ _ _) _) _ _ _))); ((fail_if_success (with_reducible show wpAny _ _ (pyIter _) _ _ _))); (((fail_if_success (with_reducible show wpAny _ _ (eval (PySem.Expr.ListComp _ _ _ _) _) _ _ _)); (fail_if_success (with_reducible show wpAny _ _ (exec (Stmt.Assign _ (PySem.Expr.ListComp _ _ _ _) _) _) _ _ _)))); walk1) | (leave1; walk_say "STEP leave1"; try dsimp only) | fail "no step"))
    refine LCg.CompSrc.ledger rfl (by k_asm) (by k_asm) (List.mem_cons_of_mem _ (List.mem_cons_of_mem _ (List.mem_cons_of_mem _ hD))) (by rw [List.size_toArray, sizeLine_eq]; omega) (fun g1 => ?_)
    refine comp_all (n := ys.length) (fun i zs nw => nw = (L' + 1 + 1, oA) :: (L' + 1, oB) :: (231, tabObj ps) :: R ∧ AreDecs w R zs (((told gs).take i).map Gl.y)) ?_ ?_ _ 0 [] _ (by simp) ⟨rfl, .nil⟩
    · rintro i zs nw v I oI C oC D2 m₂ h tk E' hi hPv ⟨rfl, hzs⟩ hC hx F2 N2 off ne
      obtain ⟨v1, g1, e1, e2, hgl⟩ := hys1.get i hi
      obtain rfl : v1 = v := Option.some.inj (e1.symm.trans (by simpa using hPv))
      have e3 : (told gs).take (i + 1) = (told gs).take i ++ [g1] := by rw [List.take_add_one, e2]; rfl
      obtain ⟨x1, dx1, vx, vy, vw, vz, k1, k2, k3, k4, k5, t1, rfl, n1, n2, -, dy, sm⟩ := hgl.out
      have m1 : (_, _) ∈ (I, oI) :: (C, oC) :: (D2, LCg.lst zs) :: (L' + 1 + 1, oA) :: (L' + 1, oB) :: (231, tabObj ps) :: R := .tail _ (.tail _ (.tail _ (.tail _ (.tail _ (.tail _ n1)))))
      have d1 : (_, _) ∈ (I, oI) :: (C, oC) :: (D2, LCg.lst zs) :: (L' + 1 + 1, oA) :: (L' + 1, oB) :: (231, tabObj ps) :: R := .tail _ (.tail _ (.tail _ (.tail _ (.tail _ (.tail _ n2)))))
      (repeat' (first | (k_unfold; (try dsimp only)) | (k_end; wrow_close) | (((fail_if_success (with_reducible show wpAny _ _ (exec (Stmt.For _ _ _ _ _) _) _ _ _))); ((fail_if_success (with_reducible show wpAny _ _ (pyIter _) _ _ _))); (((fail_if_success (with_reducible show wpAny _ _ (eval (PySem.Expr.ListComp _ _ _ _) _) _ _ _)); (fail_if_success (with_reducible show wpAny _ _ (exec (Stmt.Assign _ (PySem.Expr.ListComp _ _ _ _) _) _) _ _ _)))); walk1) | (dsimp only; ((fail_if_success (with_reducible show wpAny _ _ (exec (Stmt.For _ _ _ _ _) _) _ _ _))); ((fail_if_success (with_reducible show wpAny _ _ (pyIter _) _ _ _))); (((fail_if_success (with_reducible show wpAny _ _ (eval (PySem.Expr.ListComp _ _ _ _) _) _ _ _)); (fail_if_success (with_reducible show wpAny _ _ (exec (Stmt.Assign _ (PySem.Expr.ListComp _ _ _ _) _) _) _ _ _)))); walk1) | (leave1; walk_say "STEP leave1"; try dsimp only) | fail "no step"))
      refine cend_gr (tl := []) (by k_asm) (by k_asm) (fun _ _ _ h => nomatch h) off (.inr ⟨_, List.mem_cons_of_mem _ (List.mem_cons_of_mem _ (List.mem_cons_of_mem _ hD)), rfl, _, rfl⟩) ⟨rfl, ?_⟩
      rw [e3, List.map_append]
      exact hzs.snoc dy
    · rintro zs nw ⟨rfl, hzs⟩
      rw [List.take_of_length_le (Nat.le_of_eq hl1.symm)] at hzs
      intro D2 h3 tk3 F3 N3 o3
      show wpAny _ _ _ _ _ _
      have hzl := hzs.len
      rw [List.length_map] at hzl
      (repeat' (first | (k_unfold; (try dsimp only)) | (k_end; wrow_close) | (((fail_if_success (with_reducible show wpAny _ _ (exec (Stmt.For _ _ _ _ _) _) _ _ _))); ((fail_if_success (with_reducible show wpAny _ _ (pyIter _) _ _ _))); (((fail_if_success (with_reducible show wpAny _ _ (eval (PySem.Expr.ListComp _ _ _ _) _) _ _ _)); (fail_if_success (with_reducible show wpAny _ _ (exec (Stmt.Assign _ (PySem.Expr.ListComp _ _ _ _) _) _) _ _ _)))); walk1) | (dsimp only; ((fail_if_success (with_reducible show wpAny _ _ (exec (Stmt.For _ _ _ _ _) _) _ _ _))); ((fail_if_success (with_reducible show wpAny _ _ (pyIter _) _ _ _))); (((fail_if_success (with_reducible show wpAny _ _ (eval (PySem.Expr.ListComp _ _ _ _) _) _ _ _)); (fail_if_success (with_reducible show wpAny _ _ (exec (Stmt.Assign _ (PySem.Expr.ListComp _ _ _ _) _) _) _ _ _)))); walk1) | (leave1; walk_say "STEP leave1"; try dsimp only) | fail "no step"))
      ((k_dflt (refine' ok_use (tops_of_ok w D2 zs zs.length _ ((D2, LCg.lst zs) :: (L' + 1 + 1, oA) :: (L' + 1, oB) :: (231, tabObj ps) :: R) (by exact List.Mem.head _) (hzs.sub fun p hp => .tail _ (.tail _ (.tail _ (.tail _ hp)))) (by omega) by1) ?k1 ?k2 ?k3 ?k4 ?k5 ?kK ?kd ?ku ?_; (case k1 => k_asm); (case k2 => k_asm); (case k3 => k_asm); (case k4 => k_asm); (case k5 => k_asm); (case kK => first | exact rfl | assumption); (case kd => first | exact ok_room hd rfl | ktr_room); (case ku => first | exact ok_room hu rfl | ktr_units)); intro r9 n9 h9 tk9 F9 N9 P9; (try dsimp only); (try k_fold)))
      obtain ⟨tl, rfl, ap, TA⟩ := P9
      obtain ⟨R2, N5, G2, hD2, htl, r4, r5, r6⟩ := stage N9 ap (off1_ne o3) r1 r2 r3
      dsimp only at r4 r5 r6
      have hys2 := hys1.mono G2
      have hD := G2.sub hD
      clear N3 N4 N9 o3 F3 r1 r2 r3 ap
      obtain ⟨T1, la1, tv1, ln1, P1, tp1, ty, rfl, hT1, hl1', hi1, hs1⟩ := TA.out
      have hT1 : (_, _) ∈ (L' + 1 + 1, oA) :: (L' + 1, oB) :: (231, tabObj ps) :: R2 := .tail _ (.tail _ (.tail _ (htl _ hT1)))
      have hla1 := htl _ hl1'
      (repeat' (first | (k_unfold; (try dsimp only)) | (k_end; wrow_close) | (((fail_if_success (with_reducible show wpAny _ _ (exec (Stmt.For _ _ _ _ _) _) _ _ _))); ((fail_if_success (with_reducible show wpAny _ _ (pyIter _) _ _ _))); (((fail_if_success (with_reducible show wpAny _ _ (eval (PySem.Expr.ListComp _ _ _ _) _) _ _ _)); (fail_if_success (with_reducible show wpAny _ _ (exec (Stmt.Assign _ (PySem.Expr.ListComp _ _ _ _) _) _) _ _ _)))); walk1) | (dsimp only; ((fail_if_success (with_reducible show wpAny _ _ (exec (Stmt.For _ _ _ _ _) _) _ _ _))); ((fail_if_success (with_reducible show wpAny _ _ (pyIter _) _ _ _))); (((fail_if_success (with_reducible show wpAny _ _ (eval (PySem.Expr.ListComp _ _ _ _) _) _ _ _)); (fail_if_success (with_reducible show wpAny _ _ (exec (Stmt.Assign _ (PySem.Expr.ListComp _ _ _ _) _) _) _ _ _)))); walk1) | (leave1; walk_say "STEP leave1"; try dsimp only) | fail "no step"))
      rename_i hH oH F9 N9 dH
      clear hzs
      k_dflt (refine LCg.ListComp_U (F₀ := by k_asm) (by with_unfolding_all rfl) (by decide) (by rfl) (by decide) (by rfl) ?_)
      (repeat' (first | (k_unfold; (try dsimp only)) | (k_end; wrow_close) | (((fail_if_success (with_reducible show wpAny _ _ (exec (Stmt.For _ _ _ _ _) _) _ _ _))); ((fail_if_success (with_reducible show wpAny _ _ (pyIter _) _ _ _))); (((fail_if_success (with_reducible show wpAny _ _ (eval (PySem.Expr.ListComp _ _ _ _) _) _ _ _)); (fail_if_success (with_reducible show wpAny _ _ (exec (Stmt.Assign _ (PySem.Expr.ListComp _ _ _ _) _) _) _ _ _)))); walk1) | (dsimp only; ((fail_if_success (with_reducible show wpAny _ _ (exec (Stmt.For _ _ _ _ _) _) _ _ _))); ((fail_if_success (with_reducible show wpAny _ _ (pyIter _) _ _ _))); (((fail_if_success (with_reducible show wpAny _ _ (eval (PySem.Expr.ListComp _ _ _ _) _) _ _ _)); (fail_if_success (with_reducible show wpAny _ _ (exec (Stmt.Assign _ (PySem.Expr.ListComp _ _ _ _) _) _) _ _ _)))); walk1) | (leave1; walk_say "STEP leave1"; try dsimp only) | fail "no step"))
      refine LCg.CompSrc.ledger rfl (by k_asm) (by k_asm) (List.mem_cons_of_mem _ (List.mem_cons_of_mem _ (List.mem_cons_of_mem _ hD))) (by rw [List.size_toArray, sizeLine_eq]; omega) (fun g1 => ?_)
      refine comp_all (n := ys.length) (fun i zs nw => nw = (L' + 1 + 1, oH) :: (L' + 1, oB) :: (231, tabObj ps) :: R2 ∧ AreDecs w R2 zs (((told gs).take i).map Gl.x)) ?_ ?_ _ 0 [] _ (by simp) ⟨rfl, .nil⟩
      · rintro i zs nw v I oI C oC D2 m₂ h tk E' hi hPv ⟨rfl, hzs⟩ hC hx F2 N2 off ne
        obtain ⟨v1, g1, e1, e2, hgl⟩ := hys2.get i hi
        obtain rfl : v1 = v := Option.some.inj (e1.symm.trans (by simpa using hPv))
        have e3 : (told gs).take (i + 1) = (told gs).take i ++ [g1] := by rw [List.take_add_one, e2]; rfl
        obtain ⟨x1, dx1, vx, vy, vw, vz, k1, k2, k3, k4, k5, t1, rfl, n1, n2, dx, -, sm⟩ := hgl.out
        have m1 : (_, _) ∈ (I, oI) :: (C, oC) :: (D2, LCg.lst zs) :: (L' + 1 + 1, oH) :: (L' + 1, oB) :: (231, tabObj ps) :: R2 := .tail _ (.tail _ (.tail _ (.tail _ (.tail _ (.tail _ n1)))))
        have d1 : (_, _) ∈ (I, oI) :: (C, oC) :: (D2, LCg.lst zs) :: (L' + 1 + 1, oH) :: (L' + 1, oB) :: (231, tabObj ps) :: R2 := .tail _ (.tail _ (.tail _ (.tail _ (.tail _ (.tail _ n2)))))
        (repeat' (first | (k_unfold; (try dsimp only)) | (k_end; wrow_close) | (((fail_if_success (with_reducible show wpAny _ _ (exec (Stmt.For _ _ _ _ _) _) _ _ _))); ((fail_if_success (with_reducible show wpAny _ _ (pyIter _) _ _ _))); (((fail_if_success (with_reducible show wpAny _ _ (eval (PySem.Expr.ListComp _ _ _ _) _) _ _ _)); (fail_if_success (with_reducible show wpAny _ _ (exec (Stmt.Assign _ (PySem.Expr.ListComp _ _ _ _) _) _) _ _ _)))); walk1) | (dsimp only; ((fail_if_success (with_reducible show wpAny _ _ (exec (Stmt.For _ _ _ _ _) _) _ _ _))); ((fail_if_success (with_reducible show wpAny _ _ (pyIter _) _ _ _))); (((fail_if_success (with_reducible show wpAny _ _ (eval (PySem.Expr.ListComp _ _ _ _) _) _ _ _)); (fail_if_success (with_reducible show wpAny _ _ (exec (Stmt.Assign _ (PySem.Expr.ListComp _ _ _ _) _) _) _ _ _)))); walk1) | (leave1; walk_say "STEP leave1"; try dsimp only) | fail "no step"))
        refine cend_gr (tl := []) (by k_asm) (by k_asm) (fun _ _ _ h => nomatch h) off (.inr ⟨_, List.mem_cons_of_mem _ (List.mem_cons_of_mem _ (List.mem_cons_of_mem _ hD)), rfl, _, rfl⟩) ⟨rfl, ?_⟩
        rw [e3, List.map_append]
        exact hzs.snoc dx
      · rintro zs nw ⟨rfl, hzs⟩
        rw [List.take_of_length_le (Nat.le_of_eq hl1.symm)] at hzs
        intro D2 h3 tk3 F3 N3 o3
        show wpAny _ _ _ _ _ _
        have hzl := hzs.len
        rw [List.length_map] at hzl
        (repeat' (first | (k_unfold; (try dsimp only)) | (k_end; wrow_close) | (((fail_if_success (with_reducible show wpAny _ _ (exec (Stmt.For _ _ _ _ _) _) _ _ _))); ((fail_if_success (with_reducible show wpAny _ _ (pyIter _) _ _ _))); (((fail_if_success (with_reducible show wpAny _ _ (eval (PySem.Expr.ListComp _ _ _ _) _) _ _ _)); (fail_if_success (with_reducible show wpAny _ _ (exec (Stmt.Assign _ (PySem.Expr.ListComp _ _ _ _) _) _) _ _ _)))); walk1) | (dsimp only; ((fail_if_success (with_reducible show wpAny _ _ (exec (Stmt.For _ _ _ _ _) _) _ _ _))); ((fail_if_success (with_reducible show wpAny _ _ (pyIter _) _ _ _))); (((fail_if_success (with_reducible show wpAny _ _ (eval (PySem.Expr.ListComp _ _ _ _) _) _ _ _)); (fail_if_success (with_reducible show wpAny _ _ (exec (Stmt.Assign _ (PySem.Expr.ListComp _ _ _ _) _) _) _ _ _)))); walk1) | (leave1; walk_say "STEP leave1"; try dsimp only) | fail "no step"))
        ((k_dflt (refine' ok_use (tops_of_ok w D2 zs zs.length _ ((D2, LCg.lst zs) :: (L' + 1 + 1, oH) :: (L' + 1, oB) :: (231, tabObj ps) :: R2) (by exact List.Mem.head _) (hzs.sub fun p hp => .tail _ (.tail _ (.tail _ (.tail _ hp)))) (by omega) bx1) ?k1 ?k2 ?k3 ?k4 ?k5 ?kK ?kd ?ku ?_; (case k1 => k_asm); (case k2 => k_asm); (case k3 => k_asm); (case k4 => k_asm); (case k5 => k_asm); (case kK => first | exact rfl | assumption); (case kd => first | exact ok_room hd rfl | ktr_room); (case ku => first | exact ok_room hu rfl | ktr_units)); intro r9 n9 h9 tk9 F9 N9 P9; (try dsimp only); (try k_fold)))
        obtain ⟨tl, rfl, ap, TA⟩ := P9
        obtain ⟨R3, N5, G3, hD2, htl, r1, r2, r3⟩ := stage N9 ap (off1_ne o3) r4 r5 r6
        dsimp only at r1 r2 r3
        have hys3 := hys2.mono G3
        have hD := G3.sub hD
        have hla1 := G3.sub hla1
        clear N3 N9 o3 F3 r4 r5 r6 ap
        obtain ⟨T2, la2, tv2, ln2, P2, tp2, tx, rfl, hT2, hl2', hi2, hs2⟩ := TA.out
        have hT2 : (_, _) ∈ (L' + 1 + 1, oH) :: (L' + 1, oB) :: (231, tabObj ps) :: R3 := .tail _ (.tail _ (.tail _ (htl _ hT2)))
        have hla2 := htl _ hl2'
        (repeat' (first | (k_unfold; (try dsimp only)) | (k_end; wrow_close) | (((fail_if_success (with_reducible show wpAny _ _ (exec (Stmt.For _ _ _ _ _) _) _ _ _))); ((fail_if_success (with_reducible show wpAny _ _ (pyIter _) _ _ _))); (((fail_if_success (with_reducible show wpAny _ _ (eval (PySem.Expr.ListComp _ _ _ _) _) _ _ _)); (fail_if_success (with_reducible show wpAny _ _ (exec (Stmt.Assign _ (PySem.Expr.ListComp _ _ _ _) _) _) _ _ _)))); walk1) | (dsimp only; ((fail_if_success (with_reducible show wpAny _ _ (exec (Stmt.For _ _ _ _ _) _) _ _ _))); ((fail_if_success (with_reducible show wpAny _ _ (pyIter _) _ _ _))); (((fail_if_success (with_reducible show wpAny _ _ (eval (PySem.Expr.ListComp _ _ _ _) _) _ _ _)); (fail_if_success (with_reducible show wpAny _ _ (exec (Stmt.Assign _ (PySem.Expr.ListComp _ _ _ _) _) _) _ _ _)))); walk1) | (leave1; walk_say "STEP leave1"; try dsimp only) | fail "no step"))
        rename_i h5 oX F5 N5 dX h6 tk6 t6 u6 v6 hr6 F6 N6 hk6
        clear hk6
        have N6 := news_range F5 hr6 N6
        have o6 : ∀ p ∈ (L' + 1 + 1, oH) :: (L' + 1, oX) :: (231, tabObj ps) :: R3, p.1 ≠ h5.objs.size := fun p hp => Nat.ne_of_lt (Heap.lt_size (N5 p hp).1)
        clear N5 F5
        dsimp only at hr6
        generalize h5.objs.size = ra at N6 o6 hr6 ⊢
        obtain ⟨R4, N7, G4, hr7, -, r4, r5, r6⟩ := stage (tl := []) N6 (fun _ _ _ h => nomatch h) o6 r1 r2 r3
        dsimp only at r4 r5 r6
        have hys4 := hys3.mono G4
        have hD := G4.sub hD
        have hla1 := G4.sub hla1
        have hla2 := G4.sub hla2
        clear N6 o6 r1 r2 r3 hr6
        have C' := codeHd_of_K (c := 233) (P := 231) X' rfl
        have ht4 : TabOk R4 ps := ht.mono fun p hp => G4.sub (G3.sub (G2.sub (G1.sub hp)))
        k_dflt (refine' kla_eval ?d0 ?_; (case d0 => exact rfl))
        k_dflt (refine' lam_made (q1 := (L' + 1 + 1, oH)) (q2 := (L' + 1, oX)) ?F ?N ?T C' ?cd ht4 r4 r5 r6 ?n1 ?n2 ?cl ?_; (case F => k_asm); (case N => k_asm); (case T => k_asm); (case cd => exact rfl); (case n1 => exact neN (by dsimp only; omega)); (case n2 => exact neN (by dsimp only; omega)); (case cl => exact rfl); k_whole)
        intro f c' oc fvs tq ctv h8 tk8 R5 ps5 F8 N8 G5 hf hc' hoc hvq ht5 r1 r2 r3
        have hly : ty.length = ys.length := by rw [hs1.len, List.length_map, hl1]
        have hlx : tx.length = ys.length := by rw [hs2.len, List.length_map, hl1]
        have hla1 := G5.sub hla1
        have hla2 := G5.sub hla2
        have hD := G5.sub hD
        have hr8 := G5.sub hr7
        (repeat' (first | (k_unfold; (try dsimp only)) | (k_end; wrow_close) | (((fail_if_success (with_reducible show wpAny _ _ (exec (Stmt.For _ _ _ _ _) _) _ _ _))); ((fail_if_success (with_reducible show wpAny _ _ (pyIter _) _ _ _))); (((fail_if_success (with_reducible show wpAny _ _ (eval (PySem.Expr.ListComp _ _ _ _) _) _ _ _)); (fail_if_success (with_reducible show wpAny _ _ (exec (Stmt.Assign _ (PySem.Expr.ListComp _ _ _ _) _) _) _ _ _)))); walk1) | (dsimp only; ((fail_if_success (with_reducible show wpAny _ _ (exec (Stmt.For _ _ _ _ _) _) _ _ _))); ((fail_if_success (with_reducible show wpAny _ _ (pyIter _) _ _ _))); (((fail_if_success (with_reducible show wpAny _ _ (eval (PySem.Expr.ListComp _ _ _ _) _) _ _ _)); (fail_if_success (with_reducible show wpAny _ _ (exec (Stmt.Assign _ (PySem.Expr.ListComp _ _ _ _) _) _) _ _ _)))); walk1) | (leave1; walk_say "STEP leave1"; try dsimp only) | fail "no step"))
        with_unfolding_all refine sorted_range (n := ys.length) (ka := fun i => -(ty.getD i 0)) (kb := fun i => tx.getD i 0) rfl F8 N8 (N8 _ (.tail _ (.tail _ (.tail _ hr8)))).1 (by omega) (fun i hi => ?hb) (fun i t h tk led hi FF NN hs => ?turn) ?done
        case hb =>
          obtain ⟨c, e1, e2, e3⟩ := hs2.get i (by omega)
          exact e3.top (bx1 c (List.mem_of_getElem? e2))
        case turn =>
          obtain ⟨c1, e1, -, -⟩ := hs1.get i (by omega)
          obtain ⟨c2, e2, -, -⟩ := hs2.get i (by omega)
          obtain ⟨t1, e1⟩ := hi1.get i _ e1
          obtain ⟨t2, e2⟩ := hi2.get i _ e2
          have m1 := hs _ (.tail _ (.tail _ (.tail _ hla1)))
          have m2 := hs _ (.tail _ (.tail _ (.tail _ hla2)))
          have m3 := hs _ (.tail _ (.tail _ (.tail _ hf)))
          have m4 := hs _ (.tail _ (.tail _ (.tail _ hc')))
          have m5 := hs _ (.head _)
          have m6 := hs _ (.tail _ (.head _))
          clear N8 F8 hs
          refine wpAny_call ?_
          k_dflt (refine' kla_code ?k1 ?k2 ?k3 ?k4 ?k5 ?kA ?kF ?kK ?k6 ?k7 ?k8 ?k9 ?kB ?_ ?c2 ?c3 ?c4 ?c5; (case kA => exact rfl); (case kF => exact rfl); (case kK => exact rfl); (case k1 => k_asm); (case k2 => k_asm); (case k3 => k_asm); (case k4 => k_asm); (case k5 => k_asm); (case k6 => exact m3); (case k7 => exact codeRec_news (by k_asm) m4 hoc hvq); (case k8 => ktr_room); (case k9 => exact rfl); (case c5 => decide); (case kB => exact locs rfl); (case c2 => exact rfl); (case c3 => exact rfl); (case c4 => exact rfl); k_whole; intro g2 L2 h2 FG2 F2 N2 B2 X2 T2'; (try dsimp only); (try k_fold))
          (repeat' (first | (k_unfold; (try dsimp only)) | (k_end; wrow_close) | (((fail_if_success (with_reducible show wpAny _ _ (exec (Stmt.For _ _ _ _ _) _) _ _ _))); ((fail_if_success (with_reducible show wpAny _ _ (pyIter _) _ _ _))); (((fail_if_success (with_reducible show wpAny _ _ (eval (PySem.Expr.ListComp _ _ _ _) _) _ _ _)); (fail_if_success (with_reducible show wpAny _ _ (exec (Stmt.Assign _ (PySem.Expr.ListComp _ _ _ _) _) _) _ _ _)))); walk1) | (dsimp only; ((fail_if_success (with_reducible show wpAny _ _ (exec (Stmt.For _ _ _ _ _) _) _ _ _))); ((fail_if_success (with_reducible show wpAny _ _ (pyIter _) _ _ _))); (((fail_if_success (with_reducible show wpAny _ _ (eval (PySem.Expr.ListComp _ _ _ _) _) _ _ _)); (fail_if_success (with_reducible show wpAny _ _ (exec (Stmt.Assign _ (PySem.Expr.ListComp _ _ _ _) _) _) _ _ _)))); walk1) | (leave1; walk_say "STEP leave1"; try dsimp only) | fail "no step"))
          exact ⟨_, _, _, _, _, _, rfl, rfl, by assumption, by assumption⟩
        case done =>
          intro D5 os out h9 tk9 cO hperm hsort hout F9 N9 o9
          have hlo : os.length = ys.length := by rw [hperm.length_eq, List.length_range]
          have hol : out.length = ys.length := by rw [hout.length, List.length_map, hlo]
          have hos : ∀ i ∈ os, i < ys.length := fun i hi => List.mem_range.mp (hperm.mem_iff.mp hi)
          obtain ⟨R6, N10, G6, hO, -, r4, r5, r6⟩ := stage (tl := []) N9 (fun _ _ _ h => nomatch h) o9 r1 r2 r3
          dsimp only at r4 r5 r6
          clear N9 o9 r1 r2 r3 N8 F8
          have hD := G6.sub hD
          have hla1 := G6.sub hla1
          have hla2 := G6.sub hla2
          have hys6 := (hys4.mono G5).mono G6
          have ht6 : TabOk R6 ps5 := ht5.mono fun p hp => G6.sub hp
          have hoi : ∀ i, i < out.length → ∃ t, out[i]? = some (.int ((os.getD i 0 : Nat) : Int) t) ∧ os.getD i 0 < ys.length := fun i hi => by
            have e0 : os[i]? = some (os.getD i 0) := by rw [List.getD_eq_getElem?_getD, List.getElem?_eq_getElem (by omega)]; rfl
            have e1 : (os.map fun (i : Nat) => (i : Int))[i]? = some ((os.getD i 0 : Nat) : Int) := by rw [List.getElem?_map, e0]; rfl
            obtain ⟨t, e⟩ := hout.get i _ e1
            exact ⟨t, e, hos _ (List.mem_of_getElem? e0)⟩
          clear hout
          (repeat' (first | (k_unfold; (try dsimp only)) | (k_end; wrow_close) | (((fail_if_success (with_reducible show wpAny _ _ (exec (Stmt.For _ _ _ _ _) _) _ _ _))); ((fail_if_success (with_reducible show wpAny _ _ (pyIter _) _ _ _))); (((fail_if_success (with_reducible show wpAny _ _ (eval (PySem.Expr.ListComp _ _ _ _) _) _ _ _)); (fail_if_success (with_reducible show wpAny _ _ (exec (Stmt.Assign _ (PySem.Expr.ListComp _ _ _ _) _) _) _ _ _)))); walk1) | (dsimp only; ((fail_if_success (with_reducible show wpAny _ _ (exec (Stmt.For _ _ _ _ _) _) _ _ _))); ((fail_if_success (with_reducible show wpAny _ _ (pyIter _) _ _ _))); (((fail_if_success (with_reducible show wpAny _ _ (eval (PySem.Expr.ListComp _ _ _ _) _) _ _ _)); (fail_if_success (with_reducible show wpAny _ _ (exec (Stmt.Assign _ (PySem.Expr.ListComp _ _ _ _) _) _) _ _ _)))); walk1) | (leave1; walk_say "STEP leave1"; try dsimp only) | fail "no step"))
          rename_i ra hR lR FR NR tR
          have hrl : ∀ p ∈ (L' + 1 + 1, oH) :: (L' + 1, oX) :: (231, tabObj ps5) :: R6, p.1 ≠ ra := allLt_ne lR
          (((rename Fr _ _ _ _ => lF'); (with_unfolding_all refine' For_invVF lF' ?k1 ?k2 ?_; (case k1 => exact rfl); (case k2 => exact rfl); k_whole)))
          (repeat' (first | (k_unfold; (try dsimp only)) | (k_end; wrow_close) | (((fail_if_success (with_reducible show wpAny _ _ (exec (Stmt.For _ _ _ _ _) _) _ _ _))); ((fail_if_success (with_reducible show wpAny _ _ (pyIter _) _ _ _))); (((fail_if_success (with_reducible show wpAny _ _ (eval (PySem.Expr.ListComp _ _ _ _) _) _ _ _)); (fail_if_success (with_reducible show wpAny _ _ (exec (Stmt.Assign _ (PySem.Expr.ListComp _ _ _ _) _) _) _ _ _)))); walk1) | (dsimp only; ((fail_if_success (with_reducible show wpAny _ _ (exec (Stmt.For _ _ _ _ _) _) _ _ _))); ((fail_if_success (with_reducible show wpAny _ _ (pyIter _) _ _ _))); (((fail_if_success (with_reducible show wpAny _ _ (eval (PySem.Expr.ListComp _ _ _ _) _) _ _ _)); (fail_if_success (with_reducible show wpAny _ _ (exec (Stmt.Assign _ (PySem.Expr.ListComp _ _ _ _) _) _) _ _ _)))); walk1) | (leave1; walk_say "STEP leave1"; try dsimp only) | fail "no step"))
          have bD : (D, LCg.lst ys) ∈ (L' + 1 + 1, oH) :: (L' + 1, oX) :: (231, tabObj ps5) :: R6 := .tail _ (.tail _ (.tail _ hD))
          have bO : (D5, listOf out.toArray cO) ∈ (L' + 1 + 1, oH) :: (L' + 1, oX) :: (231, tabObj ps5) :: R6 := .tail _ (.tail _ (.tail _ hO))
          have b1 : (la1, listOf tv1.toArray ln1) ∈ (L' + 1 + 1, oH) :: (L' + 1, oX) :: (231, tabObj ps5) :: R6 := .tail _ (.tail _ (.tail _ hla1))
          have bH : (L' + 1 + 1, oH) ∈ (L' + 1 + 1, oH) :: (L' + 1, oX) :: (231, tabObj ps5) :: R6 := .head _
          have bys : AreGls w ((L' + 1 + 1, oH) :: (L' + 1, oX) :: (231, tabObj ps5) :: R6) ys (told gs) := hys6.sub fun p hp => .tail _ (.tail _ (.tail _ hp))
          generalize hBB : (L' + 1 + 1, oH) :: (L' + 1, oX) :: (231, tabObj ps5) :: R6 = BB at *
          refine' for_range (n := out.length) (fun (_ : Unit) => []) ["at"] (fun i _ nx => RowsAt w BB ra (os.map (glAt (told gs))) i nx) ?hh ?hr ?hs ?hn ?F ?N ?h0 ?turn2 ?done2
          case F => k_asm
          case N => k_asm
          case hr => assumption
          case hh => rfl
          case hs => exact range_small (by omega)
          case hn => exact range_size _
          case h0 => exact ⟨(), (fun _ h => nomatch h), .start⟩
          case turn2 =>
            rintro i t1 _ u nx hh tkk q hi hRA hit hoff F1 N1
            obtain ⟨to, eo, hlt⟩ := hoi i hi
            obtain ⟨ch, ech, -, -⟩ := hs1.get (os.getD i 0) (by omega)
            obtain ⟨th, eh⟩ := hi1.get _ _ ech
            obtain ⟨gv, gg, ey1, ey2, hgl⟩ := hys6.get (os.getD i 0) hlt
            cases hRA with
            | @start n =>
              have n1 : (q.1 : Nat) ≠ ra := (hoff _ (.head _)).symm
              (repeat' (first | (k_unfold; (try dsimp only)) | (k_end; wrow_close) | (((fail_if_success (with_reducible show wpAny _ _ (exec (Stmt.For _ _ _ _ _) _) _ _ _))); ((fail_if_success (with_reducible show wpAny _ _ (pyIter _) _ _ _))); (((fail_if_success (with_reducible show wpAny _ _ (eval (PySem.Expr.ListComp _ _ _ _) _) _ _ _)); (fail_if_success (with_reducible show wpAny _ _ (exec (Stmt.Assign _ (PySem.Expr.ListComp _ _ _ _) _) _) _ _ _)))); walk1) | (dsimp only; ((fail_if_success (with_reducible show wpAny _ _ (exec (Stmt.For _ _ _ _ _) _) _ _ _))); ((fail_if_success (with_reducible show wpAny _ _ (pyIter _) _ _ _))); (((fail_if_success (with_reducible show wpAny _ _ (eval (PySem.Expr.ListComp _ _ _ _) _) _ _ _)); (fail_if_success (with_reducible show wpAny _ _ (exec (Stmt.Assign _ (PySem.Expr.ListComp _ _ _ _) _) _) _ _ _)))); walk1) | (leave1; walk_say "STEP leave1"; try dsimp only) | fail "no step"))
              rename_i lN _ lL _ _ _ FN NN
              have l3 := allLt_ne lL.2.2
              refine LpEnd.intro (tl := [(ra, listOf ([] ++ [Value.ref lN]).toArray (n + 1)), (lN, listOf ([] ++ [gv]).toArray (0 + 1))]) (nx := BB) () FN (fun p hp => NN p ?_) ?_ (fun p hp => hoff p (.tail _ hp)) ?_ (fun _ h => nomatch h) ?_
              · rcases List.mem_cons.mp hp with rfl | hp
                · exact .tail _ (.tail _ (.head _))
                rcases List.mem_cons.mp hp with rfl | hp
                · exact .head _
                rcases List.mem_cons.mp hp with rfl | hp
                · exact .tail _ (.head _)
                · exact .tail _ (.tail _ (.tail _ hp))
              · intro p hp
                rcases List.mem_cons.mp hp with rfl | hp
                · exact n1.symm
                · rw [List.mem_singleton.mp hp]; exact Nat.ne_of_gt lL.1
              · refine .go (Gr.refl _) .nil (.cons (hgl.sub fun p hp => ?_) .nil) ?_ (Nat.le_refl _) (Nat.le_refl _) (Nat.ne_of_lt lL.2.1) hrl l3
                · rw [← hBB]; exact .tail _ (.tail _ (.tail _ hp))
                · rw [take_at (sg_at (by omega) ey2)]; exact .one _
              · intro z h4 _ h5
                exact (if_neg (at_ne h5)).trans ((if_neg h4).trans (kst_at h5))
            | @go j K done n n2 dgs la lvs lgs gK hrows hlvs hgrp hl3 hl4 x1 x2 x3 =>
              have n1 : (q.1 : Nat) ≠ ra := (hoff _ (.head _)).symm
              have n2 : (q.1 : Nat) ≠ la := (hoff _ (.tail _ (.head _))).symm
              have bD := gK.sub bD
              have bO := gK.sub bO
              have b1 := gK.sub b1
              have bH := gK.sub bH
              have hj0 : ((j + 1 : Nat) : Int) ≠ 0 := by omega
              have hjb : (((j + 1 : Nat) : Int) == 0) = false := beq_eq_false_iff_ne.mpr hj0
              have x1' := x1.symm
              obtain ⟨tp, ep, hpt⟩ := hoi j (by omega)
              have ep : out[(((j + 1 : Nat) : Int) - 1).toNat]? = some (Value.int ((os.getD j 0 : Nat) : Int) tp) := by
                rw [show (((j + 1 : Nat) : Int) - 1).toNat = j by omega]
                exact ep
              obtain ⟨cp, ecp, -, -⟩ := hs1.get (os.getD j 0) (by omega)
              obtain ⟨tg, eg⟩ := hi1.get _ _ ecp
              obtain ⟨c1, f1, f2, f3⟩ := hs1.get (os.getD (j + 1) 0) (by omega)
              obtain ⟨c2, g1, g2, g3⟩ := hs1.get (os.getD j 0) (by omega)
              obtain ⟨pv, pg, py1, py2, -⟩ := hys6.get (os.getD j 0) hpt
              rw [List.getElem?_map, ey2] at f2
              rw [List.getElem?_map, py2] at g2
              obtain rfl := Option.some.inj f2
              obtain rfl := Option.some.inj g2
              have hiff := g3.eq_iff f3
              rw [take_at (sg_at (by omega) py2)] at hgrp
              (repeat' (first | (k_unfold; (try dsimp only)) | (k_end; wrow_close) | (((fail_if_success (with_reducible show wpAny _ _ (exec (Stmt.For _ _ _ _ _) _) _ _ _))); ((fail_if_success (with_reducible show wpAny _ _ (pyIter _) _ _ _))); (((fail_if_success (with_reducible show wpAny _ _ (eval (PySem.Expr.ListComp _ _ _ _) _) _ _ _)); (fail_if_success (with_reducible show wpAny _ _ (exec (Stmt.Assign _ (PySem.Expr.ListComp _ _ _ _) _) _) _ _ _)))); walk1) | (dsimp only; ((fail_if_success (with_reducible show wpAny _ _ (exec (Stmt.For _ _ _ _ _) _) _ _ _))); ((fail_if_success (with_reducible show wpAny _ _ (pyIter _) _ _ _))); (((fail_if_success (with_reducible show wpAny _ _ (eval (PySem.Expr.ListComp _ _ _ _) _) _ _ _)); (fail_if_success (with_reducible show wpAny _ _ (exec (Stmt.Assign _ (PySem.Expr.ListComp _ _ _ _) _) _) _ _ _)))); walk1) | (leave1; walk_say "STEP leave1"; try dsimp only) | fail "no step"))
              · rename_i lN _ lL _ _ _ FN NN
                have l3 := allLt_ne lL.2.2.2
                refine LpEnd.intro (tl := [(ra, listOf (done ++ [Value.ref la] ++ [Value.ref lN]).toArray (n + 1)), (lN, listOf ([] ++ [gv]).toArray (0 + 1))]) (nx := (la, listOf lvs.toArray _) :: K) () FN (fun p hp => NN p ?_) ?_ (fun p hp => hoff p (.tail _ hp)) ?_ (fun _ h => nomatch h) ?_
                · rcases List.mem_cons.mp hp with rfl | hp
                  · exact .tail _ (.tail _ (.head _))
                  rcases List.mem_cons.mp hp with rfl | hp
                  · exact .head _
                  rcases List.mem_cons.mp hp with rfl | hp
                  · exact .tail _ (.head _)
                  · exact .tail _ (.tail _ (.tail _ hp))
                · intro p hp
                  rcases List.mem_cons.mp hp with rfl | hp
                  · exact n1.symm
                  · rw [List.mem_singleton.mp hp]; exact Nat.ne_of_gt lL.1
                · refine .go (gK.put x3) (.snoc (hrows.sub fun p hp => .tail _ hp) (.head _) (hlvs.sub fun p hp => .tail _ hp)) (.cons (hgl.sub fun p hp => .tail _ (gK.sub ?_)) .nil) ?_ (by simp) (by simp; omega) (Nat.ne_of_lt lL.2.1) (fun p hp => ?_) fun p hp => ?_
                  · rw [← hBB]; exact .tail _ (.tail _ (.tail _ hp))
                  · rw [take_at (sg_at (by omega) ey2), take_at (sg_at (by omega) py2)]
                    exact .new hgrp fun e => by have := hiff.mpr e; omega
                  · rcases List.mem_cons.mp hp with rfl | hp
                    · exact x1'
                    · exact x2 p hp
                  · rcases List.mem_cons.mp hp with rfl | hp
                    · exact Nat.ne_of_lt lL.2.2.1
                    · exact l3 p hp
                · intro z h4 _ h5
                  exact (if_neg (at_ne h5)).trans ((if_neg h4).trans (kst_at h5))
              · rename_i FN NN
                refine LpEnd.intro (tl := []) (nx := (ra, listOf (done ++ [Value.ref la]).toArray n) :: (la, listOf (lvs ++ [gv]).toArray (_ + 1)) :: K) () FN NN (fun _ h => nomatch h) (fun p hp => ?_) ?_ (fun _ h => nomatch h) ?_
                · rcases List.mem_cons.mp hp with rfl | hp
                  · exact n1.symm
                  rcases List.mem_cons.mp hp with rfl | hp
                  · exact n2.symm
                  · exact hoff p (.tail _ (.tail _ hp))
                · refine .go gK hrows (hlvs.snoc (hgl.sub fun p hp => gK.sub ?_)) ?_ (by rw [List.length_append]; exact Nat.succ_le_succ hl3) (by omega) x1 x2 x3
                  · rw [← hBB]; exact .tail _ (.tail _ (.tail _ hp))
                  · rw [take_at (sg_at (by omega) ey2), take_at (sg_at (by omega) py2)]
                    exact .same hgrp (hiff.mp (by omega))
                · intro z h4 _ h5
                  exact (if_neg (at_ne h5)).trans ((if_neg h4).trans (kst_at h5))
          case done2 =>
            rintro _ u nx hh tkk hRA F1 N1
            show wpAny _ _ _ _ _ _
            have hord : os.Pairwise (Before (told gs)) := by
              refine hsort.imp_of_mem fun {i j} hi hj h => ?_
              have hi := hos i hi
              have hj := hos j hj
              obtain ⟨c1, -, f2, f3⟩ := hs1.get i (by omega)
              obtain ⟨c2, -, g2, g3⟩ := hs1.get j (by omega)
              obtain ⟨d1, -, k2, k3⟩ := hs2.get i (by omega)
              obtain ⟨d2, -, m2, m3⟩ := hs2.get j (by omega)
              have b1 := k3.top (bx1 _ (List.mem_of_getElem? k2))
              have b2 := m3.top (bx1 _ (List.mem_of_getElem? m2))
              have ei : (told gs)[i]? = some (glAt (told gs) i) := by unfold glAt; rw [List.getD_eq_getElem?_getD, List.getElem?_eq_getElem (by omega)]; rfl
              have ej : (told gs)[j]? = some (glAt (told gs) j) := by unfold glAt; rw [List.getD_eq_getElem?_getD, List.getElem?_eq_getElem (by omega)]; rfl
              rw [List.getElem?_map, ei] at f2 k2
              rw [List.getElem?_map, ej] at g2 m2
              obtain rfl := Option.some.inj f2
              obtain rfl := Option.some.inj g2
              obtain rfl := Option.some.inj k2
              obtain rfl := Option.some.inj m2
              exact before_of f3 g3 k3 m3 (by omega) (by omega) b1 b2 h
            generalize hz : out.length = z at hRA
            cases hRA with
            | @start n =>
              have bR : (ra, listOf #[] n) ∈ (ra, listOf #[] n) :: BB := .head _
              (repeat' (first | (k_unfold; (try dsimp only)) | (k_end; wrow_close) | (((fail_if_success (with_reducible show wpAny _ _ (exec (Stmt.For _ _ _ _ _) _) _ _ _))); ((fail_if_success (with_reducible show wpAny _ _ (pyIter _) _ _ _))); (((fail_if_success (with_reducible show wpAny _ _ (eval (PySem.Expr.ListComp _ _ _ _) _) _ _ _)); (fail_if_success (with_reducible show wpAny _ _ (exec (Stmt.Assign _ (PySem.Expr.ListComp _ _ _ _) _) _) _ _ _)))); walk1) | (dsimp only; ((fail_if_success (with_reducible show wpAny _ _ (exec (Stmt.For _ _ _ _ _) _) _ _ _))); ((fail_if_success (with_reducible show wpAny _ _ (pyIter _) _ _ _))); (((fail_if_success (with_reducible show wpAny _ _ (eval (PySem.Expr.ListComp _ _ _ _) _) _ _ _)); (fail_if_success (with_reducible show wpAny _ _ (exec (Stmt.Assign _ (PySem.Expr.ListComp _ _ _ _) _) _) _ _ _)))); walk1) | (leave1; walk_say "STEP leave1"; try dsimp only) | fail "no step"))
              subst hBB
              obtain ⟨rest', g7, o7, s7, s8⟩ := rows_end (xs := [(ra, listOf #[] n)]) (Gr.refl ((L' + 1 + 1, oH) :: (L' + 1, oX) :: (231, tabObj ps5) :: R6)) r4 r5 r6 (neN (by dsimp only; omega)) (neN (by dsimp only; omega)) (fun x hx => by rw [List.mem_singleton.mp hx]; exact hrl)
              refine hret _ ((231, tabObj ps5) :: rest') _ _ (by k_asm) (fun p hp => (by assumption : News h₀ L _ ((ra, listOf #[] n) :: (L' + 1 + 1, oH) :: (L' + 1, oX) :: (231, tabObj ps5) :: R6)) p (s7 p hp)) ⟨rest', ps5, ra, [], n, [], rfl, (((((G1.trans G2).trans G3).trans G4).trans G5).trans G6).trans g7, ht6.mono fun p hp => g7.sub hp, o7, rfl, s8 _ (.head _), .nil, Nat.zero_le _, .none (List.eq_nil_of_length_eq_zero (by omega))⟩
            | @go j K done n n2 dgs la lvs lgs gK hrows hlvs hgrp hl3 hl4 x1 x2 x3 =>
              (repeat' (first | (k_unfold; (try dsimp only)) | (k_end; wrow_close) | (((fail_if_success (with_reducible show wpAny _ _ (exec (Stmt.For _ _ _ _ _) _) _ _ _))); ((fail_if_success (with_reducible show wpAny _ _ (pyIter _) _ _ _))); (((fail_if_success (with_reducible show wpAny _ _ (eval (PySem.Expr.ListComp _ _ _ _) _) _ _ _)); (fail_if_success (with_reducible show wpAny _ _ (exec (Stmt.Assign _ (PySem.Expr.ListComp _ _ _ _) _) _) _ _ _)))); walk1) | (dsimp only; ((fail_if_success (with_reducible show wpAny _ _ (exec (Stmt.For _ _ _ _ _) _) _ _ _))); ((fail_if_success (with_reducible show wpAny _ _ (pyIter _) _ _ _))); (((fail_if_success (with_reducible show wpAny _ _ (eval (PySem.Expr.ListComp _ _ _ _) _) _ _ _)); (fail_if_success (with_reducible show wpAny _ _ (exec (Stmt.Assign _ (PySem.Expr.ListComp _ _ _ _) _) _) _ _ _)))); walk1) | (leave1; walk_say "STEP leave1"; try dsimp only) | fail "no step"))
              subst hBB
              obtain ⟨rest', g7, o7, s7, s8⟩ := rows_end (xs := [(ra, listOf (done ++ [Value.ref la]).toArray n), (la, listOf lvs.toArray n2)]) gK r4 r5 r6 (neN (by dsimp only; omega)) (neN (by dsimp only; omega)) (fun x hx => by
                rcases List.mem_cons.mp hx with rfl | hx
                · exact x2
                · rw [List.mem_singleton.mp hx]; exact x3)
              refine hret _ ((231, tabObj ps5) :: rest') _ _ (by k_asm) (fun p hp => (by assumption : News h₀ L _ ((ra, listOf (done ++ [Value.ref la]).toArray n) :: (la, listOf lvs.toArray n2) :: K)) p (s7 p hp)) ⟨rest', ps5, ra, _, n, dgs ++ [lgs], rfl, (((((G1.trans G2).trans G3).trans G4).trans G5).trans G6).trans g7, ht6.mono fun p hp => g7.sub hp, o7, rfl, s8 _ (.head _),
                .snoc (hrows.sub fun p hp => s8 p (.tail _ (.tail _ hp))) (s8 _ (.tail _ (.head _))) (hlvs.sub fun p hp => s8 p (.tail _ (.tail _ hp))), by rw [List.length_append, List.length_singleton]; omega, ?_⟩
              rw [List.take_of_length_le (by rw [List.length_map]; omega)] at hgrp
              exact .some (hl1 ▸ hperm) hord hgrp

end
-- part R1
section
open PySem PySem.W PyProof.Rows
set_option maxRecDepth 100000
set_option maxHeartbeats 0

theorem Grp.flat {l : List Gl} {d : List (List Gl)} {la : List Gl} (h : Grp l d la) : (d ++ [la]).flatten = l := by
  induction h with
  | one g => rfl
  | same _ _ ih => rw [← ih]; simp
  | new _ _ ih => rw [← ih]; simp
theorem flat_mem {α : Type} {l : List (List α)} {r : List α} (h : r ∈ l) : (∀ x ∈ r, x ∈ l.flatten) ∧ r.length ≤ l.flatten.length := by
  induction l with
  | nil => cases h
  | cons a l ih =>
    rcases List.mem_cons.mp h with rfl | h
    · refine ⟨fun x hx => by simp [hx], by simp⟩
    · obtain ⟨p, q⟩ := ih h
      exact ⟨fun x hx => List.mem_append.mpr (.inr (p x hx)), by rw [List.flatten_cons, List.length_append]; omega⟩
theorem Ordered.rows {gs : List Gl} {rows : List (List Gl)} (h : Ordered gs rows) : ∀ row ∈ rows, (∀ g ∈ row, g ∈ gs) ∧ row.length ≤ gs.length := by
  cases h with
  | none => exact fun _ h => nomatch h
  | @some os d la hp _ hg =>
    intro row hr
    obtain ⟨a, b⟩ := flat_mem hr
    rw [hg.flat] at a b
    refine ⟨fun g hgm => ?_, ?_⟩
    · obtain ⟨i, hi, rfl⟩ := List.mem_map.mp (a g hgm)
      have := List.mem_range.mp (hp.mem_iff.mp hi)
      unfold glAt
      rw [List.getD_eq_getElem?_getD, List.getElem?_eq_getElem this]
      exact List.getElem_mem this
    · rw [List.length_map, hp.length_eq, List.length_range] at b
      exact b
theorem told_len {gs : List Gl} {g : Gl} (h : g ∈ told gs) : 0 < g.text.length := by
  have h2 := (List.mem_filter.mp h).2
  apply Nat.pos_of_ne_zero
  intro e
  have : g.text = Str.ofString "" := by
    have e2 : g.text.cps = #[] := Array.eq_empty_of_size_eq_zero e
    cases hq : g.text with
    | mk c => rw [hq] at e2; rw [show c = #[] from e2]; rfl
  rw [this] at h2
  exact absurd h2 (by decide)
theorem AreRows.get {w : World} {n : List (Addr × Obj)} {vs : List Value} {rows : List (List Gl)} (h : AreRows w n vs rows) : ∀ i, i < vs.length → ∃ a us k row, vs[i]? = some (.ref a) ∧ rows[i]? = some row ∧ (a, listOf us.toArray k) ∈ n ∧ AreGls w n us row := by
  induction h with
  | nil => intro i hi; exact absurd hi (Nat.not_lt_zero _)
  | @snoc vs gss a us gs k hr hm hg ih =>
    intro i hi
    have hl := hr.len
    by_cases hlt : i < vs.length
    · obtain ⟨a', us', k', row, e1, e2, e3⟩ := ih i hlt
      exact ⟨a', us', k', row, by rw [List.getElem?_append_left hlt]; exact e1, by rw [List.getElem?_append_left (hl ▸ hlt)]; exact e2, e3⟩
    · rw [List.length_append, List.length_singleton] at hi
      obtain rfl : i = vs.length := by omega
      exact ⟨a, us, k, gs, by simp, by rw [hl]; simp, hm, hg⟩
theorem tab_end {q3 : Addr × Obj} {R K xs : List (Addr × Obj)} (gK : Gr (q3 :: R) K) (o3 : ∀ p ∈ R, p.1 ≠ q3.1) (hx : ∀ x ∈ xs, ∀ p ∈ K, p.1 ≠ x.1) :
    ∃ rest', Gr R rest' ∧ (∀ p ∈ rest', p.1 ≠ q3.1) ∧ (∀ p ∈ q3 :: rest', p ∈ xs ++ K) ∧ ∀ p ∈ xs ++ K, p ∈ q3 :: rest' := by
  obtain ⟨tl, rfl, ap⟩ := gK
  have e : (xs ++ (tl ++ q3 :: R)).Perm (q3 :: (xs ++ (tl ++ R))) := by
    have := List.perm_middle (a := q3) (l₁ := xs ++ tl) (l₂ := R)
    simpa using this
  refine ⟨xs ++ (tl ++ R), ⟨xs ++ tl, by simp, fun q hq p hp => ?_⟩, fun p hp => ?_, fun p hp => e.mem_iff.mpr hp, fun p hp => e.mem_iff.mp hp⟩
  · rcases List.mem_append.mp hp with hp | hp
    · exact (hx p hp q (by simp [hq])).symm
    · exact ap q (.tail _ hq) p hp
  · rcases List.mem_append.mp hp with hp | hp
    · exact (hx p hp q3 (by simp)).symm
    rcases List.mem_append.mp hp with hp | hp
    · exact ap q3 (.head _) p hp
    · exact o3 p hp
/-- texts in a list -/
inductive Strs : List Value → List Str → Prop
  | nil : Strs [] []
  | snoc {vs : List Value} {ss : List Str} {x : Str} {t : Tok} : Strs vs ss → Strs (vs ++ [Value.str x t]) (ss ++ [x])
theorem Strs.len {vs : List Value} {ss : List Str} (h : Strs vs ss) : vs.length = ss.length := by
  induction h with
  | nil => rfl
  | snoc _ ih => simp [ih]
local macro_rules | `(tactic| k_all) => `(tactic| first | assumption | (refine' List.forall_mem_cons.mpr ⟨?a, ?b⟩; (case a => k_ne); (case b => k_all)))
local macro_rules | `(tactic| k_mem) => `(tactic| first | ktr_member | exact List.Mem.head _ | (refine List.mem_cons_of_mem _ ?_; k_mem))

theorem rows_of_ok (w : World) (va : Addr) (vs : List Value) (vn : Nat) (gs : List Gl) (ps : Array Value) (k : Int) (t : Tok) (rest : List (Addr × Obj)) (hm : (va, listOf vs.toArray vn) ∈ rest) (hv : AreGls w rest vs gs) (hn : vs.length ≤ 50) (ht : TabOk rest ps) (h0 : ∀ p ∈ rest, p.1 ≠ 231) (hkk : 0 ≤ k ∧ k ≤ 10) :
    Ok w ((231, tabObj ps) :: rest) (.ref 240) [.ref va, .int k t] 60 600 (fun r news' => ∃ rest' ps' ra rvs rn rows, news' = (231, tabObj ps') :: rest' ∧ Gr rest rest' ∧ TabOk rest' ps' ∧ (∀ p ∈ rest', p.1 ≠ 231) ∧ r = .ref ra ∧ (ra, listOf rvs.toArray rn) ∈ news' ∧ Strs rvs (rows.map (rowText k)) ∧ rvs.length ≤ 50 ∧ Ordered (told gs) rows) := by
  ((((unfold Ok; k_fill; intro pr loose mean mg mb dp un gd cn cs a ccd cl outer A₀ base h₀ L m s Q E B F X N T hk hd hu hret)); refine wpAny_call ?_; k_dflt (refine' code_defC ?k1 ?k2 ?k3 ?k4 ?k5 ?kA ?kF ?kK ?k6 ?k7 ?k8 ?k9 ?kB ?kD ?_ ?c2 ?c3 ?c4; (case kA => exact rfl); (case kF => exact rfl); (case kK => assumption); (case k1 => k_asm); (case k2 => k_asm); (case k3 => k_asm); (case k4 => k_asm); (case k5 => k_asm); (case k6 => k_is); (case k7 => k_is); (case k8 => ktr_room); (case k9 => first | exact BindsTo.of_eq rfl | exact binds_K (by k_in) rfl (by k_is) rfl rfl rfl); (case kB => exact rfl); (case kD => decide +kernel); (case c2 => exact rfl); (case c3 => exact rfl); (case c4 => exact rfl); k_whole; intro g' L' h' tk' cells' FG' F' N' Y' B' X' T' l1; k_cells Y'; (try simp only [List.cons_append, List.nil_append] at N'); (try dsimp only); (try k_fold))))
  rename_i oT dT
  have l2 : ∀ p ∈ rest, p.1 ≠ L' + 1 := fun p hp => Nat.ne_of_lt (Nat.lt_succ_of_lt (l1 p (.tail _ hp)))
  have l3 : @LT.lt Nat _ 231 L' := l1 _ (.head _)
  have N2 : News g' L' h' ((231, tabObj ps) :: (L' + 1, oT) :: rest) := fun p hp => N' p (by
    rcases List.mem_cons.mp hp with rfl | hp
    · exact .tail _ (.head _)
    rcases List.mem_cons.mp hp with rfl | hp
    · exact .head _
    · exact .tail _ (.tail _ hp))
  have o2 : ∀ p ∈ (L' + 1, oT) :: rest, p.1 ≠ 231 := fun p hp => by
    rcases List.mem_cons.mp hp with rfl | hp
    · exact neN (by dsimp only; omega)
    · exact h0 p hp
  clear N'
  (repeat' (first | (k_unfold; (try dsimp only)) | (k_end; wrow_close) | (((fail_if_success (with_reducible show wpAny _ _ (exec (Stmt.For _ _ _ _ _) _) _ _ _))); ((fail_if_success (with_reducible show wpAny _ _ (pyIter _) _ _ _))); (((fail_if_success (with_reducible show wpAny _ _ (eval (PySem.Expr.ListComp _ _ _ _) _) _ _ _)); (fail_if_success (with_reducible show wpAny _ _ (exec (Stmt.Assign _ (PySem.Expr.ListComp _ _ _ _) _) _) _ _ _)))); walk1) | (dsimp only; ((fail_if_success (with_reducible show wpAny _ _ (exec (Stmt.For _ _ _ _ _) _) _ _ _))); ((fail_if_success (with_reducible show wpAny _ _ (pyIter _) _ _ _))); (((fail_if_success (with_reducible show wpAny _ _ (eval (PySem.Expr.ListComp _ _ _ _) _) _ _ _)); (fail_if_success (with_reducible show wpAny _ _ (exec (Stmt.Assign _ (PySem.Expr.ListComp _ _ _ _) _) _) _ _ _)))); walk1) | (leave1; walk_say "STEP leave1"; try dsimp only) | fail "no step"))
  k_dflt (refine LCg.ListComp_U (F₀ := by k_asm) (by with_unfolding_all rfl) (by decide) (by rfl) (by decide) (by rfl) ?_)
  (repeat' (first | (k_unfold; (try dsimp only)) | (k_end; wrow_close) | (((fail_if_success (with_reducible show wpAny _ _ (exec (Stmt.For _ _ _ _ _) _) _ _ _))); ((fail_if_success (with_reducible show wpAny _ _ (pyIter _) _ _ _))); (((fail_if_success (with_reducible show wpAny _ _ (eval (PySem.Expr.ListComp _ _ _ _) _) _ _ _)); (fail_if_success (with_reducible show wpAny _ _ (exec (Stmt.Assign _ (PySem.Expr.ListComp _ _ _ _) _) _) _ _ _)))); walk1) | (dsimp only; ((fail_if_success (with_reducible show wpAny _ _ (exec (Stmt.For _ _ _ _ _) _) _ _ _))); ((fail_if_success (with_reducible show wpAny _ _ (pyIter _) _ _ _))); (((fail_if_success (with_reducible show wpAny _ _ (eval (PySem.Expr.ListComp _ _ _ _) _) _ _ _)); (fail_if_success (with_reducible show wpAny _ _ (exec (Stmt.Assign _ (PySem.Expr.ListComp _ _ _ _) _) _) _ _ _)))); walk1) | (leave1; walk_say "STEP leave1"; try dsimp only) | fail "no step"))
  ((k_dflt (refine' ok_use (glyph_rows_ok w va vs vn gs ps ((L' + 1, oT) :: rest) (.tail _ hm) (hv.sub fun p hp => .tail _ hp) hn (ht.mono fun p hp => .tail _ hp) o2) ?k1 ?k2 ?k3 ?k4 ?k5 ?kK ?kd ?ku ?_; (case k1 => k_asm); (case k2 => k_asm); (case k3 => k_asm); (case k4 => k_asm); (case k5 => k_asm); (case kK => first | exact rfl | assumption); (case kd => first | exact ok_room hd rfl | ktr_room); (case ku => first | exact ok_room hu rfl | ktr_units)); intro r9 n9 h9 tk9 F9 N9 P9; (try dsimp only); (try k_fold)))
  obtain ⟨rest', ps', ra, rvs, rn, rows, rfl, g1, ht1, o3, rfl, hra, hrows, hrl, hord⟩ := P9
  have hro := hord.rows
  (repeat' (first | (k_unfold; (try dsimp only)) | (k_end; wrow_close) | (((fail_if_success (with_reducible show wpAny _ _ (exec (Stmt.For _ _ _ _ _) _) _ _ _))); ((fail_if_success (with_reducible show wpAny _ _ (pyIter _) _ _ _))); (((fail_if_success (with_reducible show wpAny _ _ (eval (PySem.Expr.ListComp _ _ _ _) _) _ _ _)); (fail_if_success (with_reducible show wpAny _ _ (exec (Stmt.Assign _ (PySem.Expr.ListComp _ _ _ _) _) _) _ _ _)))); walk1) | (dsimp only; ((fail_if_success (with_reducible show wpAny _ _ (exec (Stmt.For _ _ _ _ _) _) _ _ _))); ((fail_if_success (with_reducible show wpAny _ _ (pyIter _) _ _ _))); (((fail_if_success (with_reducible show wpAny _ _ (eval (PySem.Expr.ListComp _ _ _ _) _) _ _ _)); (fail_if_success (with_reducible show wpAny _ _ (exec (Stmt.Assign _ (PySem.Expr.ListComp _ _ _ _) _) _) _ _ _)))); walk1) | (leave1; walk_say "STEP leave1"; try dsimp only) | fail "no step"))
  refine LCg.CompSrc.ledger rfl (by k_asm) (by k_asm) hra (by rw [List.size_toArray, sizeLine_eq]; omega) (fun g2 => ?_)
  refine comp_all (n := rvs.length) (fun i zs nw => Gr ((231, tabObj ps') :: rest') nw ∧ Strs zs ((rows.take i).map (rowText k))) ?_ ?_ _ 0 [] _ (by simp) ⟨Gr.refl _, .nil⟩
  · rintro i zs nw v I oI C oC D m₂ h tk E' hi hPv ⟨g3, hzs⟩ hC hx F2 N3 off ne
    obtain ⟨a, us, kk, row, e1, e2, hma, hgl⟩ := hrows.get i hi
    obtain rfl : Value.ref a = v := Option.some.inj (e1.symm.trans (by simpa using hPv))
    have e3 : rows.take (i + 1) = rows.take i ++ [row] := by rw [List.take_add_one, e2]; rfl
    have hrow := hro row (List.mem_of_getElem? e2)
    have mT : (L' + 1, oT) ∈ (I, oI) :: (C, oC) :: (D, LCg.lst zs) :: nw := .tail _ (.tail _ (.tail _ (g3.sub (.tail _ (g1.sub (.head _))))))
    (repeat' (first | (k_unfold; (try dsimp only)) | (k_end; wrow_close) | (((fail_if_success (with_reducible show wpAny _ _ (exec (Stmt.For _ _ _ _ _) _) _ _ _))); ((fail_if_success (with_reducible show wpAny _ _ (pyIter _) _ _ _))); (((fail_if_success (with_reducible show wpAny _ _ (eval (PySem.Expr.ListComp _ _ _ _) _) _ _ _)); (fail_if_success (with_reducible show wpAny _ _ (exec (Stmt.Assign _ (PySem.Expr.ListComp _ _ _ _) _) _) _ _ _)))); walk1) | (dsimp only; ((fail_if_success (with_reducible show wpAny _ _ (exec (Stmt.For _ _ _ _ _) _) _ _ _))); ((fail_if_success (with_reducible show wpAny _ _ (pyIter _) _ _ _))); (((fail_if_success (with_reducible show wpAny _ _ (eval (PySem.Expr.ListComp _ _ _ _) _) _ _ _)); (fail_if_success (with_reducible show wpAny _ _ (exec (Stmt.Assign _ (PySem.Expr.ListComp _ _ _ _) _) _) _ _ _)))); walk1) | (leave1; walk_say "STEP leave1"; try dsimp only) | fail "no step"))
    ((k_dflt (refine' ok_use (text_of_row_ok w a us kk row k _ ((I, oI) :: (C, oC) :: (D, LCg.lst zs) :: nw) (.tail _ (.tail _ (.tail _ (g3.sub hma)))) (hgl.sub fun p hp => .tail _ (.tail _ (.tail _ (g3.sub hp)))) hkk (by rw [hgl.len]; exact Nat.le_trans hrow.2 (Nat.le_trans (List.length_filter_le _ _) (by rw [← hv.len]; omega))) (fun g hg => told_len (hrow.1 g hg))) ?k1 ?k2 ?k3 ?k4 ?k5 ?kK ?kd ?ku ?_; (case k1 => k_asm); (case k2 => k_asm); (case k3 => k_asm); (case k4 => k_asm); (case k5 => k_asm); (case kK => first | exact rfl | assumption); (case kd => first | exact ok_room hd rfl | ktr_room); (case ku => first | exact ok_room hu rfl | ktr_units)); intro r9 n9 h9 tk9 F9 N9 P9; (try dsimp only); (try k_fold)))
    obtain ⟨⟨tl, rfl, ap⟩, tt, rfl⟩ := P9
    (repeat' (first | (k_unfold; (try dsimp only)) | (k_end; wrow_close) | (((fail_if_success (with_reducible show wpAny _ _ (exec (Stmt.For _ _ _ _ _) _) _ _ _))); ((fail_if_success (with_reducible show wpAny _ _ (pyIter _) _ _ _))); (((fail_if_success (with_reducible show wpAny _ _ (eval (PySem.Expr.ListComp _ _ _ _) _) _ _ _)); (fail_if_success (with_reducible show wpAny _ _ (exec (Stmt.Assign _ (PySem.Expr.ListComp _ _ _ _) _) _) _ _ _)))); walk1) | (dsimp only; ((fail_if_success (with_reducible show wpAny _ _ (exec (Stmt.For _ _ _ _ _) _) _ _ _))); ((fail_if_success (with_reducible show wpAny _ _ (pyIter _) _ _ _))); (((fail_if_success (with_reducible show wpAny _ _ (eval (PySem.Expr.ListComp _ _ _ _) _) _ _ _)); (fail_if_success (with_reducible show wpAny _ _ (exec (Stmt.Assign _ (PySem.Expr.ListComp _ _ _ _) _) _) _ _ _)))); walk1) | (leave1; walk_say "STEP leave1"; try dsimp only) | fail "no step"))
    refine cend_gr (tl := tl) (by k_asm) (by k_asm) ap off (.inr ⟨_, List.mem_append.mpr (.inr (g3.sub hra)), rfl, _, rfl⟩) ⟨?_, ?_⟩
    · exact g3.trans ⟨tl, rfl, fun q hq => ap q (.tail _ (.tail _ (.tail _ hq)))⟩
    · rw [e3, List.map_append]
      exact hzs.snoc
  · rintro zs nw ⟨g3, hzs⟩
    rw [List.take_of_length_le (Nat.le_of_eq hrows.len.symm)] at hzs
    intro D h3 tk3 F3 N3 o4
    show LeaveK _ _ _ _ _ _ _
    obtain ⟨rest2, g4, o5, s1, s2⟩ := tab_end (xs := [(D, LCg.lst zs)]) g3 o3 (fun x hx => by rw [List.mem_singleton.mp hx]; exact off1_ne o4)
    (repeat' (first | (k_unfold; (try dsimp only)) | (k_end; wrow_close) | (((fail_if_success (with_reducible show wpAny _ _ (exec (Stmt.For _ _ _ _ _) _) _ _ _))); ((fail_if_success (with_reducible show wpAny _ _ (pyIter _) _ _ _))); (((fail_if_success (with_reducible show wpAny _ _ (eval (PySem.Expr.ListComp _ _ _ _) _) _ _ _)); (fail_if_success (with_reducible show wpAny _ _ (exec (Stmt.Assign _ (PySem.Expr.ListComp _ _ _ _) _) _) _ _ _)))); walk1) | (dsimp only; ((fail_if_success (with_reducible show wpAny _ _ (exec (Stmt.For _ _ _ _ _) _) _ _ _))); ((fail_if_success (with_reducible show wpAny _ _ (pyIter _) _ _ _))); (((fail_if_success (with_reducible show wpAny _ _ (eval (PySem.Expr.ListComp _ _ _ _) _) _ _ _)); (fail_if_success (with_reducible show wpAny _ _ (exec (Stmt.Assign _ (PySem.Expr.ListComp _ _ _ _) _) _) _ _ _)))); walk1) | (leave1; walk_say "STEP leave1"; try dsimp only) | fail "no step"))
    refine hret _ ((231, tabObj ps') :: rest2) _ _ (by k_asm) (fun p hp => (by assumption : News h₀ L _ ((D, LCg.lst zs) :: nw)) p (s1 p hp)) ⟨rest2, ps', D, zs, _, rows, rfl, (((Gr.refl rest).put l2).trans g1).trans g4, ht1.mono fun p hp => g4.sub hp, o5, rfl, s2 _ (.head _), hzs, by rw [hzs.len, List.length_map, ← hrows.len]; exact hrl, hord⟩
theorem rows_of_ok2 (w : World) (va : Addr) (vs : List Value) (vn : Nat) (gs : List Gl) (ps : Array Value) (rest : List (Addr × Obj)) (hm : (va, listOf vs.toArray vn) ∈ rest) (hv : AreGls w rest vs gs) (hn : vs.length ≤ 50) (ht : TabOk rest ps) (h0 : ∀ p ∈ rest, p.1 ≠ 231) :
    Ok w ((231, tabObj ps) :: rest) (.ref 240) [.ref va] 60 600 (fun r news' => ∃ rest' ps' ra rvs rn rows, news' = (231, tabObj ps') :: rest' ∧ Gr rest rest' ∧ TabOk rest' ps' ∧ (∀ p ∈ rest', p.1 ≠ 231) ∧ r = .ref ra ∧ (ra, listOf rvs.toArray rn) ∈ news' ∧ Strs rvs (rows.map (rowText 2)) ∧ rvs.length ≤ 50 ∧ Ordered (told gs) rows) := by
  ((((unfold Ok; k_fill; intro pr loose mean mg mb dp un gd cn cs a ccd cl outer A₀ base h₀ L m s Q E B F X N T hk hd hu hret)); refine wpAny_call ?_; k_dflt (refine' code_defC ?k1 ?k2 ?k3 ?k4 ?k5 ?kA ?kF ?kK ?k6 ?k7 ?k8 ?k9 ?kB ?kD ?_ ?c2 ?c3 ?c4; (case kA => exact rfl); (case kF => exact rfl); (case kK => assumption); (case k1 => k_asm); (case k2 => k_asm); (case k3 => k_asm); (case k4 => k_asm); (case k5 => k_asm); (case k6 => k_is); (case k7 => k_is); (case k8 => ktr_room); (case k9 => first | exact BindsTo.of_eq rfl | exact binds_K (by k_in) rfl (by k_is) rfl rfl rfl); (case kB => exact rfl); (case kD => decide +kernel); (case c2 => exact rfl); (case c3 => exact rfl); (case c4 => exact rfl); k_whole; intro g' L' h' tk' cells' FG' F' N' Y' B' X' T' l1; k_cells Y'; (try simp only [List.cons_append, List.nil_append] at N'); (try dsimp only); (try k_fold))))
  rename_i oT dT
  have l2 : ∀ p ∈ rest, p.1 ≠ L' + 1 := fun p hp => Nat.ne_of_lt (Nat.lt_succ_of_lt (l1 p (.tail _ hp)))
  have l3 : @LT.lt Nat _ 231 L' := l1 _ (.head _)
  have N2 : News g' L' h' ((231, tabObj ps) :: (L' + 1, oT) :: rest) := fun p hp => N' p (by
    rcases List.mem_cons.mp hp with rfl | hp
    · exact .tail _ (.head _)
    rcases List.mem_cons.mp hp with rfl | hp
    · exact .head _
    · exact .tail _ (.tail _ hp))
  have o2 : ∀ p ∈ (L' + 1, oT) :: rest, p.1 ≠ 231 := fun p hp => by
    rcases List.mem_cons.mp hp with rfl | hp
    · exact neN (by dsimp only; omega)
    · exact h0 p hp
  clear N'
  (repeat' (first | (k_unfold; (try dsimp only)) | (k_end; wrow_close) | (((fail_if_success (with_reducible show wpAny _ _ (exec (Stmt.For _ _ _ _ _) _) _ _ _))); ((fail_if_success (with_reducible show wpAny _ _ (pyIter _) _ _ _))); (((fail_if_success (with_reducible show wpAny _ _ (eval (PySem.Expr.ListComp _ _ _ _) _) _ _ _)); (fail_if_success (with_reducible show wpAny _ _ (exec (Stmt.Assign _ (PySem.Expr.ListComp _ _ _ _) _) _) _ _ _)))); walk1) | (dsimp only; ((fail_if_success (with_reducible show wpAny _ _ (exec (Stmt.For _ _ _ _ _) _) _ _ _))); ((fail_if_success (with_reducible show wpAny _ _ (pyIter _) _ _ _))); (((fail_if_success (with_reducible show wpAny _ _ (eval (PySem.Expr.ListComp _ _ _ _) _) _ _ _)); (fail_if_success (with_reducible show wpAny _ _ (exec (Stmt.Assign _ (PySem.Expr.ListComp _ _ _ _) _) _) _ _ _)))); walk1) | (leave1; walk_say "STEP leave1"; try dsimp only) | fail "no step"))
  k_dflt (refine LCg.ListComp_U (F₀ := by k_asm) (by with_unfolding_all rfl) (by decide) (by rfl) (by decide) (by rfl) ?_)
  (repeat' (first | (k_unfold; (try dsimp only)) | (k_end; wrow_close) | (((fail_if_success (with_reducible show wpAny _ _ (exec (Stmt.For _ _ _ _ _) _) _ _ _))); ((fail_if_success (with_reducible show wpAny _ _ (pyIter _) _ _ _))); (((fail_if_success (with_reducible show wpAny _ _ (eval (PySem.Expr.ListComp _ _ _ _) _) _ _ _)); (fail_if_success (with_reducible show wpAny _ _ (exec (Stmt.Assign _ (PySem.Expr.ListComp _ _ _ _) _) _) _ _ _)))); walk1) | (dsimp only; ((fail_if_success (with_reducible show wpAny _ _ (exec (Stmt.For _ _ _ _ _) _) _ _ _))); ((fail_if_success (with_reducible show wpAny _ _ (pyIter _) _ _ _))); (((fail_if_success (with_reducible show wpAny _ _ (eval (PySem.Expr.ListComp _ _ _ _) _) _ _ _)); (fail_if_success (with_reducible show wpAny _ _ (exec (Stmt.Assign _ (PySem.Expr.ListComp _ _ _ _) _) _) _ _ _)))); walk1) | (leave1; walk_say "STEP leave1"; try dsimp only) | fail "no step"))
  ((k_dflt (refine' ok_use (glyph_rows_ok w va vs vn gs ps ((L' + 1, oT) :: rest) (.tail _ hm) (hv.sub fun p hp => .tail _ hp) hn (ht.mono fun p hp => .tail _ hp) o2) ?k1 ?k2 ?k3 ?k4 ?k5 ?kK ?kd ?ku ?_; (case k1 => k_asm); (case k2 => k_asm); (case k3 => k_asm); (case k4 => k_asm); (case k5 => k_asm); (case kK => first | exact rfl | assumption); (case kd => first | exact ok_room hd rfl | ktr_room); (case ku => first | exact ok_room hu rfl | ktr_units)); intro r9 n9 h9 tk9 F9 N9 P9; (try dsimp only); (try k_fold)))
  obtain ⟨rest', ps', ra, rvs, rn, rows, rfl, g1, ht1, o3, rfl, hra, hrows, hrl, hord⟩ := P9
  have hro := hord.rows
  (repeat' (first | (k_unfold; (try dsimp only)) | (k_end; wrow_close) | (((fail_if_success (with_reducible show wpAny _ _ (exec (Stmt.For _ _ _ _ _) _) _ _ _))); ((fail_if_success (with_reducible show wpAny _ _ (pyIter _) _ _ _))); (((fail_if_success (with_reducible show wpAny _ _ (eval (PySem.Expr.ListComp _ _ _ _) _) _ _ _)); (fail_if_success (with_reducible show wpAny _ _ (exec (Stmt.Assign _ (PySem.Expr.ListComp _ _ _ _) _) _) _ _ _)))); walk1) | (dsimp only; ((fail_if_success (with_reducible show wpAny _ _ (exec (Stmt.For _ _ _ _ _) _) _ _ _))); ((fail_if_success (with_reducible show wpAny _ _ (pyIter _) _ _ _))); (((fail_if_success (with_reducible show wpAny _ _ (eval (PySem.Expr.ListComp _ _ _ _) _) _ _ _)); (fail_if_success (with_reducible show wpAny _ _ (exec (Stmt.Assign _ (PySem.Expr.ListComp _ _ _ _) _) _) _ _ _)))); walk1) | (leave1; walk_say "STEP leave1"; try dsimp only) | fail "no step"))
  refine LCg.CompSrc.ledger rfl (by k_asm) (by k_asm) hra (by rw [List.size_toArray, sizeLine_eq]; omega) (fun g2 => ?_)
  refine comp_all (n := rvs.length) (fun i zs nw => Gr ((231, tabObj ps') :: rest') nw ∧ Strs zs ((rows.take i).map (rowText 2))) ?_ ?_ _ 0 [] _ (by simp) ⟨Gr.refl _, .nil⟩
  · rintro i zs nw v I oI C oC D m₂ h tk E' hi hPv ⟨g3, hzs⟩ hC hx F2 N3 off ne
    obtain ⟨a, us, kk, row, e1, e2, hma, hgl⟩ := hrows.get i hi
    obtain rfl : Value.ref a = v := Option.some.inj (e1.symm.trans (by simpa using hPv))
    have e3 : rows.take (i + 1) = rows.take i ++ [row] := by rw [List.take_add_one, e2]; rfl
    have hrow := hro row (List.mem_of_getElem? e2)
    have mT : (L' + 1, oT) ∈ (I, oI) :: (C, oC) :: (D, LCg.lst zs) :: nw := .tail _ (.tail _ (.tail _ (g3.sub (.tail _ (g1.sub (.head _))))))
    (repeat' (first | (k_unfold; (try dsimp only)) | (k_end; wrow_close) | (((fail_if_success (with_reducible show wpAny _ _ (exec (Stmt.For _ _ _ _ _) _) _ _ _))); ((fail_if_success (with_reducible show wpAny _ _ (pyIter _) _ _ _))); (((fail_if_success (with_reducible show wpAny _ _ (eval (PySem.Expr.ListComp _ _ _ _) _) _ _ _)); (fail_if_success (with_reducible show wpAny _ _ (exec (Stmt.Assign _ (PySem.Expr.ListComp _ _ _ _) _) _) _ _ _)))); walk1) | (dsimp only; ((fail_if_success (with_reducible show wpAny _ _ (exec (Stmt.For _ _ _ _ _) _) _ _ _))); ((fail_if_success (with_reducible show wpAny _ _ (pyIter _) _ _ _))); (((fail_if_success (with_reducible show wpAny _ _ (eval (PySem.Expr.ListComp _ _ _ _) _) _ _ _)); (fail_if_success (with_reducible show wpAny _ _ (exec (Stmt.Assign _ (PySem.Expr.ListComp _ _ _ _) _) _) _ _ _)))); walk1) | (leave1; walk_say "STEP leave1"; try dsimp only) | fail "no step"))
    ((k_dflt (refine' ok_use (text_of_row_ok w a us kk row 2 _ ((I, oI) :: (C, oC) :: (D, LCg.lst zs) :: nw) (.tail _ (.tail _ (.tail _ (g3.sub hma)))) (hgl.sub fun p hp => .tail _ (.tail _ (.tail _ (g3.sub hp)))) (by decide) (by rw [hgl.len]; exact Nat.le_trans hrow.2 (Nat.le_trans (List.length_filter_le _ _) (by rw [← hv.len]; omega))) (fun g hg => told_len (hrow.1 g hg))) ?k1 ?k2 ?k3 ?k4 ?k5 ?kK ?kd ?ku ?_; (case k1 => k_asm); (case k2 => k_asm); (case k3 => k_asm); (case k4 => k_asm); (case k5 => k_asm); (case kK => first | exact rfl | assumption); (case kd => first | exact ok_room hd rfl | ktr_room); (case ku => first | exact ok_room hu rfl | ktr_units)); intro r9 n9 h9 tk9 F9 N9 P9; (try dsimp only); (try k_fold)))
    obtain ⟨⟨tl, rfl, ap⟩, tt, rfl⟩ := P9
    (repeat' (first | (k_unfold; (try dsimp only)) | (k_end; wrow_close) | (((fail_if_success (with_reducible show wpAny _ _ (exec (Stmt.For _ _ _ _ _) _) _ _ _))); ((fail_if_success (with_reducible show wpAny _ _ (pyIter _) _ _ _))); (((fail_if_success (with_reducible show wpAny _ _ (eval (PySem.Expr.ListComp _ _ _ _) _) _ _ _)); (fail_if_success (with_reducible show wpAny _ _ (exec (Stmt.Assign _ (PySem.Expr.ListComp _ _ _ _) _) _) _ _ _)))); walk1) | (dsimp only; ((fail_if_success (with_reducible show wpAny _ _ (exec (Stmt.For _ _ _ _ _) _) _ _ _))); ((fail_if_success (with_reducible show wpAny _ _ (pyIter _) _ _ _))); (((fail_if_success (with_reducible show wpAny _ _ (eval (PySem.Expr.ListComp _ _ _ _) _) _ _ _)); (fail_if_success (with_reducible show wpAny _ _ (exec (Stmt.Assign _ (PySem.Expr.ListComp _ _ _ _) _) _) _ _ _)))); walk1) | (leave1; walk_say "STEP leave1"; try dsimp only) | fail "no step"))
    refine cend_gr (tl := tl) (by k_asm) (by k_asm) ap off (.inr ⟨_, List.mem_append.mpr (.inr (g3.sub hra)), rfl, _, rfl⟩) ⟨?_, ?_⟩
    · exact g3.trans ⟨tl, rfl, fun q hq => ap q (.tail _ (.tail _ (.tail _ hq)))⟩
    · rw [e3, List.map_append]
      exact hzs.snoc
  · rintro zs nw ⟨g3, hzs⟩
    rw [List.take_of_length_le (Nat.le_of_eq hrows.len.symm)] at hzs
    intro D h3 tk3 F3 N3 o4
    show LeaveK _ _ _ _ _ _ _
    obtain ⟨rest2, g4, o5, s1, s2⟩ := tab_end (xs := [(D, LCg.lst zs)]) g3 o3 (fun x hx => by rw [List.mem_singleton.mp hx]; exact off1_ne o4)
    (repeat' (first | (k_unfold; (try dsimp only)) | (k_end; wrow_close) | (((fail_if_success (with_reducible show wpAny _ _ (exec (Stmt.For _ _ _ _ _) _) _ _ _))); ((fail_if_success (with_reducible show wpAny _ _ (pyIter _) _ _ _))); (((fail_if_success (with_reducible show wpAny _ _ (eval (PySem.Expr.ListComp _ _ _ _) _) _ _ _)); (fail_if_success (with_reducible show wpAny _ _ (exec (Stmt.Assign _ (PySem.Expr.ListComp _ _ _ _) _) _) _ _ _)))); walk1) | (dsimp only; ((fail_if_success (with_reducible show wpAny _ _ (exec (Stmt.For _ _ _ _ _) _) _ _ _))); ((fail_if_success (with_reducible show wpAny _ _ (pyIter _) _ _ _))); (((fail_if_success (with_reducible show wpAny _ _ (eval (PySem.Expr.ListComp _ _ _ _) _) _ _ _)); (fail_if_success (with_reducible show wpAny _ _ (exec (Stmt.Assign _ (PySem.Expr.ListComp _ _ _ _) _) _) _ _ _)))); walk1) | (leave1; walk_say "STEP leave1"; try dsimp only) | fail "no step"))
    refine hret _ ((231, tabObj ps') :: rest2) _ _ (by k_asm) (fun p hp => (by assumption : News h₀ L _ ((D, LCg.lst zs) :: nw)) p (s1 p hp)) ⟨rest2, ps', D, zs, _, rows, rfl, (((Gr.refl rest).put l2).trans g1).trans g4, ht1.mono fun p hp => g4.sub hp, o5, rfl, s2 _ (.head _), hzs, by rw [hzs.len, List.length_map, ← hrows.len]; exact hrl, hord⟩

end
-- part D3
section
open PySem PySem.W PyProof.Rows
set_option maxRecDepth 100000
set_option maxHeartbeats 0
theorem dec_top (w : World) (t p c : Int) (k1 k2 : Tok) (news : List (Addr × Obj)) (hs : Sc p t c) : Ok w news (.ref 143) [.int t k1, .int p k2] 4 40 (fun r news' => ∃ tl, news' = tl ++ news ∧ (∀ q ∈ news, ∀ p ∈ tl, p.1 ≠ q.1) ∧ IsDec w tl r p c) := by
  ((unfold Ok; k_fill; intro pr loose mean mg mb dp un gd cn cs a ccd cl outer A₀ base h₀ L m s Q E B F X N T hk hd hu hret))
  ((k_dflt (refine' call_cls ?k1 ?k2 ?k3 ?k4 ?k5 ?k6 ?_; (case k1 => k_asm); (case k2 => k_asm); (case k3 => k_asm); (case k4 => k_is); (case k5 => k_is); (case k6 => k_is); k_whole; intro x' d' h' F' N' l1 l2; (try k_lt2 l2); k_sweep; ktr_enter)))
  k_steps
  (refine hret _ _ _ _ (by k_asm) (by k_asm) ?_)
  refine ⟨[_, _], rfl, fun q hq p hp => ?_, .mk (.head _) (.tail _ (.head _)) (dec_norm hs (by assumption) (by assumption) (by assumption)) (by assumption)⟩
  rcases List.mem_cons.mp hp with rfl | hp
  · exact (Nat.ne_of_lt (Nat.lt_trans (l1 q hq) l2)).symm
  · rw [List.mem_singleton.mp hp]; exact (Nat.ne_of_lt (l1 q hq)).symm
theorem glyph_ok (w : World) (tx : Str) (t : Tok) (vx vy vw vs : Value) (news : List (Addr × Obj)) : Ok w news (.ref 211) [.str tx t, vx, vy, vw, vs] 4 40 (fun r news' => ∃ a da k1 k2 k3 k4 k5 t1, r = .ref a ∧ news' = [(a, instObj 211 da), (da, dictOf [ent w "text" k1 (.str tx t1), ent w "x" k2 vx, ent w "y" k3 vy, ent w "width" k4 vw, ent w "size" k5 vs] 5)] ++ news ∧
    (∀ q ∈ news, ∀ p ∈ [(a, instObj 211 da), (da, dictOf [ent w "text" k1 (.str tx t1), ent w "x" k2 vx, ent w "y" k3 vy, ent w "width" k4 vw, ent w "size" k5 vs] 5)], p.1 ≠ q.1)) := by
  ((unfold Ok; k_fill; intro pr loose mean mg mb dp un gd cn cs a ccd cl outer A₀ base h₀ L m s Q E B F X N T hk hd hu hret))
  ((k_dflt (refine' call_cls ?k1 ?k2 ?k3 ?k4 ?k5 ?k6 ?_; (case k1 => k_asm); (case k2 => k_asm); (case k3 => k_asm); (case k4 => k_is); (case k5 => k_is); (case k6 => k_is); k_whole; intro x' d' h' F' N' l1 l2; (try k_lt2 l2); k_sweep; ktr_enter)))
  k_steps
  (refine hret _ _ _ _ (by k_asm) (by k_asm) ?_)
  refine ⟨_, _, _, _, _, _, _, _, rfl, rfl, fun q hq p hp => ?_⟩
  rcases List.mem_cons.mp hp with rfl | hp
  · exact (Nat.ne_of_lt (Nat.lt_trans (l1 q hq) l2)).symm
  · rw [List.mem_singleton.mp hp]; exact (Nat.ne_of_lt (l1 q hq)).symm

end
-- part D4
section
open PySem PySem.W PyProof.Rows
set_option maxRecDepth 100000
set_option maxHeartbeats 0
abbrev MENU : List Str := [Str.ofString "a", Str.ofString "b ", Str.ofString " c", Str.ofString "", Str.ofString " ", Str.ofString "de"]
theorem menu_len : ∀ k : Nat, k < 6 → (MENU.getD k PySem.Str.empty).length ≤ 2 := by decide +kernel
section
variable {prog : Program} {w : World} {A : Around} {E : Value → Shared → Prop} {s : Shared} {value slice : PySem.Expr} {l : Addr} {vs : List Value} {i : Int} {u : Tok} {Q : Value → Shared → Prop}
theorem menu_item (ht : IsTup s.heap l vs.toArray) (hw : StrsAre vs MENU) (h0 : 0 ≤ i) (h1 : i < 6) (h : ∀ x t', x.length ≤ 2 → Q (.str x t') s)
    (hs : subscripted slice false (.ref l) (.int i u) = operate [.ref l, .int i u] (getItem (.ref l) (.int i u)) := by with_unfolding_all rfl) :
    wpAny (model prog w) A (subscriptTail value slice (.ref l) (.int i u)) Q E s :=
  KTb.item_tup ht hw h0 h1 (by omega) (fun t' _ => h _ t' (menu_len _ (by omega))) hs
theorem high_item (ht : IsTup s.heap l vs.toArray) (hw : IntsAre vs [-50, 0, 700]) (h0 : 0 ≤ i) (h1 : i < 3) (h : ∀ y t', (y = 700 ∨ y = 0 ∨ y = -50) → Q (.int y t') s)
    (hs : subscripted slice false (.ref l) (.int i u) = operate [.ref l, .int i u] (getItem (.ref l) (.int i u)) := by with_unfolding_all rfl) :
    wpAny (model prog w) A (subscriptTail value slice (.ref l) (.int i u)) Q E s := by
  refine item_anyT ht hw h0 h1 (by omega) (fun t' => h _ t' ?_) hs
  have : i = 0 ∨ i = 1 ∨ i = 2 := by omega
  rcases this with rfl | rfl | rfl <;> simp
end
theorem sc_up {p t : Int} (h0 : 0 ≤ p) (h1 : p < 3) : Sc p t (t * 10 ^ (2 - p).toNat) := by
  have : p = 0 ∨ p = 1 ∨ p = 2 := by omega
  rcases this with rfl | rfl | rfl <;> simp [Sc]
theorem up_small {p t : Int} (h0 : 0 ≤ p) (h1 : p < 3) (h2 : -50 ≤ t ∧ t ≤ 50) : -10000 ≤ t * 10 ^ (2 - p).toNat ∧ t * 10 ^ (2 - p).toNat ≤ 10000 := by
  have : p = 0 ∨ p = 1 ∨ p = 2 := by omega
  rcases this with rfl | rfl | rfl
  · show -10000 ≤ t * 100 ∧ t * 100 ≤ 10000
    omega
  · show -10000 ≤ t * 10 ∧ t * 10 ≤ 10000
    omega
  · show -10000 ≤ t * 1 ∧ t * 1 ≤ 10000
    omega
/-- a glyph and its plain reading -/
inductive PairAt (w : World) (led : List (Addr × Obj)) : Value → Gl → Prop
  | mk {P T : Addr} {gv : Value} {g : Gl} {t1 t2 t3 t4 t5 : Tok} : (P, tupObj #[gv, .ref T]) ∈ led → IsGl w led gv g → (T, tupObj #[.str g.text t1, .int g.x t2, .int g.y t3, .int g.wd t4, .int g.sz t5]) ∈ led → (g.y = 700 ∨ g.y = 0 ∨ g.y = -50) → PairAt w led (.ref P) g
local macro_rules | `(tactic| k_all) => `(tactic| first | assumption | (refine' List.forall_mem_cons.mpr ⟨?a, ?b⟩; (case a => k_ne); (case b => k_all)))
local macro_rules | `(tactic| k_mem) => `(tactic| first | ktr_member | exact List.Mem.head _ | (refine List.mem_cons_of_mem _ ?_; k_mem))
local macro_rules | `(tactic| walk_at "subscriptTail") => `(tactic| (k_here; (with_reducible show wpAny _ _ (subscriptTail _ _ (Value.ref 241) (Value.int _ _)) _ _ _); k_dflt (refine' menu_item ?ktbl ?ktbw ?ktb0 ?ktb1 ?_; (case ktbl => ktb_isTup); (case ktbw => repeat constructor); (case ktb0 => assumption); (case ktb1 => assumption)); intro x' t' hx'))
local macro_rules | `(tactic| walk_at "subscriptTail") => `(tactic| (k_here; (with_reducible show wpAny _ _ (subscriptTail _ _ (Value.ref 242) (Value.int _ _)) _ _ _); k_dflt (refine' high_item ?ktbl ?ktbw ?ktb0 ?ktb1 ?_; (case ktbl => ktb_isTup); (case ktbw => repeat constructor); (case ktb0 => assumption); (case ktb1 => assumption)); intro y' t' hy'))
local macro_rules | `(tactic| walk_at "binaryOp Pow int int") => `(tactic| ((with_reducible refine pow_int_small ?kb1 ?kb2 ?kb3 ?_); (case kb1 => omega); (case kb2 => omega); (case kb3 => decide)))
theorem ap_app {l1 l2 news : List (Addr × Obj)} (a1 : ∀ q ∈ news, ∀ p ∈ l1, p.1 ≠ q.1) (a2 : ∀ q ∈ l1 ++ news, ∀ p ∈ l2, p.1 ≠ q.1) : ∀ q ∈ news, ∀ p ∈ l2 ++ l1, p.1 ≠ q.1 := fun q hq p hp => by
  rcases List.mem_append.mp hp with hp | hp
  · exact a2 q (List.mem_append.mpr (.inr hq)) p hp
  · exact a1 q hq p hp
theorem glyph_end {h₀ h : Heap} {L : Addr} {q0 eT eP : Addr × Obj} {rest l1 l2 l3 l4 l5 : List (Addr × Obj)} (N : News h₀ L h (eP :: eT :: (l5 ++ (l4 ++ (l3 ++ (l2 ++ (l1 ++ q0 :: rest))))))) (a1 : ∀ q ∈ q0 :: rest, ∀ p ∈ l1, p.1 ≠ q.1) (a2 : ∀ q ∈ l1 ++ q0 :: rest, ∀ p ∈ l2, p.1 ≠ q.1)
    (a3 : ∀ q ∈ l2 ++ (l1 ++ q0 :: rest), ∀ p ∈ l3, p.1 ≠ q.1) (a4 : ∀ q ∈ l3 ++ (l2 ++ (l1 ++ q0 :: rest)), ∀ p ∈ l4, p.1 ≠ q.1) (a5 : ∀ q ∈ l4 ++ (l3 ++ (l2 ++ (l1 ++ q0 :: rest))), ∀ p ∈ l5, p.1 ≠ q.1)
    (aT : ∀ q ∈ l5 ++ (l4 ++ (l3 ++ (l2 ++ (l1 ++ q0 :: rest)))), q.1 < eT.1) (aP : ∀ q ∈ l5 ++ (l4 ++ (l3 ++ (l2 ++ (l1 ++ q0 :: rest)))), q.1 ≠ eP.1) :
    ∃ tl, News h₀ L h (q0 :: (tl ++ rest)) ∧ (∀ q ∈ rest, ∀ p ∈ tl, p.1 ≠ q.1) ∧ (∀ p ∈ tl, p.1 ≠ q0.1) ∧ eP ∈ tl ∧ eT ∈ tl ∧ (∀ p ∈ l1, p ∈ tl) ∧ (∀ p ∈ l2, p ∈ tl) ∧ (∀ p ∈ l3, p ∈ tl) ∧ (∀ p ∈ l4, p ∈ tl) ∧ ∀ p ∈ l5, p ∈ tl := by
  have ap := ap_app a1 (ap_app a2 (ap_app a3 (ap_app a4 a5)))
  have ap2 : ∀ q ∈ q0 :: rest, ∀ p ∈ eP :: eT :: ((((l5 ++ l4) ++ l3) ++ l2) ++ l1), p.1 ≠ q.1 := fun q hq p hp => by
    have hq2 : q ∈ l5 ++ (l4 ++ (l3 ++ (l2 ++ (l1 ++ q0 :: rest)))) := List.mem_append.mpr (.inr (List.mem_append.mpr (.inr (List.mem_append.mpr (.inr (List.mem_append.mpr (.inr (List.mem_append.mpr (.inr hq)))))))))
    rcases List.mem_cons.mp hp with rfl | hp
    · exact (aP q hq2).symm
    rcases List.mem_cons.mp hp with rfl | hp
    · exact (Nat.ne_of_lt (aT q hq2)).symm
    · exact ap q hq p hp
  have e : (eP :: eT :: (l5 ++ (l4 ++ (l3 ++ (l2 ++ (l1 ++ q0 :: rest)))))).Perm (q0 :: (eP :: eT :: ((((l5 ++ l4) ++ l3) ++ l2) ++ l1) ++ rest)) := by
    have := List.perm_middle (a := q0) (l₁ := eP :: eT :: ((((l5 ++ l4) ++ l3) ++ l2) ++ l1)) (l₂ := rest)
    simpa using this
  exact ⟨_, fun p hp => N p (e.mem_iff.mpr hp), fun q hq => ap2 q (.tail _ hq), ap2 _ (.head _), .head _, .tail _ (.head _), by simp +contextual, by simp +contextual, by simp +contextual, by simp +contextual, by simp +contextual⟩
theorem law_glyph_ok (w : World) (ta ca : Addr) (cvs : List Value) (cn n : Nat) (ns : List Int) (i : Int) (t : Tok) (rest : List (Addr × Obj)) (hoff : ∀ p ∈ rest, p.1 ≠ ta) (hc : (ca, listOf cvs.toArray cn) ∈ rest) (hi : IntsAre cvs ns) (h0 : 0 < ns.length) (h48 : ns.length ≤ 48) (hi0 : 0 ≤ i ∧ i ≤ 900) :
    Ok w ((ta, tapeObj ca i t n) :: rest) (.ref 256) [.ref ta] 12 120 (fun r news' => ∃ tl t', news' = (ta, tapeObj ca (i + 6) t' n) :: (tl ++ rest) ∧ (∀ q ∈ rest, ∀ p ∈ tl, p.1 ≠ q.1) ∧ (∀ p ∈ tl, p.1 ≠ ta) ∧ ∃ g, PairAt w tl r g) := by
  have d1 := fun j (hj : 0 ≤ j ∧ j ≤ 1000) tj lim k hl => draw_ok w ta ca cvs cn n ns j lim tj k rest hoff hc hi h0 h48 hj hl
  ((((unfold Ok; k_fill; intro pr loose mean mg mb dp un gd cn cs a ccd cl outer A₀ base h₀ L m s Q E B F X N T hk hd hu hret)); refine wpAny_call ?_; k_dflt ktr_enter))
  (repeat' (first | (k_unfold; (try dsimp only)) | (k_end; wrow_close) | (((fail_if_success (with_reducible show wpAny _ _ (exec (Stmt.For _ _ _ _ _) _) _ _ _))); ((fail_if_success (with_reducible show wpAny _ _ (pyIter _) _ _ _))); (((fail_if_success (with_reducible show wpAny _ _ (eval (PySem.Expr.ListComp _ _ _ _) _) _ _ _)); (fail_if_success (with_reducible show wpAny _ _ (exec (Stmt.Assign _ (PySem.Expr.ListComp _ _ _ _) _) _) _ _ _)))); walk1) | (dsimp only; ((fail_if_success (with_reducible show wpAny _ _ (exec (Stmt.For _ _ _ _ _) _) _ _ _))); ((fail_if_success (with_reducible show wpAny _ _ (pyIter _) _ _ _))); (((fail_if_success (with_reducible show wpAny _ _ (eval (PySem.Expr.ListComp _ _ _ _) _) _ _ _)); (fail_if_success (with_reducible show wpAny _ _ (exec (Stmt.Assign _ (PySem.Expr.ListComp _ _ _ _) _) _) _ _ _)))); walk1) | (leave1; walk_say "STEP leave1"; try dsimp only) | fail "no step"))
  ((k_dflt (refine' ok_use (d1 i (by omega) _ 6 _ (by decide)) ?k1 ?k2 ?k3 ?k4 ?k5 ?kK ?kd ?ku ?_; (case k1 => k_asm); (case k2 => k_asm); (case k3 => k_asm); (case k4 => k_asm); (case k5 => k_asm); (case kK => first | exact rfl | assumption); (case kd => first | exact ok_room hd rfl | ktr_room); (case ku => first | exact ok_room hu rfl | ktr_units)); intro r9 n9 h9 tk9 F9 N9 P9; (try dsimp only); (try k_fold)))
  obtain ⟨t1, rfl, z1, k1, rfl, a1, b1⟩ := P9
  (repeat' (first | (k_unfold; (try dsimp only)) | (k_end; wrow_close) | (((fail_if_success (with_reducible show wpAny _ _ (exec (Stmt.For _ _ _ _ _) _) _ _ _))); ((fail_if_success (with_reducible show wpAny _ _ (pyIter _) _ _ _))); (((fail_if_success (with_reducible show wpAny _ _ (eval (PySem.Expr.ListComp _ _ _ _) _) _ _ _)); (fail_if_success (with_reducible show wpAny _ _ (exec (Stmt.Assign _ (PySem.Expr.ListComp _ _ _ _) _) _) _ _ _)))); walk1) | (dsimp only; ((fail_if_success (with_reducible show wpAny _ _ (exec (Stmt.For _ _ _ _ _) _) _ _ _))); ((fail_if_success (with_reducible show wpAny _ _ (pyIter _) _ _ _))); (((fail_if_success (with_reducible show wpAny _ _ (eval (PySem.Expr.ListComp _ _ _ _) _) _ _ _)); (fail_if_success (with_reducible show wpAny _ _ (exec (Stmt.Assign _ (PySem.Expr.ListComp _ _ _ _) _) _) _ _ _)))); walk1) | (leave1; walk_say "STEP leave1"; try dsimp only) | fail "no step"))
  rename_i tx tt htx _ _ _
  ((k_dflt (refine' ok_use (d1 (i + 1) (by omega) _ 101 _ (by decide)) ?k1 ?k2 ?k3 ?k4 ?k5 ?kK ?kd ?ku ?_; (case k1 => k_asm); (case k2 => k_asm); (case k3 => k_asm); (case k4 => k_asm); (case k5 => k_asm); (case kK => first | exact rfl | assumption); (case kd => first | exact ok_room hd rfl | ktr_room); (case ku => first | exact ok_room hu rfl | ktr_units)); intro r9 n9 h9 tk9 F9 N9 P9; (try dsimp only); (try k_fold)))
  obtain ⟨t2, rfl, z2, k2, rfl, a2, b2⟩ := P9
  (repeat' (first | (k_unfold; (try dsimp only)) | (k_end; wrow_close) | (((fail_if_success (with_reducible show wpAny _ _ (exec (Stmt.For _ _ _ _ _) _) _ _ _))); ((fail_if_success (with_reducible show wpAny _ _ (pyIter _) _ _ _))); (((fail_if_success (with_reducible show wpAny _ _ (eval (PySem.Expr.ListComp _ _ _ _) _) _ _ _)); (fail_if_success (with_reducible show wpAny _ _ (exec (Stmt.Assign _ (PySem.Expr.ListComp _ _ _ _) _) _) _ _ _)))); walk1) | (dsimp only; ((fail_if_success (with_reducible show wpAny _ _ (exec (Stmt.For _ _ _ _ _) _) _ _ _))); ((fail_if_success (with_reducible show wpAny _ _ (pyIter _) _ _ _))); (((fail_if_success (with_reducible show wpAny _ _ (eval (PySem.Expr.ListComp _ _ _ _) _) _ _ _)); (fail_if_success (with_reducible show wpAny _ _ (exec (Stmt.Assign _ (PySem.Expr.ListComp _ _ _ _) _) _) _ _ _)))); walk1) | (leave1; walk_say "STEP leave1"; try dsimp only) | fail "no step"))
  ((k_dflt (refine' ok_use (d1 (i + 1 + 1) (by omega) _ 3 _ (by decide)) ?k1 ?k2 ?k3 ?k4 ?k5 ?kK ?kd ?ku ?_; (case k1 => k_asm); (case k2 => k_asm); (case k3 => k_asm); (case k4 => k_asm); (case k5 => k_asm); (case kK => first | exact rfl | assumption); (case kd => first | exact ok_room hd rfl | ktr_room); (case ku => first | exact ok_room hu rfl | ktr_units)); intro r9 n9 h9 tk9 F9 N9 P9; (try dsimp only); (try k_fold)))
  obtain ⟨t3, rfl, z3, k3, rfl, a3, b3⟩ := P9
  (repeat' (first | (k_unfold; (try dsimp only)) | (k_end; wrow_close) | (((fail_if_success (with_reducible show wpAny _ _ (exec (Stmt.For _ _ _ _ _) _) _ _ _))); ((fail_if_success (with_reducible show wpAny _ _ (pyIter _) _ _ _))); (((fail_if_success (with_reducible show wpAny _ _ (eval (PySem.Expr.ListComp _ _ _ _) _) _ _ _)); (fail_if_success (with_reducible show wpAny _ _ (exec (Stmt.Assign _ (PySem.Expr.ListComp _ _ _ _) _) _) _ _ _)))); walk1) | (dsimp only; ((fail_if_success (with_reducible show wpAny _ _ (exec (Stmt.For _ _ _ _ _) _) _ _ _))); ((fail_if_success (with_reducible show wpAny _ _ (pyIter _) _ _ _))); (((fail_if_success (with_reducible show wpAny _ _ (eval (PySem.Expr.ListComp _ _ _ _) _) _ _ _)); (fail_if_success (with_reducible show wpAny _ _ (exec (Stmt.Assign _ (PySem.Expr.ListComp _ _ _ _) _) _) _ _ _)))); walk1) | (leave1; walk_say "STEP leave1"; try dsimp only) | fail "no step"))
  ((k_dflt (refine' ok_use (d1 (i + 1 + 1 + 1) (by omega) _ 3 _ (by decide)) ?k1 ?k2 ?k3 ?k4 ?k5 ?kK ?kd ?ku ?_; (case k1 => k_asm); (case k2 => k_asm); (case k3 => k_asm); (case k4 => k_asm); (case k5 => k_asm); (case kK => first | exact rfl | assumption); (case kd => first | exact ok_room hd rfl | ktr_room); (case ku => first | exact ok_room hu rfl | ktr_units)); intro r9 n9 h9 tk9 F9 N9 P9; (try dsimp only); (try k_fold)))
  obtain ⟨t4, rfl, z4, k4, rfl, a4, b4⟩ := P9
  (repeat' (first | (k_unfold; (try dsimp only)) | (k_end; wrow_close) | (((fail_if_success (with_reducible show wpAny _ _ (exec (Stmt.For _ _ _ _ _) _) _ _ _))); ((fail_if_success (with_reducible show wpAny _ _ (pyIter _) _ _ _))); (((fail_if_success (with_reducible show wpAny _ _ (eval (PySem.Expr.ListComp _ _ _ _) _) _ _ _)); (fail_if_success (with_reducible show wpAny _ _ (exec (Stmt.Assign _ (PySem.Expr.ListComp _ _ _ _) _) _) _ _ _)))); walk1) | (dsimp only; ((fail_if_success (with_reducible show wpAny _ _ (exec (Stmt.For _ _ _ _ _) _) _ _ _))); ((fail_if_success (with_reducible show wpAny _ _ (pyIter _) _ _ _))); (((fail_if_success (with_reducible show wpAny _ _ (eval (PySem.Expr.ListComp _ _ _ _) _) _ _ _)); (fail_if_success (with_reducible show wpAny _ _ (exec (Stmt.Assign _ (PySem.Expr.ListComp _ _ _ _) _) _) _ _ _)))); walk1) | (leave1; walk_say "STEP leave1"; try dsimp only) | fail "no step"))
  rename_i y0 ty hy0 _ _ _
  ((k_dflt (refine' ok_use (d1 (i + 1 + 1 + 1 + 1) (by omega) _ 41 _ (by decide)) ?k1 ?k2 ?k3 ?k4 ?k5 ?kK ?kd ?ku ?_; (case k1 => k_asm); (case k2 => k_asm); (case k3 => k_asm); (case k4 => k_asm); (case k5 => k_asm); (case kK => first | exact rfl | assumption); (case kd => first | exact ok_room hd rfl | ktr_room); (case ku => first | exact ok_room hu rfl | ktr_units)); intro r9 n9 h9 tk9 F9 N9 P9; (try dsimp only); (try k_fold)))
  obtain ⟨t5, rfl, z5, k5, rfl, a5, b5⟩ := P9
  (repeat' (first | (k_unfold; (try dsimp only)) | (k_end; wrow_close) | (((fail_if_success (with_reducible show wpAny _ _ (exec (Stmt.For _ _ _ _ _) _) _ _ _))); ((fail_if_success (with_reducible show wpAny _ _ (pyIter _) _ _ _))); (((fail_if_success (with_reducible show wpAny _ _ (eval (PySem.Expr.ListComp _ _ _ _) _) _ _ _)); (fail_if_success (with_reducible show wpAny _ _ (exec (Stmt.Assign _ (PySem.Expr.ListComp _ _ _ _) _) _) _ _ _)))); walk1) | (dsimp only; ((fail_if_success (with_reducible show wpAny _ _ (exec (Stmt.For _ _ _ _ _) _) _ _ _))); ((fail_if_success (with_reducible show wpAny _ _ (pyIter _) _ _ _))); (((fail_if_success (with_reducible show wpAny _ _ (eval (PySem.Expr.ListComp _ _ _ _) _) _ _ _)); (fail_if_success (with_reducible show wpAny _ _ (exec (Stmt.Assign _ (PySem.Expr.ListComp _ _ _ _) _) _) _ _ _)))); walk1) | (leave1; walk_say "STEP leave1"; try dsimp only) | fail "no step"))
  ((k_dflt (refine' ok_use (d1 (i + 1 + 1 + 1 + 1 + 1) (by omega) _ 41 _ (by decide)) ?k1 ?k2 ?k3 ?k4 ?k5 ?kK ?kd ?ku ?_; (case k1 => k_asm); (case k2 => k_asm); (case k3 => k_asm); (case k4 => k_asm); (case k5 => k_asm); (case kK => first | exact rfl | assumption); (case kd => first | exact ok_room hd rfl | ktr_room); (case ku => first | exact ok_room hu rfl | ktr_units)); intro r9 n9 h9 tk9 F9 N9 P9; (try dsimp only); (try k_fold)))
  obtain ⟨t6, rfl, z6, k6, rfl, a6, b6⟩ := P9
  (repeat' (first | (k_unfold; (try dsimp only)) | (k_end; wrow_close) | (((fail_if_success (with_reducible show wpAny _ _ (exec (Stmt.For _ _ _ _ _) _) _ _ _))); ((fail_if_success (with_reducible show wpAny _ _ (pyIter _) _ _ _))); (((fail_if_success (with_reducible show wpAny _ _ (eval (PySem.Expr.ListComp _ _ _ _) _) _ _ _)); (fail_if_success (with_reducible show wpAny _ _ (exec (Stmt.Assign _ (PySem.Expr.ListComp _ _ _ _) _) _) _ _ _)))); walk1) | (dsimp only; ((fail_if_success (with_reducible show wpAny _ _ (exec (Stmt.For _ _ _ _ _) _) _ _ _))); ((fail_if_success (with_reducible show wpAny _ _ (pyIter _) _ _ _))); (((fail_if_success (with_reducible show wpAny _ _ (eval (PySem.Expr.ListComp _ _ _ _) _) _ _ _)); (fail_if_success (with_reducible show wpAny _ _ (exec (Stmt.Assign _ (PySem.Expr.ListComp _ _ _ _) _) _) _ _ _)))); walk1) | (leave1; walk_say "STEP leave1"; try dsimp only) | fail "no step"))
  have xs := up_small (t := z2 - 50) a3 b3 (by omega)
  have xe := sc_up (t := z2 - 50) a3 b3
  ((k_dflt (refine' ok_use (dec_top w _ _ _ _ _ _ xe) ?k1 ?k2 ?k3 ?k4 ?k5 ?kK ?kd ?ku ?_; (case k1 => k_asm); (case k2 => k_asm); (case k3 => k_asm); (case k4 => k_asm); (case k5 => k_asm); (case kK => first | exact rfl | assumption); (case kd => first | exact ok_room hd rfl | ktr_room); (case ku => first | exact ok_room hu rfl | ktr_units)); intro r9 n9 h9 tk9 F9 N9 P9; (try dsimp only); (try k_fold)))
  obtain ⟨l1, rfl, ap1, q1⟩ := P9
  (repeat' (first | (k_unfold; (try dsimp only)) | (k_end; wrow_close) | (((fail_if_success (with_reducible show wpAny _ _ (exec (Stmt.For _ _ _ _ _) _) _ _ _))); ((fail_if_success (with_reducible show wpAny _ _ (pyIter _) _ _ _))); (((fail_if_success (with_reducible show wpAny _ _ (eval (PySem.Expr.ListComp _ _ _ _) _) _ _ _)); (fail_if_success (with_reducible show wpAny _ _ (exec (Stmt.Assign _ (PySem.Expr.ListComp _ _ _ _) _) _) _ _ _)))); walk1) | (dsimp only; ((fail_if_success (with_reducible show wpAny _ _ (exec (Stmt.For _ _ _ _ _) _) _ _ _))); ((fail_if_success (with_reducible show wpAny _ _ (pyIter _) _ _ _))); (((fail_if_success (with_reducible show wpAny _ _ (eval (PySem.Expr.ListComp _ _ _ _) _) _ _ _)); (fail_if_success (with_reducible show wpAny _ _ (exec (Stmt.Assign _ (PySem.Expr.ListComp _ _ _ _) _) _) _ _ _)))); walk1) | (leave1; walk_say "STEP leave1"; try dsimp only) | fail "no step"))
  ((k_dflt (refine' ok_use (dec_top w _ _ y0 _ _ _ (.inr (.inr ⟨rfl, rfl⟩))) ?k1 ?k2 ?k3 ?k4 ?k5 ?kK ?kd ?ku ?_; (case k1 => k_asm); (case k2 => k_asm); (case k3 => k_asm); (case k4 => k_asm); (case k5 => k_asm); (case kK => first | exact rfl | assumption); (case kd => first | exact ok_room hd rfl | ktr_room); (case ku => first | exact ok_room hu rfl | ktr_units)); intro r9 n9 h9 tk9 F9 N9 P9; (try dsimp only); (try k_fold)))
  obtain ⟨l2, rfl, ap2, q2⟩ := P9
  (repeat' (first | (k_unfold; (try dsimp only)) | (k_end; wrow_close) | (((fail_if_success (with_reducible show wpAny _ _ (exec (Stmt.For _ _ _ _ _) _) _ _ _))); ((fail_if_success (with_reducible show wpAny _ _ (pyIter _) _ _ _))); (((fail_if_success (with_reducible show wpAny _ _ (eval (PySem.Expr.ListComp _ _ _ _) _) _ _ _)); (fail_if_success (with_reducible show wpAny _ _ (exec (Stmt.Assign _ (PySem.Expr.ListComp _ _ _ _) _) _) _ _ _)))); walk1) | (dsimp only; ((fail_if_success (with_reducible show wpAny _ _ (exec (Stmt.For _ _ _ _ _) _) _ _ _))); ((fail_if_success (with_reducible show wpAny _ _ (pyIter _) _ _ _))); (((fail_if_success (with_reducible show wpAny _ _ (eval (PySem.Expr.ListComp _ _ _ _) _) _ _ _)); (fail_if_success (with_reducible show wpAny _ _ (exec (Stmt.Assign _ (PySem.Expr.ListComp _ _ _ _) _) _) _ _ _)))); walk1) | (leave1; walk_say "STEP leave1"; try dsimp only) | fail "no step"))
  ((k_dflt (refine' ok_use (dec_top w _ _ ((z5 - 10) * 10) _ _ _ (.inr (.inl ⟨rfl, rfl⟩))) ?k1 ?k2 ?k3 ?k4 ?k5 ?kK ?kd ?ku ?_; (case k1 => k_asm); (case k2 => k_asm); (case k3 => k_asm); (case k4 => k_asm); (case k5 => k_asm); (case kK => first | exact rfl | assumption); (case kd => first | exact ok_room hd rfl | ktr_room); (case ku => first | exact ok_room hu rfl | ktr_units)); intro r9 n9 h9 tk9 F9 N9 P9; (try dsimp only); (try k_fold)))
  obtain ⟨l3, rfl, ap3, q3⟩ := P9
  (repeat' (first | (k_unfold; (try dsimp only)) | (k_end; wrow_close) | (((fail_if_success (with_reducible show wpAny _ _ (exec (Stmt.For _ _ _ _ _) _) _ _ _))); ((fail_if_success (with_reducible show wpAny _ _ (pyIter _) _ _ _))); (((fail_if_success (with_reducible show wpAny _ _ (eval (PySem.Expr.ListComp _ _ _ _) _) _ _ _)); (fail_if_success (with_reducible show wpAny _ _ (exec (Stmt.Assign _ (PySem.Expr.ListComp _ _ _ _) _) _) _ _ _)))); walk1) | (dsimp only; ((fail_if_success (with_reducible show wpAny _ _ (exec (Stmt.For _ _ _ _ _) _) _ _ _))); ((fail_if_success (with_reducible show wpAny _ _ (pyIter _) _ _ _))); (((fail_if_success (with_reducible show wpAny _ _ (eval (PySem.Expr.ListComp _ _ _ _) _) _ _ _)); (fail_if_success (with_reducible show wpAny _ _ (exec (Stmt.Assign _ (PySem.Expr.ListComp _ _ _ _) _) _) _ _ _)))); walk1) | (leave1; walk_say "STEP leave1"; try dsimp only) | fail "no step"))
  ((k_dflt (refine' ok_use (dec_top w _ _ ((z6 - 20) * 10) _ _ _ (.inr (.inl ⟨rfl, rfl⟩))) ?k1 ?k2 ?k3 ?k4 ?k5 ?kK ?kd ?ku ?_; (case k1 => k_asm); (case k2 => k_asm); (case k3 => k_asm); (case k4 => k_asm); (case k5 => k_asm); (case kK => first | exact rfl | assumption); (case kd => first | exact ok_room hd rfl | ktr_room); (case ku => first | exact ok_room hu rfl | ktr_units)); intro r9 n9 h9 tk9 F9 N9 P9; (try dsimp only); (try k_fold)))
  obtain ⟨l4, rfl, ap4, q4⟩ := P9
  (repeat' (first | (k_unfold; (try dsimp only)) | (k_end; wrow_close) | (((fail_if_success (with_reducible show wpAny _ _ (exec (Stmt.For _ _ _ _ _) _) _ _ _))); ((fail_if_success (with_reducible show wpAny _ _ (pyIter _) _ _ _))); (((fail_if_success (with_reducible show wpAny _ _ (eval (PySem.Expr.ListComp _ _ _ _) _) _ _ _)); (fail_if_success (with_reducible show wpAny _ _ (exec (Stmt.Assign _ (PySem.Expr.ListComp _ _ _ _) _) _) _ _ _)))); walk1) | (dsimp only; ((fail_if_success (with_reducible show wpAny _ _ (exec (Stmt.For _ _ _ _ _) _) _ _ _))); ((fail_if_success (with_reducible show wpAny _ _ (pyIter _) _ _ _))); (((fail_if_success (with_reducible show wpAny _ _ (eval (PySem.Expr.ListComp _ _ _ _) _) _ _ _)); (fail_if_success (with_reducible show wpAny _ _ (exec (Stmt.Assign _ (PySem.Expr.ListComp _ _ _ _) _) _) _ _ _)))); walk1) | (leave1; walk_say "STEP leave1"; try dsimp only) | fail "no step"))
  ((k_dflt (refine' ok_use (glyph_ok w tx _ _ _ _ _ _) ?k1 ?k2 ?k3 ?k4 ?k5 ?kK ?kd ?ku ?_; (case k1 => k_asm); (case k2 => k_asm); (case k3 => k_asm); (case k4 => k_asm); (case k5 => k_asm); (case kK => first | exact rfl | assumption); (case kd => first | exact ok_room hd rfl | ktr_room); (case ku => first | exact ok_room hu rfl | ktr_units)); intro r9 n9 h9 tk9 F9 N9 P9; (try dsimp only); (try k_fold)))
  obtain ⟨ga, gd', e1, e2, e3, e4, e5, e6, rfl, rfl, ap5⟩ := P9
  (repeat' (first | (k_unfold; (try dsimp only)) | (k_end; wrow_close) | (((fail_if_success (with_reducible show wpAny _ _ (exec (Stmt.For _ _ _ _ _) _) _ _ _))); ((fail_if_success (with_reducible show wpAny _ _ (pyIter _) _ _ _))); (((fail_if_success (with_reducible show wpAny _ _ (eval (PySem.Expr.ListComp _ _ _ _) _) _ _ _)); (fail_if_success (with_reducible show wpAny _ _ (exec (Stmt.Assign _ (PySem.Expr.ListComp _ _ _ _) _) _) _ _ _)))); walk1) | (dsimp only; ((fail_if_success (with_reducible show wpAny _ _ (exec (Stmt.For _ _ _ _ _) _) _ _ _))); ((fail_if_success (with_reducible show wpAny _ _ (pyIter _) _ _ _))); (((fail_if_success (with_reducible show wpAny _ _ (eval (PySem.Expr.ListComp _ _ _ _) _) _ _ _)); (fail_if_success (with_reducible show wpAny _ _ (exec (Stmt.Assign _ (PySem.Expr.ListComp _ _ _ _) _) _) _ _ _)))); walk1) | (leave1; walk_say "STEP leave1"; try dsimp only) | fail "no step"))
  rename_i TT _ lT PP _ _ _ lP kF9 kN9 _ _
  obtain ⟨tl, N7, z7, y7, h1, h2, u1, u2, u3, u4, u5⟩ := glyph_end kN9 ap1 ap2 ap3 ap4 ap5 lT (allLt_ne lP.2)
  have e6' : i + 1 + 1 + 1 + 1 + 1 + 1 = i + 6 := by omega
  rw [e6'] at N7
  refine hret _ _ _ _ kF9 N7 ⟨tl, t6, rfl, z7, y7, ⟨tx, (z2 - 50) * 10 ^ (2 - z3).toNat, y0, (z5 - 10) * 10, (z6 - 20) * 10⟩, .mk h1 (.mk (u5 _ (.head _)) (u5 _ (.tail _ (.head _))) ((q1.sub u1).le (by omega)) (q2.sub u2) ((q3.sub u3).le (by decide)) ((q4.sub u4).le (by decide)) ⟨by dsimp only; omega, xs, by dsimp only; omega, by dsimp only; omega, by dsimp only; omega⟩) h2 hy0⟩

end
-- part P1
section
open PySem PySem.W PyProof.Rows
set_option maxRecDepth 100000
set_option maxHeartbeats 0

/-! The plain law: rows cut out of the sorted glyphs are law's own rows. -/

/-- where law's own while comes to stand -/
def spotOf (row : List Gl) (x : Int) : Nat → Nat
  | 0 => 0
  | s + 1 => if x < (glAt row s).x then spotOf row x s else s + 1
def insG (row : List Gl) (g : Gl) : List Gl := row.take (spotOf row g.x row.length) ++ [g] ++ row.drop (spotOf row g.x row.length)
abbrev atH (h : Int) (g : Gl) : Bool := decide (g.y = h)
def rowG (h : Int) (gs : List Gl) : List Gl := ((told gs).filter (atH h)).foldl insG []
def ne (r : List Gl) : List (List Gl) := match r with
  | [] => []
  | a :: l => [a :: l]
def rowsG (gs : List Gl) : List (List Gl) := ne (rowG 700 gs) ++ (ne (rowG 0 gs) ++ ne (rowG (-50) gs))

theorem spot_le (row : List Gl) (x : Int) : ∀ k, spotOf row x k ≤ k
  | 0 => Nat.le_refl _
  | k + 1 => by
    unfold spotOf
    split
    · exact Nat.le_succ_of_le (spot_le row x k)
    · exact Nat.le_refl _
theorem spot_above (row : List Gl) (x : Int) : ∀ k i, spotOf row x k ≤ i → i < k → x < (glAt row i).x
  | 0, i, _, h => absurd h (Nat.not_lt_zero _)
  | k + 1, i, h1, h2 => by
    unfold spotOf at h1
    split at h1
    · rcases Nat.lt_succ_iff_lt_or_eq.mp h2 with h | rfl
      · exact spot_above row x k i h1 h
      · assumption
    · omega
theorem spot_below (row : List Gl) (x : Int) : ∀ k s, spotOf row x k = s + 1 → (glAt row s).x ≤ x
  | 0, s, h => by cases h
  | k + 1, s, h => by
    unfold spotOf at h
    split at h
    · exact spot_below row x k s h
    · obtain rfl : k = s := by omega
      omega
theorem glAt_get {gs : List Gl} {i : Nat} (h : i < gs.length) : glAt gs i = gs[i] := by
  unfold glAt
  rw [List.getD_eq_getElem?_getD, List.getElem?_eq_getElem h]
  rfl
abbrev LeX (a b : Gl) : Prop := a.x ≤ b.x
theorem ins_split {row : List Gl} {g : Gl} (hs : row.Pairwise LeX) : (∀ a ∈ row.take (spotOf row g.x row.length), a.x ≤ g.x) ∧ ∀ a ∈ row.drop (spotOf row g.x row.length), g.x < a.x := by
  constructor
  · intro a ha
    obtain ⟨i, hi, rfl⟩ := List.mem_iff_getElem.mp ha
    rw [List.length_take] at hi
    have h2 : spotOf row g.x row.length ≤ row.length := spot_le _ _ _
    have hi2 : i < spotOf row g.x row.length := by omega
    rw [List.getElem_take]
    obtain ⟨s, hsq⟩ : ∃ s, spotOf row g.x row.length = s + 1 := ⟨_, (Nat.succ_pred_eq_of_pos (by omega)).symm⟩
    have h3 := spot_below row g.x _ s hsq
    rw [glAt_get (by omega)] at h3
    rcases Nat.lt_or_ge i s with h4 | h4
    · exact Int.le_trans (List.pairwise_iff_getElem.mp hs i s (by omega) (by omega) h4) h3
    · obtain rfl : i = s := by omega
      exact h3
  · intro a ha
    obtain ⟨i, hi, rfl⟩ := List.mem_iff_getElem.mp ha
    rw [List.length_drop] at hi
    rw [List.getElem_drop]
    have h3 := spot_above row g.x row.length (spotOf row g.x row.length + i) (Nat.le_add_right _ _) (by omega)
    rw [glAt_get (by omega)] at h3
    exact h3
theorem ins_perm (row : List Gl) (g : Gl) : (insG row g).Perm (g :: row) := by
  unfold insG
  rw [List.append_assoc]
  refine List.perm_middle.trans (.cons _ ?_)
  show (row.take _ ++ row.drop _).Perm row
  rw [List.take_append_drop]
theorem ins_sorted {row : List Gl} {g : Gl} (hs : row.Pairwise LeX) : (insG row g).Pairwise LeX := by
  obtain ⟨h1, h2⟩ := ins_split (g := g) hs
  unfold insG
  rw [List.append_assoc, List.pairwise_append]
  refine ⟨hs.sublist (List.take_sublist _ _), ?_, fun a ha b hb => ?_⟩
  · rw [List.singleton_append, List.pairwise_cons]
    exact ⟨fun b hb => Int.le_of_lt (h2 b hb), hs.sublist (List.drop_sublist _ _)⟩
  · rw [List.singleton_append] at hb
    rcases List.mem_cons.mp hb with rfl | hb
    · exact h1 a ha
    · exact Int.le_trans (h1 a ha) (Int.le_of_lt (h2 b hb))
theorem fold_spec : ∀ (fs row : List Gl), row.Pairwise LeX → (fs.foldl insG row).Pairwise LeX ∧ (fs.foldl insG row).Perm (fs ++ row)
  | [], row, h => ⟨h, .refl _⟩
  | g :: fs, row, h => by
    rw [List.foldl_cons]
    obtain ⟨a, b⟩ := fold_spec fs _ (ins_sorted (g := g) h)
    exact ⟨a, b.trans ((List.Perm.append_left fs (ins_perm row g)).trans List.perm_middle)⟩
theorem rowG_spec (h : Int) (gs : List Gl) : (rowG h gs).Pairwise LeX ∧ (rowG h gs).Perm ((told gs).filter (atH h)) := by
  obtain ⟨a, b⟩ := fold_spec ((told gs).filter (atH h)) [] .nil
  rw [List.append_nil] at b
  exact ⟨a, b⟩

/-- the order of places: by x, then as they came -/
def Lex (ts : List Gl) (i j : Nat) : Prop := (glAt ts i).x < (glAt ts j).x ∨ ((glAt ts i).x = (glAt ts j).x ∧ i ≤ j)
abbrev atI (ts : List Gl) (h : Int) (i : Nat) : Bool := atH h (glAt ts i)
theorem stable (ts : List Gl) (h : Int) : ∀ m, m ≤ ts.length → ∃ is : List Nat, ((ts.take m).filter (atH h)).foldl insG [] = is.map (glAt ts) ∧ is.Perm ((List.range m).filter (atI ts h)) ∧ is.Pairwise (Lex ts)
  | 0, _ => ⟨[], rfl, .refl _, .nil⟩
  | m + 1, hm => by
    obtain ⟨is, e, p, q⟩ := stable ts h m (by omega)
    have e1 : ts.take (m + 1) = ts.take m ++ [glAt ts m] := by
      rw [List.take_add_one, glAt_get (by omega), List.getElem?_eq_getElem (by omega)]; rfl
    rw [e1, List.filter_append, List.foldl_append, e, List.range_succ, List.filter_append]
    by_cases hq : atH h (glAt ts m) = true
    · have e2 : [glAt ts m].filter (atH h) = [glAt ts m] := by simp [hq]
      have e3 : [m].filter (atI ts h) = [m] := by simp [atI, hq]
      rw [e2, e3, List.foldl_cons, List.foldl_nil]
      have hs : (is.map (glAt ts)).Pairwise LeX := List.pairwise_map.mpr (q.imp fun {a b} hab => by
        rcases hab with hab | hab
        · exact Int.le_of_lt hab
        · exact Int.le_of_eq hab.1)
      obtain ⟨h1, h2⟩ := ins_split (g := glAt ts m) hs
      unfold insG
      generalize spotOf (is.map (glAt ts)) (glAt ts m).x (is.map (glAt ts)).length = s at h1 h2 ⊢
      refine ⟨is.take s ++ [m] ++ is.drop s, by simp [List.map_take, List.map_drop], ?_, ?_⟩
      · rw [List.append_assoc]
        refine List.perm_middle.trans ?_
        show (m :: (is.take s ++ is.drop s)).Perm _
        rw [List.take_append_drop]
        exact (List.Perm.cons m p).trans (List.perm_append_singleton m _).symm
      · have hlt : ∀ i ∈ is, i < m := fun i hi => List.mem_range.mp (List.mem_filter.mp (p.mem_iff.mp hi)).1
        rw [← List.map_take] at h1
        rw [← List.map_drop] at h2
        have h1' : ∀ i ∈ is.take s, Lex ts i m := fun i hi => by
          have a := h1 _ (List.mem_map_of_mem hi)
          have b := hlt i (List.mem_of_mem_take hi)
          unfold Lex
          omega
        have h2' : ∀ i ∈ is.drop s, Lex ts m i := fun i hi => .inl (h2 _ (List.mem_map_of_mem hi))
        rw [List.append_assoc, List.pairwise_append, List.singleton_append, List.pairwise_cons]
        refine ⟨q.sublist (List.take_sublist _ _), ⟨h2', q.sublist (List.drop_sublist _ _)⟩, fun i hi j hj => ?_⟩
        rcases List.mem_cons.mp hj with rfl | hj
        · exact h1' i hi
        · have a := h1' i hi
          have b := h2' j hj
          have c := hlt i (List.mem_of_mem_take hi)
          have d := h1 _ (List.mem_map_of_mem hi)
          have e := h2 _ (List.mem_map_of_mem hj)
          exact .inl (by omega)
    · have e2 : [glAt ts m].filter (atH h) = [] := by simp [hq]
      have e3 : [m].filter (atI ts h) = [] := by simp [atI, hq]
      rw [e2, e3, List.append_nil]
      exact ⟨is, rfl, p, q⟩
theorem row_of_sorted {ts : List Gl} {os : List Nat} (h : Int) (hp : os.Perm (List.range ts.length)) (hs : os.Pairwise (Before ts)) :
    (os.map (glAt ts)).filter (atH h) = (ts.filter (atH h)).foldl insG [] := by
  obtain ⟨is, e, p, q⟩ := stable ts h ts.length (Nat.le_refl _)
  rw [List.take_length] at e
  rw [e, List.filter_map]
  refine congrArg _ (List.Perm.eq_of_pairwise (le := Lex ts) ?_ ?_ q ((hp.filter _).trans p.symm))
  · intro a b _ _ h1 h2
    unfold Lex at h1 h2
    omega
  · refine (hs.filter _).imp_of_mem fun {i j} hi hj hb => ?_
    have y1 : (glAt ts i).y = h := of_decide_eq_true (List.mem_filter.mp hi).2
    have y2 : (glAt ts j).y = h := of_decide_eq_true (List.mem_filter.mp hj).2
    unfold Before at hb
    unfold Lex
    omega

theorem not_at {h : Int} {g : Gl} (n : g.y ≠ h) : [g].filter (atH h) = [] :=
  List.filter_eq_nil_iff.mpr fun b hb => by rw [List.mem_singleton.mp hb]; simpa using n
theorem ne_nil : ne [] = [] := rfl
theorem ne_some {l : List Gl} (h : l ≠ []) : ne l = [l] := by
  cases l with
  | nil => exact absurd rfl h
  | cons a l => rfl
theorem filter_none {l : List Gl} {h k : Int} (a : ∀ g ∈ l, k ≤ g.y) (b : h < k) : l.filter (atH h) = [] :=
  List.filter_eq_nil_iff.mpr fun g hg => by have := a g hg; simp only [atH, decide_eq_true_eq]; omega
/-- the rows above height k -/
def above (k : Int) (l : List Gl) : List (List Gl) := if k = 700 then [] else if k = 0 then ne (l.filter (atH 700)) else ne (l.filter (atH 700)) ++ ne (l.filter (atH 0))
abbrev HighY (g : Gl) : Prop := g.y = 700 ∨ g.y = 0 ∨ g.y = -50
theorem above_snoc {k : Int} {l : List Gl} {g : Gl} (h : g.y ≤ k) (hk : k = 700 ∨ k = 0 ∨ k = -50) (hg : k = 700 ∨ g.y ≠ 700) (hg0 : k = 700 ∨ k = 0 ∨ g.y ≠ 0) : above k (l ++ [g]) = above k l := by
  unfold above
  split
  · rfl
  · have e : [g].filter (atH 700) = [] := not_at (by omega)
    rw [List.filter_append, e, List.append_nil]
    split
    · rfl
    · have e : [g].filter (atH 0) = [] := not_at (by omega)
      rw [List.filter_append, e, List.append_nil]
theorem grp_spec {L : List Gl} {d : List (List Gl)} {la : List Gl} (hg : Grp L d la) : L.Pairwise (fun a b => b.y ≤ a.y) → (∀ g ∈ L, HighY g) →
    ∃ l p, L = l ++ [p] ∧ (∀ g ∈ L, p.y ≤ g.y) ∧ la = L.filter (atH p.y) ∧ d = above p.y L := by
  induction hg with
  | one g =>
    intro _ hh
    refine ⟨[], g, rfl, fun b hb => by rw [List.mem_singleton.mp hb]; exact Int.le_refl _, by simp [atH], ?_⟩
    have := hh g (.head _)
    unfold above
    have e : ∀ h, h ≠ g.y → [g].filter (atH h) = [] := fun h hne => not_at fun e => hne e.symm
    rcases this with e1 | e1 | e1
    · rw [if_pos e1]
    · rw [if_neg (by omega), if_pos e1, e 700 (by omega)]; rfl
    · rw [if_neg (by omega), if_neg (by omega), e 700 (by omega), e 0 (by omega)]; rfl
  | @same l d la p g hg hy ih =>
    intro hs hh
    rw [List.pairwise_append] at hs
    obtain ⟨l', p', e1, e2, e3, e4⟩ := ih hs.1 fun b hb => hh b (List.mem_append.mpr (.inl hb))
    obtain ⟨rfl, rfl⟩ : l = l' ∧ p = p' := by simpa using e1
    have hgh := hh g (by simp)
    refine ⟨l ++ [p], g, rfl, fun b hb => ?_, ?_, ?_⟩
    · rcases List.mem_append.mp hb with hb | hb
      · exact hy ▸ e2 b hb
      · rw [List.mem_singleton.mp hb]; exact Int.le_refl _
    · rw [List.filter_append, e3, hy]
      congr 1
      simp [atH]
    · rw [e4, hy]
      exact (above_snoc (Int.le_refl _) hgh (by omega) (by omega)).symm
  | @new l d la p g hg hy ih =>
    intro hs hh
    rw [List.pairwise_append] at hs
    obtain ⟨l', p', e1, e2, e3, e4⟩ := ih hs.1 fun b hb => hh b (List.mem_append.mpr (.inl hb))
    obtain ⟨rfl, rfl⟩ : l = l' ∧ p = p' := by simpa using e1
    have hgh := hh g (by simp)
    have hph := hh p (by simp)
    have hlt : g.y < p.y := by
      have := hs.2.2 p (by simp) g (by simp)
      omega
    refine ⟨l ++ [p], g, rfl, fun b hb => ?_, ?_, ?_⟩
    · rcases List.mem_append.mp hb with hb | hb
      · exact Int.le_trans (Int.le_of_lt hlt) (e2 b hb)
      · rw [List.mem_singleton.mp hb]; exact Int.le_refl _
    · rw [List.filter_append, filter_none e2 hlt]
      simp [atH]
    · rw [above_snoc (Int.le_refl _) hgh (by omega) (by omega)]
      have hla : la ≠ [] := by
        rw [e3]
        exact List.ne_nil_of_mem (List.mem_filter.mpr ⟨(by simp : p ∈ l ++ [p]), by simp [atH]⟩)
      rw [e4]
      rcases hph with e | e | e
      · rw [e] at e2 e3 hlt ⊢
        have e5 : above 700 (l ++ [p]) = [] := rfl
        rw [e5, List.nil_append, e3]
        rw [e3] at hla
        rcases hgh with f | f | f
        · omega
        · rw [f]
          exact (ne_some hla).symm
        · rw [f]
          show _ = ne _ ++ ne _
          rw [ne_some hla, filter_none (h := 0) e2 (by omega)]
          rfl
      · rw [e] at e2 e3 hlt ⊢
        have f : g.y = -50 := by omega
        rw [f]
        show ne _ ++ _ = ne _ ++ ne _
        rw [e3] at hla ⊢
        rw [ne_some hla]
      · omega
theorem grp_rows {L : List Gl} {d : List (List Gl)} {la : List Gl} (hg : Grp L d la) (hs : L.Pairwise (fun a b => b.y ≤ a.y)) (hh : ∀ g ∈ L, HighY g) :
    d ++ [la] = ne (L.filter (atH 700)) ++ (ne (L.filter (atH 0)) ++ ne (L.filter (atH (-50)))) := by
  obtain ⟨l, p, e1, e2, e3, e4⟩ := grp_spec hg hs hh
  have hp : p ∈ L := by rw [e1]; simp
  have hla : la ≠ [] := by
    rw [e3]
    exact List.ne_nil_of_mem (List.mem_filter.mpr ⟨hp, by simp [atH]⟩)
  rw [e3] at hla ⊢
  rw [e4]
  rcases hh p hp with e | e | e <;> rw [e] at e2 hla ⊢
  · rw [ne_some hla, filter_none (h := 0) e2 (by omega), filter_none (h := -50) e2 (by omega)]
    rfl
  · rw [ne_some hla, filter_none (h := -50) e2 (by omega)]
    rfl
  · rw [ne_some hla, ← List.append_assoc]
    rfl
theorem told_mem {gs : List Gl} {g : Gl} (h : g ∈ told gs) : g ∈ gs := (List.mem_filter.mp h).1
theorem ordered_rows {gs : List Gl} {rows : List (List Gl)} (h : Ordered (told gs) rows) (hh : ∀ g ∈ gs, HighY g) : rows = rowsG gs := by
  cases h with
  | none e =>
    unfold rowsG rowG
    rw [e]
    rfl
  | @some os d la hp hs hg =>
    rw [grp_rows hg ?_ ?_]
    · unfold rowsG rowG
      rw [row_of_sorted 700 hp hs, row_of_sorted 0 hp hs, row_of_sorted (-50) hp hs]
    · refine List.pairwise_map.mpr (hs.imp fun {a b} hab => ?_)
      unfold Before at hab
      omega
    · intro g hgm
      obtain ⟨i, hi, rfl⟩ := List.mem_map.mp hgm
      have hi := List.mem_range.mp (hp.mem_iff.mp hi)
      rw [glAt_get hi]
      exact hh _ (told_mem (List.getElem_mem hi))
theorem told_told (gs : List Gl) : told (told gs) = told gs := by
  unfold told
  rw [List.filter_filter]
  simp
theorem rowsG_told (gs : List Gl) : rowsG (told gs) = rowsG gs := by
  unfold rowsG rowG
  rw [told_told]
/-- no two glyphs at one place -/
def Apart2 (gs : List Gl) : Prop := gs.Pairwise fun a b => ¬(a.x = b.x ∧ a.y = b.y)
theorem Apart2.eq {gs : List Gl} (h : Apart2 gs) {a b : Gl} (ha : a ∈ gs) (hb : b ∈ gs) (hx : a.x = b.x) (hy : a.y = b.y) : a = b := by
  obtain ⟨i, hi, rfl⟩ := List.mem_iff_getElem.mp ha
  obtain ⟨j, hj, rfl⟩ := List.mem_iff_getElem.mp hb
  rcases Nat.lt_trichotomy i j with h1 | rfl | h1
  · exact absurd ⟨hx, hy⟩ (List.pairwise_iff_getElem.mp h i j hi hj h1)
  · rfl
  · exact absurd ⟨hx.symm, hy.symm⟩ (List.pairwise_iff_getElem.mp h j i hj hi h1)
theorem rowG_reverse {gs : List Gl} (h : Apart2 gs) (k : Int) : rowG k gs.reverse = rowG k gs := by
  obtain ⟨a1, a2⟩ := rowG_spec k gs.reverse
  obtain ⟨b1, b2⟩ := rowG_spec k gs
  have p : (rowG k gs.reverse).Perm (rowG k gs) := a2.trans (((List.reverse_perm gs).filter _).filter _ |>.trans b2.symm)
  refine List.Perm.eq_of_pairwise (le := LeX) (fun a b ha hb h1 h2 => ?_) a1 b1 p
  have ha := List.mem_filter.mp (b2.mem_iff.mp (p.mem_iff.mp ha))
  have hb := List.mem_filter.mp (b2.mem_iff.mp hb)
  exact h.eq (told_mem ha.1) (told_mem hb.1) (Int.le_antisymm h1 h2) ((of_decide_eq_true ha.2).trans (of_decide_eq_true hb.2).symm)
theorem rowsG_reverse {gs : List Gl} (h : Apart2 gs) : rowsG gs.reverse = rowsG gs := by
  unfold rowsG
  rw [rowG_reverse h, rowG_reverse h, rowG_reverse h]

end
-- part F1
section
open PySem PySem.W PyProof.Rows
set_option maxRecDepth 100000
set_option maxHeartbeats 0
/-- the plain reading of a glyph -/
inductive TupAt (led : List (Addr × Obj)) : Value → Gl → Prop
  | mk {T : Addr} {g : Gl} {t1 t2 t3 t4 t5 : Tok} : (T, tupObj #[.str g.text t1, .int g.x t2, .int g.y t3, .int g.wd t4, .int g.sz t5]) ∈ led → g.Small → TupAt led (.ref T) g
inductive Tups (led : List (Addr × Obj)) : List Value → List Gl → Prop
  | nil : Tups led [] []
  | cons {v : Value} {g : Gl} {vs : List Value} {gs : List Gl} : TupAt led v g → Tups led vs gs → Tups led (v :: vs) (g :: gs)
theorem Tups.len {n : List (Addr × Obj)} {vs : List Value} {gs : List Gl} (h : Tups n vs gs) : vs.length = gs.length := by
  induction h with
  | nil => rfl
  | cons a _ ih => simp [ih]
theorem Tups.get {n : List (Addr × Obj)} {vs : List Value} {gs : List Gl} (h : Tups n vs gs) : ∀ i : Nat, i < vs.length → ∃ T g t1 t2 t3 t4 t5, vs[i]? = some (.ref T) ∧ gs[i]? = some g ∧ (T, tupObj #[.str g.text t1, .int g.x t2, .int g.y t3, .int g.wd t4, .int g.sz t5]) ∈ n ∧ g.Small := by
  induction h with
  | nil => intro i hi; exact absurd hi (Nat.not_lt_zero _)
  | cons a _ ih =>
    intro i hi
    match i, hi with
    | 0, _ => cases a with | mk m l => exact ⟨_, _, _, _, _, _, _, rfl, rfl, m, l⟩
    | i + 1, hi => exact ih i (Nat.lt_of_succ_lt_succ hi)
local macro_rules | `(tactic| k_all) => `(tactic| first | assumption | (refine' List.forall_mem_cons.mpr ⟨?a, ?b⟩; (case a => k_ne); (case b => k_all)))
local macro_rules | `(tactic| k_mem) => `(tactic| first | ktr_member | exact List.Mem.head _ | (refine List.mem_cons_of_mem _ ?_; k_mem))
local macro_rules | `(tactic| walk_at "binaryOp Mult int int") => `(tactic| ((with_reducible refine mul_int (hm := ?hm) ?_); (case hm => apply_assumption)))
local macro_rules | `(tactic| walk_at "execs cons") => `(tactic| (with_reducible refine wpAny_execs_cons ?_))
local macro_rules | `(tactic| walk_at "execs nil") => `(tactic| (with_reducible refine wpAny_execs_nil ?_))
local macro_rules | `(tactic| walk_at "exec If") => `(tactic| (with_reducible refine wpAny_If ?_))
/-- a name holds a text of which P says something -/
def Joined (h₀ : Heap) (L : Addr) (m : Str → Option Value) (x : Str) (P : Str → Prop) (news : List (Addr × Obj)) (s₁ : Shared) (f : Flow) (s₂ : Shared) : Prop :=
  f = .next ∧ ∃ J h' tk t', P J ∧ s₂ = { s₁ with heap := h', toks := tk } ∧ Fr h₀ L h' (fun y => if y = x then some (.str J t') else m y) ∧ News h₀ L h' news
theorem join_if {prog : Program} {w : World} {A : Around} {E : Value → Shared → Prop} {s : Shared} {h₀ : Heap} {L : Addr} {m : Str → Option Value} {news : List (Addr × Obj)} {Q : Flow → Shared → Prop} {t : Sem Flow} (x : Str) (P : Str → Prop) (F : Fr h₀ L s.heap m) (N : News h₀ L s.heap news)
    (h1 : wpAny (model prog w) A t (Joined h₀ L m x P news s) E s) (h2 : ∀ J h' tk t', P J → Fr h₀ L h' (fun y => if y = x then some (.str J t') else m y) → News h₀ L h' news → Q .next { s with heap := h', toks := tk }) : wpAny (model prog w) A t Q E s :=
  wpAny_mono h1 (fun f s' h => by
    obtain ⟨rfl, J, h', tk, t', a, rfl, b, c⟩ := h
    exact h2 J h' tk t' a b c) fun _ _ e => e
theorem joined_put {h₀ : Heap} {L : Addr} {m : Str → Option Value} {x : Str} {P : Str → Prop} {news : List (Addr × Obj)} {s₁ : Shared} {J : Str} {h' : Heap} {tk : Nat} {t' : Tok} (hP : P J) (F : Fr h₀ L h' (fun y => if y = x then some (.str J t') else m y)) (N : News h₀ L h' news) :
    Joined h₀ L m x P news s₁ .next { s₁ with heap := h', toks := tk } := ⟨rfl, J, h', tk, t', hP, rfl, F, N⟩
theorem joined_same {h₀ : Heap} {L : Addr} {m : Str → Option Value} {x : Str} {P : Str → Prop} {news : List (Addr × Obj)} {s₁ : Shared} {J : Str} {h' : Heap} {tk : Nat} {t' : Tok} (hm : m x = some (.str J t')) (hP : P J) (F : Fr h₀ L h' m) (N : News h₀ L h' news) :
    Joined h₀ L m x P news s₁ .next { s₁ with heap := h', toks := tk } := by
  have e : (fun y => if y = x then some (.str J t') else m y) = m := by
    funext y
    by_cases h : y = x
    · rw [if_pos h, h, hm]
    · rw [if_neg h]
  exact ⟨rfl, J, h', tk, t', hP, rfl, e.symm ▸ F, N⟩
theorem str_ne {tx : Str} (h : 0 < tx.length) : (tx != Str.ofString "") = true := by
  apply bne_iff_ne.mpr
  rintro rfl
  exact absurd h (by decide)
/-- text, end and share as the loop carries them -/
structure RowSt where
  tx : Str
  t1 : Tok
  en : Int
  t2 : Tok
  sh : Int
  t3 : Tok
theorem hk_three {m₀ : Str → Option Value} {x y z : Str} {v u a : Value} (h : m₀ x = some v) (k : m₀ y = some u) (l : m₀ z = some a) : ∀ p ∈ [(x, v), (y, u), (z, a)], m₀ p.1 = some p.2 := fun p hp => by
  rcases List.mem_cons.mp hp with rfl | hp
  · exact h
  · exact hk_two k l p hp
theorem row_turn_end {h₀ : Heap} {L : Addr} {m₀ b : Str → Option Value} {R : RowSt → List (Addr × Obj) → Prop} {q : Addr × Obj} {s₁ : Shared} {h' : Heap} {tk : Nat} {nx : List (Addr × Obj)} {tx : Str} {en sh : Int} {t1 t2 t3 : Tok}
    (F : Fr h₀ L h' (fun y => if y = Str.ofString "share" then some (.int sh t3) else if y = Str.ofString "end" then some (.int en t2) else if y = Str.ofString "text" then some (.str tx t1) else b y)) (N : News h₀ L h' (q :: nx)) (h2 : ∀ p ∈ nx, p.1 ≠ q.1) (hR : R ⟨tx, t1, en, t2, sh, t3⟩ nx)
    (hb : ∀ z, z ≠ Str.ofString "one" → z ≠ Str.ofString "text" → z ≠ Str.ofString "end" → z ≠ Str.ofString "share" → b z = m₀ z) :
    LpEnd h₀ L (Str.ofString "one") (fun (c : RowSt) => [(Str.ofString "text", Value.str c.tx c.t1), (Str.ofString "end", Value.int c.en c.t2), (Str.ofString "share", Value.int c.sh c.t3)]) [] m₀ R q s₁ { s₁ with heap := h', toks := tk } := by
  refine LpEnd.intro (tl := []) (nx := nx) ⟨tx, t1, en, t2, sh, t3⟩ F N (fun _ h => nomatch h) h2 hR (fun p hp => ?_) fun z h4 h5 _ => ?_
  · rcases List.mem_cons.mp hp with rfl | hp
    · rfl
    rcases List.mem_cons.mp hp with rfl | hp
    · rfl
    rw [List.mem_singleton.mp hp]
    rfl
  · have h6 : z ≠ Str.ofString "text" := h5 _ (.head _)
    have h7 : z ≠ Str.ofString "end" := h5 _ (.tail _ (.head _))
    have h8 : z ≠ Str.ofString "share" := h5 _ (.tail _ (.tail _ (.head _)))
    simp only [h6, h7, h8, if_false]
    exact hb z h4 h6 h7 h8
theorem apart_law {b g : Gl} {k en sh : Int} (h1 : en = b.x + b.wd) (h2 : sh = if b.sz < 0 then -b.sz else b.sz) : k * sh < 10 * (g.x - en) ↔ apart b g k := by
  unfold apart
  rw [← h2, h1, Int.mul_comm k sh, Int.mul_comm 10, show g.x - (b.x + b.wd) = g.x - b.x - b.wd by omega]
theorem law_row_ok (w : World) (ra : Addr) (vs : List Value) (rn : Nat) (gs : List Gl) (k : Int) (t : Tok) (news : List (Addr × Obj)) (hm : (ra, listOf vs.toArray rn) ∈ news) (hg : Tups news vs gs) (hkk : 0 ≤ k ∧ k ≤ 10) (hn : vs.length ≤ 100) (hne : ∀ g ∈ gs, 0 < g.text.length) :
    Ok w news (.ref 263) [.ref ra, .int k t] 8 80 (fun r news' => news' = news ∧ ∃ tt, r = .str (rowText k gs) tt) := by
  have hmul : ∀ z, PySem.IntMulOk k z := fun z => PySem.IntMulOk.of_left (PySem.intBits_le_64 (by omega) (by omega))
  have hmul10 : ∀ z, PySem.IntMulOk 10 z := fun z => PySem.IntMulOk.of_left (PySem.intBits_le_64 (by omega) (by omega))
  clear hkk
  ((((unfold Ok; k_fill; intro pr loose mean mg mb dp un gd cn cs a ccd cl outer A₀ base h₀ L m s Q E B F X N T hk hd hu hret)); refine wpAny_call ?_; k_dflt ktr_enter))
  (repeat' (first | (k_unfold; (try dsimp only)) | (k_end; wrow_close) | (((fail_if_success (with_reducible show wpAny _ _ (exec (Stmt.For _ _ _ _ _) _) _ _ _))); ((fail_if_success (with_reducible show wpAny _ _ (pyIter _) _ _ _))); (((fail_if_success (with_reducible show wpAny _ _ (eval (PySem.Expr.ListComp _ _ _ _) _) _ _ _)); (fail_if_success (with_reducible show wpAny _ _ (exec (Stmt.Assign _ (PySem.Expr.ListComp _ _ _ _) _) _) _ _ _)))); walk1) | (dsimp only; ((fail_if_success (with_reducible show wpAny _ _ (exec (Stmt.For _ _ _ _ _) _) _ _ _))); ((fail_if_success (with_reducible show wpAny _ _ (pyIter _) _ _ _))); (((fail_if_success (with_reducible show wpAny _ _ (eval (PySem.Expr.ListComp _ _ _ _) _) _ _ _)); (fail_if_success (with_reducible show wpAny _ _ (exec (Stmt.Assign _ (PySem.Expr.ListComp _ _ _ _) _) _) _ _ _)))); walk1) | (leave1; walk_say "STEP leave1"; try dsimp only) | fail "no step"))
  (((rename Fr _ _ _ _ => lF'); (with_unfolding_all refine' For_invVF lF' ?k1 ?k2 ?_; (case k1 => exact rfl); (case k2 => exact rfl); k_whole)))
  (repeat' (first | (k_unfold; (try dsimp only)) | (k_end; wrow_close) | (((fail_if_success (with_reducible show wpAny _ _ (exec (Stmt.For _ _ _ _ _) _) _ _ _))); ((fail_if_success (with_reducible show wpAny _ _ (pyIter _) _ _ _))); (((fail_if_success (with_reducible show wpAny _ _ (eval (PySem.Expr.ListComp _ _ _ _) _) _ _ _)); (fail_if_success (with_reducible show wpAny _ _ (exec (Stmt.Assign _ (PySem.Expr.ListComp _ _ _ _) _) _) _ _ _)))); walk1) | (dsimp only; ((fail_if_success (with_reducible show wpAny _ _ (exec (Stmt.For _ _ _ _ _) _) _ _ _))); ((fail_if_success (with_reducible show wpAny _ _ (pyIter _) _ _ _))); (((fail_if_success (with_reducible show wpAny _ _ (eval (PySem.Expr.ListComp _ _ _ _) _) _ _ _)); (fail_if_success (with_reducible show wpAny _ _ (exec (Stmt.Assign _ (PySem.Expr.ListComp _ _ _ _) _) _) _ _ _)))); walk1) | (leave1; walk_say "STEP leave1"; try dsimp only) | fail "no step"))
  refine' for_list (vs := vs) (nn := rn) (fun (c : RowSt) => [(Str.ofString "text", Value.str c.tx c.t1), (Str.ofString "end", Value.int c.en c.t2), (Str.ofString "share", Value.int c.sh c.t3)]) [] (fun i c nx => nx = news ∧ c.tx.length ≤ 9 * i ∧ c.tx = rowText k (gs.take i) ∧ ∀ j, i = j + 1 → 0 < c.tx.length ∧ ∃ b, gs[j]? = some b ∧ c.en = b.x + b.wd ∧ c.sh = if b.sz < 0 then -b.sz else b.sz) ?hh ?hl ?F ?N ?h0 ?turn ?done
  case F => k_asm
  case N => k_asm
  case hh => rfl
  case hl =>
    rintro i c nx ⟨rfl, -⟩
    exact hm
  case h0 => exact ⟨⟨Str.ofString "", _, 0, _, 0, _⟩, fun p hp => by
    rcases List.mem_cons.mp hp with rfl | hp
    · rfl
    rcases List.mem_cons.mp hp with rfl | hp
    · rfl
    rw [List.mem_singleton.mp hp]; rfl, rfl, Nat.zero_le _, rfl, fun j h => nomatch h⟩
  case turn =>
    rintro i v ⟨tx, tt, en, te, sh, ts⟩ u nx hh tkk q hi hvv ⟨rfl, h1, h2, h3⟩ hit hoff F1 N1
    obtain ⟨T, g, u1, u2, u3, u4, u5, e1, e2, hT, hsm⟩ := hg.get i hi
    have hl := hsm.len
    obtain rfl : Value.ref T = v := Option.some.inj (e1.symm.trans hvv)
    have hT : (_, _) ∈ q :: nx := .tail _ hT
    dsimp only at F1 h1 h2 h3
    show wpAny _ _ _ _ _ _
    walk1
    refine join_if (Str.ofString "text") (fun J => J ++ g.text = rowText k (gs.take (i + 1)) ∧ J.length ≤ tx.length + 1) F1 N1 ?_ fun J h' tk' t' hJ F2 N2 => ?_
    · cases i with
      | zero =>
        obtain rfl : tx = Str.ofString "" := h2
        (repeat' (first | (k_unfold; (try dsimp only)) | (k_end; wrow_close) | (((fail_if_success (with_reducible show wpAny _ _ (exec (Stmt.For _ _ _ _ _) _) _ _ _))); ((fail_if_success (with_reducible show wpAny _ _ (pyIter _) _ _ _))); (((fail_if_success (with_reducible show wpAny _ _ (eval (PySem.Expr.ListComp _ _ _ _) _) _ _ _)); (fail_if_success (with_reducible show wpAny _ _ (exec (Stmt.Assign _ (PySem.Expr.ListComp _ _ _ _) _) _) _ _ _)))); walk1) | (dsimp only; ((fail_if_success (with_reducible show wpAny _ _ (exec (Stmt.For _ _ _ _ _) _) _ _ _))); ((fail_if_success (with_reducible show wpAny _ _ (pyIter _) _ _ _))); (((fail_if_success (with_reducible show wpAny _ _ (eval (PySem.Expr.ListComp _ _ _ _) _) _ _ _)); (fail_if_success (with_reducible show wpAny _ _ (exec (Stmt.Assign _ (PySem.Expr.ListComp _ _ _ _) _) _) _ _ _)))); walk1) | (leave1; walk_say "STEP leave1"; try dsimp only) | fail "no step"))
        refine joined_same rfl ⟨?_, Nat.le_succ _⟩ (by k_asm) (by k_asm)
        rw [rowText_one k gs g e2]
      | succ j =>
        have h4 := (h3 j rfl).1
        have hne1 := str_ne h4
        have h5 := hne g (List.mem_of_getElem? e2)
        obtain ⟨b, hb, hen, hsh⟩ := (h3 j rfl).2
        have hrt := rowText_succ k gs b g j hb e2
        rw [← h2] at hrt
        have hap := apart_law (g := g) (k := k) hen hsh
        clear h2 h3
        (repeat' (first | (k_unfold; (try dsimp only)) | (k_end; wrow_close) | (((fail_if_success (with_reducible show wpAny _ _ (exec (Stmt.For _ _ _ _ _) _) _ _ _))); ((fail_if_success (with_reducible show wpAny _ _ (pyIter _) _ _ _))); (((fail_if_success (with_reducible show wpAny _ _ (eval (PySem.Expr.ListComp _ _ _ _) _) _ _ _)); (fail_if_success (with_reducible show wpAny _ _ (exec (Stmt.Assign _ (PySem.Expr.ListComp _ _ _ _) _) _) _ _ _)))); walk1) | (dsimp only; ((fail_if_success (with_reducible show wpAny _ _ (exec (Stmt.For _ _ _ _ _) _) _ _ _))); ((fail_if_success (with_reducible show wpAny _ _ (pyIter _) _ _ _))); (((fail_if_success (with_reducible show wpAny _ _ (eval (PySem.Expr.ListComp _ _ _ _) _) _ _ _)); (fail_if_success (with_reducible show wpAny _ _ (exec (Stmt.Assign _ (PySem.Expr.ListComp _ _ _ _) _) _) _ _ _)))); walk1) | (leave1; walk_say "STEP leave1"; try dsimp only) | fail "no step"))
        · refine joined_put ⟨?_, ?_⟩ (by k_asm) (by k_asm)
          · rw [hrt, joinT, if_pos ⟨by assumption, by assumption, hap.mp (by assumption)⟩]
          · exact Nat.le_of_eq (by rw [Str.length_append]; rfl)
        · refine joined_same rfl ⟨?_, Nat.le_succ _⟩ (by k_asm) (by k_asm)
          rw [hrt, joinT, if_neg (fun h => absurd (hap.mpr h.2.2) (by assumption))]
        · have hne' : (Txt.item g.text 0 != Str.ofString " ") = false := by assumption
          refine joined_same rfl ⟨?_, Nat.le_succ _⟩ (by k_asm) (by k_asm)
          rw [hrt, joinT, if_neg (fun h => absurd h.2.1 (by rw [hne']; decide))]
        · have hne' : (Txt.item tx (-1) != Str.ofString " ") = false := by assumption
          refine joined_same rfl ⟨?_, Nat.le_succ _⟩ (by k_asm) (by k_asm)
          rw [hrt, joinT, if_neg (fun h => absurd h.1 (by rw [hne']; decide))]
    · have h5 := hne g (List.mem_of_getElem? e2)
      obtain ⟨hJ1, hJ2⟩ := hJ
      clear h2 h3
      (repeat' (first | (k_unfold; (try dsimp only)) | (k_end; wrow_close) | (((fail_if_success (with_reducible show wpAny _ _ (exec (Stmt.For _ _ _ _ _) _) _ _ _))); ((fail_if_success (with_reducible show wpAny _ _ (pyIter _) _ _ _))); (((fail_if_success (with_reducible show wpAny _ _ (eval (PySem.Expr.ListComp _ _ _ _) _) _ _ _)); (fail_if_success (with_reducible show wpAny _ _ (exec (Stmt.Assign _ (PySem.Expr.ListComp _ _ _ _) _) _) _ _ _)))); walk1) | (dsimp only; ((fail_if_success (with_reducible show wpAny _ _ (exec (Stmt.For _ _ _ _ _) _) _ _ _))); ((fail_if_success (with_reducible show wpAny _ _ (pyIter _) _ _ _))); (((fail_if_success (with_reducible show wpAny _ _ (eval (PySem.Expr.ListComp _ _ _ _) _) _ _ _)); (fail_if_success (with_reducible show wpAny _ _ (exec (Stmt.Assign _ (PySem.Expr.ListComp _ _ _ _) _) _) _ _ _)))); walk1) | (leave1; walk_say "STEP leave1"; try dsimp only) | fail "no step"))
      dsimp only
      rename_i FF NN
      refine' row_turn_end ?F ?N ?o ?R ?m
      case F => exact FF
      case N => exact NN
      case o => exact hoff
      case m =>
        intro z h4 h6 h7 h8
        clear N1 N2 F1 F2 FF NN
        simp only [h4, h6, h7, h8, kstB, if_false]
        rfl
      case R =>
        have hpos : 0 < (J ++ g.text).length := by omega
        clear N1 N2 F1 F2 FF NN
        refine ⟨rfl, ?_, ?_, ?_⟩
        · dsimp only
          omega
        · exact hJ1
        · intro j hj
          have e3 : gs[j]? = some g := (show i = j from Nat.succ.inj hj) ▸ e2
          exact ⟨hpos, g, e3, rfl, rfl⟩
  case done =>
    rintro ⟨tx, tt, en, te, sh, ts⟩ u nx hh tkk ⟨rfl, h1, h2, h3⟩ F1 N1
    dsimp only at F1 h2
    rw [List.take_of_length_le (Nat.le_of_eq hg.len.symm)] at h2
    show wpAny _ _ _ _ _ _
    (repeat' (first | (k_unfold; (try dsimp only)) | (k_end; wrow_close) | (((fail_if_success (with_reducible show wpAny _ _ (exec (Stmt.For _ _ _ _ _) _) _ _ _))); ((fail_if_success (with_reducible show wpAny _ _ (pyIter _) _ _ _))); (((fail_if_success (with_reducible show wpAny _ _ (eval (PySem.Expr.ListComp _ _ _ _) _) _ _ _)); (fail_if_success (with_reducible show wpAny _ _ (exec (Stmt.Assign _ (PySem.Expr.ListComp _ _ _ _) _) _) _ _ _)))); walk1) | (dsimp only; ((fail_if_success (with_reducible show wpAny _ _ (exec (Stmt.For _ _ _ _ _) _) _ _ _))); ((fail_if_success (with_reducible show wpAny _ _ (pyIter _) _ _ _))); (((fail_if_success (with_reducible show wpAny _ _ (eval (PySem.Expr.ListComp _ _ _ _) _) _ _ _)); (fail_if_success (with_reducible show wpAny _ _ (exec (Stmt.Assign _ (PySem.Expr.ListComp _ _ _ _) _) _) _ _ _)))); walk1) | (leave1; walk_say "STEP leave1"; try dsimp only) | fail "no step"))
    (refine hret _ _ _ _ (by k_asm) (by k_asm) ?_)
    exact ⟨rfl, tt, by rw [h2]⟩

end
-- part F2
section
open PySem PySem.W PyProof.Rows
set_option maxRecDepth 100000
set_option maxHeartbeats 0
theorem Tups.sub {n n' : List (Addr × Obj)} {vs : List Value} {gs : List Gl} (h : Tups n vs gs) (l : ∀ p ∈ n, p ∈ n') : Tups n' vs gs := by
  induction h with
  | nil => exact .nil
  | cons a _ ih => exact .cons (by cases a with | mk m s => exact .mk (l _ m) s) ih
theorem Tups.app {n : List (Addr × Obj)} {vs us : List Value} {gs hs : List Gl} (h : Tups n vs gs) (k : Tups n us hs) : Tups n (vs ++ us) (gs ++ hs) := by
  induction h with
  | nil => exact k
  | cons a _ ih => exact .cons a ih
theorem Tups.take {n : List (Addr × Obj)} {vs : List Value} {gs : List Gl} (h : Tups n vs gs) : ∀ k, Tups n (vs.take k) (gs.take k) := by
  induction h with
  | nil => intro k; simp; exact .nil
  | cons a _ ih =>
    intro k
    cases k with
    | zero => exact .nil
    | succ k => exact .cons a (ih k)
theorem Tups.drop {n : List (Addr × Obj)} {vs : List Value} {gs : List Gl} (h : Tups n vs gs) : ∀ k, Tups n (vs.drop k) (gs.drop k) := by
  induction h with
  | nil => intro k; simp; exact .nil
  | cons a h ih =>
    intro k
    cases k with
    | zero => exact .cons a h
    | succ k => exact ih k
local macro_rules | `(tactic| k_all) => `(tactic| first | assumption | (refine' List.forall_mem_cons.mpr ⟨?a, ?b⟩; (case a => k_ne); (case b => k_all)))
local macro_rules | `(tactic| k_mem) => `(tactic| first | ktr_member | exact List.Mem.head _ | (refine List.mem_cons_of_mem _ ?_; k_mem))
local macro_rules | `(tactic| walk_at "execs cons") => `(tactic| (with_reducible refine wpAny_execs_cons ?_))
local macro_rules | `(tactic| walk_at "execs nil") => `(tactic| (with_reducible refine wpAny_execs_nil ?_))
local macro_rules | `(tactic| walk_at "exec If") => `(tactic| (with_reducible refine wpAny_If ?_))
local macro_rules | `(tactic| walk_at "call builtin:len") => `(tactic| (k_here; (with_reducible show wpAny _ _ (call (Value.builtin "len") [Value.ref _]) _ _ _); k_dflt (refine' len_led ?N ?m ?z ?_; (case N => k_asm); (case m => k_mem); (case z => omega); k_whole)))
theorem told_snoc {gs : List Gl} {g : Gl} {i : Nat} (h : gs[i]? = some g) : told (gs.take (i + 1)) = told (gs.take i) ++ told [g] := by
  rw [List.take_add_one, h]
  exact List.filter_append ..
theorem rowG_in {gs : List Gl} {g : Gl} {i : Nat} {k : Int} (h : gs[i]? = some g) (hy : g.y = k) (ht : (g.text != Str.ofString "") = true) : rowG k (gs.take (i + 1)) = insG (rowG k (gs.take i)) g := by
  unfold rowG
  rw [told_snoc h, List.filter_append, List.foldl_append]
  have e : (told [g]).filter (atH k) = [g] := by simp [told, ht, atH, hy]
  rw [e]
  rfl
theorem rowG_out {gs : List Gl} {g : Gl} {i : Nat} {k : Int} (h : gs[i]? = some g) (hn : g.y ≠ k ∨ (g.text != Str.ofString "") = false) : rowG k (gs.take (i + 1)) = rowG k (gs.take i) := by
  unfold rowG
  rw [told_snoc h, List.filter_append, List.foldl_append]
  have e : (told [g]).filter (atH k) = [] := by
    rcases hn with hn | hn
    · refine List.filter_eq_nil_iff.mpr fun b hb => ?_
      rw [List.mem_singleton.mp (told_mem hb)]
      simpa using hn
    · have : told [g] = [] := by simp [told, hn]
      rw [this]
      rfl
  rw [e]
  rfl
theorem news_swap {h₀ h : Heap} {L : Addr} {a b : Addr × Obj} {n : List (Addr × Obj)} (N : News h₀ L h (a :: b :: n)) : News h₀ L h (b :: a :: n) := fun p hp => N p (by
  rcases List.mem_cons.mp hp with rfl | hp
  · exact .tail _ (.head _)
  rcases List.mem_cons.mp hp with rfl | hp
  · exact .head _
  · exact .tail _ (.tail _ hp))
section
variable {prog : Program} {w : World} {A : Around} {E : Value → Shared → Prop} {Q : Flow → Shared → Prop} {s : Shared} {env : Env} {h₀ : Heap} {L : Addr}
abbrev SpotJ (mm : Str → Option Value) (news : List (Addr × Obj)) (P : Nat → Prop) (n : Nat) (m₁ : Str → Option Value) (n₁ : List (Addr × Obj)) : Prop := n₁ = news ∧ P n ∧ ∃ tt, m₁ = fun y => if y = Str.ofString "spot" then some (.int (n : Nat) tt) else mm y
theorem spot_turn {mm : Str → Option Value} {news : List (Addr × Obj)} {P : Nat → Prop} {n n' : Nat} {h' : Heap} {tk : Nat} {k : Int} {tt : Tok} {o : Option Value} (F : Fr h₀ L h' (fun y => if y = Str.ofString "spot" then some (.int k tt) else if y = Str.ofString "spot" then o else mm y)) (N : News h₀ L h' news) (hk : k = (n' : Nat)) (hn : n' < n) (hP : P n') :
    WhileStep h₀ L s (SpotJ mm news P) n .next { s with heap := h', toks := tk } := by
  have e : (fun y => if y = Str.ofString "spot" then some (.int k tt) else if y = Str.ofString "spot" then o else mm y) = fun y => if y = Str.ofString "spot" then some (.int (n' : Nat) tt) else mm y := by
    funext y
    by_cases h : y = Str.ofString "spot"
    · rw [if_pos h, if_pos h, hk]
    · rw [if_neg h, if_neg h, if_neg h]
  exact .intro (e ▸ F) N hn ⟨rfl, hP, tt, rfl⟩
theorem while_spot {test : PySem.Expr} {body : List Stmt} {pos : Pos} {mm : Str → Option Value} {news : List (Addr × Obj)} {n₀ : Nat} {t₀ : Tok} (P : Nat → Prop)
    (F : Fr h₀ L s.heap (fun y => if y = Str.ofString "spot" then some (.int (n₀ : Nat) t₀) else mm y)) (N : News h₀ L s.heap news) (hP : P n₀)
    (turn : ∀ n h₁ tk₁ tt, Fr h₀ L h₁ (fun y => if y = Str.ofString "spot" then some (.int (n : Nat) tt) else mm y) → News h₀ L h₁ news → P n →
      wpAny (model prog w) A (isTrue test env (eval test env)) (fun b s₂ => if b = true then wpAny (model prog w) A (execs body env) (WhileStep h₀ L s (SpotJ mm news P) n) E s₂ else Q .next s₂) E { s with heap := h₁, toks := tk₁ })
    (hE : PassesOwn (model prog w) A env E := by passes_own) :
    wpAny (model prog w) A (exec (.While test body [] pos) env) Q E s := by
  refine While_inv (SpotJ mm news P) F N ⟨rfl, hP, t₀, rfl⟩ ?_ hE
  rintro n m₁ n₁ h₁ tk₁ F₁ N₁ ⟨rfl, hPn, tt, rfl⟩
  exact turn n h₁ tk₁ tt F₁ N₁ hPn
end
local macro_rules | `(tactic| walk_at "subscriptTail") => `(tactic| (k_here; (with_reducible show wpAny _ _ (subscriptTail _ _ (Value.ref _) (Value.int _ _)) _ _ _); k_dflt (refine' item_led ?N ?m ?a ?b ?x ?_ ?s; (case N => k_asm); (case m => k_mem); (case a => omega); (case b => omega); (case x => assumption); (case s => with_unfolding_all rfl); k_whole)))
local macro_rules | `(tactic| walk_at "subscriptTail") => `(tactic| (k_here; (with_reducible show wpAny _ _ (subscriptTail _ (PySem.Expr.Slice none _ none _) (Value.ref _) (Value.ref _)) _ _ _); k_dflt (refine' upto_led ?F ?N ?m ?z ?k ?_; (case F => k_asm); (case N => k_asm); (case m => k_mem); (case z => omega); (case k => omega); k_whole); intro D' h' F' N' l1))
local macro_rules | `(tactic| walk_at "subscriptTail") => `(tactic| (k_here; (with_reducible show wpAny _ _ (subscriptTail _ (PySem.Expr.Slice _ none none _) (Value.ref _) (Value.ref _)) _ _ _); k_dflt (refine' from_led ?F ?N ?m ?z ?k ?_; (case F => k_asm); (case N => k_asm); (case m => k_mem); (case z => omega); (case k => omega); k_whole); intro D' h' F' N' l1))
local macro_rules | `(tactic| walk_at "binaryOp Add ref ref") => `(tactic| (k_here; k_dflt (refine' add_led ?F ?N ?m ?m2 ?z ?_; (case F => k_asm); (case N => k_asm); (case m => k_mem); (case m2 => k_mem); (case z => simp only [List.length_append, List.length_take, List.length_drop, List.length_cons, List.length_nil]; omega); k_whole); intro D' h' F' N' l1))
local macro_rules | `(tactic| walk_at "compareOp NotEq ref ref") => `(tactic| (k_here; k_dflt (refine' ne_nil_led ?N ?m ?m2 ?u ?_; (case N => k_asm); (case m => k_mem); (case m2 => k_mem); (case u => units_room); k_whole)))
/-- row under way -/
structure RwSt where
  a : Addr
  vs : List Value
theorem TupAt.sub {n n' : List (Addr × Obj)} {v : Value} {g : Gl} (h : TupAt n v g) (l : ∀ p ∈ n, p ∈ n') : TupAt n' v g := by
  cases h with | mk m s => exact .mk (l _ m) s
theorem spot_stop {row : List Gl} {g : Gl} {x : Int} {n : Nat} (e : row[n]? = some g) (h : ¬x < g.x) : spotOf row x (n + 1) = n + 1 := by
  have : glAt row n = g := by unfold glAt; rw [List.getD_eq_getElem?_getD, e]; rfl
  unfold spotOf
  rw [this, if_neg h]
theorem spot_on {row : List Gl} {g : Gl} {x : Int} {n : Nat} (e : row[n]? = some g) (h : x < g.x) : spotOf row x (n + 1) = spotOf row x n := by
  have : glAt row n = g := by unfold glAt; rw [List.getD_eq_getElem?_getD, e]; rfl
  conv => lhs; unfold spotOf
  rw [this, if_pos h]
theorem tups_ins {led : List (Addr × Obj)} {wvs : List Value} {row : List Gl} {T : Value} {g : Gl} {n : Nat} (h : Tups led wvs row) (a : TupAt led T g) (e : spotOf row g.x row.length = n) : Tups led (wvs.take n ++ [T] ++ wvs.drop n) (insG row g) := by
  unfold insG
  rw [e]
  exact ((h.take n).app (.cons a .nil)).app (h.drop n)
section
variable {h₀ h' : Heap} {L : Addr}
theorem ins_turn_end {m₀ b : Str → Option Value} {R : RwSt → List (Addr × Obj) → Prop} {q e0 e1 e2 e3 : Addr × Obj} {s₁ : Shared} {tk : Nat} {nx : List (Addr × Obj)} {D : Addr} {us : List Value}
    (F : Fr h₀ L h' (fun y => if y = Str.ofString "row" then some (.ref D) else b y)) (N : News h₀ L h' ((D, listOf us.toArray 0) :: e3 :: e2 :: e1 :: e0 :: q :: nx))
    (o4 : ∀ p ∈ e3 :: e2 :: e1 :: e0 :: q :: nx, p.1 ≠ D) (o3 : ∀ p ∈ e2 :: e1 :: e0 :: q :: nx, p.1 ≠ e3.1) (o2 : ∀ p ∈ e1 :: e0 :: q :: nx, p.1 ≠ e2.1) (o1 : ∀ p ∈ e0 :: q :: nx, p.1 ≠ e1.1) (o0 : ∀ p ∈ q :: nx, p.1 ≠ e0.1) (hoff : ∀ p ∈ nx, p.1 ≠ q.1)
    (hR : Gr nx ((D, listOf us.toArray 0) :: e3 :: e2 :: e1 :: e0 :: nx) → R ⟨D, us⟩ ((D, listOf us.toArray 0) :: e3 :: e2 :: e1 :: e0 :: nx))
    (hb : ∀ z, z ≠ Str.ofString "one" → z ≠ Str.ofString "row" → [Str.ofString "spot"].contains z = false → b z = m₀ z) :
    LpEnd h₀ L (Str.ofString "one") (fun (c : RwSt) => [(Str.ofString "row", Value.ref c.a)]) [Str.ofString "spot"] m₀ R q s₁ { s₁ with heap := h', toks := tk } := by
  have l0 : ∀ p ∈ q :: nx, p ∈ e0 :: q :: nx := fun p hp => .tail _ hp
  have l1 : ∀ p ∈ q :: nx, p ∈ e1 :: e0 :: q :: nx := fun p hp => .tail _ (l0 p hp)
  have l2 : ∀ p ∈ q :: nx, p ∈ e2 :: e1 :: e0 :: q :: nx := fun p hp => .tail _ (l1 p hp)
  have l3 : ∀ p ∈ q :: nx, p ∈ e3 :: e2 :: e1 :: e0 :: q :: nx := fun p hp => .tail _ (l2 p hp)
  have key : ∀ z ∈ q :: nx, ∀ p ∈ [(D, listOf us.toArray 0), e3, e2, e1, e0], p.1 ≠ z.1 := fun z hz p hp => by
    rcases List.mem_cons.mp hp with rfl | hp
    · exact (o4 z (l3 z hz)).symm
    rcases List.mem_cons.mp hp with rfl | hp
    · exact (o3 z (l2 z hz)).symm
    rcases List.mem_cons.mp hp with rfl | hp
    · exact (o2 z (l1 z hz)).symm
    rcases List.mem_cons.mp hp with rfl | hp
    · exact (o1 z (l0 z hz)).symm
    · rw [List.mem_singleton.mp hp]
      exact (o0 z hz).symm
  refine LpEnd.intro (tl := [(D, listOf us.toArray 0), e3, e2, e1, e0]) (nx := nx) ⟨D, us⟩ F N (fun p hp => key q (.head _) p hp) hoff (hR ⟨_, rfl, fun z hz p hp => key z (.tail _ hz) p hp⟩) (fun p hp => ?_) fun z h4 h5 h6 => ?_
  · rw [List.mem_singleton.mp hp]
    rfl
  · have h7 : z ≠ Str.ofString "row" := h5 _ (.head _)
    show (if z = Str.ofString "row" then _ else _) = _
    rw [if_neg h7]
    exact hb z h4 h7 h6
theorem rows_turn_end {m₀ m' : Str → Option Value} {R : Unit → List (Addr × Obj) → Prop} {q : Addr × Obj} {s₁ : Shared} {tk : Nat} {n9 nx : List (Addr × Obj)} (F : Fr h₀ L h' m') (N : News h₀ L h' n9) (hq : q ∈ n9) (hs : ∀ p ∈ nx, p ∈ n9) (ho : ∀ p ∈ nx, p.1 ≠ q.1) (hR : R () nx)
    (hm : ∀ z, z ≠ Str.ofString "high" → [Str.ofString "row", Str.ofString "one", Str.ofString "spot"].contains z = false → m' z = m₀ z) :
    LpEnd h₀ L (Str.ofString "high") (fun (_ : Unit) => []) [Str.ofString "row", Str.ofString "one", Str.ofString "spot"] m₀ R q s₁ { s₁ with heap := h', toks := tk } :=
  ⟨h', tk, m', n9, (), rfl, F, N, hq, ⟨nx, hs, ho, hR⟩, (fun _ h => nomatch h), fun z a _ c => hm z a c⟩
end
theorem texts_next {gs : List Gl} {k h : Int} {i : Nat} (e : ([700, 0, -50] : List Int)[i]? = some h) : (([700, 0, -50].take (i + 1)).flatMap fun h => ne (rowG h gs)).map (rowText k) = (([700, 0, -50].take i).flatMap fun h => ne (rowG h gs)).map (rowText k) ++ (ne (rowG h gs)).map (rowText k) := by
  rw [List.take_add_one, e, List.flatMap_append, List.map_append]
  simp
theorem rows_split {a q r : Addr × Obj} {rest nx : List (Addr × Obj)} (g : Gr (a :: q :: r :: rest) nx) (ha : ∀ p ∈ rest, p.1 ≠ a.1) (haq : a.1 ≠ q.1) (har : a.1 ≠ r.1) (hq : ∀ p ∈ rest, p.1 ≠ q.1) (hr : ∀ p ∈ rest, p.1 ≠ r.1) :
    ∃ K, (∀ p ∈ r :: q :: K, p ∈ nx) ∧ (∀ p ∈ nx, p ∈ r :: q :: K) ∧ Gr rest K ∧ (∀ p ∈ K, p.1 ≠ q.1) ∧ ∀ p ∈ K, p.1 ≠ r.1 := by
  obtain ⟨tl, rfl, ap⟩ := g
  have e : (tl ++ a :: q :: r :: rest).Perm (r :: q :: (tl ++ a :: rest)) := by
    have h1 : (tl ++ a :: q :: r :: rest).Perm (tl ++ r :: q :: a :: rest) := List.Perm.append_left tl (((List.Perm.swap q a _).trans ((List.Perm.swap r a rest).cons q)).trans (List.Perm.swap r q _))
    have h2 : (tl ++ r :: q :: a :: rest).Perm (r :: (tl ++ q :: a :: rest)) := List.perm_middle
    exact (h1.trans h2).trans (List.perm_middle.cons r)
  refine ⟨tl ++ a :: rest, fun p hp => e.mem_iff.mpr hp, fun p hp => e.mem_iff.mp hp, ⟨tl ++ [a], by simp, fun z hz p hp => ?_⟩, fun p hp => ?_, fun p hp => ?_⟩
  · rcases List.mem_append.mp hp with hp | hp
    · exact ap z (.tail _ (.tail _ (.tail _ hz))) p hp
    · rw [List.mem_singleton.mp hp]; exact (ha z hz).symm
  · rcases List.mem_append.mp hp with hp | hp
    · exact ap q (.tail _ (.head _)) p hp
    rcases List.mem_cons.mp hp with rfl | hp
    · exact haq
    · exact hq p hp
  · rcases List.mem_append.mp hp with hp | hp
    · exact ap r (.tail _ (.tail _ (.head _))) p hp
    rcases List.mem_cons.mp hp with rfl | hp
    · exact har
    · exact hr p hp
theorem spot_names {z : Str} (h : [Str.ofString "row", Str.ofString "one", Str.ofString "spot"].contains z = false) : z ≠ Str.ofString "row" ∧ z ≠ Str.ofString "one" ∧ z ≠ Str.ofString "spot" := by
  simpa using h
theorem law_rows_ok (w : World) (pa : Addr) (vs : List Value) (pn : Nat) (gs : List Gl) (k : Int) (t : Tok) (news : List (Addr × Obj)) (hm : (pa, listOf vs.toArray pn) ∈ news) (hg : Tups news vs gs) (hkk : 0 ≤ k ∧ k ≤ 10) (hn : vs.length ≤ 50) :
    Ok w news (.ref 270) [.ref pa, .int k t] 16 160 (fun r news' => Gr news news' ∧ ∃ ra rvs rn, r = .ref ra ∧ (ra, listOf rvs.toArray rn) ∈ news' ∧ Strs rvs ((rowsG gs).map (rowText k)) ∧ rvs.length ≤ 3) := by
  ((((unfold Ok; k_fill; intro pr loose mean mg mb dp un gd cn cs a ccd cl outer A₀ base h₀ L m s Q E B F X N T hk hd hu hret)); refine wpAny_call ?_; k_dflt ktr_enter))
  (repeat' (first | (k_unfold; (try dsimp only)) | (k_end; wrow_close) | (((fail_if_success (with_reducible show wpAny _ _ (exec (Stmt.For _ _ _ _ _) _) _ _ _))); ((fail_if_success (with_reducible show wpAny _ _ (pyIter _) _ _ _))); (((fail_if_success (with_reducible show wpAny _ _ (eval (PySem.Expr.ListComp _ _ _ _) _) _ _ _)); (fail_if_success (with_reducible show wpAny _ _ (exec (Stmt.Assign _ (PySem.Expr.ListComp _ _ _ _) _) _) _ _ _)))); walk1) | (dsimp only; ((fail_if_success (with_reducible show wpAny _ _ (exec (Stmt.For _ _ _ _ _) _) _ _ _))); ((fail_if_success (with_reducible show wpAny _ _ (pyIter _) _ _ _))); (((fail_if_success (with_reducible show wpAny _ _ (eval (PySem.Expr.ListComp _ _ _ _) _) _ _ _)); (fail_if_success (with_reducible show wpAny _ _ (exec (Stmt.Assign _ (PySem.Expr.ListComp _ _ _ _) _) _) _ _ _)))); walk1) | (leave1; walk_say "STEP leave1"; try dsimp only) | fail "no step"))
  (((rename Fr _ _ _ _ => lF'); (with_unfolding_all refine' For_invVF lF' ?k1 ?k2 ?_; (case k1 => exact rfl); (case k2 => exact rfl); k_whole)))
  (repeat' (first | (k_unfold; (try dsimp only)) | (k_end; wrow_close) | (((fail_if_success (with_reducible show wpAny _ _ (exec (Stmt.For _ _ _ _ _) _) _ _ _))); ((fail_if_success (with_reducible show wpAny _ _ (pyIter _) _ _ _))); (((fail_if_success (with_reducible show wpAny _ _ (eval (PySem.Expr.ListComp _ _ _ _) _) _ _ _)); (fail_if_success (with_reducible show wpAny _ _ (exec (Stmt.Assign _ (PySem.Expr.ListComp _ _ _ _) _) _) _ _ _)))); walk1) | (dsimp only; ((fail_if_success (with_reducible show wpAny _ _ (exec (Stmt.For _ _ _ _ _) _) _ _ _))); ((fail_if_success (with_reducible show wpAny _ _ (pyIter _) _ _ _))); (((fail_if_success (with_reducible show wpAny _ _ (eval (PySem.Expr.ListComp _ _ _ _) _) _ _ _)); (fail_if_success (with_reducible show wpAny _ _ (exec (Stmt.Assign _ (PySem.Expr.ListComp _ _ _ _) _) _) _ _ _)))); walk1) | (leave1; walk_say "STEP leave1"; try dsimp only) | fail "no step"))
  rename_i RA _ lR _ DT _ F1 N1 lD
  obtain ⟨t1, t2, t3, N1⟩ : ∃ t1 t2 t3, News _ _ _ ((DT, tupObj [Value.int 700 t1, Value.int 0 t2, Value.int (-50) t3].toArray) :: (RA, listOf #[] 0) :: news) := ⟨_, _, _, N1⟩
  refine' for_tuple (vs := [Value.int 700 t1, Value.int 0 t2, Value.int (-50) t3]) (fun (_ : Unit) => []) [Str.ofString "row", Str.ofString "one", Str.ofString "spot"] (fun i _ nx => ∃ rest rvs rn, nx = (RA, listOf rvs.toArray rn) :: rest ∧ (∀ p ∈ rest, p.1 ≠ RA) ∧ Gr ((DT, tupObj [Value.int 700 t1, Value.int 0 t2, Value.int (-50) t3].toArray) :: news) rest ∧ Strs rvs ((([700, 0, -50].take i).flatMap fun h => ne (rowG h gs)).map (rowText k)) ∧ rvs.length ≤ i) ?hh ?hl ?F ?N ?h0 ?turn ?done
  case F => exact F1
  case N => exact news_swap N1
  case hh => rfl
  case hl =>
    rintro i c nx ⟨rest, rvs, rn, rfl, -, g1, -⟩
    exact .tail _ (g1.sub (.head _))
  case h0 =>
    exact ⟨(), (fun _ h => nomatch h), _, _, _, rfl, (fun p hp => by rcases List.mem_cons.mp hp with rfl | hp; exact (Nat.ne_of_lt lD.1).symm; exact Nat.ne_of_lt (lR p hp)), Gr.refl _, .nil, Nat.le_refl _⟩
  case turn =>
    rintro i v ⟨⟩ u nx hh tkk q hi hv ⟨rest, rvs, rn, rfl, o1, g1, hS, hl⟩ hit hoff F1 N1
    obtain ⟨hgt, tg, rfl, hig⟩ : ∃ h t, v = Value.int h t ∧ ([700, 0, -50] : List Int)[i]? = some h := by
      match i, hi with
      | 0, _ => exact ⟨_, _, (Option.some.inj hv).symm, rfl⟩
      | 1, _ => exact ⟨_, _, (Option.some.inj hv).symm, rfl⟩
      | 2, _ => exact ⟨_, _, (Option.some.inj hv).symm, rfl⟩
    dsimp only at F1
    show wpAny _ _ _ _ _ _
    (repeat' (first | (k_unfold; (try dsimp only)) | (k_end; wrow_close) | (((fail_if_success (with_reducible show wpAny _ _ (exec (Stmt.For _ _ _ _ _) _) _ _ _))); ((fail_if_success (with_reducible show wpAny _ _ (pyIter _) _ _ _))); (((fail_if_success (with_reducible show wpAny _ _ (eval (PySem.Expr.ListComp _ _ _ _) _) _ _ _)); (fail_if_success (with_reducible show wpAny _ _ (exec (Stmt.Assign _ (PySem.Expr.ListComp _ _ _ _) _) _) _ _ _)))); walk1) | (dsimp only; ((fail_if_success (with_reducible show wpAny _ _ (exec (Stmt.For _ _ _ _ _) _) _ _ _))); ((fail_if_success (with_reducible show wpAny _ _ (pyIter _) _ _ _))); (((fail_if_success (with_reducible show wpAny _ _ (eval (PySem.Expr.ListComp _ _ _ _) _) _ _ _)); (fail_if_success (with_reducible show wpAny _ _ (exec (Stmt.Assign _ (PySem.Expr.ListComp _ _ _ _) _) _) _ _ _)))); walk1) | (leave1; walk_say "STEP leave1"; try dsimp only) | fail "no step"))
    (((rename Fr _ _ _ _ => lF'); (with_unfolding_all refine' For_invVF lF' ?k1 ?k2 ?_; (case k1 => exact rfl); (case k2 => exact rfl); k_whole)))
    (repeat' (first | (k_unfold; (try dsimp only)) | (k_end; wrow_close) | (((fail_if_success (with_reducible show wpAny _ _ (exec (Stmt.For _ _ _ _ _) _) _ _ _))); ((fail_if_success (with_reducible show wpAny _ _ (pyIter _) _ _ _))); (((fail_if_success (with_reducible show wpAny _ _ (eval (PySem.Expr.ListComp _ _ _ _) _) _ _ _)); (fail_if_success (with_reducible show wpAny _ _ (exec (Stmt.Assign _ (PySem.Expr.ListComp _ _ _ _) _) _) _ _ _)))); walk1) | (dsimp only; ((fail_if_success (with_reducible show wpAny _ _ (exec (Stmt.For _ _ _ _ _) _) _ _ _))); ((fail_if_success (with_reducible show wpAny _ _ (pyIter _) _ _ _))); (((fail_if_success (with_reducible show wpAny _ _ (eval (PySem.Expr.ListComp _ _ _ _) _) _ _ _)); (fail_if_success (with_reducible show wpAny _ _ (exec (Stmt.Assign _ (PySem.Expr.ListComp _ _ _ _) _) _) _ _ _)))); walk1) | (leave1; walk_say "STEP leave1"; try dsimp only) | fail "no step"))
    rename_i WA _ _ _ lW _ N2
    have hoR : ∀ p ∈ rest, p.1 ≠ RA := o1
    refine' for_list (vs := vs) (nn := pn) (fun (c : RwSt) => [(Str.ofString "row", Value.ref c.a)]) [Str.ofString "spot"] (fun i c nx => (∃ wn, (c.a, listOf c.vs.toArray wn) ∈ nx ∧ c.a ≠ RA ∧ c.a ≠ q.1) ∧ Gr ((WA, listOf #[] 0) :: q :: (RA, listOf rvs.toArray rn) :: rest) nx ∧ Tups nx c.vs (rowG hgt (gs.take i)) ∧ c.vs.length ≤ i) ?hh2 ?hl2 ?F2 ?N2 ?h02 ?turn2 ?done2
    case F2 => exact lF'
    case N2 => exact N2
    case hh2 => rfl
    case hl2 =>
      rintro i c nx ⟨-, g2, -⟩
      exact g2.sub (.tail _ (.tail _ (.tail _ (g1.sub (.tail _ hm)))))
    case h02 => exact ⟨⟨WA, []⟩, (fun p hp => by rw [List.mem_singleton.mp hp]; rfl), ⟨_, .head _, (Nat.ne_of_lt lW.2.1).symm, (Nat.ne_of_lt lW.1).symm⟩, Gr.refl _, .nil, Nat.le_refl _⟩
    case turn2 =>
      rintro j v ⟨wa, wvs⟩ u nx hh tkk q2 hj hvv ⟨⟨wn, hW, hW1, hW2⟩, g2, hTw, hlw⟩ hit2 hoff2 F3 N3
      obtain ⟨T, g, u1, u2, u3, u4, u5, e1, e2, hT, hsm⟩ := hg.get j hj
      obtain rfl : Value.ref T = v := Option.some.inj (e1.symm.trans hvv)
      have hT0 := g2.sub (.tail _ (.tail _ (.tail _ (g1.sub (.tail _ hT)))))
      have hT : (_, _) ∈ q2 :: nx := .tail _ hT0
      dsimp only at F3 hTw hW hlw
      have hWq : (_, _) ∈ q2 :: nx := .tail _ hW
      show wpAny _ _ _ _ _ _
      (repeat' (first | (k_unfold; (try dsimp only)) | (k_end; wrow_close) | (((fail_if_success (with_reducible show wpAny _ _ (exec (Stmt.While _ _ _ _) _) _ _ _))); ((fail_if_success (with_reducible show wpAny _ _ (exec (Stmt.For _ _ _ _ _) _) _ _ _))); ((fail_if_success (with_reducible show wpAny _ _ (pyIter _) _ _ _))); (((fail_if_success (with_reducible show wpAny _ _ (eval (PySem.Expr.ListComp _ _ _ _) _) _ _ _)); (fail_if_success (with_reducible show wpAny _ _ (exec (Stmt.Assign _ (PySem.Expr.ListComp _ _ _ _) _) _) _ _ _)))); walk1) | (dsimp only; ((fail_if_success (with_reducible show wpAny _ _ (exec (Stmt.While _ _ _ _) _) _ _ _))); ((fail_if_success (with_reducible show wpAny _ _ (exec (Stmt.For _ _ _ _ _) _) _ _ _))); ((fail_if_success (with_reducible show wpAny _ _ (pyIter _) _ _ _))); (((fail_if_success (with_reducible show wpAny _ _ (eval (PySem.Expr.ListComp _ _ _ _) _) _ _ _)); (fail_if_success (with_reducible show wpAny _ _ (exec (Stmt.Assign _ (PySem.Expr.ListComp _ _ _ _) _) _) _ _ _)))); walk1) | (leave1; walk_say "STEP leave1"; try dsimp only) | fail "no step"))
      · rename_i hy ht _ F5 N5
        have hlen : wvs.length = (rowG hgt (gs.take j)).length := hTw.len
        refine while_spot (fun n => n ≤ wvs.length ∧ spotOf (rowG hgt (gs.take j)) g.x n = spotOf (rowG hgt (gs.take j)) g.x wvs.length) F5 N5 ⟨Nat.le_refl _, rfl⟩ fun n h₁ tk₁ tt F6 N6 ⟨hn1, hn2⟩ => ?_
        clear F5 N5 F3 N3
        have hTn : TupAt nx (.ref T) g := .mk hT0 hsm
        have hRq := g2.sub (.tail _ (.tail _ (.head _)))
        have hqq := g2.sub (.tail _ (.head _))
        cases n with
        | zero =>
          (repeat' (first | (k_unfold; (try dsimp only)) | (k_end; wrow_close) | (((fail_if_success (with_reducible show wpAny _ _ (exec (Stmt.While _ _ _ _) _) _ _ _))); ((fail_if_success (with_reducible show wpAny _ _ (exec (Stmt.For _ _ _ _ _) _) _ _ _))); ((fail_if_success (with_reducible show wpAny _ _ (pyIter _) _ _ _))); (((fail_if_success (with_reducible show wpAny _ _ (eval (PySem.Expr.ListComp _ _ _ _) _) _ _ _)); (fail_if_success (with_reducible show wpAny _ _ (exec (Stmt.Assign _ (PySem.Expr.ListComp _ _ _ _) _) _) _ _ _)))); walk1) | (dsimp only; ((fail_if_success (with_reducible show wpAny _ _ (exec (Stmt.While _ _ _ _) _) _ _ _))); ((fail_if_success (with_reducible show wpAny _ _ (exec (Stmt.For _ _ _ _ _) _) _ _ _))); ((fail_if_success (with_reducible show wpAny _ _ (pyIter _) _ _ _))); (((fail_if_success (with_reducible show wpAny _ _ (eval (PySem.Expr.ListComp _ _ _ _) _) _ _ _)); (fail_if_success (with_reducible show wpAny _ _ (exec (Stmt.Assign _ (PySem.Expr.ListComp _ _ _ _) _) _) _ _ _)))); walk1) | (leave1; walk_say "STEP leave1"; try dsimp only) | fail "no step"))
          rename_i o0 _ _ o1 _ _ o2 _ _ o3 _ _ o4 _ F7 N7
          dsimp only
          refine ins_turn_end F7 N7 o4 o3 o2 (allLt_ne o1) (allLt_ne o0) hoff2 (fun gr => ⟨⟨0, .head _, (o4 _ (.tail _ (.tail _ (.tail _ (.tail _ (.tail _ hRq)))))).symm, (o4 _ (.tail _ (.tail _ (.tail _ (.tail _ (.tail _ hqq)))))).symm⟩, g2.trans gr, ?_, ?_⟩) ?_
          · rw [rowG_in e2 hy ht]
            exact tups_ins (n := 0) (hTw.sub fun p hp => gr.sub hp) (hTn.sub fun p hp => gr.sub hp) (by rw [← hlen, ← hn2]; rfl)
          · simp only [List.length_append, List.length_drop, List.length_cons, List.length_nil]
            omega
          · intro z h4 h7 h6
            have h8 : z ≠ Str.ofString "spot" := by simpa using h6
            simp [h4, h7, h8, kstB]
        | succ n =>
          obtain ⟨T', g', w1, w2, w3, w4, w5, e3, e4, hT', hsm'⟩ := hTw.get n hn1
          have hT' : (_, _) ∈ q2 :: nx := .tail _ hT'
          have hv2 : wvs[(((n + 1 : Nat) : Int) - 1).toNat]? = some (Value.ref T') := by
            have : (((n + 1 : Nat) : Int) - 1).toNat = n := by omega
            rw [this]; exact e3
          (repeat' (first | (k_unfold; (try dsimp only)) | (k_end; wrow_close) | (((fail_if_success (with_reducible show wpAny _ _ (exec (Stmt.While _ _ _ _) _) _ _ _))); ((fail_if_success (with_reducible show wpAny _ _ (exec (Stmt.For _ _ _ _ _) _) _ _ _))); ((fail_if_success (with_reducible show wpAny _ _ (pyIter _) _ _ _))); (((fail_if_success (with_reducible show wpAny _ _ (eval (PySem.Expr.ListComp _ _ _ _) _) _ _ _)); (fail_if_success (with_reducible show wpAny _ _ (exec (Stmt.Assign _ (PySem.Expr.ListComp _ _ _ _) _) _) _ _ _)))); walk1) | (dsimp only; ((fail_if_success (with_reducible show wpAny _ _ (exec (Stmt.While _ _ _ _) _) _ _ _))); ((fail_if_success (with_reducible show wpAny _ _ (exec (Stmt.For _ _ _ _ _) _) _ _ _))); ((fail_if_success (with_reducible show wpAny _ _ (pyIter _) _ _ _))); (((fail_if_success (with_reducible show wpAny _ _ (eval (PySem.Expr.ListComp _ _ _ _) _) _ _ _)); (fail_if_success (with_reducible show wpAny _ _ (exec (Stmt.Assign _ (PySem.Expr.ListComp _ _ _ _) _) _) _ _ _)))); walk1) | (leave1; walk_say "STEP leave1"; try dsimp only) | fail "no step"))
          · rename_i hlt _ F7 N7
            dsimp only
            exact spot_turn F7 N7 (by omega) (Nat.lt_succ_self n) ⟨Nat.le_of_succ_le hn1, (spot_on e4 hlt).symm.trans hn2⟩
          · rename_i hlt _ _ o0 _ _ o1 _ _ o2 _ _ o3 _ _ o4 _ F7 N7
            dsimp only
            refine ins_turn_end F7 N7 o4 o3 o2 (allLt_ne o1) o0 hoff2 (fun gr => ⟨⟨0, .head _, (o4 _ (.tail _ (.tail _ (.tail _ (.tail _ (.tail _ hRq)))))).symm, (o4 _ (.tail _ (.tail _ (.tail _ (.tail _ (.tail _ hqq)))))).symm⟩, g2.trans gr, ?_, ?_⟩) ?_
            · rw [rowG_in e2 hy ht]
              exact tups_ins (hTw.sub fun p hp => gr.sub hp) (hTn.sub fun p hp => gr.sub hp) (by rw [← hlen, ← hn2]; exact spot_stop e4 hlt)
            · simp only [List.length_append, List.length_take, List.length_drop, List.length_cons, List.length_nil]
              omega
            · intro z h4 h7 h6
              have h8 : z ≠ Str.ofString "spot" := by simpa using h6
              simp [h4, h7, h8, kstB]
      · dsimp only
        refine LpEnd.intro (tl := []) (nx := nx) ⟨wa, wvs⟩ F3 N3 (fun _ h => nomatch h) hoff2 ⟨⟨wn, hW, hW1, hW2⟩, g2, ?_, Nat.le_succ_of_le hlw⟩ (fun p hp => by rw [List.mem_singleton.mp hp]; rfl) fun z h4 h5 h6 => ?_
        · rw [rowG_out e2 (.inr (by assumption))]
          exact hTw
        · have h7 : z ≠ Str.ofString "row" := h5 _ (.head _)
          have h8 : z ≠ Str.ofString "spot" := by simpa using h6
          simp [h4, h7, h8, kstB]
      · dsimp only
        refine LpEnd.intro (tl := []) (nx := nx) ⟨wa, wvs⟩ F3 N3 (fun _ h => nomatch h) hoff2 ⟨⟨wn, hW, hW1, hW2⟩, g2, ?_, Nat.le_succ_of_le hlw⟩ (fun p hp => by rw [List.mem_singleton.mp hp]; rfl) fun z h4 h5 h6 => ?_
        · rw [rowG_out e2 (.inl (by assumption))]
          exact hTw
        · have h7 : z ≠ Str.ofString "row" := h5 _ (.head _)
          have h8 : z ≠ Str.ofString "spot" := by simpa using h6
          simp [h4, h7, h8, kstB]
    case done2 =>
      rintro ⟨wa, wvs⟩ u nx hh tkk ⟨⟨wn, hW, hW1, hW2⟩, g2, hTw, hlw⟩ F3 N3
      dsimp only at F3 hTw hW hlw
      rw [List.take_of_length_le (Nat.le_of_eq hg.len.symm)] at hTw
      obtain ⟨K, s1, s2, gK, kq, kr⟩ := rows_split g2 (fun p hp => allLt_ne lW.2.2 p hp) (Nat.ne_of_lt lW.1).symm (Nat.ne_of_lt lW.2.1).symm (fun p hp => hoff p (.tail _ hp)) o1
      have N4 : News _ _ _ ((RA, listOf rvs.toArray rn) :: q :: K) := fun p hp => N3 p (s1 p hp)
      have hWK : (wa, listOf wvs.toArray wn) ∈ K := by
        rcases List.mem_cons.mp (s2 _ hW) with e | h
        · exact absurd (congrArg Prod.fst e) hW1
        rcases List.mem_cons.mp h with e | h
        · exact absurd (congrArg Prod.fst e) hW2
        · exact h
      have hTw : Tups ((RA, listOf rvs.toArray rn) :: q :: K) wvs (rowG hgt gs) := hTw.sub s2
      have g3 := g1.trans gK
      have hq0 : q.1 ≠ RA := (hoff _ (.head _)).symm
      have hz3 : rvs.length ≤ 3 := Nat.le_trans hl (Nat.le_of_lt hi)
      have hsz : rvs.toArray.size ≤ sizeLine := by rw [List.size_toArray, sizeLine_eq]; omega
      clear N3 hW g2 s1 s2 gK N2 lF' hm hg lW
      have hWq : (_, _) ∈ (RA, listOf rvs.toArray rn) :: q :: K := .tail _ (.tail _ hWK)
      show wpAny _ _ _ _ _ _
      (repeat' (first | (k_unfold; (try dsimp only)) | (k_end; wrow_close) | (((fail_if_success (with_reducible show wpAny _ _ (exec (Stmt.For _ _ _ _ _) _) _ _ _))); ((fail_if_success (with_reducible show wpAny _ _ (pyIter _) _ _ _))); (((fail_if_success (with_reducible show wpAny _ _ (eval (PySem.Expr.ListComp _ _ _ _) _) _ _ _)); (fail_if_success (with_reducible show wpAny _ _ (exec (Stmt.Assign _ (PySem.Expr.ListComp _ _ _ _) _) _) _ _ _)))); walk1) | (dsimp only; ((fail_if_success (with_reducible show wpAny _ _ (exec (Stmt.For _ _ _ _ _) _) _ _ _))); ((fail_if_success (with_reducible show wpAny _ _ (pyIter _) _ _ _))); (((fail_if_success (with_reducible show wpAny _ _ (eval (PySem.Expr.ListComp _ _ _ _) _) _ _ _)); (fail_if_success (with_reducible show wpAny _ _ (exec (Stmt.Assign _ (PySem.Expr.ListComp _ _ _ _) _) _) _ _ _)))); walk1) | (leave1; walk_say "STEP leave1"; try dsimp only) | fail "no step"))
      · rename_i F6 N6 _ he
        have hw0 : wvs = [] := List.isEmpty_iff.mp he
        subst hw0
        have hr0 : rowG hgt gs = [] := List.eq_nil_of_length_eq_zero hTw.len.symm
        dsimp only
        refine rows_turn_end (nx := (RA, listOf rvs.toArray rn) :: K) F6 N6 (.tail _ (.tail _ (.head _))) (fun p hp => ?_) (fun p hp => ?_) ⟨K, rvs, rn, rfl, kr, g3, ?_, Nat.le_succ_of_le hl⟩ ?_
        · rcases List.mem_cons.mp hp with rfl | hp
          · exact .tail _ (.head _)
          · exact .tail _ (.tail _ (.tail _ hp))
        · rcases List.mem_cons.mp hp with rfl | hp
          · exact hoff _ (.head _)
          · exact kq p hp
        · rw [texts_next hig, hr0]
          simpa [ne] using hS
        · intro z h4 h5
          obtain ⟨h6, h7, h8⟩ := spot_names h5
          simp [h4, h6, h7, h8, kstB]
      · rename_i la _ F6 N6 _ he
        have hw0 : wvs ≠ [] := fun e => by rw [e] at he; cases he
        have hr0 : rowG hgt gs ≠ [] := fun e => hw0 (List.eq_nil_of_length_eq_zero (by rw [hTw.len, e]; rfl))
        ((k_dflt (refine' ok_use (law_row_ok w wa wvs wn (rowG hgt gs) k t ((la, listOf #[] 0) :: (RA, listOf rvs.toArray rn) :: q :: K) (.tail _ (.tail _ (.tail _ hWK))) (hTw.sub fun p hp => .tail _ hp) hkk (by omega) (fun g hg => told_len (List.mem_filter.mp ((rowG_spec hgt gs).2.mem_iff.mp hg)).1)) ?k1 ?k2 ?k3 ?k4 ?k5 ?kK ?kd ?ku ?_; (case k1 => k_asm); (case k2 => k_asm); (case k3 => k_asm); (case k4 => k_asm); (case k5 => k_asm); (case kK => first | exact rfl | assumption); (case kd => first | exact ok_room hd rfl | ktr_room); (case ku => first | exact ok_room hu rfl | ktr_units)); intro r9 n9 h9 tk9 F9 N9 P9; (try dsimp only); (try k_fold)))
        obtain ⟨rfl, tt, rfl⟩ := P9
        (repeat' (first | (k_unfold; (try dsimp only)) | (k_end; wrow_close) | (((fail_if_success (with_reducible show wpAny _ _ (exec (Stmt.For _ _ _ _ _) _) _ _ _))); ((fail_if_success (with_reducible show wpAny _ _ (pyIter _) _ _ _))); (((fail_if_success (with_reducible show wpAny _ _ (eval (PySem.Expr.ListComp _ _ _ _) _) _ _ _)); (fail_if_success (with_reducible show wpAny _ _ (exec (Stmt.Assign _ (PySem.Expr.ListComp _ _ _ _) _) _) _ _ _)))); walk1) | (dsimp only; ((fail_if_success (with_reducible show wpAny _ _ (exec (Stmt.For _ _ _ _ _) _) _ _ _))); ((fail_if_success (with_reducible show wpAny _ _ (pyIter _) _ _ _))); (((fail_if_success (with_reducible show wpAny _ _ (eval (PySem.Expr.ListComp _ _ _ _) _) _ _ _)); (fail_if_success (with_reducible show wpAny _ _ (exec (Stmt.Assign _ (PySem.Expr.ListComp _ _ _ _) _) _) _ _ _)))); walk1) | (leave1; walk_say "STEP leave1"; try dsimp only) | fail "no step"))
        rename_i F7 N7
        have e7 : rvs.toArray.push (Value.str (rowText k (rowG hgt gs)) tt) = (rvs ++ [Value.str (rowText k (rowG hgt gs)) tt]).toArray := by simp
        rw [e7] at N7
        dsimp only
        refine rows_turn_end (nx := (RA, listOf (rvs ++ [Value.str (rowText k (rowG hgt gs)) tt]).toArray (rn + 1)) :: K) F7 N7 (.tail _ (.tail _ (.head _))) (fun p hp => ?_) (fun p hp => ?_) ⟨K, _, _, rfl, kr, g3, ?_, ?_⟩ ?_
        · rcases List.mem_cons.mp hp with rfl | hp
          · exact .tail _ (.head _)
          · exact .tail _ (.tail _ (.tail _ hp))
        · rcases List.mem_cons.mp hp with rfl | hp
          · exact hq0.symm
          · exact kq p hp
        · rw [texts_next hig, ne_some hr0]
          exact hS.snoc
        · rw [List.length_append, List.length_singleton]
          exact Nat.succ_le_succ hl
        · intro z h4 h5
          obtain ⟨h6, h7, h8⟩ := spot_names h5
          simp [h4, h6, h7, h8, kstB]
  case done =>
    rintro ⟨⟩ u nx hh tkk ⟨rest, rvs, rn, rfl, o1, g1, hS, hl⟩ F1 N1
    dsimp only at F1
    show wpAny _ _ _ _ _ _
    (repeat' (first | (k_unfold; (try dsimp only)) | (k_end; wrow_close) | (((fail_if_success (with_reducible show wpAny _ _ (exec (Stmt.For _ _ _ _ _) _) _ _ _))); ((fail_if_success (with_reducible show wpAny _ _ (pyIter _) _ _ _))); (((fail_if_success (with_reducible show wpAny _ _ (eval (PySem.Expr.ListComp _ _ _ _) _) _ _ _)); (fail_if_success (with_reducible show wpAny _ _ (exec (Stmt.Assign _ (PySem.Expr.ListComp _ _ _ _) _) _) _ _ _)))); walk1) | (dsimp only; ((fail_if_success (with_reducible show wpAny _ _ (exec (Stmt.For _ _ _ _ _) _) _ _ _))); ((fail_if_success (with_reducible show wpAny _ _ (pyIter _) _ _ _))); (((fail_if_success (with_reducible show wpAny _ _ (eval (PySem.Expr.ListComp _ _ _ _) _) _ _ _)); (fail_if_success (with_reducible show wpAny _ _ (exec (Stmt.Assign _ (PySem.Expr.ListComp _ _ _ _) _) _) _ _ _)))); walk1) | (leave1; walk_say "STEP leave1"; try dsimp only) | fail "no step"))
    have g0 : Gr news ((RA, listOf rvs.toArray rn) :: rest) := (((Gr.refl news).put (allLt_ne lD.2)).trans g1).put o1
    exact hret _ _ _ _ (by k_asm) (by k_asm) ⟨g0, RA, rvs, rn, rfl, .head _, by simpa [rowsG] using hS, hl⟩

end
-- part T1
section
open PySem PySem.SetTable
set_option maxRecDepth 100000

/-! A set's table, searched and filled: plain facts. -/
abbrev tb (M : Nat) : SetTable := { mask := M, place := #[], dummies := #[], finger := 0, led := false, moves := 0, plain := false }
def advN (M : Nat) : Nat → Probe → Probe
  | 0, p => p
  | n + 1, p => (tb M).advance (advN M n p)
abbrev start0 (M : Nat) (h : Int) : Probe := (tb M).probeStart h
/-- the n-th slot that a search for h looks at -/
def sig (M : Nat) (h : Int) (n : Nat) : Nat := (advN M n (start0 M h)).j
theorem advance_mask (t : SetTable) (p : Probe) : t.advance p = (tb t.mask).advance p := rfl
theorem start_mask (t : SetTable) (h : Int) : t.probeStart h = start0 t.mask h := rfl
theorem advN_add (M : Nat) (a : Nat) (p : Probe) : ∀ b, advN M (a + b) p = advN M b (advN M a p)
  | 0 => rfl
  | b + 1 => by
    show (tb M).advance (advN M (a + b) p) = (tb M).advance (advN M b (advN M a p))
    rw [advN_add M a p b]
theorem adv_dummy (M : Nat) (p : Probe) : ((tb M).advance p).dummy = p.dummy := by
  unfold advance
  split <;> rfl
theorem advN_dummy (M : Nat) (h : Int) : ∀ n, (advN M n (start0 M h)).dummy = none
  | 0 => rfl
  | n + 1 => (adv_dummy M _).trans (advN_dummy M h n)
abbrev at0 (M i pt : Nat) : Probe := { j := i, more := runEnd M i - i, i, perturb := pt, dummy := none }
theorem run_adv (M i pt : Nat) : ∀ k, k ≤ runEnd M i - i → advN M k (at0 M i pt) = { j := i + k, more := runEnd M i - i - k, i, perturb := pt, dummy := none }
  | 0, _ => rfl
  | k + 1, hk => by
    show (tb M).advance (advN M k (at0 M i pt)) = _
    rw [run_adv M i pt k (by omega)]
    unfold advance
    rw [if_pos (by show runEnd M i - i - k > 0; omega)]
    simp only [Probe.mk.injEq, and_true, true_and]
    omega
theorem leap_adv (M i pt : Nat) : advN M (runEnd M i - i + 1) (at0 M i pt) = at0 M (leap M i pt).1 (leap M i pt).2 := by
  show (tb M).advance (advN M _ (at0 M i pt)) = _
  rw [run_adv M i pt _ (Nat.le_refl _)]
  unfold advance
  rw [if_neg (by show ¬(runEnd M i - i - (runEnd M i - i) > 0); omega)]
def lp (M : Nat) (h : Int) : Nat → Nat × Nat
  | 0 => (bits h % (M + 1), bits h)
  | m + 1 => leap M (lp M h m).1 (lp M h m).2
def pos (M : Nat) (h : Int) : Nat → Nat
  | 0 => 0
  | m + 1 => pos M h m + (runEnd M (lp M h m).1 - (lp M h m).1 + 1)
theorem pos_adv (M : Nat) (h : Int) : ∀ m, advN M (pos M h m) (start0 M h) = at0 M (lp M h m).1 (lp M h m).2
  | 0 => rfl
  | m + 1 => by
    show advN M (pos M h m + _) _ = _
    rw [advN_add, pos_adv M h m, leap_adv]
    rfl
theorem run_le (M i : Nat) : runEnd M i - i ≤ 9 := by
  unfold runEnd
  split <;> omega
theorem pos_le (M : Nat) (h : Int) : ∀ m, pos M h m ≤ 10 * m
  | 0 => Nat.le_refl _
  | m + 1 => by
    have := pos_le M h m
    have := run_le M (lp M h m).1
    show pos M h m + _ ≤ _
    omega
theorem pos_mono (M : Nat) (h : Int) {m n : Nat} (hn : m < n) : pos M h m < pos M h n := by
  induction n with
  | zero => exact absurd hn (Nat.not_lt_zero _)
  | succ n ih =>
    show _ < pos M h n + _
    rcases Nat.lt_succ_iff_lt_or_eq.mp hn with h1 | rfl
    · have := ih h1
      omega
    · omega
theorem sig_run (M : Nat) (h : Int) (m k : Nat) (hk : k ≤ runEnd M (lp M h m).1 - (lp M h m).1) : sig M h (pos M h m + k) = (lp M h m).1 + k := by
  unfold sig
  rw [advN_add, pos_adv, run_adv _ _ _ _ hk]
theorem lp_perturb (M : Nat) (h : Int) : ∀ m, (lp M h m).2 = bits h / 32 ^ m
  | 0 => by simp [lp]
  | m + 1 => by
    show (lp M h m).2 / 32 = _
    rw [lp_perturb M h m, Nat.div_div_eq_div_mul, Nat.pow_succ]
theorem bits_lt (h : Int) : bits h < 2 ^ 64 := by
  unfold bits
  have := Int.emod_lt_of_pos h (show (0 : Int) < 2 ^ 64 by decide)
  have := Int.emod_nonneg h (show (2 ^ 64 : Int) ≠ 0 by decide)
  omega
def itr (M : Nat) : Nat → Nat → Nat
  | 0, i => i
  | k + 1, i => (itr M k i * 5 + 1) % (M + 1)
theorem lp_late (M : Nat) (h : Int) : ∀ k, (lp M h (13 + k)).1 = itr M k (lp M h 13).1
  | 0 => rfl
  | k + 1 => by
    show ((lp M h (13 + k)).1 * 5 + 1 + (lp M h (13 + k)).2 / 32) % (M + 1) = _
    have e : (lp M h (13 + k)).2 / 32 = 0 := by
      rw [lp_perturb, Nat.div_div_eq_div_mul, ← Nat.pow_succ]
      refine Nat.div_eq_of_lt (Nat.lt_of_lt_of_le (bits_lt h) ?_)
      calc 2 ^ 64 ≤ 32 ^ 13 := by decide
        _ ≤ 32 ^ (13 + k + 1) := Nat.pow_le_pow_right (by decide) (by omega)
    rw [e, lp_late M h k]
    rfl
theorem lp_bound (M : Nat) (h : Int) : ∀ m, (lp M h m).1 < M + 1
  | 0 => Nat.mod_lt _ (Nat.succ_pos M)
  | m + 1 => Nat.mod_lt _ (Nat.succ_pos M)
theorem itr7 : ∀ i, i < 8 → ∀ e, e < 8 → ∃ k, k < 8 ∧ itr 7 k i = e := by decide +kernel
theorem itr31 : ∀ i, i < 32 → ∀ e, e < 32 → ∃ k, k < 32 ∧ itr 31 k i = e := by decide +kernel
theorem lp_all {M : Nat} (hM : M = 7 ∨ M = 31) (h : Int) (e : Nat) (he : e ≤ M) : ∃ m, m ≤ M + 13 ∧ (lp M h m).1 = e := by
  have hb := lp_bound M h 13
  rcases hM with rfl | rfl
  · obtain ⟨k, hk, e1⟩ := itr7 _ hb e (by omega)
    exact ⟨13 + k, by omega, (lp_late 7 h k).trans e1⟩
  · obtain ⟨k, hk, e1⟩ := itr31 _ hb e (by omega)
    exact ⟨13 + k, by omega, (lp_late 31 h k).trans e1⟩
theorem all_in : ∀ (M : Nat) (l : List Nat), (∀ s, s ≤ M → s ∈ l) → M + 1 ≤ l.length
  | 0, l, h => List.length_pos_of_mem (h 0 (Nat.le_refl _))
  | M + 1, l, h => by
    have h1 := all_in M (l.filter (· != M + 1)) fun s hs => List.mem_filter.mpr ⟨h s (by omega), by simp; omega⟩
    have h2 : (l.filter (· != M + 1)).length < l.length := List.length_filter_lt_length_iff_exists.mpr ⟨M + 1, h _ (Nat.le_refl _), by simp⟩
    omega
theorem least {P : Nat → Prop} [DecidablePred P] : ∀ n, ¬P n → ∃ e, e ≤ n ∧ ¬P e ∧ ∀ m, m < e → P m
  | 0, h => ⟨0, Nat.le_refl _, h, fun m hm => absurd hm (Nat.not_lt_zero _)⟩
  | n + 1, h => by
    by_cases q : ∀ m, m < n + 1 → P m
    · exact ⟨n + 1, Nat.le_refl _, h, q⟩
    · have : ∃ m, m < n + 1 ∧ ¬P m := by
        apply Classical.byContradiction
        intro c
        exact q fun m hm => Classical.byContradiction fun d => c ⟨m, hm, d⟩
      obtain ⟨m, hm, hp⟩ := this
      obtain ⟨e, h1, h2, h3⟩ := least m hp
      exact ⟨e, by omega, h2, h3⟩
termination_by n => n
/-- the first free slot on the road -/
theorem first_free {M : Nat} (hM : M = 7 ∨ M = 31) (h : Int) (l : List Nat) (hl : l.length ≤ M) : ∃ e m, m ≤ M + 13 ∧ e ≤ pos M h m ∧ sig M h e ∉ l ∧ ∀ n, n < e → sig M h n ∈ l := by
  have : ∃ s, s ≤ M ∧ s ∉ l := by
    apply Classical.byContradiction
    intro c
    have := all_in M l fun s hs => Classical.byContradiction fun d => c ⟨s, hs, d⟩
    omega
  obtain ⟨s, hs, hn⟩ := this
  obtain ⟨m, hm, e1⟩ := lp_all hM h s hs
  have e2 : sig M h (pos M h m) = s := by
    have := sig_run M h m 0 (Nat.zero_le _)
    rw [Nat.add_zero, Nat.add_zero] at this
    rw [this, e1]
  obtain ⟨e, h1, h2, h3⟩ := least (P := fun n => sig M h n ∈ l) (pos M h m) (by rw [e2]; exact hn)
  exact ⟨e, m, hm, h1, h2, h3⟩

end
-- part T2
section
open PySem PySem.SetTable
set_option maxRecDepth 100000

abbrev Rise (xs : Array Nat) : Prop := xs.toList.Pairwise (· < ·)
theorem Rise.lt {xs : Array Nat} (h : Rise xs) {i k : Nat} (hk : k < xs.size) (hi : i < k) : xs[i]'(Nat.lt_trans hi hk) < xs[k] := by
  have := List.pairwise_iff_getElem.mp h i k (by simpa using Nat.lt_trans hi hk) (by simpa using hk) hi
  simpa using this
theorem below_go {xs : Array Nat} (h : Rise xs) (j : Nat) : ∀ fuel lo hi, hi - lo ≤ fuel → lo ≤ hi → hi ≤ xs.size → (∀ i (hi : i < xs.size), i < lo → xs[i] < j) → (∀ i (h2 : i < xs.size), hi ≤ i → j ≤ xs[i]) →
    below.go xs j fuel lo hi ≤ xs.size ∧ (∀ i (h2 : i < xs.size), i < below.go xs j fuel lo hi → xs[i] < j) ∧ ∀ i (h2 : i < xs.size), below.go xs j fuel lo hi ≤ i → j ≤ xs[i]
  | 0, lo, hi, hf, h1, h2, h3, h4 => by
    unfold below.go
    exact ⟨Nat.le_trans h1 h2, h3, fun i hi' hl => h4 i hi' (by omega)⟩
  | fuel + 1, lo, hi, hf, h1, h2, h3, h4 => by
    unfold below.go
    split
    · rename_i hlt
      have hm : (lo + hi) / 2 < xs.size := by omega
      have hg : xs.getD ((lo + hi) / 2) j = xs[(lo + hi) / 2] := by simp [hm]
      dsimp only
      rw [hg]
      split
      · rename_i hx
        refine below_go h j fuel _ hi (by omega) (by omega) h2 (fun i hi' hl => ?_) h4
        rcases Nat.lt_or_ge i ((lo + hi) / 2) with q | q
        · exact Nat.lt_trans (h.lt hm q) hx
        · obtain rfl : i = (lo + hi) / 2 := by omega
          exact hx
      · rename_i hx
        refine below_go h j fuel lo _ (by omega) (by omega) (by omega) h3 (fun i hi' hl => ?_)
        rcases Nat.lt_or_ge ((lo + hi) / 2) i with q | q
        · exact Nat.le_trans (Nat.le_of_not_lt hx) (Nat.le_of_lt (h.lt hi' q))
        · obtain rfl : i = (lo + hi) / 2 := by omega
          exact Nat.le_of_not_lt hx
    · exact ⟨Nat.le_trans h1 h2, h3, fun i hi' hl => h4 i hi' (by omega)⟩
theorem below_spec {xs : Array Nat} (h : Rise xs) (j : Nat) : below xs j ≤ xs.size ∧ (∀ i (h2 : i < xs.size), i < below xs j → xs[i] < j) ∧ ∀ i (h2 : i < xs.size), below xs j ≤ i → j ≤ xs[i] :=
  below_go h j xs.size 0 xs.size (by omega) (Nat.zero_le _) (Nat.le_refl _) (fun i _ hl => absurd hl (Nat.not_lt_zero _)) fun i h2 hl => absurd h2 (Nat.not_lt_of_le hl)
theorem below_mem {xs : Array Nat} (h : Rise xs) {j : Nat} (hj : j ∈ xs.toList) : xs[below xs j]? = some j := by
  obtain ⟨b1, b2, b3⟩ := below_spec h j
  obtain ⟨k, hk, e⟩ := List.mem_iff_getElem.mp hj
  have hk' : k < xs.size := by simpa using hk
  have e' : xs[k] = j := by simpa using e
  have h1 : below xs j ≤ k := by
    apply Nat.le_of_not_lt
    intro q
    have := b2 k hk' q
    omega
  rcases Nat.lt_or_ge (below xs j) k with q | q
  · have q1 := b3 (below xs j) (by omega) (Nat.le_refl _)
    have q2 := h.lt hk' q
    omega
  · have : below xs j = k := by omega
    rw [this, Array.getElem?_eq_getElem hk', e']
theorem below_not {xs : Array Nat} {j : Nat} (hj : j ∉ xs.toList) : (xs[below xs j]? == some j) = false := by
  cases e : xs[below xs j]? with
  | none => rfl
  | some v =>
    have : v ∈ xs.toList := by
      obtain ⟨h1, h2⟩ := Array.getElem?_eq_some_iff.mp e
      rw [← h2]; simp
    have : v ≠ j := fun q => hj (q ▸ this)
    simpa using this
theorem insert_list {α : Type} (xs : Array α) (p : Nat) (x : α) : (insertAt xs p x).toList = xs.toList.take p ++ x :: xs.toList.drop p := by
  simp [SetTable.insertAt, List.extract_eq_take_drop, List.take_of_length_le]
theorem insert_size {α : Type} (xs : Array α) (p : Nat) (x : α) (hp : p ≤ xs.size) : (insertAt xs p x).size = xs.size + 1 := by
  rw [← Array.length_toList, insert_list]
  simp
  omega
theorem insert_mem {α : Type} (xs : Array α) (p : Nat) (x y : α) : y ∈ (insertAt xs p x).toList ↔ y = x ∨ y ∈ xs.toList := by
  rw [insert_list]
  have := (List.perm_middle (a := x) (l₁ := xs.toList.take p) (l₂ := xs.toList.drop p)).mem_iff (a := y)
  rw [this, List.mem_cons, List.take_append_drop]
theorem insert_rise {xs : Array Nat} (h : Rise xs) {j : Nat} (hj : j ∉ xs.toList) : Rise (insertAt xs (below xs j) j) := by
  obtain ⟨b1, b2, b3⟩ := below_spec h j
  unfold Rise
  rw [insert_list, List.pairwise_append, List.pairwise_cons]
  have h1 : ∀ a ∈ xs.toList.take (below xs j), a < j := fun a ha => by
    obtain ⟨i, hi, rfl⟩ := List.mem_iff_getElem.mp ha
    rw [List.length_take] at hi
    rw [List.getElem_take]
    have := b2 i (by simp at hi; omega) (by omega)
    simpa using this
  have h2 : ∀ a ∈ xs.toList.drop (below xs j), j < a := fun a ha => by
    have hm : a ∈ xs.toList := List.mem_of_mem_drop ha
    obtain ⟨i, hi, rfl⟩ := List.mem_iff_getElem.mp ha
    rw [List.length_drop] at hi
    have := b3 (below xs j + i) (by simp at hi; omega) (Nat.le_add_right _ _)
    rw [List.getElem_drop] at hm ⊢
    have e : xs.toList[below xs j + i] = xs[below xs j + i]'(by simp at hi; omega) := by simp
    rw [e] at hm ⊢
    exact Nat.lt_of_le_of_ne this fun q => hj (q ▸ hm)
  exact ⟨h.sublist (List.take_sublist _ _), ⟨h2, h.sublist (List.drop_sublist _ _)⟩, fun a ha b hb => by
    rcases List.mem_cons.mp hb with rfl | hb
    · exact h1 a ha
    · exact Nat.lt_trans (h1 a ha) (h2 b hb)⟩
theorem insert_zip {α β : Type} (xs : Array α) (ys : Array β) (p : Nat) (x : α) (y : β) (hs : xs.size = ys.size) (q : α × β) : q ∈ (insertAt xs p x).toList.zip (insertAt ys p y).toList ↔ q = (x, y) ∨ q ∈ xs.toList.zip ys.toList := by
  have hl : xs.toList.length = ys.toList.length := by simpa using hs
  rw [insert_list, insert_list, List.zip_append (by simp [hl]), List.zip_cons_cons]
  have e : xs.toList.zip ys.toList = (xs.toList.take p).zip (ys.toList.take p) ++ (xs.toList.drop p).zip (ys.toList.drop p) := by
    rw [← List.zip_append (by simp [hl]), List.take_append_drop, List.take_append_drop]
  rw [e, List.perm_middle.mem_iff, List.mem_cons]

/-- a slot is reached by a search for h through slots that are taken -/
def Reach (M : Nat) (occ : List Nat) (h : Int) (s : Nat) : Prop := ∃ n, sig M h n = s ∧ ∀ m, m < n → sig M h m ∈ occ
theorem Reach.mono {M : Nat} {occ occ' : List Nat} {h : Int} {s : Nat} (r : Reach M occ h s) (l : ∀ x ∈ occ, x ∈ occ') : Reach M occ' h s := by
  obtain ⟨n, e, a⟩ := r
  exact ⟨n, e, fun m hm => l _ (a m hm)⟩
/-- a table as sets of few elements have it -/
structure Tab (es : Array (Int × Value)) (t : SetTable) : Prop where
  size : t.place.size = es.size
  rise : Rise t.place
  dum : t.dummies = #[]
  mask : t.mask = 7 ∨ t.mask = 31
  full : es.size ≤ t.mask
  reach : ∀ q ∈ t.place.toList.zip es.toList, Reach t.mask t.place.toList q.2.1 q.1
theorem Tab.fill {es : Array (Int × Value)} {t : SetTable} (T : Tab es t) : t.fill = es.size := by
  unfold SetTable.fill
  rw [T.dum, T.size]
  rfl
theorem Tab.fits {es : Array (Int × Value)} {t : SetTable} (T : Tab es t) : t.fits es.size = true := by
  unfold SetTable.fits
  rw [T.fill, T.size]
  have := T.full
  simp [this]
theorem Tab.way {es : Array (Int × Value)} {t : SetTable} (T : Tab es t) : t.gaveWay = false := by
  unfold SetTable.gaveWay
  rcases T.mask with e | e <;> rw [e] <;> rfl
theorem has_none (j : Nat) : has #[] j = false := rfl
theorem Tab.live {es : Array (Int × Value)} {t : SetTable} (T : Tab es t) {j : Nat} (hj : j ∈ t.place.toList) : t.slot j = .live (below t.place j) := by
  unfold SetTable.slot
  simp only [below_mem T.rise hj, beq_self_eq_true, if_true]
theorem Tab.open {es : Array (Int × Value)} {t : SetTable} (T : Tab es t) {j : Nat} (hj : j ∉ t.place.toList) : t.slot j = .empty := by
  unfold SetTable.slot
  simp only [below_not hj, T.dum, has_none, Bool.false_eq_true, if_false]
theorem Tab.entry {es : Array (Int × Value)} {t : SetTable} (T : Tab es t) {j : Nat} (hj : j ∈ t.place.toList) : ∃ e, es[below t.place j]? = some e ∧ (j, e) ∈ t.place.toList.zip es.toList := by
  have h1 := below_mem T.rise hj
  obtain ⟨h2, h3⟩ := Array.getElem?_eq_some_iff.mp h1
  have h4 : below t.place j < es.size := T.size ▸ h2
  refine ⟨es[below t.place j], Array.getElem?_eq_getElem h4, List.mem_iff_getElem.mpr ⟨below t.place j, by simp; omega, ?_⟩⟩
  simp [h3]
/-- what one call of the search finds -/
inductive Fnd (es : Array (Int × Value)) (t : SetTable) (h : Int) (n e : Nat) : Met → Prop
  | free : (∀ m, n ≤ m → m < e → ∀ x, (sig t.mask h m, x) ∈ t.place.toList.zip es.toList → x.1 ≠ h) → Fnd es t h n e (.empty (sig t.mask h e) none)
  | cand {m : Nat} {x : Int × Value} : n ≤ m → m < e → (sig t.mask h m, x) ∈ t.place.toList.zip es.toList → es[below t.place (sig t.mask h m)]? = some x → x.1 = h →
      (∀ m', n ≤ m' → m' < m → ∀ x, (sig t.mask h m', x) ∈ t.place.toList.zip es.toList → x.1 ≠ h) → Fnd es t h n e (.candidate (sig t.mask h m) (below t.place (sig t.mask h m)) (advN t.mask (m + 1) (start0 t.mask h)))
theorem zip_fun {es : Array (Int × Value)} {t : SetTable} (T : Tab es t) {j : Nat} {x y : Int × Value} (hx : (j, x) ∈ t.place.toList.zip es.toList) (hy : (j, y) ∈ t.place.toList.zip es.toList) : x = y := by
  obtain ⟨i, hi, ex⟩ := List.mem_iff_getElem.mp hx
  obtain ⟨k, hk, ey⟩ := List.mem_iff_getElem.mp hy
  rw [List.getElem_zip] at ex ey
  obtain ⟨x1, x2⟩ := Prod.mk.inj ex
  obtain ⟨y1, y2⟩ := Prod.mk.inj ey
  simp at hi hk x1 y1 x2 y2
  have : i = k := by
    rcases Nat.lt_trichotomy i k with q | q | q
    · have := T.rise.lt (i := i) (k := k) (by omega) q; omega
    · exact q
    · have := T.rise.lt (i := k) (k := i) (by omega) q; omega
  subst this
  rw [← x2, ← y2]
theorem probe_go {es : Array (Int × Value)} {t : SetTable} (T : Tab es t) {hashAt : Nat → Int} (hA : ∀ (i : Nat) x, es[i]? = some x → hashAt i = x.1) (h : Int) {e : Nat} (he : sig t.mask h e ∉ t.place.toList) (ho : ∀ m, m < e → sig t.mask h m ∈ t.place.toList) :
    ∀ (fuel n : Nat), n ≤ e → e - n < fuel → ∃ r, probe.go t hashAt h fuel (advN t.mask n (start0 t.mask h)) = some r ∧ Fnd es t h n e r
  | 0, n, _, hf => absurd hf (Nat.not_lt_zero _)
  | fuel + 1, n, hn, hf => by
    unfold probe.go
    rcases Nat.lt_or_ge n e with q | q
    · have hm := ho n q
      obtain ⟨x, e1, e2⟩ := T.entry hm
      have hs : t.slot (advN t.mask n (start0 t.mask h)).j = .live (below t.place (sig t.mask h n)) := T.live hm
      rw [hs]
      dsimp only
      by_cases hx : x.1 = h
      · rw [if_pos (by rw [hA _ _ e1, hx]; exact beq_self_eq_true h)]
        exact ⟨_, rfl, .cand (Nat.le_refl _) q e2 e1 hx fun m' a b => absurd (Nat.lt_of_le_of_lt a b) (Nat.lt_irrefl _)⟩
      · rw [if_neg (by rw [hA _ _ e1]; simpa using hx)]
        obtain ⟨r, h1, h2⟩ := probe_go T hA h he ho fuel (n + 1) q (by omega)
        refine ⟨r, h1, ?_⟩
        have step : ∀ m, n ≤ m → (n + 1 ≤ m → ∀ y, (sig t.mask h m, y) ∈ t.place.toList.zip es.toList → y.1 ≠ h) → ∀ y, (sig t.mask h m, y) ∈ t.place.toList.zip es.toList → y.1 ≠ h := fun m a c y hy => by
          rcases Nat.lt_or_ge n m with b | b
          · exact c b y hy
          · obtain rfl : n = m := by omega
            rw [zip_fun T hy e2]
            exact hx
        cases h2 with
        | free a => exact .free fun m b c => step m b fun d => a m d c
        | cand a b c d f g => exact .cand (Nat.le_of_succ_le a) b c d f fun m' i j => step m' i fun k => g m' k j
    · obtain rfl : n = e := by omega
      have hs : t.slot (advN t.mask n (start0 t.mask h)).j = .empty := T.open he
      rw [hs]
      dsimp only
      rw [advN_dummy]
      exact ⟨_, rfl, .free fun m a b => absurd (Nat.lt_of_le_of_lt a b) (Nat.lt_irrefl _)⟩

end
-- part T3
section
open PySem PySem.SetTable
set_option maxRecDepth 100000
theorem Tab.first {es : Array (Int × Value)} {t : SetTable} (T : Tab es t) (h : Int) : ∃ e, e < 10 * turns t.mask ∧ sig t.mask h e ∉ t.place.toList ∧ ∀ n, n < e → sig t.mask h n ∈ t.place.toList := by
  obtain ⟨e, m, h1, h2, h3, h4⟩ := first_free T.mask h t.place.toList (by rw [Array.length_toList, T.size]; exact T.full)
  have := pos_le t.mask h m
  exact ⟨e, by unfold turns; omega, h3, h4⟩
theorem Tab.putEq {es : Array (Int × Value)} {t : SetTable} (T : Tab es t) (j : Nat) : t.put j = ({ t with place := insertAt t.place (below t.place j) j }, below t.place j) := by
  unfold SetTable.put
  rw [T.dum]
  rfl
theorem Tab.put {es : Array (Int × Value)} {t : SetTable} (T : Tab es t) {h : Int} {x : Value} {e : Nat} (he : sig t.mask h e ∉ t.place.toList) (ho : ∀ n, n < e → sig t.mask h n ∈ t.place.toList) (hz : es.size + 1 ≤ t.mask) (pl : Bool) :
    Tab (insertAt es (below t.place (sig t.mask h e)) (h, x)) { t with place := insertAt t.place (below t.place (sig t.mask h e)) (sig t.mask h e), plain := pl } := by
  obtain ⟨b1, b2, b3⟩ := below_spec T.rise (sig t.mask h e)
  have b1' : below t.place (sig t.mask h e) ≤ es.size := T.size ▸ b1
  have hm : ∀ y ∈ t.place.toList, y ∈ (insertAt t.place (below t.place (sig t.mask h e)) (sig t.mask h e)).toList := fun y hy => (insert_mem _ _ _ _).mpr (.inr hy)
  refine ⟨by rw [insert_size _ _ _ b1, insert_size _ _ _ b1', T.size], insert_rise T.rise he, T.dum, T.mask, by rw [insert_size _ _ _ b1']; exact hz, fun q hq => ?_⟩
  rcases (insert_zip _ _ _ _ _ T.size q).mp hq with rfl | hq
  · exact ⟨e, rfl, fun m hm' => hm _ (ho m hm')⟩
  · exact (T.reach q hq).mono hm

/-- slots given out so far -/
structure Owns (M : Nat) (hs : List Int) (js : List Nat) (owner : Array (Option Nat)) : Prop where
  len : js.length = hs.length
  nod : js.Nodup
  bnd : ∀ j ∈ js, j ≤ M
  size : owner.size = M + 1
  iff : ∀ s, s ≤ M → ∀ k : Nat, owner[s]? = some (some k) ↔ js[k]? = some s
  reach : ∀ (k j : Nat) (h : Int), js[k]? = some j → hs[k]? = some h → Reach M js h j
theorem Owns.taken {M : Nat} {hs : List Int} {js : List Nat} {owner : Array (Option Nat)} (O : Owns M hs js owner) {s : Nat} (h : s ≤ M) : (owner.getD s (some 0)).isNone = true ↔ s ∉ js := by
  have hs : s < owner.size := by rw [O.size]; omega
  have e : owner.getD s (some 0) = owner[s] := by simp [hs]
  rw [e]
  constructor
  · intro hn hm
    obtain ⟨k, hk, ek⟩ := List.mem_iff_getElem.mp hm
    have := (O.iff s h k).mpr (by rw [List.getElem?_eq_getElem hk, ek])
    rw [Array.getElem?_eq_getElem hs] at this
    rw [Option.some.inj this] at hn
    cases hn
  · intro hm
    cases q : owner[s] with
    | none => rfl
    | some k =>
      have := (O.iff s h k).mp (by rw [Array.getElem?_eq_getElem hs, q])
      exact absurd (List.mem_of_getElem? this) hm
theorem sig_bound (M : Nat) (hM : M = 7 ∨ M = 31) (h : Int) (m k : Nat) (hk : k ≤ runEnd M (lp M h m).1 - (lp M h m).1) : sig M h (pos M h m + k) ≤ M := by
  rw [sig_run M h m k hk]
  have := lp_bound M h m
  unfold runEnd at hk
  split at hk <;> omega
theorem free_spec {M : Nat} (hM : M = 7 ∨ M = 31) {hs : List Int} {js : List Nat} {owner : Array (Option Nat)} (O : Owns M hs js owner) (h : Int) {e : Nat} (he : sig M h e ∉ js) (ho : ∀ n, n < e → sig M h n ∈ js) :
    ∀ fuel m, pos M h m ≤ e → e < pos M h (m + fuel) → layClean.free M owner fuel (lp M h m).1 (lp M h m).2 = some (sig M h e)
  | 0, m, h1, h2 => absurd (Nat.lt_of_le_of_lt h1 h2) (Nat.lt_irrefl _)
  | fuel + 1, m, h1, h2 => by
    unfold layClean.free
    have hlen : runEnd M (lp M h m).1 + 1 - (lp M h m).1 = runEnd M (lp M h m).1 - (lp M h m).1 + 1 := by
      have : (lp M h m).1 ≤ runEnd M (lp M h m).1 := by unfold runEnd; split <;> omega
      omega
    have key : ∀ k, k ≤ runEnd M (lp M h m).1 - (lp M h m).1 → ((owner.getD ((lp M h m).1 + k) (some 0)).isNone = true ↔ sig M h (pos M h m + k) ∉ js) := fun k hk => by
      rw [sig_run M h m k hk]
      have := sig_bound M hM h m k hk
      rw [sig_run M h m k hk] at this
      exact O.taken this
    rcases Nat.lt_or_ge e (pos M h (m + 1)) with q | q
    · have q' : e < pos M h m + (runEnd M (lp M h m).1 - (lp M h m).1 + 1) := q
      have hf : (List.range (runEnd M (lp M h m).1 + 1 - (lp M h m).1)).find? (fun k => (owner.getD ((lp M h m).1 + k) (some 0)).isNone) = some (e - pos M h m) := by
        rw [List.find?_range_eq_some]
        refine ⟨(key _ (by omega)).mpr ?_, List.mem_range.mpr (by omega), fun k hk => ?_⟩
        · rw [show pos M h m + (e - pos M h m) = e by omega]
          exact he
        · have := ho (pos M h m + k) (by omega)
          have z := key k (by omega)
          cases b : (owner.getD ((lp M h m).1 + k) (some 0)).isNone with
          | false => rfl
          | true => exact absurd this (z.mp b)
      rw [hf]
      dsimp only
      rw [← sig_run M h m (e - pos M h m) (by omega), show pos M h m + (e - pos M h m) = e by omega]
    · have hf : (List.range (runEnd M (lp M h m).1 + 1 - (lp M h m).1)).find? (fun k => (owner.getD ((lp M h m).1 + k) (some 0)).isNone) = none := by
        rw [List.find?_range_eq_none]
        intro k hk
        have q' : pos M h m + (runEnd M (lp M h m).1 - (lp M h m).1 + 1) ≤ e := q
        have := ho (pos M h m + k) (by omega)
        have z := key k (by omega)
        cases b : (owner.getD ((lp M h m).1 + k) (some 0)).isNone with
        | false => rfl
        | true => exact absurd this (z.mp b)
      rw [hf]
      dsimp only
      exact free_spec hM O h he ho fuel (m + 1) q (by rw [Nat.add_assoc, Nat.add_comm 1]; exact h2)
theorem Owns.next {M : Nat} {hs : List Int} {js : List Nat} {owner : Array (Option Nat)} (O : Owns M hs js owner) {h : Int} {e : Nat} (he : sig M h e ∉ js) (ho : ∀ n, n < e → sig M h n ∈ js) (hb : sig M h e ≤ M) :
    Owns M (hs ++ [h]) (js ++ [sig M h e]) (owner.setIfInBounds (sig M h e) (some js.length)) := by
  refine ⟨by simp [O.len], ?_, ?_, by rw [Array.size_setIfInBounds, O.size], fun s hsM k => ?_, fun k j h' hj hh => ?_⟩
  · rw [List.nodup_append]
    exact ⟨O.nod, by simp, fun a ha b hb' => by rw [List.mem_singleton.mp hb']; exact fun q => he (q ▸ ha)⟩
  · intro j hj
    rcases List.mem_append.mp hj with hj | hj
    · exact O.bnd j hj
    · rw [List.mem_singleton.mp hj]; exact hb
  · rw [Array.getElem?_setIfInBounds]
    by_cases q : sig M h e = s
    · subst q
      rw [if_pos rfl, if_pos (by rw [O.size]; omega)]
      constructor
      · intro z
        have : js.length = k := Option.some.inj (Option.some.inj z)
        rw [← this]
        simp
      · intro z
        rcases Nat.lt_or_ge k js.length with a | a
        · rw [List.getElem?_append_left a] at z
          exact absurd (List.mem_of_getElem? z) he
        · have : k = js.length := by
            apply Classical.byContradiction
            intro c
            rw [List.getElem?_eq_none (by simp; omega)] at z
            cases z
          rw [this]
    · rw [if_neg q, O.iff s hsM k]
      constructor
      · intro z
        have : k < js.length := by
          obtain ⟨a, _⟩ := List.getElem?_eq_some_iff.mp z
          exact a
        rw [List.getElem?_append_left this]
        exact z
      · intro z
        rcases Nat.lt_or_ge k js.length with a | a
        · rw [List.getElem?_append_left a] at z
          exact z
        · have := List.mem_of_getElem? (l := [sig M h e]) (i := k - js.length) (by rw [List.getElem?_append_right a] at z; exact z)
          exact absurd (List.mem_singleton.mp this).symm q
  · rcases Nat.lt_or_ge k js.length with a | a
    · rw [List.getElem?_append_left a] at hj
      rw [List.getElem?_append_left (O.len ▸ a)] at hh
      exact (O.reach k j h' hj hh).mono fun x hx => List.mem_append.mpr (.inl hx)
    · rw [List.getElem?_append_right a] at hj
      rw [List.getElem?_append_right (O.len ▸ a)] at hh
      rw [List.mem_singleton.mp (List.mem_of_getElem? hj), List.mem_singleton.mp (List.mem_of_getElem? hh)]
      exact ⟨e, rfl, fun m hm => List.mem_append.mpr (.inl (ho m hm))⟩
abbrev layStep (M : Nat) : Option (Array (Option Nat) × Nat) → Int → Option (Array (Option Nat) × Nat) := fun acc h => do
    let (owner, k) ← acc
    let j ← layClean.free M owner (turns M) (bits h % (M + 1)) (bits h)
    pure (owner.setIfInBounds j (some k), k + 1)
theorem lay_go {M : Nat} (hM : M = 7 ∨ M = 31) : ∀ (rest hs : List Int) (js : List Nat) (owner : Array (Option Nat)), Owns M hs js owner → hs.length + rest.length ≤ M →
    ∃ js' owner', Owns M (hs ++ rest) js' owner' ∧ rest.foldl (layStep M) (some (owner, js.length)) = some (owner', js'.length)
  | [], hs, js, owner, O, _ => ⟨js, owner, by rw [List.append_nil]; exact O, rfl⟩
  | h :: rest, hs, js, owner, O, hz => by
    rw [List.length_cons] at hz
    obtain ⟨e, m, h1, h2, h3, h4⟩ := first_free hM h js (by rw [O.len]; omega)
    have hb : sig M h e ≤ M := by
      have hm : pos M h m ≤ e ∨ e < pos M h m := by omega
      apply Classical.byContradiction
      intro c
      obtain ⟨k, r, hk, hr⟩ : ∃ k r, e = pos M h k + r ∧ r ≤ runEnd M (lp M h k).1 - (lp M h k).1 := by
        clear h1 h3 h4 c hm
        induction m with
        | zero => exact ⟨0, 0, by have : pos M h 0 = 0 := rfl; omega, Nat.zero_le _⟩
        | succ m ih =>
          rcases Nat.lt_or_ge (pos M h m) e with q | q
          · have z : pos M h (m + 1) = pos M h m + (runEnd M (lp M h m).1 - (lp M h m).1 + 1) := rfl
            rcases Nat.lt_or_ge e (pos M h (m + 1)) with a | a
            · exact ⟨m, e - pos M h m, by omega, by omega⟩
            · exact ⟨m + 1, 0, by omega, Nat.zero_le _⟩
          · exact ih q
      rw [hk] at c
      exact c (sig_bound M hM h k r hr)
    have hf := free_spec hM O h h3 h4 (turns M) 0 (Nat.zero_le _) (by
      have : pos M h m < pos M h (0 + turns M) := pos_mono M h (by unfold turns; omega)
      omega)
    obtain ⟨js', owner', O', e'⟩ := lay_go hM rest _ _ _ (O.next h3 h4 hb) (by simp; omega)
    refine ⟨js', owner', by simpa using O', ?_⟩
    rw [List.foldl_cons, ← e']
    congr 1
    show (layClean.free M owner (turns M) (lp M h 0).1 (lp M h 0).2).bind _ = _
    rw [hf]
    simp
theorem owns_start (M : Nat) : Owns M [] [] (Array.replicate (M + 1) none) := by
  refine ⟨rfl, .nil, (fun _ h => nomatch h), by simp, fun s hs k => ?_, fun k j h hj => by cases hj⟩
  rw [Array.getElem?_replicate, if_pos (by omega)]
  simp
theorem lay_clean {M : Nat} (hM : M = 7 ∨ M = 31) (hashes : Array Int) (hz : hashes.size ≤ M) : ∃ js owner, Owns M hashes.toList js owner ∧ layClean M hashes = some owner := by
  obtain ⟨js, owner, O, e⟩ := lay_go hM hashes.toList [] [] _ (owns_start M) (by simpa using hz)
  refine ⟨js, owner, by simpa using O, ?_⟩
  show (hashes.foldl (layStep M) (some (Array.replicate (M + 1) none, 0))).map _ = _
  rw [← Array.foldl_toList]
  have e0 : (some (Array.replicate (M + 1) none, 0) : Option (Array (Option Nat) × Nat)) = some (Array.replicate (M + 1) none, ([] : List Nat).length) := rfl
  rw [e0, e]
  rfl
/-- the slots taken, each with its element's number -/
abbrev liveOf (M : Nat) (owner : Array (Option Nat)) : List (Nat × Nat) := (List.range (M + 1)).filterMap fun j => (owner.getD j none).map (j, ·)
theorem getD_some {owner : Array (Option Nat)} {s k : Nat} : owner.getD s none = some k ↔ owner[s]? = some (some k) := by
  rw [Array.getD_eq_getD_getElem?]
  cases owner[s]? with
  | none => simp
  | some v => simp
theorem live_mem {M : Nat} {hs : List Int} {js : List Nat} {owner : Array (Option Nat)} (O : Owns M hs js owner) (j k : Nat) : (j, k) ∈ liveOf M owner ↔ js[k]? = some j := by
  rw [List.mem_filterMap]
  constructor
  · rintro ⟨a, ha, e⟩
    obtain ⟨k', e1, e2⟩ := Option.map_eq_some_iff.mp e
    obtain ⟨rfl, rfl⟩ := Prod.mk.inj e2
    exact (O.iff a (Nat.lt_succ_iff.mp (List.mem_range.mp ha)) k').mp (getD_some.mp e1)
  · intro e
    have hj := O.bnd j (List.mem_of_getElem? e)
    exact ⟨j, List.mem_range.mpr (Nat.lt_succ_of_le hj), Option.map_eq_some_iff.mpr ⟨k, getD_some.mpr ((O.iff j hj k).mpr e), rfl⟩⟩
theorem live_rise (M : Nat) (owner : Array (Option Nat)) : (liveOf M owner).Pairwise fun p q => p.1 < q.1 :=
  List.Pairwise.filterMap _ (fun a b hab p hp q hq => by
    obtain ⟨k, _, rfl⟩ := Option.map_eq_some_iff.mp hp
    obtain ⟨k', _, rfl⟩ := Option.map_eq_some_iff.mp hq
    exact hab) List.pairwise_lt_range
theorem live_perm {M : Nat} {hs : List Int} {js : List Nat} {owner : Array (Option Nat)} (O : Owns M hs js owner) : ((liveOf M owner).map (·.2)).Perm (List.range js.length) := by
  have hn : ((liveOf M owner).map (·.2)).Nodup := by
    refine List.pairwise_map.mpr ((live_rise M owner).imp_of_mem fun {p q} hp hq hlt e => ?_)
    have h1 := (live_mem O p.1 p.2).mp hp
    have h2 := (live_mem O q.1 q.2).mp hq
    rw [e, h2] at h1
    have := Option.some.inj h1
    omega
  rw [List.perm_iff_count]
  intro k
  rw [hn.count, (List.nodup_range).count]
  have : k ∈ (liveOf M owner).map (·.2) ↔ k ∈ List.range js.length := by
    rw [List.mem_map, List.mem_range]
    constructor
    · rintro ⟨⟨j, k'⟩, h, rfl⟩
      exact (List.getElem?_eq_some_iff.mp ((live_mem O j k').mp h)).1
    · intro h
      exact ⟨(js[k], k), (live_mem O _ k).mpr (List.getElem?_eq_getElem h), rfl⟩
  by_cases q : k ∈ List.range js.length
  · rw [if_pos q, if_pos (this.mpr q)]
  · rw [if_neg q, if_neg fun z => q (this.mp z)]
/-- laid anew, a table is as good as one filled step by step -/
theorem laid_tab {M : Nat} (hM : M = 7 ∨ M = 31) (es : Array (Int × Value)) (hz : es.size ≤ M) (finger moves : Nat) (led plain : Bool) :
    ∃ t order, laid M finger moves led plain (es.map (·.1)) = some (t, order) ∧ Tab (order.filterMap (es[·]?)) t ∧ (order.filterMap (es[·]?)).toList.Perm es.toList := by
  obtain ⟨js, owner, O, e⟩ := lay_clean hM (es.map (·.1)) (by simpa using hz)
  have hl : js.length = es.size := by have := O.len; simpa using this
  refine ⟨_, _, by unfold laid; rw [e]; rfl, ?_⟩
  have hlive : ∀ q ∈ liveOf M owner, ∃ h : q.2 < es.size, js[q.2]? = some q.1 := fun q hq => by
    have h := (live_mem O q.1 q.2).mp hq
    exact ⟨hl ▸ (List.getElem?_eq_some_iff.mp h).1, h⟩
  have hes : ∀ l : List (Nat × Nat), (∀ q ∈ l, q.2 < es.size) → (l.map (·.2)).filterMap (es[·]?) = l.map fun q => es.getD q.2 (0, .none) := by
    intro l
    induction l with
    | nil => intro _; rfl
    | cons q l ih =>
      intro h
      have hq := h q (.head _)
      rw [List.map_cons, List.filterMap_cons, Array.getElem?_eq_getElem hq, ih fun a ha => h a (.tail _ ha)]
      simp [hq]
  have he2 : (((liveOf M owner).map (·.2)).toArray.filterMap (es[·]?)).toList = (liveOf M owner).map fun q => es.getD q.2 (0, .none) := by
    rw [Array.toList_filterMap]
    exact hes _ fun q hq => (hlive q hq).1
  have hp : (((liveOf M owner).map (·.2)).toArray.filterMap (es[·]?)).toList.Perm es.toList := by
    rw [Array.toList_filterMap]
    refine ((live_perm O).filterMap _).trans ?_
    rw [hl, PySem.filterMap_getElem?_range]
  have hlen : (liveOf M owner).length = es.size := by
    have := (live_perm O).length_eq
    simpa [hl] using this
  refine ⟨⟨?_, ?_, rfl, hM, ?_, ?_⟩, hp⟩
  · show ((liveOf M owner).map (·.1)).toArray.size = _
    rw [← Array.length_toList (xs := Array.filterMap _ _), he2]
    simp
  · exact List.pairwise_map.mpr (live_rise M owner)
  · rw [← Array.length_toList, hp.length_eq, Array.length_toList]
    exact hz
  · intro q hq
    have hq : q ∈ ((liveOf M owner).map (·.1)).zip (((liveOf M owner).map (·.2)).toArray.filterMap (es[·]?)).toList := hq
    rw [he2, List.zip_map'] at hq
    obtain ⟨z, hz1, rfl⟩ := List.mem_map.mp hq
    obtain ⟨h1, h2⟩ := hlive z hz1
    have h3 := O.reach z.2 z.1 (es[z.2]).1 h2 (by simp [h1])
    have h4 : es.getD z.2 (0, .none) = es[z.2] := by simp [h1]
    dsimp only
    rw [h4]
    exact h3.mono fun x hx => by
      obtain ⟨k, hk, rfl⟩ := List.mem_iff_getElem.mp hx
      exact List.mem_map.mpr ⟨(js[k], k), (live_mem O _ k).mpr (List.getElem?_eq_getElem hk), rfl⟩

end
-- part T4
section
open PySem PySem.SetTable
set_option maxRecDepth 100000
section
variable {prog : Program} {w : World} {K : Type} [DecidableEq K] {knd : KeyKind prog w K} {A : Around} {E : Value → Shared → Prop} {s : Shared}

theorem seqItems_tuple {M : Model} {a : Addr} {o : Obj} {items n} {Q : Option (Array Value) → Shared → Prop} (ho : s.heap.get? a = some o) (hd : o.data = .seq items n) (h : Q (some items) s) : wpAny M A (seqItems? (.ref a)) Q E s := by
  unfold seqItems?
  refine wpAny_bind (wpAny_load ho ?_)
  rw [hd]
  exact wpAny_pure h
theorem notClass_plain (n : Nat) {v : Value} (h : carriedByValue v = true) : ofAClassStatement n v = pure false := by
  cases v with
  | ref a => simp [carriedByValue] at h
  | _ => first | rfl | simp [ofAClassStatement] | (unfold ofAClassStatement; rfl)
theorem notClass {ks : List K} {a : Addr} {Q : Bool → Shared → Prop} (hk : IsTupleKey knd s.heap ks a) (h : Q false s) : wpAny (model prog w) A (ofAClassStatement 8 (.ref a)) Q E s := by
  have hT := hk.typeIs
  obtain ⟨o, items, n, ho, _, hd, hi⟩ := hk
  unfold ofAClassStatement
  refine wpAny_bind (wpAny_typeOf hT ?_)
  dsimp only
  rw [if_pos (by decide)]
  refine wpAny_bind (wpAny_pure ?_)
  simp only [Bool.not_true, Bool.false_eq_true, if_false]
  refine wpAny_bind (seqItems_tuple ho hd ?_)
  dsimp only
  refine wpAny_bind ?_
  rw [← Array.forIn_toList]
  refine wpAny_forIn_list _ (fun rest r s' => r.1 = none ∧ s' = s ∧ ∀ v ∈ rest, carriedByValue v = true) _ ?_ ?_ _ _ ⟨rfl, rfl, hi.byValue⟩
  · rintro v rest r s' ⟨hr, rfl, hall⟩
    rw [notClass_plain _ (hall v List.mem_cons_self)]
    refine wpAny_bind (wpAny_pure ?_)
    simp only [Bool.false_eq_true, if_false]
    exact wpAny_pure ⟨rfl, rfl, fun u hu' => hall u (List.mem_cons_of_mem _ hu')⟩
  · rintro ⟨r1, r2⟩ s' ⟨hr, rfl, _⟩
    simp only at hr
    subst hr
    exact wpAny_pure h
/-- a tuple of keys -/
def KeyAt (knd : KeyKind prog w K) (h : Heap) (k : List K) (v : Value) : Prop := ∃ a, v = .ref a ∧ IsTupleKey knd h k a
theorem notSeen {kx : List K} {X : Addr} (hx : IsTupleKey knd s.heap kx X) (l : List Value) (hl : ∀ v ∈ l, ∃ k, KeyAt knd s.heap k v) {Q : Bool → Shared → Prop} (h : Q false s) : wpAny (model prog w) A (searchCouldBeSeen (.ref X) l) Q E s := by
  unfold searchCouldBeSeen
  refine wpAny_bind ?_
  refine wpAny_forIn_list _ (fun rest r s' => r.1 = none ∧ s' = s ∧ ∀ v ∈ rest, ∃ k, KeyAt knd s.heap k v) _ ?_ ?_ _ _ ⟨rfl, rfl, hl⟩
  · rintro v rest r s' ⟨hr, rfl, hall⟩
    obtain ⟨k, a, rfl, hk⟩ := hall v List.mem_cons_self
    have hall' := fun u hu' => hall u (List.mem_cons_of_mem _ hu')
    dsimp only
    refine wpAny_ite_split (fun _ => wpAny_pure ⟨rfl, rfl, hall'⟩) fun _ => ?_
    refine wpAny_bind (wpAny_eqIsQuiet_tuple hx ?_)
    simp only [Bool.not_true, Bool.false_eq_true, if_false]
    refine wpAny_bind (wpAny_eqIsQuiet_tuple hk ?_)
    simp only [Bool.not_true, Bool.false_eq_true, if_false]
    refine wpAny_bind (notClass hx ?_)
    simp only [Bool.false_eq_true, if_false]
    refine wpAny_bind (notClass hk ?_)
    simp only [Bool.false_eq_true, if_false]
    exact wpAny_pure ⟨rfl, rfl, hall'⟩
  · rintro ⟨r1, r2⟩ s' ⟨hr, rfl, _⟩
    simp only at hr
    subst hr
    exact wpAny_pure h
end

end
-- part T5
section
open PySem PySem.SetTable
set_option maxRecDepth 100000
section
variable {prog : Program} {w : World} {K : Type} [DecidableEq K] {knd : KeyKind prog w K} {A : Around} {E : Value → Shared → Prop} {s : Shared}
/-- each element a tuple of keys, with its hash -/
def Elems (knd : KeyKind prog w K) (h : Heap) (es : List (Int × Value)) : Prop := ∀ e ∈ es, ∃ k, KeyAt knd h k e.2 ∧ e.1 = tupleKeyHash knd k
theorem KeyAt.inj {h : Heap} {k k' : List K} {v : Value} (a : KeyAt knd h k v) (b : KeyAt knd h k' v) : k = k' := by
  obtain ⟨x, rfl, hx⟩ := a
  obtain ⟨y, e, hy⟩ := b
  cases e
  exact hx.inj hy
theorem search_walk {S : Addr} {o : Obj} {es : Array (Int × Value)} {ep : Nat} {t : SetTable} (ho : s.heap.get? S = some o) (hd : o.data = .set es ep t) (T : Tab es t) {X : Addr} {kx : List K} (hx : IsTupleKey knd s.heap kx X) (hes : Elems knd s.heap es.toList) (hu : A.units < cLine)
    {e : Nat} (he : sig t.mask (tupleKeyHash knd kx) e ∉ t.place.toList) (hoc : ∀ n, n < e → sig t.mask (tupleKeyHash knd kx) n ∈ t.place.toList) (hlt : e < 10 * turns t.mask) {Q : SetFound → Shared → Prop} (hF : (∃ q ∈ es.toList, KeyAt knd s.heap kx q.2) → Q (.there none) s) :
    ∀ (fuel n : Nat) (stand : Option Probe), n ≤ e → e - n < fuel → stand.getD (t.probeStart (tupleKeyHash knd kx)) = advN t.mask n (start0 t.mask (tupleKeyHash knd kx)) →
      ((∀ m, n ≤ m → m < e → ∀ x, (sig t.mask (tupleKeyHash knd kx) m, x) ∈ t.place.toList.zip es.toList → ¬KeyAt knd s.heap kx x.2) → Q (.free (sig t.mask (tupleKeyHash knd kx) e) false) s) →
      wpAny (model prog w) A (setSearchFrom S (.ref X) (tupleKeyHash knd kx) true fuel stand) Q E s
  | 0, n, _, _, hf, _, _ => absurd hf (Nat.not_lt_zero _)
  | fuel + 1, n, stand, hn, hf, hst, hN => by
    have mem : ∀ {j : Nat} {x : Int × Value}, (j, x) ∈ t.place.toList.zip es.toList → x ∈ es.toList := fun h => (List.of_mem_zip h).2
    have nk : ∀ x, x ∈ es.toList → x.1 ≠ tupleKeyHash knd kx → ¬KeyAt knd s.heap kx x.2 := fun x hm hne ka => by
      obtain ⟨k, kb, e1⟩ := hes x hm
      rw [ka.inj kb] at hne
      exact hne e1
    unfold setSearchFrom
    refine wpAny_bind (wpAny_setState_of ho hd T.fits ?_)
    dsimp only
    rw [T.way]
    simp only [Bool.false_eq_true, if_false]
    rw [hst]
    obtain ⟨r, hr, F⟩ := probe_go T (hashAt := _) (fun i x hi => by show (es[i]?.map (·.1)).getD 0 = _; rw [hi]; rfl) (tupleKeyHash knd kx) he hoc (10 * turns t.mask) n hn (by omega)
    generalize hg : t.probe _ (tupleKeyHash knd kx) (advN t.mask n (start0 t.mask (tupleKeyHash knd kx))) = g
    have hgr : g = some r := hg.symm.trans hr
    subst hgr
    dsimp only
    cases F with
    | free h0 =>
      dsimp only
      exact wpAny_pure (hN fun m a b x hz => nk x (mem hz) (h0 m a b x hz))
    | @cand m x hm1 hm2 hz hes1 hxh hbef =>
      obtain ⟨ky, ⟨Y, hy1, hy⟩, hh⟩ := hes x (mem hz)
      obtain ⟨xh, xv⟩ := x
      dsimp only at hy1 hh hxh
      subst hy1
      have eqd : ∀ {Q' : Bool → Shared → Prop}, Q' (decide (ky = kx)) s → wpAny (model prog w) A (holding [Value.ref Y] (eqBool (.ref Y) (.ref X))) Q' E s := fun h => wpAny_holding (wpAny_eqBool_tuple hu hy hx h)
      have cont : wpAny (model prog w) A (do
          let equal ← holding [Value.ref Y] (eqBool (.ref Y) (.ref X))
          let (es', _, t') ← setState S
          if true && equal then return .there none
          let some same := t'.sameMemory t.moves t.mask | unsupported "set.changed-during-lookup:is-the-new-block-at-the-old-address"
          let still ← match (if same then t'.slot (sig t.mask (tupleKeyHash knd kx) m) else .empty) with
            | .live i' => match es'[i']? with
              | some (_, y') => do pure (if ← isSame y' (.ref Y) then some i' else none)
              | none => pure none
            | _ => pure none
          match still with
          | none => rule "set.search.anew"; setSearchFrom S (.ref X) (tupleKeyHash knd kx) true fuel none
          | some i' => if equal then return .there (some i') else setSearchFrom S (.ref X) (tupleKeyHash knd kx) true fuel (some (advN t.mask (m + 1) (start0 t.mask (tupleKeyHash knd kx))))) Q E s := by
        refine wpAny_bind (eqd ?_)
        refine wpAny_bind (wpAny_setState_of ho hd T.fits ?_)
        dsimp only
        by_cases hk : ky = kx
        · rw [decide_eq_true hk]
          simp only [Bool.and_self, if_true]
          exact wpAny_pure (hF ⟨_, mem hz, Y, rfl, hk ▸ hy⟩)
        · rw [decide_eq_false hk]
          simp only [Bool.and_false, Bool.false_eq_true, if_false]
          have hsm : t.sameMemory t.moves t.mask = some true := by unfold SetTable.sameMemory; rw [if_pos (beq_self_eq_true _)]
          rw [hsm]
          dsimp only
          rw [if_pos rfl, T.live (hoc m hm2)]
          dsimp only
          rw [hes1]
          dsimp only
          refine wpAny_bind (wpAny_isSame_ref_self ?_)
          rw [if_pos rfl]
          refine wpAny_bind (wpAny_pure ?_)
          dsimp only
          refine search_walk ho hd T hx hes hu he hoc hlt hF fuel (m + 1) _ hm2 (by omega) rfl fun hnext => hN fun m' a b x hzx => ?_
          rcases Nat.lt_or_ge m m' with q | q
          · exact hnext m' q b x hzx
          · rcases Nat.lt_or_ge m' m with q2 | q2
            · exact nk x (mem hzx) (hbef m' a q2 x hzx)
            · obtain rfl : m' = m := by omega
              rw [zip_fun T hzx hz]
              exact fun ka => hk (KeyAt.inj ⟨Y, rfl, hy⟩ ka)
      dsimp only
      rw [hes1]
      dsimp only
      refine wpAny_ite_split (fun _ => ?_) fun _ => cont
      refine wpAny_bind (notSeen hx _ (fun v hv => ?_) ?_)
      · obtain ⟨q, hq, rfl⟩ := List.mem_map.mp hv
        have : q ∈ es.toList := by
          rw [Array.toList_filter] at hq
          exact (List.mem_filter.mp hq).1
        obtain ⟨k, ka, _⟩ := hes q this
        exact ⟨k, ka⟩
      · simp only [Bool.false_eq_true, if_false]
        exact cont
end

end
-- part T6
section
open PySem PySem.SetTable
set_option maxRecDepth 100000
section
variable {prog : Program} {w : World} {K : Type} [DecidableEq K] {knd : KeyKind prog w K} {A : Around} {E : Value → Shared → Prop} {s : Shared}
theorem hash_plain (n : Nat) {v : Value} (h : carriedByValue v = true) : ∃ b, hashByValue n v = pure b := by
  cases n <;> cases v <;> first | exact ⟨_, rfl⟩ | exact ⟨_, by unfold hashByValue; rfl⟩ | exact absurd h (by simp [carriedByValue])
theorem hash_tuple {ks : List K} {a : Addr} {Q : Bool → Shared → Prop} (hk : IsTupleKey knd s.heap ks a) (h : ∀ b, Q b s) : wpAny (model prog w) A (hashByValue 8 (.ref a)) Q E s := by
  have hT := hk.typeIs
  obtain ⟨o, items, n, ho, _, hd, hi⟩ := hk
  unfold hashByValue
  refine wpAny_bind (wpAny_specialOf hT F.slot_tuple_hash.lookup ?_)
  dsimp only
  refine wpAny_bind (seqItems_tuple ho hd ?_)
  simp only [Option.getD_some]
  refine wpAny_bind ?_
  rw [← Array.forIn_toList]
  refine wpAny_forIn_list _ (fun rest r s' => r.1 = none ∧ s' = s ∧ ∀ v ∈ rest, carriedByValue v = true) _ ?_ ?_ _ _ ⟨rfl, rfl, hi.byValue⟩
  · rintro v rest r s' ⟨hr, rfl, hall⟩
    obtain ⟨b, e⟩ := hash_plain 7 (hall v List.mem_cons_self)
    rw [e]
    refine wpAny_bind (wpAny_pure ?_)
    refine wpAny_ite_split (fun _ => wpAny_pure ?_) fun _ => wpAny_pure ⟨rfl, rfl, fun u hu' => hall u (List.mem_cons_of_mem _ hu')⟩
    exact wpAny_pure (h _)
  · rintro ⟨r1, r2⟩ s' ⟨hr, rfl, _⟩
    simp only at hr
    subst hr
    exact wpAny_pure (h _)
def Sz (es : Array (Int × Value)) (t : SetTable) : Prop := (t.mask = 7 ∧ es.size ≤ 4) ∨ (t.mask = 31 ∧ es.size ≤ 18)
theorem set_put {h : Heap} {S : Addr} {o : Obj} {es : Array (Int × Value)} {ep : Nat} {t : SetTable} (ho : h.get? S = some o) (hd : o.data = .set es ep t) (es' : Array (Int × Value)) (t' : SetTable) : (h.update S (Obj.putSet es' t')).get? S = some { o with data := .set es' (ep + 1) t' } := by
  have := Heap.get?_update_self (Obj.putSet es' t') ho (by rw [putSet_of es' t' hd]; rfl)
  rw [putSet_of es' t' hd] at this
  exact this
theorem relay_walk {S : Addr} {o : Obj} {es : Array (Int × Value)} {ep : Nat} {t : SetTable} (ho : s.heap.get? S = some o) (hd : o.data = .set es ep t) (hf : t.fits es.size = true) (h5 : es.size = 5) {Q : Unit → Shared → Prop}
    (h : ∀ h' es' t' ep', Heap.SameBut S s.heap h' → h'.get? S = some { o with data := .set es' ep' t' } → Tab es' t' → es'.toList.Perm es.toList → Sz es' t' → Q () { s with heap := h' }) :
    wpAny (model prog w) A (setRelay S (SetTable.grown 5)) Q E s := by
  obtain ⟨t2, order, e1, T2, p2⟩ := laid_tab (.inr rfl : (31 : Nat) = 7 ∨ (31 : Nat) = 31) es (by omega) t.finger (t.movedTo 31) t.led t.plain
  have hsz : (order.filterMap (es[·]?)).size = es.size := by rw [← Array.length_toList, p2.length_eq, Array.length_toList]
  have e0 : SetTable.sizeAbove (SetTable.grown 5) = 32 := by decide
  have e3 : t.relaid (es.map (·.1)) (SetTable.grown 5) = some (t2, order) := by
    unfold SetTable.relaid
    rw [e0]
    exact e1
  have hm : t2.mask = 31 := by
    unfold SetTable.laid at e1
    cases q : layClean 31 (es.map (·.1)) with
    | none => rw [q] at e1; cases e1
    | some ow => rw [q] at e1; cases e1; rfl
  unfold setRelay
  refine wpAny_bind (wpAny_setState_of ho hd hf ?_)
  dsimp only
  rw [e0, if_neg (by rw [sizeLine_eq]; decide), e3]
  refine wpAny_bind ?_
  show wpAny _ _ (if ((order.filterMap (es[·]?)).size != es.size) = true then _ else pure (order.filterMap (es[·]?), t2)) _ _ _
  rw [if_neg (by rw [hsz]; simp)]
  refine wpAny_pure ?_
  dsimp only
  refine wpAny_storeSet_of ho hd ?_ (by rw [hsz, h5, sizeLine_eq]; decide)
  exact h _ _ _ _ (Heap.SameBut.update _ _ _) (set_put ho hd _ _) T2 p2 (.inr ⟨hm, by omega⟩)
theorem add_walk {S : Addr} {o : Obj} {es : Array (Int × Value)} {ep : Nat} {t : SetTable} (ho : s.heap.get? S = some o) (hd : o.data = .set es ep t) (T : Tab es t) (hz : Sz es t) (h17 : es.size ≤ 17) {X : Addr} {kx : List K} (hx : IsTupleKey knd s.heap kx X) (hes : Elems knd s.heap es.toList) (hu : A.units < cLine)
    {Q : Bool → Shared → Prop} (hF : (∃ q ∈ es.toList, KeyAt knd s.heap kx q.2) → Q false s)
    (hN : (∀ q ∈ es.toList, ¬KeyAt knd s.heap kx q.2) → ∀ h' es' t' ep', Heap.SameBut S s.heap h' → h'.get? S = some { o with data := .set es' ep' t' } → Tab es' t' → es'.toList.Perm ((tupleKeyHash knd kx, .ref X) :: es.toList) → Sz es' t' → Q true { s with heap := h' }) :
    wpAny (model prog w) A (setAddHashed S (.ref X) (tupleKeyHash knd kx)) Q E s := by
  obtain ⟨e, hlt, he, hoc⟩ := T.first (tupleKeyHash knd kx)
  have hfull : e < 100000 := by
    rcases T.mask with q | q <;> rw [q] at hlt <;> exact Nat.lt_trans hlt (by decide)
  unfold setAddHashed setAddHashedIn
  refine wpAny_holding (wpAny_bind (wpAny_setState_of ho hd T.fits ?_))
  dsimp only
  rw [show byScan (Value.ref X) es = false from rfl]
  simp only [Bool.false_eq_true, if_false]
  unfold setSearch
  refine wpAny_bind (search_walk ho hd T hx hes hu he hoc hlt (fun hf => ?_) 100000 0 none (Nat.zero_le _) (by omega) rfl fun hfree => ?_)
  · dsimp only
    exact wpAny_pure (hF hf)
  · have hno : ∀ q ∈ es.toList, ¬KeyAt knd s.heap kx q.2 := fun q hq ka => by
      obtain ⟨k, kb, e1⟩ := hes q hq
      obtain rfl := ka.inj kb
      obtain ⟨i, hi, rfl⟩ := List.mem_iff_getElem.mp hq
      have hi' : i < t.place.toList.length := by simp at hi ⊢; rw [T.size]; exact hi
      have hzip : (t.place.toList[i], es.toList[i]) ∈ t.place.toList.zip es.toList := List.mem_iff_getElem.mpr ⟨i, by simp at hi hi' ⊢; omega, by simp⟩
      obtain ⟨n, e2, hr⟩ := T.reach _ hzip
      dsimp only at e2 hr
      rw [e1] at e2 hr
      have hn : n < e := by
        rcases Nat.lt_trichotomy n e with q | q | q
        · exact q
        · rw [← q, e2] at he
          exact absurd (List.getElem_mem hi') he
        · exact absurd (hr e q) he
      exact hfree n (Nat.zero_le _) hn _ (e2 ▸ hzip) ka
    dsimp only
    refine wpAny_bind (wpAny_setState_of ho hd T.fits ?_)
    dsimp only
    rw [T.putEq]
    dsimp only
    have hb : ∀ b : Bool, wpAny (model prog w) A (do
        storeSet S (insertAt es (below t.place (sig t.mask (tupleKeyHash knd kx) e)) (tupleKeyHash knd kx, Value.ref X)) (if b = true then { t with place := insertAt t.place (below t.place (sig t.mask (tupleKeyHash knd kx) e)) (sig t.mask (tupleKeyHash knd kx) e) } else { t with place := insertAt t.place (below t.place (sig t.mask (tupleKeyHash knd kx) e)) (sig t.mask (tupleKeyHash knd kx) e), plain := false })
        if (!false && (if b = true then { t with place := insertAt t.place (below t.place (sig t.mask (tupleKeyHash knd kx) e)) (sig t.mask (tupleKeyHash knd kx) e) } else { t with place := insertAt t.place (below t.place (sig t.mask (tupleKeyHash knd kx) e)) (sig t.mask (tupleKeyHash knd kx) e), plain := false }).tooFull) = true then do
            setRelay S (SetTable.grown (es.size + 1))
            pure true
          else pure true) Q E s := by
      intro b
      have T1 : Tab (insertAt es (below t.place (sig t.mask (tupleKeyHash knd kx) e)) (tupleKeyHash knd kx, Value.ref X)) (if b = true then { t with place := insertAt t.place (below t.place (sig t.mask (tupleKeyHash knd kx) e)) (sig t.mask (tupleKeyHash knd kx) e) } else { t with place := insertAt t.place (below t.place (sig t.mask (tupleKeyHash knd kx) e)) (sig t.mask (tupleKeyHash knd kx) e), plain := false }) := by
        have hq : es.size + 1 ≤ t.mask := by rcases hz with q | q <;> omega
        cases b
        · exact T.put he hoc hq false
        · exact T.put he hoc hq t.plain
      have hmk : (if b = true then { t with place := insertAt t.place (below t.place (sig t.mask (tupleKeyHash knd kx) e)) (sig t.mask (tupleKeyHash knd kx) e) } else { t with place := insertAt t.place (below t.place (sig t.mask (tupleKeyHash knd kx) e)) (sig t.mask (tupleKeyHash knd kx) e), plain := false }).mask = t.mask := by cases b <;> rfl
      generalize (if b = true then { t with place := insertAt t.place (below t.place (sig t.mask (tupleKeyHash knd kx) e)) (sig t.mask (tupleKeyHash knd kx) e) } else { t with place := insertAt t.place (below t.place (sig t.mask (tupleKeyHash knd kx) e)) (sig t.mask (tupleKeyHash knd kx) e), plain := false }) = t1 at T1 hmk ⊢
      have hp : (insertAt es (below t.place (sig t.mask (tupleKeyHash knd kx) e)) (tupleKeyHash knd kx, Value.ref X)).toList.Perm ((tupleKeyHash knd kx, .ref X) :: es.toList) := by
        rw [insert_list]
        exact List.perm_middle.trans (by rw [List.take_append_drop])
      have hs1 : (insertAt es (below t.place (sig t.mask (tupleKeyHash knd kx) e)) (tupleKeyHash knd kx, Value.ref X)).size = es.size + 1 := by
        rw [← Array.length_toList, hp.length_eq]; simp
      generalize insertAt es (below t.place (sig t.mask (tupleKeyHash knd kx) e)) (tupleKeyHash knd kx, Value.ref X) = es1 at T1 hp hs1 ⊢
      refine wpAny_bind (wpAny_storeSet_of ho hd ?_ (by rw [hs1, sizeLine_eq]; omega))
      have ho1 := set_put ho hd es1 t1
      have sb1 := Heap.SameBut.update s.heap S (Obj.putSet es1 t1)
      refine wpAny_ite_split (fun hfu => ?_) fun hfu => ?_
      · have hfu : t1.tooFull = true := by simpa using hfu
        unfold SetTable.tooFull at hfu
        rw [T1.fill, hs1, hmk] at hfu
        have hfu := of_decide_eq_true hfu
        have h4 : es.size = 4 := by rcases hz with q | q <;> omega
        rw [h4]
        refine wpAny_bind (relay_walk (s := { s with heap := s.heap.update S (Obj.putSet es1 t1) }) ho1 rfl T1.fits (by omega) fun h' es' t' ep' sb2 ho2 T2 p2 z2 => ?_)
        exact wpAny_pure (hN hno _ _ _ _ (sb1.trans sb2) ho2 T2 (p2.trans hp) z2)
      · have hfu : t1.tooFull = false := by simpa using hfu
        unfold SetTable.tooFull at hfu
        rw [T1.fill, hs1, hmk] at hfu
        have hfu := of_decide_eq_false hfu
        refine wpAny_pure (hN hno _ _ _ _ sb1 ho1 T1 hp ?_)
        unfold Sz
        rw [hs1, hmk]
        rcases hz with q | q <;> omega
    refine wpAny_ite_split (fun _ => wpAny_bind (hash_tuple hx fun b => hb b)) fun _ => wpAny_bind (wpAny_pure (hb true))
end

end
-- part T7
section
open PySem PySem.SetTable
set_option maxRecDepth 100000
theorem typeCall_set_1 (a : Value) : checkTypeCall "set" ⟨[a], []⟩ = pure () := by kernel_rfl
theorem newCall_set_1 (a : Value) : checkBuiltinCall "set.__new__" ⟨[.type "set", a], []⟩ = pure () := by kernel_rfl
theorem entry_set_loop : entryFor table "set.update.loop" = some Builtin.«set.update.loop» := entryFor_of_tree (by kernel_rfl)
theorem plain_set_loop : plainId "set.update.loop" = true := by decide +kernel
section
variable {prog : Program} {w : World} {A : Around} {E : Value → Shared → Prop} {s : Shared}
theorem code_set_new1 (a : Value) {Q₁ : Value → Shared → Prop}
    (h : ∀ led : Bool, Q₁ (.ref s.heap.objs.size) { s with heap := s.heap.push { cls := .type "set", dict := none, data := .set #[] 0 (.fresh 0 0 led) } }) :
    codeAny (model prog w) A (.call (.builtin "set.__new__") ⟨[.type "set", a], []⟩) (wants Q₁ E) s := by
  refine codeAny_of_tree ?_
  show wpAny _ A.in1 (do checkBuiltinCall "set.__new__" ⟨[.type "set", a], []⟩; again (.builtin "set.__new__" ⟨[.type "set", a], []⟩)) _ _ s
  refine wpAny_bind (wpAny_of_eq (newCall_set_1 a) (wpAny_pure ⟨plainId_quiet F.plain_set_new _, codeAny_builtin F.entry_set_new ?_⟩))
  rw [Around.under_plainId F.plain_set_new _]
  unfold Builtin.«set.__new__» Builtin.Frozenset.newClass
  have hsub := sub_set_self
  obtain ⟨hp, g, d, tk, os⟩ := s
  dsimp only
  wp_walk
  refine wpAny_askSetting (wpAny_pure ?_)
  dsimp only
  simp only [newObj]
  refine wpAny_bind (wpAny_alloc (wpAny_pure ?_))
  exact wpAny_pure (h _)
theorem check_set_init1 {M : Model} {self a : Value} {Q : Unit → Shared → Prop} (hT : s.TypeIs self "set") (hQ : Q () s) :
    wpAny M A (checkBuiltinCall "set.__init__" ⟨[self, a], []⟩) Q E s := by
  simp only [checkBuiltinCall, kind_set_init, split_set_init, sig_set_init]
  refine wpAny_bind (wpAny_isInstance hT sub_set_self ?_)
  simp only [Bool.not_true, Bool.false_eq_true, if_false]
  unfold Bind.checkArgs
  dsimp only
  refine wpAny_bind (m := Bind.printed "set" true _ _) (PyProof.Rows.printed_name (by decide) ?_)
  refine wpAny_bind (m := Bind.printed "*" false _ _) (PyProof.Rows.printed_star (self := self) rfl hT fun short => ?_)
  have hrn : (Manifest.Receiver.self == Manifest.Receiver.none) = false := by decide
  have hn : (if (Manifest.Receiver.self == Manifest.Receiver.none) = true then [self, a].length else [self, a].length - 1) = 1 := by simp [hrn]
  rw [hn]
  simp only [List.map_nil]
  have hc : Bind.check ⟨.positional, "set", "*", .self, [⟨"iterable", .posOnly, false⟩]⟩ "set" short 1 [] = pure () := by
    simp +decide [Bind.check, Bind.checkCount, Bind.isPositional]
  rw [hc]
  exact wpAny_pure hQ
set_option maxHeartbeats 1000000 in
theorem call_set_1 (a : Value) {Q : Value → Shared → Prop}
    (h : ∀ led : Bool, wpAny (model prog w) A.in1.in1 (Builtin.Frozenset.updateFrom "set.__init__" s.heap.objs.size a) (fun _ s₂ => Q (.ref s.heap.objs.size) s₂) E { s with heap := s.heap.push { cls := .type "set", dict := none, data := .set #[] 0 (.fresh 0 0 led) } }) :
    wpAny (model prog w) A (call (.type "set") [a]) Q E s := by
  obtain ⟨c, tl, hmro⟩ := F.called_set.mro
  have hmade := F.called_set.made
  have hsub := F.called_set.sub
  refine wpAny_call (codeAny_of_tree ?_)
  show wpAny _ _ (callAny (.type "set") _) _ _ _
  refine wpAny_pure ⟨Code.quiet_builtin _ (by decide +kernel), codeAny_builtin F.entry_type_call ?_⟩
  rw [Around.under_plain (weight_type_call_type "set" [a] []) rfl]
  have h1 := F.called_set.notType
  have h2 := F.called_set.canCreate
  have hct := typeCall_set_1 a
  repeat (any_goals (first | assumption | wp_step))
  refine codeAny_mono (code_set_new1 a (E := E) (Q₁ := fun obj s₁ => ∃ led : Bool, obj = .ref s.heap.objs.size ∧ s₁ = { s with heap := s.heap.push { cls := .type "set", dict := none, data := .set #[] 0 (.fresh 0 0 led) } }) fun led => ⟨led, rfl, rfl⟩) fun r s₁ hr => ?_
  cases r with
  | error e => exact hr
  | ok fl =>
    cases fl with
    | ret obj =>
      obtain ⟨led, rfl, rfl⟩ := hr
      have hS : (s.heap.push { cls := .type "set", dict := none, data := .set #[] 0 (.fresh 0 0 led) }).get? s.heap.objs.size = some { cls := .type "set", dict := none, data := .set #[] 0 (.fresh 0 0 led) } := Heap.get?_push_size _ rfl
      have hT : Shared.TypeIs { s with heap := s.heap.push { cls := .type "set", dict := none, data := .set #[] 0 (.fresh 0 0 led) } } (.ref s.heap.objs.size) "set" := ⟨_, hS, rfl⟩
      have hli := F.called_set.init.lookup
      have hbi := F.called_set.init.bind (.ref s.heap.objs.size)
      repeat (any_goals (first | assumption | wp_step))
      refine codeAny_mono (codeAny_call_builtin (R := wants (fun r s₂ => r = .none ∧ Q (.ref s.heap.objs.size) s₂) E) F.called_set.init.plain F.entry_set_init (check_set_init1 hT ?_)) fun r₂ s₂ hr₂ => ?_
      · unfold Builtin.«set.__init__» noKeywords
        have hU := h led
        generalize Builtin.Frozenset.updateFrom "set.__init__" = U at hU ⊢
        wp_walk
        exact wpAny_mono hU (fun _ s₂ hq => wpAny_pure ⟨rfl, hq⟩) fun _ _ e => e
      · cases r₂ with
        | error e => exact hr₂
        | ok fl₂ =>
          cases fl₂ with
          | ret r =>
            obtain ⟨rfl, hq⟩ := hr₂
            repeat (any_goals (first | assumption | wp_step))
          | _ => exact hr₂.elim
    | _ => exact hr.elim
end

end
-- part T8
section
open PySem PySem.SetTable PyProof.Rows
set_option maxRecDepth 100000
section
variable {prog : Program} {w : World} {K : Type} [DecidableEq K] {knd : KeyKind prog w K} {A : Around} {E : Value → Shared → Prop} {s : Shared}
theorem KeyAt.keeps {h h' : Heap} {k : List K} {v : Value} (a : KeyAt knd h k v) (hk : ∀ b o items n, h.get? b = some o → o.data = .seq items n → h'.get? b = some o) : KeyAt knd h' k v := by
  obtain ⟨x, rfl, o, items, n, ho, hc, hd, hi⟩ := a
  exact ⟨x, rfl, o, items, n, hk _ _ _ _ ho hd, hc, hd, hi⟩
/-- the set after i items -/
structure SetAt (knd : KeyKind prog w K) (h : Heap) (S : Addr) (done : List (List K)) (es : Array (Int × Value)) (ep : Nat) (t : SetTable) : Prop where
  obj : h.get? S = some { cls := .type "set", dict := none, data := .set es ep t }
  tab : Tab es t
  sz : Sz es t
  elems : Elems knd h es.toList
  mem : ∀ k, (∃ q ∈ es.toList, KeyAt knd h k q.2) ↔ k ∈ done
  le : es.size ≤ done.length
  nod : es.size = done.length → done.Nodup
abbrev KeysAt (knd : KeyKind prog w K) (h : Heap) (vs : List Value) (keys : List (List K)) : Prop := ∀ (i : Nat) (v : Value), vs[i]? = some v → ∃ k, keys[i]? = some k ∧ KeyAt knd h k v
/-- nothing that holds items is turned -/
abbrev SeqKept (h h' : Heap) : Prop := ∀ b o items n, h.get? b = some o → o.data = .seq items n → h'.get? b = some o
theorem SetAt.keeps {h h' : Heap} {S : Addr} {done : List (List K)} {es : Array (Int × Value)} {ep : Nat} {t : SetTable} (x : SetAt knd h S done es ep t) (hk : SeqKept h h') (ho : h'.get? S = some { cls := .type "set", dict := none, data := .set es ep t }) : SetAt knd h' S done es ep t :=
  ⟨ho, x.tab, x.sz, fun e he => by obtain ⟨k, a, b⟩ := x.elems e he; exact ⟨k, a.keeps hk, b⟩,
    fun k => ⟨fun ⟨q, a, b⟩ => by
      obtain ⟨k', c, _⟩ := x.elems q a
      rw [b.inj (c.keeps hk)]
      exact (x.mem k').mp ⟨q, a, c⟩, fun m => by obtain ⟨q, a, b⟩ := (x.mem k).mpr m; exact ⟨q, a, b.keeps hk⟩⟩, x.le, x.nod⟩
theorem KeysAt.keeps {h h' : Heap} {vs : List Value} {keys : List (List K)} (x : KeysAt knd h vs keys) (hk : SeqKept h h') : KeysAt knd h' vs keys := fun i v hv => by
  obtain ⟨k, a, b⟩ := x i v hv
  exact ⟨k, a, b.keeps hk⟩
theorem set_loop {S l I : Addr} {vs : List Value} {keys : List (List K)} {R : Result → Shared → Prop} (hSI : S ≠ I) (hlI : l ≠ I) (hlS : l ≠ S) (hlen : keys.length = vs.length) (h17 : vs.length ≤ 17) (hu : A.in1.units < cLine) (hh : A.in1.handled = none) :
    ∀ (d i : Nat) (s : Shared) {es : Array (Int × Value)} {ep : Nat} {t : SetTable}, vs.length - i = d → i ≤ vs.length → s.heap.IsListIter I l i → s.heap.IsList l vs.toArray → SetAt knd s.heap S (keys.take i) es ep t → KeysAt knd s.heap vs keys →
      (∀ h' tk es' ep' t', (∀ b o, b ≠ S → b ≠ I → s.heap.get? b = some o → h'.get? b = some o) → SetAt knd h' S keys es' ep' t' → R (.ok (.ret .none)) { s with heap := h', toks := tk }) →
      codeAny (model prog w) A (.builtin "set.update.loop" ⟨[.ref S, .ref I], []⟩) R s
  | 0, i, s, es, ep, t, hd, hi, hit, hl, hs, hk, hR => by
    have hin : i = vs.length := by omega
    refine codeAny_builtin entry_set_loop ?_
    rw [Around.under_plainId plain_set_loop _]
    show wpAny _ A.in1 (pyNext (.ref I) >>= _) _ _ s
    refine wpAny_bind (wpAny_pyNext_list_end hh hit hl (by simp [hin]) fun h' he => ?_)
    dsimp only
    refine wpAny_pure ?_
    have hsq : SeqKept s.heap h' := fun b o items n ho hdo => he b o (fun e => by
      obtain ⟨o', ho', _, hd'⟩ := hit
      rw [e, ho'] at ho
      obtain rfl := Option.some.inj ho
      rw [hd'] at hdo
      cases hdo) ho
    have := hs.keeps hsq (he S _ hSI hs.obj)
    rw [hin, ← hlen, List.take_length] at this
    exact hR h' s.toks _ _ _ (fun b o _ hb e => he b o hb e) this
  | d + 1, i, s, es, ep, t, hd, hi, hit, hl, hs, hk, hR => by
    have hlt : i < vs.length := by omega
    obtain ⟨k, ek, ka⟩ := hk i _ (List.getElem?_eq_getElem hlt)
    refine codeAny_builtin entry_set_loop ?_
    rw [Around.under_plainId plain_set_loop _]
    show wpAny _ A.in1 (pyNext (.ref I) >>= _) _ _ s
    refine wpAny_bind (wpAny_pyNext_list_item hit hl (x := vs[i]) (by simp [hlt]) fun h1 hit1 sb1 => ?_)
    dsimp only
    have nI : ∀ b o items n, s.heap.get? b = some o → o.data = .seq items n → b ≠ I := fun b o items n ho hdo e => by
      obtain ⟨o', ho', _, hd'⟩ := hit
      rw [e, ho'] at ho
      obtain rfl := Option.some.inj ho
      rw [hd'] at hdo
      cases hdo
    have sq1 : SeqKept s.heap h1 := fun b o items n ho hdo => (sb1.2 b (nI b o items n ho hdo)).trans ho
    have s1 : SetAt knd h1 S (keys.take i) es ep t := hs.keeps sq1 ((sb1.2 S hSI).trans hs.obj)
    have k1 := hk.keeps sq1
    have l1 : h1.IsList l vs.toArray := hl.extBut sb1.extBut hlI
    have ka1 := ka.keeps sq1
    obtain ⟨X, eX, hX⟩ := ka1
    rw [eX]
    have hle := hs.le
    rw [List.length_take] at hle
    refine wpAny_bind (wpAny_holding ?_)
    unfold setAdd
    refine wpAny_holding (wpAny_bind (wpAny_pyHash_tuple (s := { s with heap := h1 }) hu hX ?_))
    have etk : keys.take (i + 1) = keys.take i ++ [k] := by rw [List.take_add_one, ek]; rfl
    refine add_walk (s := { s with heap := h1, toks := _ }) s1.obj rfl s1.tab s1.sz (by omega) hX s1.elems hu (fun hf => ?_) fun hno h2 es2 t2 ep2 sb2 ho2 T2 p2 z2 => ?_
    · dsimp only
      refine wpAny_pure ⟨plainId_quiet plain_set_loop _, set_loop hSI hlI hlS hlen h17 hu hh d (i + 1) _ (es := es) (ep := ep) (t := t) (by omega) hlt hit1 l1 ?_ k1 fun h' tk es' ep' t' hb hs' => ?_⟩
      · refine ⟨s1.obj, s1.tab, s1.sz, s1.elems, fun k' => ?_, ?_, fun e => ?_⟩
        · rw [etk, List.mem_append, List.mem_singleton, s1.mem k']
          exact ⟨.inl, fun h => h.elim id fun e => e ▸ (s1.mem k).mp hf⟩
        · rw [List.length_take]; omega
        · rw [List.length_take] at e; omega
      · exact hR h' tk es' ep' t' (fun b o hbS hbI ho => hb b o hbS hbI ((sb1.2 b hbI).trans ho)) hs'
    · dsimp only
      have nS : ∀ b o items n, h1.get? b = some o → o.data = .seq items n → b ≠ S := fun b o items n ho hdo e => by
        rw [e, s1.obj] at ho
        obtain rfl := Option.some.inj ho
        cases hdo
      have sq2 : SeqKept h1 h2 := fun b o items n ho hdo => (sb2.2 b (nS b o items n ho hdo)).trans ho
      have ka2 : KeyAt knd h2 k (.ref X) := KeyAt.keeps ⟨X, rfl, hX⟩ sq2
      have hsz : es2.size = es.size + 1 := by
        have := p2.length_eq
        simpa using this
      refine wpAny_pure ⟨plainId_quiet plain_set_loop _, set_loop hSI hlI hlS hlen h17 hu hh d (i + 1) _ (es := es2) (ep := ep2) (t := t2) (by omega) hlt ?_ (l1.extBut sb2.extBut hlS) ?_ (k1.keeps sq2) fun h' tk es' ep' t' hb hs' => ?_⟩
      · obtain ⟨o', ho', r⟩ := hit1
        exact ⟨o', (sb2.2 I (Ne.symm hSI)).trans ho', r⟩
      · refine ⟨ho2, T2, z2, fun e he => ?_, fun k' => ?_, ?_, fun e => ?_⟩
        · rcases List.mem_cons.mp (p2.mem_iff.mp he) with rfl | he
          · exact ⟨k, ka2, rfl⟩
          · obtain ⟨k', a, b⟩ := s1.elems e he
            exact ⟨k', a.keeps sq2, b⟩
        · rw [etk, List.mem_append, List.mem_singleton]
          constructor
          · rintro ⟨q, hq, kq⟩
            rcases List.mem_cons.mp (p2.mem_iff.mp hq) with rfl | hq
            · exact .inr (kq.inj ka2)
            · obtain ⟨k0, c, _⟩ := s1.elems q hq
              rw [kq.inj (c.keeps sq2)]
              exact .inl ((s1.mem k0).mp ⟨q, hq, c⟩)
          · rintro (h | rfl)
            · obtain ⟨q, hq, kq⟩ := (s1.mem k').mpr h
              exact ⟨q, p2.mem_iff.mpr (.tail _ hq), kq.keeps sq2⟩
            · exact ⟨_, p2.mem_iff.mpr (.head _), ka2⟩
        · rw [hsz, List.length_take]; omega
        · rw [etk]
          have hl2 := s1.nod
          rw [List.length_take] at e hl2
          rw [List.nodup_append]
          refine ⟨hl2 (by omega), by simp, fun a ha b hb => ?_⟩
          rw [List.mem_singleton.mp hb]
          rintro rfl
          obtain ⟨q, hq, kq⟩ := (s1.mem a).mpr ha
          exact hno q hq kq
      · exact hR h' tk es' ep' t' (fun b o hbS hbI ho => hb b o hbS hbI ((sb2.2 b hbS).trans ((sb1.2 b hbI).trans ho))) hs'
end

end
-- part T9
section
open PySem PySem.SetTable PySem.W PyProof.Rows
set_option maxRecDepth 100000
theorem sub_list_set : isSubtype (.type "list") (.type "set") = pure false := by rw [isSubtype_type]; kernel_rfl
theorem sub_list_frozen : isSubtype (.type "list") (.type "frozenset") = pure false := by rw [isSubtype_type]; kernel_rfl
abbrev setObj (es : Array (Int × Value)) (ep : Nat) (t : SetTable) : Obj := { cls := .type "set", dict := none, data := .set es ep t }
section
variable {prog : Program} {w : World} {A : Around} {E : Value → Shared → Prop} {s : Shared} {K : Type} [DecidableEq K] {knd : KeyKind prog w K}
theorem set_of_list {h₀ : Heap} {L l : Addr} {m : Str → Option Value} {news : List (Addr × Obj)} {vs : List Value} {n : Nat} {keys : List (List K)} {Q : Value → Shared → Prop} (F : Fr h₀ L s.heap m) (N : News h₀ L s.heap news) (hm : (l, W.listOf vs.toArray n) ∈ news)
    (hk : KeysAt knd s.heap vs keys) (hlen : keys.length = vs.length) (h17 : vs.length ≤ 17) (hu : A.in1.in1.in1.units < cLine) (hh : A.in1.in1.in1.handled = none)
    (h : ∀ D h' tk es ep t, Fr h₀ L h' m → News h₀ L h' ((D, setObj es ep t) :: news) → (∀ p ∈ news, p.1 < D) → t.fits es.size = true → es.size ≤ vs.length → (es.size = vs.length → keys.Nodup) → Q (.ref D) { s with heap := h', toks := tk }) :
    wpAny (model prog w) A (call (.type "set") [.ref l]) Q E s := by
  have hl := News.isList N hm
  refine call_set_1 _ fun led => ?_
  have hl1 : (s.heap.push (setObj #[] 0 (.fresh 0 0 led))).IsList l vs.toArray := hl.push _
  have hT : Shared.TypeIs { s with heap := s.heap.push (setObj #[] 0 (.fresh 0 0 led)) } (.ref l) "list" := hl1.typeIs
  unfold Builtin.Frozenset.updateFrom Builtin.Frozenset.isAnySet
  refine wpAny_bind (wpAny_bind (wpAny_isInstance hT sub_list_set ?_))
  dsimp only
  refine wpAny_isInstance hT sub_list_frozen ?_
  simp only [Bool.false_eq_true, if_false]
  refine wpAny_bind (wpAny_typeOf hT ?_)
  rw [if_neg (by decide)]
  refine wpAny_bind (wpAny_pyIter_list hl1 ?_)
  have hS : l < s.heap.objs.size := by obtain ⟨o, ho, _⟩ := hl; exact Heap.lt_size ho
  have sq : SeqKept s.heap ((s.heap.push (setObj #[] 0 (.fresh 0 0 led))).push { cls := .type "list_iterator", data := .fields #[.ref l, .int 0 0] }) := fun b o _ _ e _ => Heap.get?_push_of_some _ (Heap.get?_push_of_some _ e)
  refine wpAny_bind (wpAny_runValue (set_loop (knd := knd) (keys := keys) (vs := vs) ?_ ?_ ?_ hlen h17 hu hh vs.length 0 _ (es := #[]) (ep := 0) (t := .fresh 0 0 led) rfl (Nat.zero_le _) ⟨_, Heap.get?_push_size _ rfl, rfl, rfl⟩ (hl1.push _) ?_ (hk.keeps sq) fun h' tk es' ep' t' hb hs => ?_))
  · rw [Heap.size_push]; exact Nat.ne_of_lt (Nat.lt_succ_self _)
  · rw [Heap.size_push]; exact Nat.ne_of_lt (Nat.lt_succ_of_lt hS)
  · exact Nat.ne_of_lt hS
  · refine ⟨Heap.get?_push_of_some _ (Heap.get?_push_size _ rfl), ⟨rfl, .nil, rfl, .inl rfl, Nat.zero_le _, (fun q hq => nomatch hq)⟩, .inl ⟨rfl, Nat.zero_le _⟩, (fun e he => nomatch he), (fun k => ⟨fun ⟨q, hq, _⟩ => (nomatch hq), fun hq => (nomatch hq)⟩), Nat.zero_le _, fun _ => .nil⟩
  · have hk' : ∀ b o, s.heap.get? b = some o → h'.get? b = some o := fun b o e => by
      have hlt := Heap.lt_size e
      exact hb b o (Nat.ne_of_lt hlt) (by rw [Heap.size_push]; exact Nat.ne_of_lt (Nat.lt_succ_of_lt hlt)) (Heap.get?_push_of_some _ (Heap.get?_push_of_some _ e))
    refine wpAny_pure (h _ h' tk es' ep' t' (F.keeps hk') (fun p hp => ?_) (fun p hp => Heap.lt_size (N p hp).1) hs.tab.fits (hlen ▸ hs.le) fun e => hs.nod (e.trans hlen.symm))
    rcases List.mem_cons.mp hp with rfl | hp
    · refine ⟨hs.obj, (Nat.ne_of_lt F.ns.lt).symm, ?_⟩
      cases e : h₀.get? s.heap.objs.size with
      | none => rfl
      | some o => exact absurd (Heap.lt_size (F.keep _ _ e)) (Nat.lt_irrefl _)
    · exact N.grown hk' p hp
theorem len_set {h₀ : Heap} {L D : Addr} {news : List (Addr × Obj)} {es : Array (Int × Value)} {ep : Nat} {t : SetTable} {Q : Value → Shared → Prop} (N : News h₀ L s.heap news) (hm : (D, setObj es ep t) ∈ news) (hf : t.fits es.size = true) (hz : es.size ≤ 1000) (h : Q (.int es.size (s.toks + 1)) { s with toks := s.toks + 1 + 1 }) :
    wpAny (model prog w) A (call (.builtin "len") [.ref D]) Q E s :=
  call_len_set (N _ hm).1 ⟨rfl, rfl, rfl⟩ rfl hf (by omega) h
end

end
-- part F3
section
open PySem PySem.W PyProof.Rows
set_option maxRecDepth 100000
set_option maxHeartbeats 0
/-- law's state once the tape is made -/
def LawJ (base : Heap) (L : Addr) (c : Addr) (s₁ : Shared) (f : Flow) (s₂ : Shared) : Prop :=
  f = .next ∧ ∃ h' tk m₁ ta ca cvs cn n t ns co rest, s₂ = { s₁ with heap := h', toks := tk } ∧ Fr base L h' m₁ ∧ News base L h' ((ta, tapeObj ca 0 t n) :: (c, co) :: (231, tabObj #[]) :: rest) ∧
    (∀ p ∈ (c, co) :: (231, tabObj #[]) :: rest, p.1 ≠ ta) ∧ (∀ p ∈ rest, p.1 ≠ 231) ∧ c ≠ 231 ∧ (ca, listOf cvs.toArray cn) ∈ rest ∧ IntsAre cvs ns ∧ 0 < ns.length ∧ ns.length ≤ 48 ∧ co.data = .cell (some (.ref ta))
theorem law_join {prog : Program} {w : World} {A : Around} {E : Value → Shared → Prop} {s : Shared} {base : Heap} {L c : Addr} {m : Str → Option Value} {Q : Flow → Shared → Prop} {t : Sem Flow} {o₀ : Obj} (_F : Fr base L s.heap m) (_N : News base L s.heap [(c, o₀), (231, tabObj #[])])
    (h1 : wpAny (model prog w) A t (LawJ base L c s) E s)
    (h2 : ∀ h' tk m₁ ta ca cvs cn n t ns co rest, Fr base L h' m₁ → News base L h' ((ta, tapeObj ca 0 t n) :: (c, co) :: (231, tabObj #[]) :: rest) →
    (∀ p ∈ (c, co) :: (231, tabObj #[]) :: rest, p.1 ≠ ta) → (∀ p ∈ rest, p.1 ≠ 231) → c ≠ 231 → (ca, listOf cvs.toArray cn) ∈ rest → IntsAre cvs ns → 0 < ns.length → ns.length ≤ 48 → co.data = .cell (some (.ref ta)) → Q .next { s with heap := h', toks := tk }) : wpAny (model prog w) A t Q E s :=
  wpAny_mono h1 (fun f s' h => by
    obtain ⟨rfl, h', tk, m₁, ta, ca, cvs, cn, n, t, ns, co, rest, rfl, a1, a2, a3, a4, a5, a6, a7, a8, a9, a10⟩ := h
    exact h2 h' tk m₁ ta ca cvs cn n t ns co rest a1 a2 a3 a4 a5 a6 a7 a8 a9 a10) fun _ _ e => e
theorem PairAt.sub {w : World} {n n' : List (Addr × Obj)} {v : Value} {g : Gl} (h : PairAt w n v g) (l : ∀ p ∈ n, p ∈ n') : PairAt w n' v g := by
  cases h with | mk a b c d => exact .mk (l _ a) (b.sub l) (l _ c) d
/-- glyphs with their plain readings, in a list -/
inductive Prs (w : World) (led : List (Addr × Obj)) : List Value → List Gl → Prop
  | nil : Prs w led [] []
  | snoc {vs : List Value} {gs : List Gl} {v : Value} {g : Gl} : Prs w led vs gs → PairAt w led v g → Prs w led (vs ++ [v]) (gs ++ [g])
theorem Prs.sub {w : World} {n n' : List (Addr × Obj)} {vs : List Value} {gs : List Gl} (h : Prs w n vs gs) (l : ∀ p ∈ n, p ∈ n') : Prs w n' vs gs := by
  induction h with
  | nil => exact .nil
  | snoc _ a ih => exact .snoc ih (a.sub l)
theorem Prs.len {w : World} {n : List (Addr × Obj)} {vs : List Value} {gs : List Gl} (h : Prs w n vs gs) : vs.length = gs.length := by
  induction h with
  | nil => rfl
  | snoc _ a ih => simp [ih]
theorem Prs.get {w : World} {n : List (Addr × Obj)} {vs : List Value} {gs : List Gl} (h : Prs w n vs gs) : ∀ i, i < vs.length → ∃ v g, vs[i]? = some v ∧ gs[i]? = some g ∧ PairAt w n v g := by
  induction h with
  | nil => intro i hi; exact absurd hi (Nat.not_lt_zero _)
  | @snoc vs gs v g hr ha ih =>
    intro i hi
    have hl := hr.len
    by_cases hlt : i < vs.length
    · obtain ⟨v', g', e1, e2, e3⟩ := ih i hlt
      exact ⟨v', g', by rw [List.getElem?_append_left hlt]; exact e1, by rw [List.getElem?_append_left (hl ▸ hlt)]; exact e2, e3⟩
    · rw [List.length_append, List.length_singleton] at hi
      obtain rfl : i = vs.length := by omega
      exact ⟨v, g, by simp, by rw [hl]; simp, ha⟩
theorem PairAt.out {w : World} {n : List (Addr × Obj)} {v : Value} {g : Gl} (h : PairAt w n v g) : ∃ P T gv t1 t2 t3 t4 t5, v = .ref P ∧ (P, tupObj #[gv, .ref T]) ∈ n ∧ IsGl w n gv g ∧ (T, tupObj #[.str g.text t1, .int g.x t2, .int g.y t3, .int g.wd t4, .int g.sz t5]) ∈ n ∧ HighY g := by
  cases h with | mk a b c d => exact ⟨_, _, _, _, _, _, _, _, rfl, a, b, c, d⟩
theorem Prs.high {w : World} {n : List (Addr × Obj)} {vs : List Value} {gs : List Gl} (h : Prs w n vs gs) : ∀ g ∈ gs, HighY g := by
  induction h with
  | nil => exact fun _ h => nomatch h
  | snoc _ a ih =>
    intro g hg
    rcases List.mem_append.mp hg with hg | hg
    · exact ih g hg
    · obtain ⟨P, T, gv, t1, t2, t3, t4, t5, -, -, -, -, hy⟩ := a.out
      rw [List.mem_singleton.mp hg]
      exact hy
theorem IsGl.small {w : World} {n : List (Addr × Obj)} {v : Value} {g : Gl} (h : IsGl w n v g) : g.Small := by cases h with | mk _ _ _ _ _ _ q => exact q
theorem Tups.snoc {n : List (Addr × Obj)} {vs : List Value} {gs : List Gl} {v : Value} {g : Gl} (h : Tups n vs gs) (k : TupAt n v g) : Tups n (vs ++ [v]) (gs ++ [g]) := h.app (.cons k .nil)
section
open PyProof.Rows.LCg
theorem pair_end {h₀ : Heap} {L : Addr} {m : Str → Option Value} {s₁ : Shared} {I C D : Addr} {oI oC oD : Obj} {r : Value → List (Addr × Obj) → Prop} {y : Value} {h' : Heap} {tk : Nat} {q0 q0' a b : Addr × Obj} {tl RR : List (Addr × Obj)} (F : Fr h₀ L h' m)
    (N : News h₀ L h' (q0' :: (tl ++ ((I, oI) :: (C, oC) :: (D, oD) :: a :: b :: RR)))) (hab : ∀ q ∈ (I, oI) :: (C, oC) :: (D, oD) :: a :: b :: RR, ∀ p ∈ tl, p.1 ≠ q.1) (e0 : q0'.1 = q0.1) (off : Off3 I C D (q0 :: a :: b :: RR)) (hr : r y (q0' :: a :: b :: (tl ++ RR))) :
    CompEnd h₀ L m s₁ I oI C oC D oD (fun _ => True) r y { s₁ with heap := h', toks := tk } := by
  refine CompEnd.intro F N (q0' :: a :: b :: (tl ++ RR)) (fun p hp => ?_) (Off3.of fun p hp => ?_) trivial hr
  · have mid : ∀ p ∈ (I, oI) :: (C, oC) :: (D, oD) :: a :: b :: RR, p ∈ q0' :: (tl ++ ((I, oI) :: (C, oC) :: (D, oD) :: a :: b :: RR)) := fun p hp => .tail _ (List.mem_append.mpr (.inr hp))
    rcases List.mem_cons.mp hp with rfl | hp
    · exact mid _ (.head _)
    rcases List.mem_cons.mp hp with rfl | hp
    · exact mid _ (.tail _ (.head _))
    rcases List.mem_cons.mp hp with rfl | hp
    · exact mid _ (.tail _ (.tail _ (.head _)))
    rcases List.mem_cons.mp hp with rfl | hp
    · exact .head _
    rcases List.mem_cons.mp hp with rfl | hp
    · exact mid _ (.tail _ (.tail _ (.tail _ (.head _))))
    rcases List.mem_cons.mp hp with rfl | hp
    · exact mid _ (.tail _ (.tail _ (.tail _ (.tail _ (.head _)))))
    rcases List.mem_append.mp hp with hp | hp
    · exact .tail _ (List.mem_append.mpr (.inl hp))
    · exact mid _ (.tail _ (.tail _ (.tail _ (.tail _ (.tail _ hp)))))
  · rcases List.mem_cons.mp hp with rfl | hp
    · exact e0 ▸ off.mem q0 (.head _)
    rcases List.mem_cons.mp hp with rfl | hp
    · exact off.mem _ (.tail _ (.head _))
    rcases List.mem_cons.mp hp with rfl | hp
    · exact off.mem _ (.tail _ (.tail _ (.head _)))
    rcases List.mem_append.mp hp with hp | hp
    · exact ⟨hab _ (.head _) p hp, hab _ (.tail _ (.head _)) p hp, hab _ (.tail _ (.tail _ (.head _))) p hp⟩
    · exact off.mem p (.tail _ (.tail _ (.tail _ hp)))
end
theorem news_front3 {h₀ h : Heap} {L : Addr} {a b c d : Addr × Obj} {n : List (Addr × Obj)} (N : News h₀ L h (a :: b :: c :: d :: n)) : News h₀ L h (d :: a :: b :: c :: n) := fun p hp => N p (by
  rcases List.mem_cons.mp hp with rfl | hp
  · exact .tail _ (.tail _ (.tail _ (.head _)))
  rcases List.mem_cons.mp hp with rfl | hp
  · exact .head _
  rcases List.mem_cons.mp hp with rfl | hp
  · exact .tail _ (.head _)
  rcases List.mem_cons.mp hp with rfl | hp
  · exact .tail _ (.tail _ (.head _))
  · exact .tail _ (.tail _ (.tail _ (.tail _ hp))))
theorem mem_tail {p q : Addr × Obj} {B : List (Addr × Obj)} (h : p ∈ q :: B) (n : p.1 ≠ q.1) : p ∈ B := by
  rcases List.mem_cons.mp h with rfl | h
  · exact absurd rfl n
  · exact h
theorem gr_front {q : Addr × Obj} {B n' : List (Addr × Obj)} (g : Gr (q :: B) n') (o : ∀ p ∈ B, p.1 ≠ q.1) : ∃ B', (∀ p ∈ q :: B', p ∈ n') ∧ (∀ p ∈ n', p ∈ q :: B') ∧ Gr B B' ∧ ∀ p ∈ B', p.1 ≠ q.1 := by
  obtain ⟨tl, rfl, ap⟩ := g
  have e : (tl ++ q :: B).Perm (q :: (tl ++ B)) := List.perm_middle
  refine ⟨tl ++ B, fun p hp => e.mem_iff.mpr hp, fun p hp => e.mem_iff.mp hp, ⟨tl, rfl, fun z hz => ap z (.tail _ hz)⟩, fun p hp => ?_⟩
  rcases List.mem_append.mp hp with hp | hp
  · exact ap q (.head _) p hp
  · exact o p hp
theorem list_tail {a b : Addr} {vs ps : Array Value} {n : Nat} {B : List (Addr × Obj)} (h : (a, listOf vs n) ∈ (b, tabObj ps) :: B) : (a, listOf vs n) ∈ B := by
  rcases List.mem_cons.mp h with e | h
  · have := congrArg (fun p => p.2.cls) e
    cases this
  · exact h
theorem Strs.at {vs : List Value} {ss : List Str} (h : Strs vs ss) : StrsAt vs ss := by
  refine ⟨h.len, ?_⟩
  induction h with
  | nil => intro i x e; cases e
  | @snoc vs ss x t hs ih =>
    intro i y e
    have hl := hs.len
    rcases Nat.lt_or_ge i ss.length with q | q
    · rw [List.getElem?_append_left q] at e
      rw [List.getElem?_append_left (hl ▸ q)]
      exact ih i y e
    · rw [List.getElem?_append_right q] at e
      rw [List.getElem?_append_right (hl ▸ q)]
      have : i - ss.length = 0 := by
        obtain ⟨a, _⟩ := List.getElem?_eq_some_iff.mp e
        simpa using a
      rw [this] at e
      rw [hl, this]
      cases e
      exact ⟨t, rfl⟩
section
variable {prog : Program} {w : World} {A : Around} {E : Value → Shared → Prop} {s : Shared} {h₀ : Heap} {L l b : Addr} {vs us : List Value} {xs : List Str} {n n2 : Nat} {news : List (Addr × Obj)} {Q : Value → Shared → Prop}
theorem ne_same (N : News h₀ L s.heap news) (hm : (l, listOf vs.toArray n) ∈ news) (hb : (b, listOf us.toArray n2) ∈ news) (hx : StrsAt vs xs) (hy : StrsAt us xs) (hu : A.units < cLine) (h : Q (.bool false) s) :
    wpAny (model prog w) A (compareOp .NotEq (.ref l) (.ref b)) Q E s := ne_strs N hm hb hx hy hu (by rw [decide_eq_true rfl]; exact h)
theorem eq_same (N : News h₀ L s.heap news) (hm : (l, listOf vs.toArray n) ∈ news) (hb : (b, listOf us.toArray n2) ∈ news) (hx : StrsAt vs xs) (hy : StrsAt us xs) (hu : A.units < cLine) (h : Q (.bool true) s) :
    wpAny (model prog w) A (compareOp .Eq (.ref l) (.ref b)) Q E s := eq_strs N hm hb hx hy hu (by rw [decide_eq_true rfl]; exact h)
end
/-- all but lists carried over -/
abbrev ButLists (n n' : List (Addr × Obj)) : Prop := ∀ p ∈ n, (∀ a k, p.2.data ≠ .seq a k) → p ∈ n'
theorem IsDec.subc {w : World} {n n' : List (Addr × Obj)} {v : Value} {b c : Int} (h : IsDec w n v b c) (l : ButLists n n') : IsDec w n' v b c := by
  cases h with
  | mk a d s q => exact .mk (l _ a (fun _ _ e => nomatch e)) (l _ d (fun _ _ e => nomatch e)) s q
theorem IsGl.subc {w : World} {n n' : List (Addr × Obj)} {v : Value} {g : Gl} (h : IsGl w n v g) (l : ButLists n n') : IsGl w n' v g := by
  cases h with
  | mk a b c d e f q => exact .mk (l _ a (fun _ _ e => nomatch e)) (l _ b (fun _ _ e => nomatch e)) (c.subc l) (d.subc l) (e.subc l) (f.subc l) q
theorem AreGls.subc {w : World} {n n' : List (Addr × Obj)} {vs : List Value} {gs : List Gl} (h : AreGls w n vs gs) (l : ButLists n n') : AreGls w n' vs gs := by
  induction h with
  | nil => exact .nil
  | cons a _ ih => exact .cons (a.subc l) ih
theorem AreGls.reverse {w : World} {n : List (Addr × Obj)} {vs : List Value} {gs : List Gl} (h : AreGls w n vs gs) : AreGls w n vs.reverse gs.reverse := by
  induction h with
  | nil => exact .nil
  | cons a _ ih =>
    rw [List.reverse_cons, List.reverse_cons]
    exact ih.snoc a
theorem strs_not_gls {w : World} {n : List (Addr × Obj)} {dvs zs : List Value} {xs : List Str} {gs : List Gl} (h : StrsAt dvs xs) (k : AreGls w n zs gs) (h0 : 0 < zs.length) : dvs ≠ zs := by
  rintro rfl
  obtain ⟨v, g, e1, e2, hg⟩ := k.get 0 h0
  have hx : 0 < xs.length := h.1 ▸ h0
  obtain ⟨t, e3⟩ := h.2 0 xs[0] (List.getElem?_eq_getElem hx)
  rw [e1] at e3
  cases hg
  cases e3
section
variable {prog : Program} {w : World} {A : Around} {E : Value → Shared → Prop} {s : Shared} {h₀ : Heap} {L D da : Addr} {m : Str → Option Value} {vs dvs : List Value} {n dn : Nat} {q : Addr × Obj} {B : List (Addr × Obj)} {gs : List Gl} {xs : List Str} {Q : Value → Shared → Prop}
theorem rev_led (F : Fr h₀ L s.heap m) (N : News h₀ L s.heap (q :: B)) (hm : (D, listOf vs.toArray n) ∈ B) (ho : ∀ p ∈ B, p.1 ≠ q.1) (hz : vs.length ≤ 1000000) (hg : AreGls w B vs gs) (h0 : 0 < vs.length) (hd : (da, listOf dvs.toArray dn) ∈ B) (hs : StrsAt dvs xs)
    (h : ∀ h' B', Fr h₀ L h' m → News h₀ L h' (q :: B') → (∀ p ∈ B', p.1 ≠ q.1) → ButLists B B' → AreGls w B' vs.reverse gs.reverse → (D, listOf vs.reverse.toArray n) ∈ B' → (da, listOf dvs.toArray dn) ∈ B' → Q .none { s with heap := h' }) :
    wpAny (model prog w) A (call (.builtin "list.reverse") [.ref D]) Q E s := by
  have z := N (D, listOf vs.toArray n) (.tail _ hm)
  have sb : Heap.SameBut D s.heap (s.heap.update D (Obj.mapSeq fun x => x.reverse)) := Heap.SameBut.update ..
  have hnew : (s.heap.update D (Obj.mapSeq fun x => x.reverse)).get? D = some (listOf vs.reverse.toArray n) := by
    have q := PySem.IsL.update z.1 (fun x : Array Value => x.reverse)
    rw [if_pos (by simp)] at q
    rw [q]
    simp [W.listOf]
  have hl : ButLists B ((D, listOf vs.reverse.toArray n) :: B.filter fun p => p.1 != D) := fun p hp hc => .tail _ (List.mem_filter.mpr ⟨hp, by
    rw [bne_iff_ne]
    intro e
    have z2 := (N p (.tail _ hp)).1
    rw [e, z.1] at z2
    rw [← Option.some.inj z2] at hc
    exact hc _ _ rfl⟩)
  refine call_meets PySem.F.slot_list_reverse ⟨_, z.1, rfl⟩ PySem.F.entry_list_reverse (PySem.F.args_list_reverse_1 _) (PySem.AutoSeq1.list_reverse_list_0 D vs.toArray n (by simp; rw [sizeLine_eq]; omega)) ⟨z.1, h _ ((D, listOf vs.reverse.toArray n) :: B.filter fun p => p.1 != D) (F.change sb z.2.1 z.2.2) (fun p hp => ?_) (fun p hp => ?_) hl (hg.subc hl).reverse (.head _) (.tail _ (List.mem_filter.mpr ⟨hd, ?_⟩))⟩
  · rcases List.mem_cons.mp hp with rfl | hp
    · have z2 := N p (.head _)
      exact ⟨(sb.2 _ (Ne.symm (ho _ hm))).trans z2.1, z2.2⟩
    rcases List.mem_cons.mp hp with rfl | hp
    · exact ⟨hnew, z.2⟩
    · obtain ⟨h1, h2⟩ := List.mem_filter.mp hp
      have z2 := N p (.tail _ h1)
      exact ⟨(sb.2 _ (by simpa using h2)).trans z2.1, z2.2⟩
  · rcases List.mem_cons.mp hp with rfl | hp
    · exact fun e => ho _ hm e
    · exact ho p (List.mem_filter.mp hp).1
  · rw [bne_iff_ne]
    intro e
    have z2 := (N _ (.tail _ hd)).1
    dsimp only at e z2
    rw [e, z.1] at z2
    have e3 : vs.toArray = dvs.toArray := by
      have e4 : Data.seq vs.toArray n = Data.seq dvs.toArray dn := congrArg Obj.data (Option.some.inj z2)
      injection e4 with e5 _
    exact strs_not_gls hs hg h0 (by simpa using e3.symm)
end
/-- places, in a list of pairs -/
inductive SiteL (led : List (Addr × Obj)) : List Value → List Gl → Prop
  | nil : SiteL led [] []
  | snoc {vs : List Value} {gs : List Gl} {T : Addr} {g : Gl} {t1 t2 : Tok} : SiteL led vs gs → (T, tupObj #[.int g.x t1, .int g.y t2]) ∈ led → SiteL led (vs ++ [.ref T]) (gs ++ [g])
theorem SiteL.sub {n n' : List (Addr × Obj)} {vs : List Value} {gs : List Gl} (h : SiteL n vs gs) (l : ∀ p ∈ n, p ∈ n') : SiteL n' vs gs := by
  induction h with
  | nil => exact .nil
  | snoc _ a ih => exact .snoc ih (l _ a)
theorem SiteL.len {n : List (Addr × Obj)} {vs : List Value} {gs : List Gl} (h : SiteL n vs gs) : vs.length = gs.length := by
  induction h with
  | nil => rfl
  | snoc _ a ih => simp [ih]
theorem SiteL.keys {prog : Program} {w : World} {h₀ h : Heap} {L : Addr} {n : List (Addr × Obj)} {vs : List Value} {gs : List Gl} (k : SiteL n vs gs) (N : News h₀ L h n) : KeysAt (PySem.intKind prog w) h vs (gs.map fun g => [g.x, g.y]) := by
  induction k with
  | nil => intro i v e; cases e
  | @snoc vs gs T g t1 t2 hr hm ih =>
    intro i v e
    have hl := hr.len
    rcases Nat.lt_or_ge i vs.length with q | q
    · rw [List.getElem?_append_left q] at e
      obtain ⟨k, e1, e2⟩ := ih i v e
      refine ⟨k, ?_, e2⟩
      rw [List.map_append, List.getElem?_append_left (by simpa [← hl] using q)]
      exact e1
    · rw [List.getElem?_append_right q] at e
      have : i - vs.length = 0 := by
        obtain ⟨a, _⟩ := List.getElem?_eq_some_iff.mp e
        simpa using a
      rw [this] at e
      cases e
      refine ⟨[g.x, g.y], ?_, T, rfl, _, _, _, (N _ hm).1, rfl, rfl, .cons (intKind_is ..) (.cons (intKind_is ..) .nil)⟩
      have e5 : i = (gs.map fun g => [g.x, g.y]).length := by simp; omega
      rw [List.map_append, e5]
      simp
theorem apart_of_nodup {gs : List Gl} (h : (gs.map fun g => [g.x, g.y]).Nodup) : Apart2 gs :=
  (List.pairwise_map.mp h).imp fun {a b} hab e => hab (by rw [e.1, e.2])
theorem TabOk.subc {n n' : List (Addr × Obj)} {ps : Array Value} (h : TabOk n ps) (l : ButLists n n') : TabOk n' ps := by
  cases h with
  | none => exact .none
  | one a b c => exact .one (l _ a (fun _ _ e => by have := b.symm.trans e; cases this)) b c
theorem lawJ_of {base h' : Heap} {L c ta ca tk : Nat} {s₁ : Shared} {m₁ : Str → Option Value} {led : List (Addr × Obj)} {cvs : List Value} {cn n : Nat} {t : Tok} {ns : List Int} {co : Obj} (F : Fr base L h' m₁) (N : News base L h' led) (m1 : (ta, tapeObj ca 0 t n) ∈ led) (hco : co.data = .cell (some (.ref ta))) (m2 : (c, co) ∈ led) (m3 : (231, tabObj #[]) ∈ led) (m4 : (ca, listOf cvs.toArray cn) ∈ led)
    (hi : IntsAre cvs ns) (h0 : 0 < ns.length) (h1 : ns.length ≤ 48) (n1 : c ≠ ta) (n2 : 231 ≠ ta) (n3 : ca ≠ 231) (n4 : c ≠ 231) (n5 : ca ≠ ta) : LawJ base L c s₁ .next { s₁ with heap := h', toks := tk } := by
  refine ⟨rfl, h', tk, m₁, ta, ca, cvs, cn, n, t, ns, co, [(ca, listOf cvs.toArray cn)], rfl, F, fun p hp => N p ?_, fun p hp => ?_, fun p hp => ?_, n4, .head _, hi, h0, h1, hco⟩
  · rcases List.mem_cons.mp hp with rfl | hp
    · exact m1
    rcases List.mem_cons.mp hp with rfl | hp
    · exact m2
    rcases List.mem_cons.mp hp with rfl | hp
    · exact m3
    rw [List.mem_singleton.mp hp]
    exact m4
  · rcases List.mem_cons.mp hp with rfl | hp
    · exact n1
    rcases List.mem_cons.mp hp with rfl | hp
    · exact n2
    rw [List.mem_singleton.mp hp]
    exact n5
  · rw [List.mem_singleton.mp hp]
    exact n3
theorem law_end {cl : Str → Option Addr} {mean : ExcName → Option Value} {args : List WData} {s₁ s' : Shared} {L : Addr} {m : Str → Option Value} (F : Fr s₁.heap L s'.heap m) (hg : s'.gens = #[]) (hos : s'.os = s₁.os) : GoodW PySem.Challenge.rw_og0150_01.row.claim cl mean args s₁ (.ok (.ret (.bool true))) s' :=
  goodW_bool F hg (raisesW_false (fun _ h => nomatch h)) (postW_of rfl (by wtm_val) (by w_fin)) hos

end
section
open PySem PySem.W PyProof.Rows
set_option maxRecDepth 100000
set_option maxHeartbeats 0
def top.tw13369591340354186047 : Unit := ()
def top.tw8345894832289464959 : Unit := ()
def top.tw12094960947251128927 : Unit := ()
def top.tw453181688931711583 : Unit := ()
def top.tw2514443458684651071 : Unit := ()
def top.tw5766051744304087583 : Unit := ()
def top.tw11279390925490393535 : Unit := ()
def top.tw6187478851450931391 : Unit := ()
def top.tw2464713573024523455 : Unit := ()
def top.tw7990429038631628895 : Unit := ()
def top.tw14390669486469195807 : Unit := ()
def top.tw15058813355848621054 : Unit := ()
def top.tw2867133514656366558 : Unit := ()
def top.tw13889484949932952446 : Unit := ()
def top.tw105208000716104510 : Unit := ()
def top.tw5118827330378232414 : Unit := ()
def top.tw788273225186049534 : Unit := ()
def top.tw9108098604805947806 : Unit := ()
def top.tw6859976401760118174 : Unit := ()
def top.tw2555065506035805374 : Unit := ()
def top.tw14851680436948445374 : Unit := ()
def top.tw13091174067606910046 : Unit := ()
def top.tw11423202765487971197 : Unit := ()
def top.tw5434309568573575005 : Unit := ()
def top.tw3730354652608582461 : Unit := ()
def top.tw11430207588045935325 : Unit := ()
def top.tw16155163154822807229 : Unit := ()
def top.tw10773188271377071773 : Unit := ()
def top.tw2057334267981633021 : Unit := ()
def top.tw2782073688633401757 : Unit := ()
def top.tw3776753064480771068 : Unit := ()
def top.tw18034075008235765660 : Unit := ()
def top.tw216529984938456764 : Unit := ()
def top.tw8689318265317240412 : Unit := ()
def top.tw4321519831107876412 : Unit := ()
def top.tw14917401599646851644 : Unit := ()
def top.tw12376051458212225564 : Unit := ()
def top.tw1869187583165140508 : Unit := ()
def top.tw9827070012407379388 : Unit := ()
def top.tw13928562000808390012 : Unit := ()
def top.tw14826035006057030972 : Unit := ()
def top.tw5523086135645875356 : Unit := ()
def top.tw11334415319851112604 : Unit := ()
def top.tw13120753694373217308 : Unit := ()
def top.tw6127594578889010139 : Unit := ()
def top.tw11858546649754279707 : Unit := ()
def top.tw1643793622834437755 : Unit := ()
def top.tw10187264123177260123 : Unit := ()
def top.tw427269002284569659 : Unit := ()
def top.tw4713442408853163898 : Unit := ()
def top.tw1886144042066472794 : Unit := ()
def top.tw3974946682361356058 : Unit := ()
def top.tw16420938139371093754 : Unit := ()
def top.tw5105846836358774362 : Unit := ()
def top.tw10448899703829047738 : Unit := ()
def top.tw14823308797102314842 : Unit := ()
def top.tw1047907039808853306 : Unit := ()
def top.tw16196420915677631385 : Unit := ()
def top.tw16325430554902658873 : Unit := ()
def top.tw795583310449317561 : Unit := ()
def top.tw14349089067433371257 : Unit := ()
def top.tw13359135706311490777 : Unit := ()
def top.tw16273406610938067001 : Unit := ()
def top.tw5889316905344633881 : Unit := ()
def top.tw17886615442053742456 : Unit := ()
def top.tw16713831800681072344 : Unit := ()
def top.tw18164388396756303480 : Unit := ()
def top.tw8810280945414196856 : Unit := ()
def top.tw2617719716777270872 : Unit := ()
def top.tw1149218181149386328 : Unit := ()
def top.tw4551080515912023512 : Unit := ()
def top.tw4498253355057717688 : Unit := ()
def top.tw2812155379371279736 : Unit := ()
def top.tw9063741608606530840 : Unit := ()
def top.tw1139600151236580504 : Unit := ()
def top.tw5868845118606482295 : Unit := ()
def top.tw3561193834555079511 : Unit := ()
def top.tw7830913209206220567 : Unit := ()
def top.tw12012865196380796599 : Unit := ()
def top.tw8143265674769528471 : Unit := ()
def top.tw4299629679881509495 : Unit := ()
def top.tw8099237887082880343 : Unit := ()
def top.tw12318557346453588183 : Unit := ()
def top.tw16885616592811714743 : Unit := ()
def top.tw7458633546980236471 : Unit := ()
def top.tw620129878449983639 : Unit := ()
def top.tw6438537300738474071 : Unit := ()
def top.tw17492772389151264855 : Unit := ()
def top.tw2985252069258134486 : Unit := ()
def top.tw4166218997396506358 : Unit := ()
def top.tw1195175773429642966 : Unit := ()
def top.tw15169761463676818070 : Unit := ()
def top.tw15362295582089109014 : Unit := ()
def top.tw13264354339760550358 : Unit := ()
def top.tw9800703332001039478 : Unit := ()
def top.tw8813761850579938390 : Unit := ()
def top.tw13345470168829271861 : Unit := ()
def top.tw864819663365544661 : Unit := ()
def top.tw72247145696351765 : Unit := ()
def top.tw4213018616267185653 : Unit := ()
def top.tw7740461459972228597 : Unit := ()
def top.tw575894324575664597 : Unit := ()
def top.tw11960245374511038805 : Unit := ()
def top.tw7008692893051332821 : Unit := ()
def top.tw6664487174759623829 : Unit := ()
def top.tw2924597203103170677 : Unit := ()
def top.tw6694047246710070196 : Unit := ()
def top.tw16759092144687519636 : Unit := ()
def top.tw11922380849998532372 : Unit := ()
def top.tw12535971307161669396 : Unit := ()
def top.tw4159251561096739476 : Unit := ()
def top.tw1284575025550258836 : Unit := ()
def top.tw14789260269991461300 : Unit := ()
def top.tw12643491718579748851 : Unit := ()
def top.tw17486766287000646611 : Unit := ()
def top.tw1492452104121835379 : Unit := ()
def top.tw1275901062530889299 : Unit := ()
def top.tw11133666699803404755 : Unit := ()
def top.tw5088376156974544275 : Unit := ()
def top.tw16204670001084760307 : Unit := ()
def top.tw2007660962349395123 : Unit := ()
def top.tw9229161468869434483 : Unit := ()
def top.tw4571971715460732019 : Unit := ()
def top.tw16795567611416646642 : Unit := ()
def top.tw1483126911874232274 : Unit := ()
def top.tw17177869089781658578 : Unit := ()
def top.tw12540527436937284434 : Unit := ()
def top.tw10090393231696489298 : Unit := ()
def top.tw705360758644809490 : Unit := ()
def top.tw8645369167282567922 : Unit := ()
def top.tw11951234314696350194 : Unit := ()
def top.tw9259421805112917234 : Unit := ()
def top.tw987869383939708018 : Unit := ()
def top.tw908825868028484722 : Unit := ()
def top.tw2822501910515967889 : Unit := ()
def top.tw18008055252877512497 : Unit := ()
def top.tw9335426496214029073 : Unit := ()
def top.tw5225153198818245361 : Unit := ()
def top.tw2835187731363253809 : Unit := ()
def top.tw9305691244287143441 : Unit := ()
def top.tw14597223018079223185 : Unit := ()
def top.tw995775220138220913 : Unit := ()
def top.tw1245559373397905713 : Unit := ()
def top.tw10996937224433265937 : Unit := ()
def top.tw7429413206186439793 : Unit := ()
def top.tw14861896470697024400 : Unit := ()
def top.tw12342655685612074800 : Unit := ()
def top.tw16044733080236030384 : Unit := ()
def top.tw9382581127745807760 : Unit := ()
def top.tw7414872774492366064 : Unit := ()
def top.tw8538268897159353584 : Unit := ()
def top.tw390997316461189296 : Unit := ()
def top.tw12392516345856041104 : Unit := ()
def top.tw4186445540838780016 : Unit := ()
def top.tw9378254376102152143 : Unit := ()
def top.tw352232786441526191 : Unit := ()
def top.tw2126296398998916975 : Unit := ()
def top.tw11762496359356365647 : Unit := ()
def top.tw10567129059001840431 : Unit := ()
def top.tw5581607755468803823 : Unit := ()
def top.tw6473336682457920079 : Unit := ()
def top.tw4655869559712951663 : Unit := ()
def top.tw9068506458530023791 : Unit := ()
def top.tw9631074621892390191 : Unit := ()
def top.tw16900427199656544559 : Unit := ()
def top.tw11334350811105764591 : Unit := ()
def top.tw6898770573198911631 : Unit := ()
def top.tw15985961358823992270 : Unit := ()
def top.tw12958502747184954254 : Unit := ()
def top.tw15503665604740900718 : Unit := ()
def top.tw15299407806266782574 : Unit := ()
def top.tw14611434983143301774 : Unit := ()
def top.tw15240379268576122478 : Unit := ()
def top.tw2462062305354472974 : Unit := ()
def top.tw5476889619067714990 : Unit := ()
def top.tw7297446738713254254 : Unit := ()
def top.tw12385144161495827662 : Unit := ()
def top.tw14502225709538309166 : Unit := ()
def top.tw8265191368974092141 : Unit := ()
def top.tw1814787853859245837 : Unit := ()
def top.tw4047667213573674445 : Unit := ()
def top.tw17555251805378815213 : Unit := ()
def top.tw7527032243904285869 : Unit := ()
def top.tw16174758807025615021 : Unit := ()
def top.tw16352630495959832749 : Unit := ()
def top.tw6240723676877644813 : Unit := ()
def top.tw17323899518341599180 : Unit := ()
def top.tw10404823597219466188 : Unit := ()
def top.tw6333448901615975916 : Unit := ()
def top.tw3969286963782609292 : Unit := ()
def top.tw17470836177267949868 : Unit := ()
def top.tw2443449257678562572 : Unit := ()
def top.tw14282377253939248939 : Unit := ()
def top.tw7673058066778466091 : Unit := ()
def top.tw17315540178315561739 : Unit := ()
def top.tw956942650209027819 : Unit := ()
def top.tw13272337422414781067 : Unit := ()
def top.tw6431110157172167083 : Unit := ()
def top.tw6812286434817487243 : Unit := ()
def top.tw8598144960395782539 : Unit := ()
def top.tw13370750898655102155 : Unit := ()
def top.tw6919701780365589675 : Unit := ()
def top.tw8443935842833279946 : Unit := ()
def top.tw8184561461823581802 : Unit := ()
def top.tw15976228082101565994 : Unit := ()
def top.tw14372152842798730730 : Unit := ()
def top.tw6885214360128481674 : Unit := ()
def top.tw342308947776675178 : Unit := ()
def top.tw5058314954733539658 : Unit := ()
def top.tw9437893007894698314 : Unit := ()
def top.tw339143206060000330 : Unit := ()
def top.tw2732273902793177162 : Unit := ()
def top.tw7855079511596107753 : Unit := ()
def top.tw4671429814451907529 : Unit := ()
def top.tw16782997733028217545 : Unit := ()
def top.tw15569959144833144457 : Unit := ()
def top.tw13303987763403120937 : Unit := ()
def top.tw15860264024139754761 : Unit := ()
def top.tw15878805988109762761 : Unit := ()
def top.tw13177472732611162249 : Unit := ()
def top.tw6906291655842520137 : Unit := ()
def top.tw517144808224063464 : Unit := ()
def top.tw2249405535684624136 : Unit := ()
def top.tw10648311167861321448 : Unit := ()
def top.tw5667650583090716360 : Unit := ()
def top.tw12622177474791663080 : Unit := ()
def top.tw6370870915552960936 : Unit := ()
def top.tw4205137553216949640 : Unit := ()
def top.tw708234853630380328 : Unit := ()
def top.tw16439428074185983240 : Unit := ()
def top.tw5244899138074338376 : Unit := ()
def top.tw12317137736924338119 : Unit := ()
def top.tw12819366960792805191 : Unit := ()
def top.tw775762912060472103 : Unit := ()
def top.tw6883741973766446791 : Unit := ()
def top.tw6286779285267259847 : Unit := ()
def top.tw2731995056826638727 : Unit := ()
def top.tw9759319705405543751 : Unit := ()
def top.tw11459358961799972967 : Unit := ()
def top.tw7557910624720293991 : Unit := ()
def top.tw6491118196486620199 : Unit := ()
def top.tw16840627104734473223 : Unit := ()
def top.tw9614876229902214918 : Unit := ()
def top.tw1736530178072539846 : Unit := ()
def top.tw18186074749648716422 : Unit := ()
def top.tw10617020205504526918 : Unit := ()
def top.tw8640399195822439974 : Unit := ()
def top.tw8435561252592420358 : Unit := ()
def top.tw6749217079512962374 : Unit := ()
def top.tw13501252493785611398 : Unit := ()
def top.tw6520327441239513222 : Unit := ()
def top.tw10006222313960134694 : Unit := ()
def top.tw8363718466572441477 : Unit := ()
def top.tw9059832203979395877 : Unit := ()
def top.tw8613191699965854469 : Unit := ()
def top.tw81815255157605957 : Unit := ()
def top.tw8892184565913893157 : Unit := ()
def top.tw7736453120405416133 : Unit := ()
def top.tw15646934709686841381 : Unit := ()
def top.tw4656485037274611717 : Unit := ()
def top.tw814325599930780420 : Unit := ()
def top.tw12483720753089274532 : Unit := ()
def top.tw370947364307004932 : Unit := ()
def top.tw16058212318047004132 : Unit := ()
def top.tw14987219478266130788 : Unit := ()
def top.tw2287823674025257028 : Unit := ()
def top.tw14608685727046917156 : Unit := ()
def top.tw14796646475526232899 : Unit := ()
def top.tw16666122058527598403 : Unit := ()
def top.tw10936122117785486979 : Unit := ()
def top.tw6756868429301003459 : Unit := ()
def top.tw9503340733035011235 : Unit := ()
def top.tw8321918168302905379 : Unit := ()
def top.tw12425085872883035938 : Unit := ()
def top.tw16580785732701462914 : Unit := ()
def top.tw728428047077509346 : Unit := ()
def top.tw5303079699428457377 : Unit := ()
def top.tw10005945817407372193 : Unit := ()
def top.tw9543386914318008161 : Unit := ()
def top.tw15177526630643400193 : Unit := ()
def top.tw4859757453598101857 : Unit := ()
def top.tw8507776931139520737 : Unit := ()
def top.tw1400011881503588481 : Unit := ()
def top.tw11613256710310857696 : Unit := ()
def top.tw7847650389618582240 : Unit := ()
def top.tw16190854430040427168 : Unit := ()
def top.tw2741389259953327712 : Unit := ()
def top.tw1732150942055357024 : Unit := ()
def top.tw14168018189251442112 : Unit := ()
def top.tw13160728816969591200 : Unit := ()
def top.tw2218668502564051296 : Unit := ()
def top.tw18194552166560175392 : Unit := ()
def top.tw5765500513520695160 : Unit := ()
def top.tw13715166471047840927 : Unit := ()
def top.tw18116228322117119879 : Unit := ()
local macro_rules | `(tactic| k_mem) => `(tactic| first | ktr_member | exact List.Mem.head _ | (refine List.mem_cons_of_mem _ ?_; k_mem))
local macro_rules | `(tactic| k_all) => `(tactic| first | assumption | (refine' List.forall_mem_cons.mpr ⟨?a, ?b⟩; (case a => k_ne); (case b => k_all)))
local macro_rules | `(tactic| walk_at "compareOp NotEq ref ref") => `(tactic| (k_here; k_dflt (refine' ne_same ?N ?m ?b ?x ?y ?u ?_; (case N => k_asm); (case m => assumption); (case b => assumption); (case x => assumption); (case y => assumption); (case u => units_room); k_whole)))
local macro_rules | `(tactic| walk_at "compareOp Eq ref ref") => `(tactic| (k_here; k_dflt (refine' eq_same ?N ?m ?b ?x ?y ?u ?_; (case N => k_asm); (case m => assumption); (case b => assumption); (case x => assumption); (case y => assumption); (case u => units_room); k_whole)))
local macro_rules | `(tactic| walk_at "call builtin:len") => `(tactic| (k_here; (with_reducible show wpAny _ _ (call (Value.builtin "len") [Value.ref _]) _ _ _); k_dflt (first | (refine' len_led ?N ?m ?z ?_; (case N => k_asm); (case m => assumption); (case z => omega); k_whole) | (refine' len_set ?N ?m ?f ?z ?_; (case N => k_asm); (case m => assumption); (case f => assumption); (case z => omega); k_whole))))
set_option Elab.async true in
theorem top : PySem.Challenge.rw_og0150_01.Holds := by
  w_on
  o_law
  o_head (kmHook k0.heap_1 [2, 3, 15, 17, 18, 20, 21, 22, 29, 30, 32, 33, 35, 36, 37, 39, 40, 42, 43, 44, 45, 46, 47, 57, 59, 60, 62, 63, 64, 66, 67, 69, 70, 71, 73, 74, 76, 77, 78, 80, 81, 83, 84, 85, 87, 88, 90, 91, 92, 94, 95, 97, 98, 99, 101, 102, 104, 105, 106, 108, 109, 111, 112, 113, 115, 116, 118, 119, 120, 122, 123, 125, 126, 127, 129, 130, 132, 133, 134, 136, 137, 139, 140, 141, 142, 143, 144, 145, 148, 150, 151, 153, 154, 155, 157, 158, 160, 161, 162, 164, 165, 167, 168, 169, 171, 172, 174, 175, 176, 179, 180, 181, 183, 184, 186, 187, 195, 197, 198, 200, 201, 202, 204, 205, 207, 208, 209, 210, 211, 212, 213, 216, 218, 219, 221, 222, 223, 225, 226, 228, 229, 230, 233, 234, 235, 236, 239, 240, 241, 242, 243, 245, 246, 248, 249, 250, 252, 253, 255, 256, 257, 259, 260, 262, 263, 264, 266, 267, 269, 270, 271, 274, 275] (fun _ => by kernel_rfl) [231])
  (case hw => w_witness2)
  w_strict (k_go0)
  all_goals (try k_fold)
  refine wpAny_execs_cons ?_
  rename World => w
  rename Shared => s₁
  refine law_join (by assumption) (by assumption) ?j1 ?j2
  case j1 =>
    k_steps
    · refine' lawJ_of ?jaF ?jaN ?jam1 ?jahc ?jam2 ?jam3 ?jam4 ?jahi ?jah0 ?jah1 ?jan1 ?jan2 ?jan3 ?jan4 ?jan5
      case jaF => with_reducible assumption
      case jaN => with_reducible assumption
      case jam1 => exact .head _
      case jahc => assumption
      case jam2 => exact .tail _ (.tail _ (.tail _ (.head _)))
      case jam3 => exact .tail _ (.tail _ (.tail _ (.tail _ (.head _))))
      case jam4 => exact .tail _ (.head _)
      case jahi => assumption
      all_goals omega
    · refine' lawJ_of (ns := [0]) ?jbFx ?jbNx ?jbm1x ?jbhcx ?jbm2x ?jbm3x ?jbm4x ?jbhix ?jbh0x ?jbh1x ?jbn1x ?jbn2x ?jbn3x ?jbn4x ?jbn5x
      case jbFx => with_reducible assumption
      case jbNx => with_reducible assumption
      case jbm1x => exact .head _
      case jbhcx => assumption
      case jbm2x => exact .tail _ (.tail _ (.tail _ (.tail _ (.head _))))
      case jbm3x => exact .tail _ (.tail _ (.tail _ (.tail _ (.tail _ (.head _)))))
      case jbm4x => exact .tail _ (.head _)
      case jbhix => exact .cons _ _ .nil
      case jbh0x => decide
      case jbh1x => decide
      all_goals omega
  case j2 =>
    intro h' tk m₁ ta ca cvs cn n t ns co rest F1 N1 o1 o2 o3' hc hi hns1 hns2 hco
    dsimp only
    (repeat' (first | (k_unfold; (try dsimp only)) | (((fail_if_success (with_reducible show wpAny _ _ (call (Value.ref _) _) _ _ _))); ((fail_if_success (with_reducible show wpAny _ _ (call (Value.type "set") _) _ _ _))); (((fail_if_success (with_reducible show PyProof.Rows.LCg.CompSrc _ _ _ _ _ _ _ _ _ _ _ _ _ _)); (fail_if_success (with_reducible show PyProof.Rows.LCt.CompSrcT _ _ _ _ _ _ _ _ _ _ _ _ _ _ _)))); ((fail_if_success (with_reducible show wpAny _ _ (exec (Stmt.For _ _ _ _ _) _) _ _ _))); ((fail_if_success (with_reducible show wpAny _ _ (pyIter _) _ _ _))); (((fail_if_success (with_reducible show wpAny _ _ (eval (PySem.Expr.ListComp _ _ _ _) _) _ _ _)); (fail_if_success (with_reducible show wpAny _ _ (exec (Stmt.Assign _ (PySem.Expr.ListComp _ _ _ _) _) _) _ _ _)))); walk1) | (dsimp only; ((fail_if_success (with_reducible show wpAny _ _ (call (Value.ref _) _) _ _ _))); ((fail_if_success (with_reducible show wpAny _ _ (call (Value.type "set") _) _ _ _))); (((fail_if_success (with_reducible show PyProof.Rows.LCg.CompSrc _ _ _ _ _ _ _ _ _ _ _ _ _ _)); (fail_if_success (with_reducible show PyProof.Rows.LCt.CompSrcT _ _ _ _ _ _ _ _ _ _ _ _ _ _ _)))); ((fail_if_success (with_reducible show wpAny _ _ (exec (Stmt.For _ _ _ _ _) _) _ _ _))); ((fail_if_success (with_reducible show wpAny _ _ (pyIter _) _ _ _))); (((fail_if_success (with_reducible show wpAny _ _ (eval (PySem.Expr.ListComp _ _ _ _) _) _ _ _)); (fail_if_success (with_reducible show wpAny _ _ (exec (Stmt.Assign _ (PySem.Expr.ListComp _ _ _ _) _) _) _ _ _)))); walk1) | (leave1; walk_say "STEP leave1"; try dsimp only) | fail "no step"))
    ((k_dflt (refine' ok_use (draw_ok w ta ca cvs cn n ns 0 6 t _ ((s₁.heap.objs.size + 1, co) :: (231, tabObj #[]) :: rest) o1 (.tail _ (.tail _ hc)) hi hns1 hns2 (by decide) (by decide)) ?k1 ?k2 ?k3 ?k4 ?k5 ?kK ?kd ?ku ?_; (case k1 => k_asm); (case k2 => k_asm); (case k3 => k_asm); (case k4 => k_asm); (case k5 => k_asm); (case kK => first | exact rfl | assumption); (case kd => first | exact ok_room hd rfl | ktr_room); (case ku => first | exact ok_room hu rfl | ktr_units)); intro r9 n9 h9 tk9 F9 N9 P9; (try dsimp only); (try k_fold)))
    obtain ⟨t', rfl, kk, tkk, rfl, hk0, hk1⟩ := P9
    (repeat' (first | (k_unfold; (try dsimp only)) | (((fail_if_success (with_reducible show wpAny _ _ (call (Value.ref _) _) _ _ _))); ((fail_if_success (with_reducible show wpAny _ _ (call (Value.type "set") _) _ _ _))); (((fail_if_success (with_reducible show PyProof.Rows.LCg.CompSrc _ _ _ _ _ _ _ _ _ _ _ _ _ _)); (fail_if_success (with_reducible show PyProof.Rows.LCt.CompSrcT _ _ _ _ _ _ _ _ _ _ _ _ _ _ _)))); ((fail_if_success (with_reducible show wpAny _ _ (exec (Stmt.For _ _ _ _ _) _) _ _ _))); ((fail_if_success (with_reducible show wpAny _ _ (pyIter _) _ _ _))); (((fail_if_success (with_reducible show wpAny _ _ (eval (PySem.Expr.ListComp _ _ _ _) _) _ _ _)); (fail_if_success (with_reducible show wpAny _ _ (exec (Stmt.Assign _ (PySem.Expr.ListComp _ _ _ _) _) _) _ _ _)))); walk1) | (dsimp only; ((fail_if_success (with_reducible show wpAny _ _ (call (Value.ref _) _) _ _ _))); ((fail_if_success (with_reducible show wpAny _ _ (call (Value.type "set") _) _ _ _))); (((fail_if_success (with_reducible show PyProof.Rows.LCg.CompSrc _ _ _ _ _ _ _ _ _ _ _ _ _ _)); (fail_if_success (with_reducible show PyProof.Rows.LCt.CompSrcT _ _ _ _ _ _ _ _ _ _ _ _ _ _ _)))); ((fail_if_success (with_reducible show wpAny _ _ (exec (Stmt.For _ _ _ _ _) _) _ _ _))); ((fail_if_success (with_reducible show wpAny _ _ (pyIter _) _ _ _))); (((fail_if_success (with_reducible show wpAny _ _ (eval (PySem.Expr.ListComp _ _ _ _) _) _ _ _)); (fail_if_success (with_reducible show wpAny _ _ (exec (Stmt.Assign _ (PySem.Expr.ListComp _ _ _ _) _) _) _ _ _)))); walk1) | (leave1; walk_say "STEP leave1"; try dsimp only) | fail "no step"))
    k_dflt (refine LCg.Assign_ListComp_U (F₀ := by k_asm) (by rfl) (by with_unfolding_all rfl) (by with_unfolding_all rfl) (by decide) (by rfl) (by decide) (by rfl) (by with_unfolding_all rfl) (by with_unfolding_all rfl) ?_)
    (repeat' (first | (k_unfold; (try dsimp only)) | (((fail_if_success (with_reducible show wpAny _ _ (call (Value.ref _) _) _ _ _))); ((fail_if_success (with_reducible show wpAny _ _ (call (Value.type "set") _) _ _ _))); (((fail_if_success (with_reducible show PyProof.Rows.LCg.CompSrc _ _ _ _ _ _ _ _ _ _ _ _ _ _)); (fail_if_success (with_reducible show PyProof.Rows.LCt.CompSrcT _ _ _ _ _ _ _ _ _ _ _ _ _ _ _)))); ((fail_if_success (with_reducible show wpAny _ _ (exec (Stmt.For _ _ _ _ _) _) _ _ _))); ((fail_if_success (with_reducible show wpAny _ _ (pyIter _) _ _ _))); (((fail_if_success (with_reducible show wpAny _ _ (eval (PySem.Expr.ListComp _ _ _ _) _) _ _ _)); (fail_if_success (with_reducible show wpAny _ _ (exec (Stmt.Assign _ (PySem.Expr.ListComp _ _ _ _) _) _) _ _ _)))); walk1) | (dsimp only; ((fail_if_success (with_reducible show wpAny _ _ (call (Value.ref _) _) _ _ _))); ((fail_if_success (with_reducible show wpAny _ _ (call (Value.type "set") _) _ _ _))); (((fail_if_success (with_reducible show PyProof.Rows.LCg.CompSrc _ _ _ _ _ _ _ _ _ _ _ _ _ _)); (fail_if_success (with_reducible show PyProof.Rows.LCt.CompSrcT _ _ _ _ _ _ _ _ _ _ _ _ _ _ _)))); ((fail_if_success (with_reducible show wpAny _ _ (exec (Stmt.For _ _ _ _ _) _) _ _ _))); ((fail_if_success (with_reducible show wpAny _ _ (pyIter _) _ _ _))); (((fail_if_success (with_reducible show wpAny _ _ (eval (PySem.Expr.ListComp _ _ _ _) _) _ _ _)); (fail_if_success (with_reducible show wpAny _ _ (exec (Stmt.Assign _ (PySem.Expr.ListComp _ _ _ _) _) _) _ _ _)))); walk1) | (leave1; walk_say "STEP leave1"; try dsimp only) | fail "no step"))
    ((k_dflt (refine' ok_use (draw_ok w ta ca cvs cn n ns (0 + 1) 6 _ _ ((s₁.heap.objs.size + 1, co) :: (231, tabObj #[]) :: rest) o1 (.tail _ (.tail _ hc)) hi hns1 hns2 (by decide) (by decide)) ?k1 ?k2 ?k3 ?k4 ?k5 ?kK ?kd ?ku ?_; (case k1 => k_asm); (case k2 => k_asm); (case k3 => k_asm); (case k4 => k_asm); (case k5 => k_asm); (case kK => first | exact rfl | assumption); (case kd => first | exact ok_room hd rfl | ktr_room); (case ku => first | exact ok_room hu rfl | ktr_units)); intro r9 n9 h9 tk9 F9 N9 P9; (try dsimp only); (try k_fold)))
    obtain ⟨t2, rfl, d2, tk2, rfl, hd0, hd1⟩ := P9
    (repeat' (first | (k_unfold; (try dsimp only)) | (((fail_if_success (with_reducible show wpAny _ _ (call (Value.ref _) _) _ _ _))); ((fail_if_success (with_reducible show wpAny _ _ (call (Value.type "set") _) _ _ _))); (((fail_if_success (with_reducible show PyProof.Rows.LCg.CompSrc _ _ _ _ _ _ _ _ _ _ _ _ _ _)); (fail_if_success (with_reducible show PyProof.Rows.LCt.CompSrcT _ _ _ _ _ _ _ _ _ _ _ _ _ _ _)))); ((fail_if_success (with_reducible show wpAny _ _ (exec (Stmt.For _ _ _ _ _) _) _ _ _))); ((fail_if_success (with_reducible show wpAny _ _ (pyIter _) _ _ _))); (((fail_if_success (with_reducible show wpAny _ _ (eval (PySem.Expr.ListComp _ _ _ _) _) _ _ _)); (fail_if_success (with_reducible show wpAny _ _ (exec (Stmt.Assign _ (PySem.Expr.ListComp _ _ _ _) _) _) _ _ _)))); walk1) | (dsimp only; ((fail_if_success (with_reducible show wpAny _ _ (call (Value.ref _) _) _ _ _))); ((fail_if_success (with_reducible show wpAny _ _ (call (Value.type "set") _) _ _ _))); (((fail_if_success (with_reducible show PyProof.Rows.LCg.CompSrc _ _ _ _ _ _ _ _ _ _ _ _ _ _)); (fail_if_success (with_reducible show PyProof.Rows.LCt.CompSrcT _ _ _ _ _ _ _ _ _ _ _ _ _ _ _)))); ((fail_if_success (with_reducible show wpAny _ _ (exec (Stmt.For _ _ _ _ _) _) _ _ _))); ((fail_if_success (with_reducible show wpAny _ _ (pyIter _) _ _ _))); (((fail_if_success (with_reducible show wpAny _ _ (eval (PySem.Expr.ListComp _ _ _ _) _) _ _ _)); (fail_if_success (with_reducible show wpAny _ _ (exec (Stmt.Assign _ (PySem.Expr.ListComp _ _ _ _) _) _) _ _ _)))); walk1) | (leave1; walk_say "STEP leave1"; try dsimp only) | fail "no step"))
    rename_i h6 tk6 t6 u6 v6 hr6 F6 N6 hk6
    clear hk6
    obtain ⟨nn, hnn⟩ : ∃ nn : Nat, 2 + d2 = nn := ⟨(2 + d2).toNat, by omega⟩
    rw [hnn] at hr6
    refine LCg.CompSrc.range (n := nn) rfl F6 N6 hr6 (range_small (by omega)) (range_size _) (by rw [sizeLine_eq]; omega) (fun g2 => ?_)
    refine comp_all (n := nn) (fun i ys nw => ∃ tt RR gs, nw = (ta, tapeObj ca (2 + 6 * (i : Int)) tt n) :: (s₁.heap.objs.size + 1, co) :: (231, tabObj #[]) :: RR ∧ (∀ p ∈ (s₁.heap.objs.size + 1, co) :: (231, tabObj #[]) :: RR, p.1 ≠ ta) ∧ (∀ p ∈ RR, p.1 ≠ 231) ∧ Gr rest RR ∧ Prs w RR ys gs ∧ gs.length = i) ?turn ?fin _ 0 [] _ (by simp) ⟨t2, rest, [], rfl, o1, o2, Gr.refl _, .nil, rfl⟩
    case turn =>
      rintro i ys nw v I oI C oC D m₂ h tk E' hi2 hPv ⟨tt, RR, gs, rfl, oR, oT, gR, hP, hlen⟩ hC hx F2 N2 off ne
      have N2' := news_front3 N2
      have hcc : (_, _) ∈ (ta, tapeObj ca (2 + 6 * (i : Int)) tt n) :: (I, oI) :: (C, oC) :: (D, LCg.lst ys) :: (s₁.heap.objs.size + 1, co) :: (231, tabObj #[]) :: RR := .tail _ (.tail _ (.tail _ (.tail _ (.head _))))
      have hoff : ∀ p ∈ (I, oI) :: (C, oC) :: (D, LCg.lst ys) :: (s₁.heap.objs.size + 1, co) :: (231, tabObj #[]) :: RR, p.1 ≠ ta := fun p hp => by
        have z := off.mem _ (.head _)
        rcases List.mem_cons.mp hp with rfl | hp
        · exact z.1.symm
        rcases List.mem_cons.mp hp with rfl | hp
        · exact z.2.1.symm
        rcases List.mem_cons.mp hp with rfl | hp
        · exact z.2.2.symm
        · exact oR p hp
      clear N2 N6 F6 hr6
      (repeat' (first | (k_unfold; (try dsimp only)) | (((fail_if_success (with_reducible show wpAny _ _ (call (Value.ref _) _) _ _ _))); ((fail_if_success (with_reducible show wpAny _ _ (call (Value.type "set") _) _ _ _))); (((fail_if_success (with_reducible show PyProof.Rows.LCg.CompSrc _ _ _ _ _ _ _ _ _ _ _ _ _ _)); (fail_if_success (with_reducible show PyProof.Rows.LCt.CompSrcT _ _ _ _ _ _ _ _ _ _ _ _ _ _ _)))); ((fail_if_success (with_reducible show wpAny _ _ (exec (Stmt.For _ _ _ _ _) _) _ _ _))); ((fail_if_success (with_reducible show wpAny _ _ (pyIter _) _ _ _))); (((fail_if_success (with_reducible show wpAny _ _ (eval (PySem.Expr.ListComp _ _ _ _) _) _ _ _)); (fail_if_success (with_reducible show wpAny _ _ (exec (Stmt.Assign _ (PySem.Expr.ListComp _ _ _ _) _) _) _ _ _)))); walk1) | (dsimp only; ((fail_if_success (with_reducible show wpAny _ _ (call (Value.ref _) _) _ _ _))); ((fail_if_success (with_reducible show wpAny _ _ (call (Value.type "set") _) _ _ _))); (((fail_if_success (with_reducible show PyProof.Rows.LCg.CompSrc _ _ _ _ _ _ _ _ _ _ _ _ _ _)); (fail_if_success (with_reducible show PyProof.Rows.LCt.CompSrcT _ _ _ _ _ _ _ _ _ _ _ _ _ _ _)))); ((fail_if_success (with_reducible show wpAny _ _ (exec (Stmt.For _ _ _ _ _) _) _ _ _))); ((fail_if_success (with_reducible show wpAny _ _ (pyIter _) _ _ _))); (((fail_if_success (with_reducible show wpAny _ _ (eval (PySem.Expr.ListComp _ _ _ _) _) _ _ _)); (fail_if_success (with_reducible show wpAny _ _ (exec (Stmt.Assign _ (PySem.Expr.ListComp _ _ _ _) _) _) _ _ _)))); walk1) | (leave1; walk_say "STEP leave1"; try dsimp only) | fail "no step"))
      ((k_dflt (refine' ok_use (law_glyph_ok w ta ca cvs cn n ns (2 + 6 * (i : Int)) tt ((I, oI) :: (C, oC) :: (D, LCg.lst ys) :: (s₁.heap.objs.size + 1, co) :: (231, tabObj #[]) :: RR) hoff (.tail _ (.tail _ (.tail _ (.tail _ (.tail _ (gR.sub hc)))))) hi hns1 hns2 (by omega)) ?k1 ?k2 ?k3 ?k4 ?k5 ?kK ?kd ?ku ?_; (case k1 => k_asm); (case k2 => k_asm); (case k3 => k_asm); (case k4 => k_asm); (case k5 => k_asm); (case kK => first | exact rfl | assumption); (case kd => first | exact ok_room hd rfl | ktr_room); (case ku => first | exact ok_room hu rfl | ktr_units)); intro r9 n9 h9 tk9 F9 N9 P9; (try dsimp only); (try k_fold)))
      obtain ⟨tl, t3, rfl, a1, a2, g, hg⟩ := P9
      (repeat' (first | (k_unfold; (try dsimp only)) | (((fail_if_success (with_reducible show wpAny _ _ (call (Value.ref _) _) _ _ _))); ((fail_if_success (with_reducible show wpAny _ _ (call (Value.type "set") _) _ _ _))); (((fail_if_success (with_reducible show PyProof.Rows.LCg.CompSrc _ _ _ _ _ _ _ _ _ _ _ _ _ _)); (fail_if_success (with_reducible show PyProof.Rows.LCt.CompSrcT _ _ _ _ _ _ _ _ _ _ _ _ _ _ _)))); ((fail_if_success (with_reducible show wpAny _ _ (exec (Stmt.For _ _ _ _ _) _) _ _ _))); ((fail_if_success (with_reducible show wpAny _ _ (pyIter _) _ _ _))); (((fail_if_success (with_reducible show wpAny _ _ (eval (PySem.Expr.ListComp _ _ _ _) _) _ _ _)); (fail_if_success (with_reducible show wpAny _ _ (exec (Stmt.Assign _ (PySem.Expr.ListComp _ _ _ _) _) _) _ _ _)))); walk1) | (dsimp only; ((fail_if_success (with_reducible show wpAny _ _ (call (Value.ref _) _) _ _ _))); ((fail_if_success (with_reducible show wpAny _ _ (call (Value.type "set") _) _ _ _))); (((fail_if_success (with_reducible show PyProof.Rows.LCg.CompSrc _ _ _ _ _ _ _ _ _ _ _ _ _ _)); (fail_if_success (with_reducible show PyProof.Rows.LCt.CompSrcT _ _ _ _ _ _ _ _ _ _ _ _ _ _ _)))); ((fail_if_success (with_reducible show wpAny _ _ (exec (Stmt.For _ _ _ _ _) _) _ _ _))); ((fail_if_success (with_reducible show wpAny _ _ (pyIter _) _ _ _))); (((fail_if_success (with_reducible show wpAny _ _ (eval (PySem.Expr.ListComp _ _ _ _) _) _ _ _)); (fail_if_success (with_reducible show wpAny _ _ (exec (Stmt.Assign _ (PySem.Expr.ListComp _ _ _ _) _) _) _ _ _)))); walk1) | (leave1; walk_say "STEP leave1"; try dsimp only) | fail "no step"))
      have e6 : 2 + 6 * (i : Int) + 6 = 2 + 6 * ((i + 1 : Nat) : Int) := by omega
      rw [e6] at N9
      refine pair_end F9 N9 a1 rfl off ⟨t3, tl ++ RR, gs ++ [g], rfl, fun p hp => ?_, fun p hp => ?_, gR.trans ⟨tl, rfl, fun q hq => a1 q (.tail _ (.tail _ (.tail _ (.tail _ (.tail _ hq)))))⟩, (hP.sub fun p hp => List.mem_append.mpr (.inr hp)).snoc (hg.sub fun p hp => List.mem_append.mpr (.inl hp)), by simp [hlen]⟩
      · rcases List.mem_cons.mp hp with rfl | hp
        · exact oR _ (.head _)
        rcases List.mem_cons.mp hp with rfl | hp
        · exact oR _ (.tail _ (.head _))
        rcases List.mem_append.mp hp with hp | hp
        · exact a2 p hp
        · exact oR p (.tail _ (.tail _ hp))
      · rcases List.mem_append.mp hp with hp | hp
        · exact a1 _ (.tail _ (.tail _ (.tail _ (.tail _ (.head _))))) p hp
        · exact oT p hp
    case fin =>
      rintro ys nw ⟨tt, RR, gs, rfl, oR, oT, gR, hP, hlen⟩
      intro D h3 tk3 F3 N3 o3
      have o4 := off1_ne o3
      have N4 := news_front3 N3
      have oB : ∀ p ∈ (D, LCg.lst ys) :: (ta, tapeObj ca (2 + 6 * (nn : Int)) tt n) :: (s₁.heap.objs.size + 1, co) :: RR, p.1 ≠ 231 := fun p hp => by
        rcases List.mem_cons.mp hp with rfl | hp
        · exact (o4 _ (.tail _ (.tail _ (.head _)))).symm
        rcases List.mem_cons.mp hp with rfl | hp
        · exact (oR _ (.tail _ (.head _))).symm
        rcases List.mem_cons.mp hp with rfl | hp
        · exact o3'
        · exact oT p hp
      have hP : Prs w ((D, LCg.lst ys) :: (ta, tapeObj ca (2 + 6 * (nn : Int)) tt n) :: (s₁.heap.objs.size + 1, co) :: RR) ys gs := hP.sub fun p hp => .tail _ (.tail _ (.tail _ hp))
      have hD : (D, LCg.lst ys) ∈ (D, LCg.lst ys) :: (ta, tapeObj ca (2 + 6 * (nn : Int)) tt n) :: (s₁.heap.objs.size + 1, co) :: RR := .head _
      generalize hB : (D, LCg.lst ys) :: (ta, tapeObj ca (2 + 6 * (nn : Int)) tt n) :: (s₁.heap.objs.size + 1, co) :: RR = B at N4 oB hP hD
      clear hB N3 o3 o4 gR oR oT hc
      have hyl := hP.len
      show wpAny _ _ _ _ _ _
      (repeat' (first | (k_unfold; (try dsimp only)) | (((fail_if_success (with_reducible show wpAny _ _ (call (Value.ref _) _) _ _ _))); ((fail_if_success (with_reducible show wpAny _ _ (call (Value.type "set") _) _ _ _))); (((fail_if_success (with_reducible show PyProof.Rows.LCg.CompSrc _ _ _ _ _ _ _ _ _ _ _ _ _ _)); (fail_if_success (with_reducible show PyProof.Rows.LCt.CompSrcT _ _ _ _ _ _ _ _ _ _ _ _ _ _ _)))); ((fail_if_success (with_reducible show wpAny _ _ (exec (Stmt.For _ _ _ _ _) _) _ _ _))); ((fail_if_success (with_reducible show wpAny _ _ (pyIter _) _ _ _))); (((fail_if_success (with_reducible show wpAny _ _ (eval (PySem.Expr.ListComp _ _ _ _) _) _ _ _)); (fail_if_success (with_reducible show wpAny _ _ (exec (Stmt.Assign _ (PySem.Expr.ListComp _ _ _ _) _) _) _ _ _)))); walk1) | (dsimp only; ((fail_if_success (with_reducible show wpAny _ _ (call (Value.ref _) _) _ _ _))); ((fail_if_success (with_reducible show wpAny _ _ (call (Value.type "set") _) _ _ _))); (((fail_if_success (with_reducible show PyProof.Rows.LCg.CompSrc _ _ _ _ _ _ _ _ _ _ _ _ _ _)); (fail_if_success (with_reducible show PyProof.Rows.LCt.CompSrcT _ _ _ _ _ _ _ _ _ _ _ _ _ _ _)))); ((fail_if_success (with_reducible show wpAny _ _ (exec (Stmt.For _ _ _ _ _) _) _ _ _))); ((fail_if_success (with_reducible show wpAny _ _ (pyIter _) _ _ _))); (((fail_if_success (with_reducible show wpAny _ _ (eval (PySem.Expr.ListComp _ _ _ _) _) _ _ _)); (fail_if_success (with_reducible show wpAny _ _ (exec (Stmt.Assign _ (PySem.Expr.ListComp _ _ _ _) _) _) _ _ _)))); walk1) | (leave1; walk_say "STEP leave1"; try dsimp only) | fail "no step"))
      k_dflt (refine LCg.Assign_ListComp_U (F₀ := by k_asm) (by rfl) (by with_unfolding_all rfl) (by with_unfolding_all rfl) (by decide) (by rfl) (by decide) (by rfl) (by with_unfolding_all rfl) (by with_unfolding_all rfl) ?_)
      (repeat' (first | (k_unfold; (try dsimp only)) | (((fail_if_success (with_reducible show wpAny _ _ (call (Value.ref _) _) _ _ _))); ((fail_if_success (with_reducible show wpAny _ _ (call (Value.type "set") _) _ _ _))); (((fail_if_success (with_reducible show PyProof.Rows.LCg.CompSrc _ _ _ _ _ _ _ _ _ _ _ _ _ _)); (fail_if_success (with_reducible show PyProof.Rows.LCt.CompSrcT _ _ _ _ _ _ _ _ _ _ _ _ _ _ _)))); ((fail_if_success (with_reducible show wpAny _ _ (exec (Stmt.For _ _ _ _ _) _) _ _ _))); ((fail_if_success (with_reducible show wpAny _ _ (pyIter _) _ _ _))); (((fail_if_success (with_reducible show wpAny _ _ (eval (PySem.Expr.ListComp _ _ _ _) _) _ _ _)); (fail_if_success (with_reducible show wpAny _ _ (exec (Stmt.Assign _ (PySem.Expr.ListComp _ _ _ _) _) _) _ _ _)))); walk1) | (dsimp only; ((fail_if_success (with_reducible show wpAny _ _ (call (Value.ref _) _) _ _ _))); ((fail_if_success (with_reducible show wpAny _ _ (call (Value.type "set") _) _ _ _))); (((fail_if_success (with_reducible show PyProof.Rows.LCg.CompSrc _ _ _ _ _ _ _ _ _ _ _ _ _ _)); (fail_if_success (with_reducible show PyProof.Rows.LCt.CompSrcT _ _ _ _ _ _ _ _ _ _ _ _ _ _ _)))); ((fail_if_success (with_reducible show wpAny _ _ (exec (Stmt.For _ _ _ _ _) _) _ _ _))); ((fail_if_success (with_reducible show wpAny _ _ (pyIter _) _ _ _))); (((fail_if_success (with_reducible show wpAny _ _ (eval (PySem.Expr.ListComp _ _ _ _) _) _ _ _)); (fail_if_success (with_reducible show wpAny _ _ (exec (Stmt.Assign _ (PySem.Expr.ListComp _ _ _ _) _) _) _ _ _)))); walk1) | (leave1; walk_say "STEP leave1"; try dsimp only) | fail "no step"))
      refine LCg.CompSrc.ledger rfl (by k_asm) (by k_asm) (List.mem_cons_of_mem _ hD) (by rw [List.size_toArray, sizeLine_eq]; omega) (fun g1 => ?_)
      refine comp_all (n := ys.length) (fun i zs nw => nw = (231, tabObj #[]) :: B ∧ AreGls w B zs (gs.take i)) ?turn2 ?fin2 _ 0 [] _ (by simp) ⟨rfl, .nil⟩
      case turn2 =>
        rintro i zs nw v I oI C oC D2 m₂ h tk E' hi2 hPv ⟨rfl, hzs⟩ hC hx F2 N2 off ne
        obtain ⟨v1, g, e1, e2, hpa⟩ := hP.get i hi2
        obtain ⟨P, T, gv, t1, t2, t3, t4, t5, rfl, hp1, hgl, hT, hhy⟩ := hpa.out
        obtain rfl : _ = v := Option.some.inj (e1.symm.trans (by simpa using hPv))
        have e3 : gs.take (i + 1) = gs.take i ++ [g] := by rw [List.take_add_one, e2]; rfl
        have m1 : (_, _) ∈ (I, oI) :: (C, oC) :: (D2, LCg.lst zs) :: (231, tabObj #[]) :: B := .tail _ (.tail _ (.tail _ (.tail _ hp1)))
        (repeat' (first | (k_unfold; (try dsimp only)) | (((fail_if_success (with_reducible show wpAny _ _ (call (Value.ref _) _) _ _ _))); ((fail_if_success (with_reducible show wpAny _ _ (call (Value.type "set") _) _ _ _))); (((fail_if_success (with_reducible show PyProof.Rows.LCg.CompSrc _ _ _ _ _ _ _ _ _ _ _ _ _ _)); (fail_if_success (with_reducible show PyProof.Rows.LCt.CompSrcT _ _ _ _ _ _ _ _ _ _ _ _ _ _ _)))); ((fail_if_success (with_reducible show wpAny _ _ (exec (Stmt.For _ _ _ _ _) _) _ _ _))); ((fail_if_success (with_reducible show wpAny _ _ (pyIter _) _ _ _))); (((fail_if_success (with_reducible show wpAny _ _ (eval (PySem.Expr.ListComp _ _ _ _) _) _ _ _)); (fail_if_success (with_reducible show wpAny _ _ (exec (Stmt.Assign _ (PySem.Expr.ListComp _ _ _ _) _) _) _ _ _)))); walk1) | (dsimp only; ((fail_if_success (with_reducible show wpAny _ _ (call (Value.ref _) _) _ _ _))); ((fail_if_success (with_reducible show wpAny _ _ (call (Value.type "set") _) _ _ _))); (((fail_if_success (with_reducible show PyProof.Rows.LCg.CompSrc _ _ _ _ _ _ _ _ _ _ _ _ _ _)); (fail_if_success (with_reducible show PyProof.Rows.LCt.CompSrcT _ _ _ _ _ _ _ _ _ _ _ _ _ _ _)))); ((fail_if_success (with_reducible show wpAny _ _ (exec (Stmt.For _ _ _ _ _) _) _ _ _))); ((fail_if_success (with_reducible show wpAny _ _ (pyIter _) _ _ _))); (((fail_if_success (with_reducible show wpAny _ _ (eval (PySem.Expr.ListComp _ _ _ _) _) _ _ _)); (fail_if_success (with_reducible show wpAny _ _ (exec (Stmt.Assign _ (PySem.Expr.ListComp _ _ _ _) _) _) _ _ _)))); walk1) | (leave1; walk_say "STEP leave1"; try dsimp only) | fail "no step"))
        refine cend_gr (tl := []) (by k_asm) (by k_asm) (fun _ _ _ h => nomatch h) off (.inr ⟨_, List.mem_cons_of_mem _ hD, rfl, _, rfl⟩) ⟨rfl, ?_⟩
        rw [e3]
        exact hzs.snoc hgl
      case fin2 =>
        rintro zs nw ⟨rfl, hzs⟩
        rw [List.take_of_length_le (Nat.le_of_eq hyl.symm)] at hzs
        intro D2 h5 tk5 F5 N5 o5
        have o6 := off1_ne o5
        have N6 := news_swap N5
        have oB2 : ∀ p ∈ (D2, LCg.lst zs) :: B, p.1 ≠ 231 := fun p hp => by
          rcases List.mem_cons.mp hp with rfl | hp
          · exact (o6 _ (.head _)).symm
          · exact oB p hp
        have hzs : AreGls w ((D2, LCg.lst zs) :: B) zs gs := hzs.sub fun p hp => .tail _ hp
        have hP : Prs w ((D2, LCg.lst zs) :: B) ys gs := hP.sub fun p hp => .tail _ hp
        have hD : (D, LCg.lst ys) ∈ (D2, LCg.lst zs) :: B := .tail _ hD
        have hD2 : (D2, LCg.lst zs) ∈ (D2, LCg.lst zs) :: B := .head _
        generalize hB2 : (D2, LCg.lst zs) :: B = B2 at N6 oB2 hP hD hD2 hzs
        clear hB2 N5 o5 o6 N4 F3 oB
        show wpAny _ _ _ _ _ _
        (repeat' (first | (k_unfold; (try dsimp only)) | (((fail_if_success (with_reducible show wpAny _ _ (call (Value.ref _) _) _ _ _))); ((fail_if_success (with_reducible show wpAny _ _ (call (Value.type "set") _) _ _ _))); (((fail_if_success (with_reducible show PyProof.Rows.LCg.CompSrc _ _ _ _ _ _ _ _ _ _ _ _ _ _)); (fail_if_success (with_reducible show PyProof.Rows.LCt.CompSrcT _ _ _ _ _ _ _ _ _ _ _ _ _ _ _)))); ((fail_if_success (with_reducible show wpAny _ _ (exec (Stmt.For _ _ _ _ _) _) _ _ _))); ((fail_if_success (with_reducible show wpAny _ _ (pyIter _) _ _ _))); (((fail_if_success (with_reducible show wpAny _ _ (eval (PySem.Expr.ListComp _ _ _ _) _) _ _ _)); (fail_if_success (with_reducible show wpAny _ _ (exec (Stmt.Assign _ (PySem.Expr.ListComp _ _ _ _) _) _) _ _ _)))); walk1) | (dsimp only; ((fail_if_success (with_reducible show wpAny _ _ (call (Value.ref _) _) _ _ _))); ((fail_if_success (with_reducible show wpAny _ _ (call (Value.type "set") _) _ _ _))); (((fail_if_success (with_reducible show PyProof.Rows.LCg.CompSrc _ _ _ _ _ _ _ _ _ _ _ _ _ _)); (fail_if_success (with_reducible show PyProof.Rows.LCt.CompSrcT _ _ _ _ _ _ _ _ _ _ _ _ _ _ _)))); ((fail_if_success (with_reducible show wpAny _ _ (exec (Stmt.For _ _ _ _ _) _) _ _ _))); ((fail_if_success (with_reducible show wpAny _ _ (pyIter _) _ _ _))); (((fail_if_success (with_reducible show wpAny _ _ (eval (PySem.Expr.ListComp _ _ _ _) _) _ _ _)); (fail_if_success (with_reducible show wpAny _ _ (exec (Stmt.Assign _ (PySem.Expr.ListComp _ _ _ _) _) _) _ _ _)))); walk1) | (leave1; walk_say "STEP leave1"; try dsimp only) | fail "no step"))
        k_dflt (refine LCg.Assign_ListComp_U (F₀ := by k_asm) (by rfl) (by with_unfolding_all rfl) (by with_unfolding_all rfl) (by decide) (by rfl) (by decide) (by rfl) (by with_unfolding_all rfl) (by with_unfolding_all rfl) ?_)
        (repeat' (first | (k_unfold; (try dsimp only)) | (((fail_if_success (with_reducible show wpAny _ _ (call (Value.ref _) _) _ _ _))); ((fail_if_success (with_reducible show wpAny _ _ (call (Value.type "set") _) _ _ _))); (((fail_if_success (with_reducible show PyProof.Rows.LCg.CompSrc _ _ _ _ _ _ _ _ _ _ _ _ _ _)); (fail_if_success (with_reducible show PyProof.Rows.LCt.CompSrcT _ _ _ _ _ _ _ _ _ _ _ _ _ _ _)))); ((fail_if_success (with_reducible show wpAny _ _ (exec (Stmt.For _ _ _ _ _) _) _ _ _))); ((fail_if_success (with_reducible show wpAny _ _ (pyIter _) _ _ _))); (((fail_if_success (with_reducible show wpAny _ _ (eval (PySem.Expr.ListComp _ _ _ _) _) _ _ _)); (fail_if_success (with_reducible show wpAny _ _ (exec (Stmt.Assign _ (PySem.Expr.ListComp _ _ _ _) _) _) _ _ _)))); walk1) | (dsimp only; ((fail_if_success (with_reducible show wpAny _ _ (call (Value.ref _) _) _ _ _))); ((fail_if_success (with_reducible show wpAny _ _ (call (Value.type "set") _) _ _ _))); (((fail_if_success (with_reducible show PyProof.Rows.LCg.CompSrc _ _ _ _ _ _ _ _ _ _ _ _ _ _)); (fail_if_success (with_reducible show PyProof.Rows.LCt.CompSrcT _ _ _ _ _ _ _ _ _ _ _ _ _ _ _)))); ((fail_if_success (with_reducible show wpAny _ _ (exec (Stmt.For _ _ _ _ _) _) _ _ _))); ((fail_if_success (with_reducible show wpAny _ _ (pyIter _) _ _ _))); (((fail_if_success (with_reducible show wpAny _ _ (eval (PySem.Expr.ListComp _ _ _ _) _) _ _ _)); (fail_if_success (with_reducible show wpAny _ _ (exec (Stmt.Assign _ (PySem.Expr.ListComp _ _ _ _) _) _) _ _ _)))); walk1) | (leave1; walk_say "STEP leave1"; try dsimp only) | fail "no step"))
        refine LCg.CompSrc.ledger rfl (by k_asm) (by k_asm) (List.mem_cons_of_mem _ hD) (by rw [List.size_toArray, sizeLine_eq]; omega) (fun g3 => ?_)
        refine comp_all (n := ys.length) (fun i us nw => nw = (231, tabObj #[]) :: B2 ∧ Tups B2 us (gs.take i)) ?turn3 ?fin3 _ 0 [] _ (by simp) ⟨rfl, .nil⟩
        case turn3 =>
          rintro i us nw v I oI C oC D3 m₂ h tk E' hi2 hPv ⟨rfl, hus⟩ hC hx F2 N2 off ne
          obtain ⟨v1, g, e1, e2, hpa⟩ := hP.get i hi2
          obtain ⟨P, T, gv, t1, t2, t3, t4, t5, rfl, hp1, hgl, hT, hhy⟩ := hpa.out
          obtain rfl : _ = v := Option.some.inj (e1.symm.trans (by simpa using hPv))
          have e3 : gs.take (i + 1) = gs.take i ++ [g] := by rw [List.take_add_one, e2]; rfl
          have m1 : (_, _) ∈ (I, oI) :: (C, oC) :: (D3, LCg.lst us) :: (231, tabObj #[]) :: B2 := .tail _ (.tail _ (.tail _ (.tail _ hp1)))
          (repeat' (first | (k_unfold; (try dsimp only)) | (((fail_if_success (with_reducible show wpAny _ _ (call (Value.ref _) _) _ _ _))); ((fail_if_success (with_reducible show wpAny _ _ (call (Value.type "set") _) _ _ _))); (((fail_if_success (with_reducible show PyProof.Rows.LCg.CompSrc _ _ _ _ _ _ _ _ _ _ _ _ _ _)); (fail_if_success (with_reducible show PyProof.Rows.LCt.CompSrcT _ _ _ _ _ _ _ _ _ _ _ _ _ _ _)))); ((fail_if_success (with_reducible show wpAny _ _ (exec (Stmt.For _ _ _ _ _) _) _ _ _))); ((fail_if_success (with_reducible show wpAny _ _ (pyIter _) _ _ _))); (((fail_if_success (with_reducible show wpAny _ _ (eval (PySem.Expr.ListComp _ _ _ _) _) _ _ _)); (fail_if_success (with_reducible show wpAny _ _ (exec (Stmt.Assign _ (PySem.Expr.ListComp _ _ _ _) _) _) _ _ _)))); walk1) | (dsimp only; ((fail_if_success (with_reducible show wpAny _ _ (call (Value.ref _) _) _ _ _))); ((fail_if_success (with_reducible show wpAny _ _ (call (Value.type "set") _) _ _ _))); (((fail_if_success (with_reducible show PyProof.Rows.LCg.CompSrc _ _ _ _ _ _ _ _ _ _ _ _ _ _)); (fail_if_success (with_reducible show PyProof.Rows.LCt.CompSrcT _ _ _ _ _ _ _ _ _ _ _ _ _ _ _)))); ((fail_if_success (with_reducible show wpAny _ _ (exec (Stmt.For _ _ _ _ _) _) _ _ _))); ((fail_if_success (with_reducible show wpAny _ _ (pyIter _) _ _ _))); (((fail_if_success (with_reducible show wpAny _ _ (eval (PySem.Expr.ListComp _ _ _ _) _) _ _ _)); (fail_if_success (with_reducible show wpAny _ _ (exec (Stmt.Assign _ (PySem.Expr.ListComp _ _ _ _) _) _) _ _ _)))); walk1) | (leave1; walk_say "STEP leave1"; try dsimp only) | fail "no step"))
          refine cend_gr (tl := []) (by k_asm) (by k_asm) (fun _ _ _ h => nomatch h) off (.inr ⟨_, List.mem_cons_of_mem _ hD, rfl, _, rfl⟩) ⟨rfl, ?_⟩
          rw [e3]
          exact hus.snoc (.mk hT hgl.small)
        case fin3 =>
          rintro us nw ⟨rfl, hus⟩
          rw [List.take_of_length_le (Nat.le_of_eq hyl.symm)] at hus
          intro D3 h7 tk7 F7 N7 o7
          have o8 := off1_ne o7
          have N8 := news_swap N7
          have oB3 : ∀ p ∈ (D3, LCg.lst us) :: B2, p.1 ≠ 231 := fun p hp => by
            rcases List.mem_cons.mp hp with rfl | hp
            · exact (o8 _ (.head _)).symm
            · exact oB2 p hp
          have hzs : AreGls w ((D3, LCg.lst us) :: B2) zs gs := hzs.sub fun p hp => .tail _ hp
          have hus : Tups ((D3, LCg.lst us) :: B2) us gs := hus.sub fun p hp => .tail _ hp
          have hhi := hP.high
          have hD2 : (D2, LCg.lst zs) ∈ (D3, LCg.lst us) :: B2 := .tail _ hD2
          have hD3 : (D3, LCg.lst us) ∈ (D3, LCg.lst us) :: B2 := .head _
          generalize hB3 : (D3, LCg.lst us) :: B2 = B3 at N8 oB3 hD2 hD3 hzs hus
          clear hB3 N7 o7 o8 N6 F5 oB2 hP hD
          show wpAny _ _ _ _ _ _
          (repeat' (first | (k_unfold; (try dsimp only)) | (((fail_if_success (with_reducible show wpAny _ _ (call (Value.ref _) _) _ _ _))); ((fail_if_success (with_reducible show wpAny _ _ (call (Value.type "set") _) _ _ _))); (((fail_if_success (with_reducible show PyProof.Rows.LCg.CompSrc _ _ _ _ _ _ _ _ _ _ _ _ _ _)); (fail_if_success (with_reducible show PyProof.Rows.LCt.CompSrcT _ _ _ _ _ _ _ _ _ _ _ _ _ _ _)))); ((fail_if_success (with_reducible show wpAny _ _ (exec (Stmt.For _ _ _ _ _) _) _ _ _))); ((fail_if_success (with_reducible show wpAny _ _ (pyIter _) _ _ _))); (((fail_if_success (with_reducible show wpAny _ _ (eval (PySem.Expr.ListComp _ _ _ _) _) _ _ _)); (fail_if_success (with_reducible show wpAny _ _ (exec (Stmt.Assign _ (PySem.Expr.ListComp _ _ _ _) _) _) _ _ _)))); walk1) | (dsimp only; ((fail_if_success (with_reducible show wpAny _ _ (call (Value.ref _) _) _ _ _))); ((fail_if_success (with_reducible show wpAny _ _ (call (Value.type "set") _) _ _ _))); (((fail_if_success (with_reducible show PyProof.Rows.LCg.CompSrc _ _ _ _ _ _ _ _ _ _ _ _ _ _)); (fail_if_success (with_reducible show PyProof.Rows.LCt.CompSrcT _ _ _ _ _ _ _ _ _ _ _ _ _ _ _)))); ((fail_if_success (with_reducible show wpAny _ _ (exec (Stmt.For _ _ _ _ _) _) _ _ _))); ((fail_if_success (with_reducible show wpAny _ _ (pyIter _) _ _ _))); (((fail_if_success (with_reducible show wpAny _ _ (eval (PySem.Expr.ListComp _ _ _ _) _) _ _ _)); (fail_if_success (with_reducible show wpAny _ _ (exec (Stmt.Assign _ (PySem.Expr.ListComp _ _ _ _) _) _) _ _ _)))); walk1) | (leave1; walk_say "STEP leave1"; try dsimp only) | fail "no step"))
          ((k_dflt (refine' ok_use (law_rows_ok w D3 us us.length gs kk _ ((231, tabObj #[]) :: B3) (.tail _ hD3) (hus.sub fun p hp => .tail _ hp) ⟨hk0, by omega⟩ (by rw [hus.len]; omega)) ?k1 ?k2 ?k3 ?k4 ?k5 ?kK ?kd ?ku ?_; (case k1 => k_asm); (case k2 => k_asm); (case k3 => k_asm); (case k4 => k_asm); (case k5 => k_asm); (case kK => first | exact rfl | assumption); (case kd => first | exact ok_room hd rfl | ktr_room); (case ku => first | exact ok_room hu rfl | ktr_units)); intro r9 n9 h9 tk9 F9 N9 P9; (try dsimp only); (try k_fold)))
          obtain ⟨g4, da, dvs, dn, rfl, hda, hds, hdl⟩ := P9
          obtain ⟨B4, s1', s2', g5, oB4⟩ := gr_front g4 oB3
          have N9' : News _ _ _ ((231, tabObj #[]) :: B4) := fun p hp => N9 p (s1' p hp)
          have hda := list_tail (s2' _ hda)
          have hdt := hds.at
          have hzs := hzs.mono g5
          have hus := hus.sub fun p hp => g5.sub hp
          have hD2 := g5.sub hD2
          have hD3 := g5.sub hD3
          clear s1' s2' g4 g5 N9 N8 oB3 hds F7
          (repeat' (first | (k_unfold; (try dsimp only)) | (((fail_if_success (with_reducible show wpAny _ _ (call (Value.ref _) _) _ _ _))); ((fail_if_success (with_reducible show wpAny _ _ (call (Value.type "set") _) _ _ _))); (((fail_if_success (with_reducible show PyProof.Rows.LCg.CompSrc _ _ _ _ _ _ _ _ _ _ _ _ _ _)); (fail_if_success (with_reducible show PyProof.Rows.LCt.CompSrcT _ _ _ _ _ _ _ _ _ _ _ _ _ _ _)))); ((fail_if_success (with_reducible show wpAny _ _ (exec (Stmt.For _ _ _ _ _) _) _ _ _))); ((fail_if_success (with_reducible show wpAny _ _ (pyIter _) _ _ _))); (((fail_if_success (with_reducible show wpAny _ _ (eval (PySem.Expr.ListComp _ _ _ _) _) _ _ _)); (fail_if_success (with_reducible show wpAny _ _ (exec (Stmt.Assign _ (PySem.Expr.ListComp _ _ _ _) _) _) _ _ _)))); walk1) | (dsimp only; ((fail_if_success (with_reducible show wpAny _ _ (call (Value.ref _) _) _ _ _))); ((fail_if_success (with_reducible show wpAny _ _ (call (Value.type "set") _) _ _ _))); (((fail_if_success (with_reducible show PyProof.Rows.LCg.CompSrc _ _ _ _ _ _ _ _ _ _ _ _ _ _)); (fail_if_success (with_reducible show PyProof.Rows.LCt.CompSrcT _ _ _ _ _ _ _ _ _ _ _ _ _ _ _)))); ((fail_if_success (with_reducible show wpAny _ _ (exec (Stmt.For _ _ _ _ _) _) _ _ _))); ((fail_if_success (with_reducible show wpAny _ _ (pyIter _) _ _ _))); (((fail_if_success (with_reducible show wpAny _ _ (eval (PySem.Expr.ListComp _ _ _ _) _) _ _ _)); (fail_if_success (with_reducible show wpAny _ _ (exec (Stmt.Assign _ (PySem.Expr.ListComp _ _ _ _) _) _) _ _ _)))); walk1) | (leave1; walk_say "STEP leave1"; try dsimp only) | fail "no step"))
          ((k_dflt (refine' ok_use (rows_of_ok w D2 zs zs.length gs #[] kk _ B4 hD2 hzs (by rw [hzs.len]; omega) .none oB4 ⟨hk0, by omega⟩) ?k1 ?k2 ?k3 ?k4 ?k5 ?kK ?kd ?ku ?_; (case k1 => k_asm); (case k2 => k_asm); (case k3 => k_asm); (case k4 => k_asm); (case k5 => k_asm); (case kK => first | exact rfl | assumption); (case kd => first | exact ok_room hd rfl | ktr_room); (case ku => first | exact ok_room hu rfl | ktr_units)); intro r9 n9 h9 tk9 F9 N9 P9; (try dsimp only); (try k_fold)))
          obtain ⟨B5, ps5, ra5, rvs5, rn5, rows5, rfl, g5, ht5, oB5, rfl, hr5, hs5, hl5, hord5⟩ := P9
          rw [ordered_rows hord5 hhi] at hs5
          have hst5 := hs5.at
          have hda := g5.sub hda
          have hdd : (_, _) ∈ (231, tabObj ps5) :: B5 := .tail _ hda
          have hzs := hzs.mono g5
          have hus := hus.sub fun p hp => g5.sub hp
          have hD2 := g5.sub hD2
          have hD3 := g5.sub hD3
          clear hord5 hs5 oB4 g5
          (repeat' (first | (k_unfold; (try dsimp only)) | (((fail_if_success (with_reducible show wpAny _ _ (call (Value.ref _) _) _ _ _))); ((fail_if_success (with_reducible show wpAny _ _ (call (Value.type "set") _) _ _ _))); (((fail_if_success (with_reducible show PyProof.Rows.LCg.CompSrc _ _ _ _ _ _ _ _ _ _ _ _ _ _)); (fail_if_success (with_reducible show PyProof.Rows.LCt.CompSrcT _ _ _ _ _ _ _ _ _ _ _ _ _ _ _)))); ((fail_if_success (with_reducible show wpAny _ _ (exec (Stmt.For _ _ _ _ _) _) _ _ _))); ((fail_if_success (with_reducible show wpAny _ _ (pyIter _) _ _ _))); (((fail_if_success (with_reducible show wpAny _ _ (eval (PySem.Expr.ListComp _ _ _ _) _) _ _ _)); (fail_if_success (with_reducible show wpAny _ _ (exec (Stmt.Assign _ (PySem.Expr.ListComp _ _ _ _) _) _) _ _ _)))); walk1) | (dsimp only; ((fail_if_success (with_reducible show wpAny _ _ (call (Value.ref _) _) _ _ _))); ((fail_if_success (with_reducible show wpAny _ _ (call (Value.type "set") _) _ _ _))); (((fail_if_success (with_reducible show PyProof.Rows.LCg.CompSrc _ _ _ _ _ _ _ _ _ _ _ _ _ _)); (fail_if_success (with_reducible show PyProof.Rows.LCt.CompSrcT _ _ _ _ _ _ _ _ _ _ _ _ _ _ _)))); ((fail_if_success (with_reducible show wpAny _ _ (exec (Stmt.For _ _ _ _ _) _) _ _ _))); ((fail_if_success (with_reducible show wpAny _ _ (pyIter _) _ _ _))); (((fail_if_success (with_reducible show wpAny _ _ (eval (PySem.Expr.ListComp _ _ _ _) _) _ _ _)); (fail_if_success (with_reducible show wpAny _ _ (exec (Stmt.Assign _ (PySem.Expr.ListComp _ _ _ _) _) _) _ _ _)))); walk1) | (leave1; walk_say "STEP leave1"; try dsimp only) | fail "no step"))
          k_dflt (refine LCt.ListComp_T (F₀ := by k_asm) (by with_unfolding_all rfl) (by decide) (by rfl) (by decide) (by rfl) ?_)
          (repeat' (first | (k_unfold; (try dsimp only)) | (((fail_if_success (with_reducible show wpAny _ _ (call (Value.ref _) _) _ _ _))); ((fail_if_success (with_reducible show wpAny _ _ (call (Value.type "set") _) _ _ _))); (((fail_if_success (with_reducible show PyProof.Rows.LCg.CompSrc _ _ _ _ _ _ _ _ _ _ _ _ _ _)); (fail_if_success (with_reducible show PyProof.Rows.LCt.CompSrcT _ _ _ _ _ _ _ _ _ _ _ _ _ _ _)))); ((fail_if_success (with_reducible show wpAny _ _ (exec (Stmt.For _ _ _ _ _) _) _ _ _))); ((fail_if_success (with_reducible show wpAny _ _ (pyIter _) _ _ _))); (((fail_if_success (with_reducible show wpAny _ _ (eval (PySem.Expr.ListComp _ _ _ _) _) _ _ _)); (fail_if_success (with_reducible show wpAny _ _ (exec (Stmt.Assign _ (PySem.Expr.ListComp _ _ _ _) _) _) _ _ _)))); walk1) | (dsimp only; ((fail_if_success (with_reducible show wpAny _ _ (call (Value.ref _) _) _ _ _))); ((fail_if_success (with_reducible show wpAny _ _ (call (Value.type "set") _) _ _ _))); (((fail_if_success (with_reducible show PyProof.Rows.LCg.CompSrc _ _ _ _ _ _ _ _ _ _ _ _ _ _)); (fail_if_success (with_reducible show PyProof.Rows.LCt.CompSrcT _ _ _ _ _ _ _ _ _ _ _ _ _ _ _)))); ((fail_if_success (with_reducible show wpAny _ _ (exec (Stmt.For _ _ _ _ _) _) _ _ _))); ((fail_if_success (with_reducible show wpAny _ _ (pyIter _) _ _ _))); (((fail_if_success (with_reducible show wpAny _ _ (eval (PySem.Expr.ListComp _ _ _ _) _) _ _ _)); (fail_if_success (with_reducible show wpAny _ _ (exec (Stmt.Assign _ (PySem.Expr.ListComp _ _ _ _) _) _) _ _ _)))); walk1) | (leave1; walk_say "STEP leave1"; try dsimp only) | fail "no step"))
          refine LCt.CompSrcT.ledger rfl (by k_asm) (by k_asm) (List.mem_cons_of_mem _ hD2) (by rw [List.size_toArray, sizeLine_eq]; have := hzs.len; omega) (fun g6 => ?_)
          refine comp_test (n := zs.length) (fun i vs nw => nw = (231, tabObj ps5) :: B5 ∧ AreGls w B5 vs (told (gs.take i))) ?turn4 ?fin4 _ 0 [] _ (by simp) ⟨rfl, .nil⟩
          case turn4 =>
            rintro i vs nw v I oI C oC D4 m₂ h tk E' hi2 hPv ⟨rfl, hvs⟩ hC hx F2 N2 off ne
            obtain ⟨v1, g, e1, e2, hgl⟩ := hzs.get i hi2
            obtain rfl : v1 = v := Option.some.inj (e1.symm.trans (by simpa using hPv))
            have e3 : gs.take (i + 1) = gs.take i ++ [g] := by rw [List.take_add_one, e2]; rfl
            have hgc := hgl
            obtain ⟨x1, dx1, vx, vy, vw, vz, k1, k2, k3, k4, k5, t1, rfl, n1, n2, -, -, sm⟩ := hgl.out
            have m1 : (_, _) ∈ (I, oI) :: (C, oC) :: (D4, LCg.lst vs) :: (231, tabObj ps5) :: B5 := .tail _ (.tail _ (.tail _ (.tail _ n1)))
            have d1 : (_, _) ∈ (I, oI) :: (C, oC) :: (D4, LCg.lst vs) :: (231, tabObj ps5) :: B5 := .tail _ (.tail _ (.tail _ (.tail _ n2)))
            have hlen := sm.len
            (repeat' (first | (k_unfold; (try dsimp only)) | (((fail_if_success (with_reducible show wpAny _ _ (call (Value.ref _) _) _ _ _))); ((fail_if_success (with_reducible show wpAny _ _ (call (Value.type "set") _) _ _ _))); (((fail_if_success (with_reducible show PyProof.Rows.LCg.CompSrc _ _ _ _ _ _ _ _ _ _ _ _ _ _)); (fail_if_success (with_reducible show PyProof.Rows.LCt.CompSrcT _ _ _ _ _ _ _ _ _ _ _ _ _ _ _)))); ((fail_if_success (with_reducible show wpAny _ _ (exec (Stmt.For _ _ _ _ _) _) _ _ _))); ((fail_if_success (with_reducible show wpAny _ _ (pyIter _) _ _ _))); (((fail_if_success (with_reducible show wpAny _ _ (eval (PySem.Expr.ListComp _ _ _ _) _) _ _ _)); (fail_if_success (with_reducible show wpAny _ _ (exec (Stmt.Assign _ (PySem.Expr.ListComp _ _ _ _) _) _) _ _ _)))); walk1) | (dsimp only; ((fail_if_success (with_reducible show wpAny _ _ (call (Value.ref _) _) _ _ _))); ((fail_if_success (with_reducible show wpAny _ _ (call (Value.type "set") _) _ _ _))); (((fail_if_success (with_reducible show PyProof.Rows.LCg.CompSrc _ _ _ _ _ _ _ _ _ _ _ _ _ _)); (fail_if_success (with_reducible show PyProof.Rows.LCt.CompSrcT _ _ _ _ _ _ _ _ _ _ _ _ _ _ _)))); ((fail_if_success (with_reducible show wpAny _ _ (exec (Stmt.For _ _ _ _ _) _) _ _ _))); ((fail_if_success (with_reducible show wpAny _ _ (pyIter _) _ _ _))); (((fail_if_success (with_reducible show wpAny _ _ (eval (PySem.Expr.ListComp _ _ _ _) _) _ _ _)); (fail_if_success (with_reducible show wpAny _ _ (exec (Stmt.Assign _ (PySem.Expr.ListComp _ _ _ _) _) _) _ _ _)))); walk1) | (leave1; walk_say "STEP leave1"; try dsimp only) | fail "no step"))
            · refine cend_gr (tl := []) (by k_asm) (by k_asm) (fun _ _ _ h => nomatch h) off (.inr ⟨_, List.mem_cons_of_mem _ hD2, rfl, _, rfl⟩) ⟨rfl, ?_⟩
              rw [e3, told_yes (by assumption)]
              exact hvs.snoc hgc
            · refine cend_gr (tl := []) (by k_asm) (by k_asm) (fun _ _ _ h => nomatch h) off (.inr ⟨_, List.mem_cons_of_mem _ hD2, rfl, _, rfl⟩) ⟨rfl, ?_⟩
              rw [e3, told_no (by assumption)]
              exact hvs
          case fin4 =>
            rintro vs nw ⟨rfl, hvs⟩
            rw [List.take_of_length_le (Nat.le_of_eq hzs.len.symm)] at hvs
            intro D4 h9 tk9 F9 N9 o9
            have o10 := off1_ne o9
            have N10 := news_swap N9
            have oB6 : ∀ p ∈ (D4, LCg.lst vs) :: B5, p.1 ≠ 231 := fun p hp => by
              rcases List.mem_cons.mp hp with rfl | hp
              · exact (o10 _ (.head _)).symm
              · exact oB5 p hp
            have gB : Gr B5 ((D4, LCg.lst vs) :: B5) := (Gr.refl B5).put fun p hp => o10 p (.tail _ hp)
            have hvs := hvs.mono gB
            have hD4 : (D4, LCg.lst vs) ∈ (D4, LCg.lst vs) :: B5 := .head _
            have hda := gB.sub hda
            have hzs := hzs.mono gB
            have hus := hus.sub fun p hp => gB.sub hp
            have hD2 := gB.sub hD2
            have hD3 := gB.sub hD3
            have ht6 := ht5.mono fun p hp => gB.sub hp
            have hvl : vs.length ≤ 50 := Nat.le_trans (Nat.le_of_eq hvs.len) (Nat.le_trans (List.length_filter_le _ _) (by omega))
            generalize hB6 : (D4, LCg.lst vs) :: B5 = B6 at N10 oB6 gB hvs hD4 hda hzs hus hD2 hD3 ht6
            clear hB6 gB N9 o9 o10 oB5 ht5 hdd hst5 hr5
            show wpAny _ _ _ _ _ _
            (repeat' (first | (k_unfold; (try dsimp only)) | (((fail_if_success (with_reducible show wpAny _ _ (call (Value.ref _) _) _ _ _))); ((fail_if_success (with_reducible show wpAny _ _ (call (Value.type "set") _) _ _ _))); (((fail_if_success (with_reducible show PyProof.Rows.LCg.CompSrc _ _ _ _ _ _ _ _ _ _ _ _ _ _)); (fail_if_success (with_reducible show PyProof.Rows.LCt.CompSrcT _ _ _ _ _ _ _ _ _ _ _ _ _ _ _)))); ((fail_if_success (with_reducible show wpAny _ _ (exec (Stmt.For _ _ _ _ _) _) _ _ _))); ((fail_if_success (with_reducible show wpAny _ _ (pyIter _) _ _ _))); (((fail_if_success (with_reducible show wpAny _ _ (eval (PySem.Expr.ListComp _ _ _ _) _) _ _ _)); (fail_if_success (with_reducible show wpAny _ _ (exec (Stmt.Assign _ (PySem.Expr.ListComp _ _ _ _) _) _) _ _ _)))); walk1) | (dsimp only; ((fail_if_success (with_reducible show wpAny _ _ (call (Value.ref _) _) _ _ _))); ((fail_if_success (with_reducible show wpAny _ _ (call (Value.type "set") _) _ _ _))); (((fail_if_success (with_reducible show PyProof.Rows.LCg.CompSrc _ _ _ _ _ _ _ _ _ _ _ _ _ _)); (fail_if_success (with_reducible show PyProof.Rows.LCt.CompSrcT _ _ _ _ _ _ _ _ _ _ _ _ _ _ _)))); ((fail_if_success (with_reducible show wpAny _ _ (exec (Stmt.For _ _ _ _ _) _) _ _ _))); ((fail_if_success (with_reducible show wpAny _ _ (pyIter _) _ _ _))); (((fail_if_success (with_reducible show wpAny _ _ (eval (PySem.Expr.ListComp _ _ _ _) _) _ _ _)); (fail_if_success (with_reducible show wpAny _ _ (exec (Stmt.Assign _ (PySem.Expr.ListComp _ _ _ _) _) _) _ _ _)))); walk1) | (leave1; walk_say "STEP leave1"; try dsimp only) | fail "no step"))
            ((k_dflt (refine' ok_use (rows_of_ok w D4 vs vs.length (told gs) ps5 kk _ B6 hD4 hvs hvl ht6 oB6 ⟨hk0, by omega⟩) ?k1 ?k2 ?k3 ?k4 ?k5 ?kK ?kd ?ku ?_; (case k1 => k_asm); (case k2 => k_asm); (case k3 => k_asm); (case k4 => k_asm); (case k5 => k_asm); (case kK => first | exact rfl | assumption); (case kd => first | exact ok_room hd rfl | ktr_room); (case ku => first | exact ok_room hu rfl | ktr_units)); intro r9 n9 h9 tk9 F9 N9 P9; (try dsimp only); (try k_fold)))
            obtain ⟨B7, ps7, ra7, rvs7, rn7, rows7, rfl, g7, ht7, oB7, rfl, hr7, hs7, hl7, hord7⟩ := P9
            rw [ordered_rows hord7 (fun g hg => hhi g (told_mem hg)), rowsG_told] at hs7
            have hst7 := hs7.at
            have hda := g7.sub hda
            have hdd : (_, _) ∈ (231, tabObj ps7) :: B7 := .tail _ hda
            have hzs := hzs.mono g7
            have hus := hus.sub fun p hp => g7.sub hp
            have hD2 := g7.sub hD2
            have hD3 := g7.sub hD3
            clear hord7 hs7 oB6 g7 hvs hD4 ht6 N10
            (repeat' (first | (k_unfold; (try dsimp only)) | (((fail_if_success (with_reducible show wpAny _ _ (call (Value.ref _) _) _ _ _))); ((fail_if_success (with_reducible show wpAny _ _ (call (Value.type "set") _) _ _ _))); (((fail_if_success (with_reducible show PyProof.Rows.LCg.CompSrc _ _ _ _ _ _ _ _ _ _ _ _ _ _)); (fail_if_success (with_reducible show PyProof.Rows.LCt.CompSrcT _ _ _ _ _ _ _ _ _ _ _ _ _ _ _)))); ((fail_if_success (with_reducible show wpAny _ _ (exec (Stmt.For _ _ _ _ _) _) _ _ _))); ((fail_if_success (with_reducible show wpAny _ _ (pyIter _) _ _ _))); (((fail_if_success (with_reducible show wpAny _ _ (eval (PySem.Expr.ListComp _ _ _ _) _) _ _ _)); (fail_if_success (with_reducible show wpAny _ _ (exec (Stmt.Assign _ (PySem.Expr.ListComp _ _ _ _) _) _) _ _ _)))); walk1) | (dsimp only; ((fail_if_success (with_reducible show wpAny _ _ (call (Value.ref _) _) _ _ _))); ((fail_if_success (with_reducible show wpAny _ _ (call (Value.type "set") _) _ _ _))); (((fail_if_success (with_reducible show PyProof.Rows.LCg.CompSrc _ _ _ _ _ _ _ _ _ _ _ _ _ _)); (fail_if_success (with_reducible show PyProof.Rows.LCt.CompSrcT _ _ _ _ _ _ _ _ _ _ _ _ _ _ _)))); ((fail_if_success (with_reducible show wpAny _ _ (exec (Stmt.For _ _ _ _ _) _) _ _ _))); ((fail_if_success (with_reducible show wpAny _ _ (pyIter _) _ _ _))); (((fail_if_success (with_reducible show wpAny _ _ (eval (PySem.Expr.ListComp _ _ _ _) _) _ _ _)); (fail_if_success (with_reducible show wpAny _ _ (exec (Stmt.Assign _ (PySem.Expr.ListComp _ _ _ _) _) _) _ _ _)))); walk1) | (leave1; walk_say "STEP leave1"; try dsimp only) | fail "no step"))
            ((k_dflt (refine' ok_use (rows_of_ok2 w D2 zs zs.length gs ps7 B7 hD2 hzs (by have := hzs.len; omega) ht7 oB7) ?k1 ?k2 ?k3 ?k4 ?k5 ?kK ?kd ?ku ?_; (case k1 => k_asm); (case k2 => k_asm); (case k3 => k_asm); (case k4 => k_asm); (case k5 => k_asm); (case kK => first | exact rfl | assumption); (case kd => first | exact ok_room hd rfl | ktr_room); (case ku => first | exact ok_room hu rfl | ktr_units)); intro r9 n9 h9 tk9 F9 N9 P9; (try dsimp only); (try k_fold)))
            obtain ⟨B8, ps8, ra8, rvs8, rn8, rows8, rfl, g8, ht8, oB8, rfl, hr8, hs8, hl8, hord8⟩ := P9
            rw [ordered_rows hord8 hhi] at hs8
            have hst8 := hs8.at
            have hr8 := list_tail hr8
            have hda := g8.sub hda
            have hzs := hzs.mono g8
            have hus := hus.sub fun p hp => g8.sub hp
            have hD2 := g8.sub hD2
            have hD3 := g8.sub hD3
            clear hord8 hs8 oB7 g8 hdd hst7 hr7 ht7
            (repeat' (first | (k_unfold; (try dsimp only)) | (((fail_if_success (with_reducible show wpAny _ _ (call (Value.ref _) _) _ _ _))); ((fail_if_success (with_reducible show wpAny _ _ (call (Value.type "set") _) _ _ _))); (((fail_if_success (with_reducible show PyProof.Rows.LCg.CompSrc _ _ _ _ _ _ _ _ _ _ _ _ _ _)); (fail_if_success (with_reducible show PyProof.Rows.LCt.CompSrcT _ _ _ _ _ _ _ _ _ _ _ _ _ _ _)))); ((fail_if_success (with_reducible show wpAny _ _ (exec (Stmt.For _ _ _ _ _) _) _ _ _))); ((fail_if_success (with_reducible show wpAny _ _ (pyIter _) _ _ _))); (((fail_if_success (with_reducible show wpAny _ _ (eval (PySem.Expr.ListComp _ _ _ _) _) _ _ _)); (fail_if_success (with_reducible show wpAny _ _ (exec (Stmt.Assign _ (PySem.Expr.ListComp _ _ _ _) _) _) _ _ _)))); walk1) | (dsimp only; ((fail_if_success (with_reducible show wpAny _ _ (call (Value.ref _) _) _ _ _))); ((fail_if_success (with_reducible show wpAny _ _ (call (Value.type "set") _) _ _ _))); (((fail_if_success (with_reducible show PyProof.Rows.LCg.CompSrc _ _ _ _ _ _ _ _ _ _ _ _ _ _)); (fail_if_success (with_reducible show PyProof.Rows.LCt.CompSrcT _ _ _ _ _ _ _ _ _ _ _ _ _ _ _)))); ((fail_if_success (with_reducible show wpAny _ _ (exec (Stmt.For _ _ _ _ _) _) _ _ _))); ((fail_if_success (with_reducible show wpAny _ _ (pyIter _) _ _ _))); (((fail_if_success (with_reducible show wpAny _ _ (eval (PySem.Expr.ListComp _ _ _ _) _) _ _ _)); (fail_if_success (with_reducible show wpAny _ _ (exec (Stmt.Assign _ (PySem.Expr.ListComp _ _ _ _) _) _) _ _ _)))); walk1) | (leave1; walk_say "STEP leave1"; try dsimp only) | fail "no step"))
            ((k_dflt (refine' ok_use (law_rows_ok w D3 us us.length gs 2 _ ((231, tabObj ps8) :: B8) (.tail _ hD3) (hus.sub fun p hp => .tail _ hp) (by decide) (by rw [hus.len]; omega)) ?k1 ?k2 ?k3 ?k4 ?k5 ?kK ?kd ?ku ?_; (case k1 => k_asm); (case k2 => k_asm); (case k3 => k_asm); (case k4 => k_asm); (case k5 => k_asm); (case kK => first | exact rfl | assumption); (case kd => first | exact ok_room hd rfl | ktr_room); (case ku => first | exact ok_room hu rfl | ktr_units)); intro r9 n9 h9 tk9 F9 N9 P9; (try dsimp only); (try k_fold)))
            obtain ⟨g9, db, bvs, bn, rfl, hdb, hbs, hbl⟩ := P9
            obtain ⟨B9, s1', s2', g10, oB9⟩ := gr_front g9 oB8
            have N11 : News _ _ _ ((231, tabObj ps8) :: B9) := fun p hp => N9 p (s1' p hp)
            have hdt2 := hbs.at
            have hdb := list_tail (s2' _ hdb)
            have hdb1 : (_, _) ∈ (231, tabObj ps8) :: B9 := .tail _ hdb
            have hr8 : (_, _) ∈ (231, tabObj ps8) :: B9 := .tail _ (g10.sub hr8)
            have hda := g10.sub hda
            have hzs := hzs.mono g10
            have hus := hus.sub fun p hp => g10.sub hp
            have hD2 := g10.sub hD2
            have hD3 := g10.sub hD3
            have ht9 := ht8.mono fun p hp => g10.sub hp
            clear s1' s2' g9 g10 N9 oB8 hbs ht8 hdb
            (repeat' (first | (k_unfold; (try dsimp only)) | (((fail_if_success (with_reducible show wpAny _ _ (call (Value.ref _) _) _ _ _))); ((fail_if_success (with_reducible show wpAny _ _ (call (Value.type "set") _) _ _ _))); (((fail_if_success (with_reducible show PyProof.Rows.LCg.CompSrc _ _ _ _ _ _ _ _ _ _ _ _ _ _)); (fail_if_success (with_reducible show PyProof.Rows.LCt.CompSrcT _ _ _ _ _ _ _ _ _ _ _ _ _ _ _)))); ((fail_if_success (with_reducible show wpAny _ _ (exec (Stmt.For _ _ _ _ _) _) _ _ _))); ((fail_if_success (with_reducible show wpAny _ _ (pyIter _) _ _ _))); (((fail_if_success (with_reducible show wpAny _ _ (eval (PySem.Expr.ListComp _ _ _ _) _) _ _ _)); (fail_if_success (with_reducible show wpAny _ _ (exec (Stmt.Assign _ (PySem.Expr.ListComp _ _ _ _) _) _) _ _ _)))); walk1) | (dsimp only; ((fail_if_success (with_reducible show wpAny _ _ (call (Value.ref _) _) _ _ _))); ((fail_if_success (with_reducible show wpAny _ _ (call (Value.type "set") _) _ _ _))); (((fail_if_success (with_reducible show PyProof.Rows.LCg.CompSrc _ _ _ _ _ _ _ _ _ _ _ _ _ _)); (fail_if_success (with_reducible show PyProof.Rows.LCt.CompSrcT _ _ _ _ _ _ _ _ _ _ _ _ _ _ _)))); ((fail_if_success (with_reducible show wpAny _ _ (exec (Stmt.For _ _ _ _ _) _) _ _ _))); ((fail_if_success (with_reducible show wpAny _ _ (pyIter _) _ _ _))); (((fail_if_success (with_reducible show wpAny _ _ (eval (PySem.Expr.ListComp _ _ _ _) _) _ _ _)); (fail_if_success (with_reducible show wpAny _ _ (exec (Stmt.Assign _ (PySem.Expr.ListComp _ _ _ _) _) _) _ _ _)))); walk1) | (leave1; walk_say "STEP leave1"; try dsimp only) | fail "no step"))
            k_dflt (refine LCg.Assign_ListComp_U (F₀ := by k_asm) (by rfl) (by with_unfolding_all rfl) (by with_unfolding_all rfl) (by decide) (by rfl) (by decide) (by rfl) (by with_unfolding_all rfl) (by with_unfolding_all rfl) ?_)
            (repeat' (first | (k_unfold; (try dsimp only)) | (((fail_if_success (with_reducible show wpAny _ _ (call (Value.ref _) _) _ _ _))); ((fail_if_success (with_reducible show wpAny _ _ (call (Value.type "set") _) _ _ _))); (((fail_if_success (with_reducible show PyProof.Rows.LCg.CompSrc _ _ _ _ _ _ _ _ _ _ _ _ _ _)); (fail_if_success (with_reducible show PyProof.Rows.LCt.CompSrcT _ _ _ _ _ _ _ _ _ _ _ _ _ _ _)))); ((fail_if_success (with_reducible show wpAny _ _ (exec (Stmt.For _ _ _ _ _) _) _ _ _))); ((fail_if_success (with_reducible show wpAny _ _ (pyIter _) _ _ _))); (((fail_if_success (with_reducible show wpAny _ _ (eval (PySem.Expr.ListComp _ _ _ _) _) _ _ _)); (fail_if_success (with_reducible show wpAny _ _ (exec (Stmt.Assign _ (PySem.Expr.ListComp _ _ _ _) _) _) _ _ _)))); walk1) | (dsimp only; ((fail_if_success (with_reducible show wpAny _ _ (call (Value.ref _) _) _ _ _))); ((fail_if_success (with_reducible show wpAny _ _ (call (Value.type "set") _) _ _ _))); (((fail_if_success (with_reducible show PyProof.Rows.LCg.CompSrc _ _ _ _ _ _ _ _ _ _ _ _ _ _)); (fail_if_success (with_reducible show PyProof.Rows.LCt.CompSrcT _ _ _ _ _ _ _ _ _ _ _ _ _ _ _)))); ((fail_if_success (with_reducible show wpAny _ _ (exec (Stmt.For _ _ _ _ _) _) _ _ _))); ((fail_if_success (with_reducible show wpAny _ _ (pyIter _) _ _ _))); (((fail_if_success (with_reducible show wpAny _ _ (eval (PySem.Expr.ListComp _ _ _ _) _) _ _ _)); (fail_if_success (with_reducible show wpAny _ _ (exec (Stmt.Assign _ (PySem.Expr.ListComp _ _ _ _) _) _) _ _ _)))); walk1) | (leave1; walk_say "STEP leave1"; try dsimp only) | fail "no step"))
            refine LCg.CompSrc.ledger rfl (by k_asm) (by k_asm) (List.mem_cons_of_mem _ hD3) (by rw [List.size_toArray, sizeLine_eq]; have := hus.len; omega) (fun g12 => ?_)
            refine comp_all (n := us.length) (fun i ss nw => Gr ((231, tabObj ps8) :: B9) nw ∧ SiteL nw ss (gs.take i)) ?turn5 ?fin5 _ 0 [] _ (by simp) ⟨Gr.refl _, .nil⟩
            case turn5 =>
              rintro i ss nw v I oI C oC D5 m₂ h tk E' hi2 hPv ⟨g13, hss⟩ hC hx F2 N2 off ne
              obtain ⟨T, g, u1, u2, u3, u4, u5, e1, e2, hT, hsm⟩ := hus.get i hi2
              obtain rfl : _ = v := Option.some.inj (e1.symm.trans (by simpa using hPv))
              have e3 : gs.take (i + 1) = gs.take i ++ [g] := by rw [List.take_add_one, e2]; rfl
              have m1 : (_, _) ∈ (I, oI) :: (C, oC) :: (D5, LCg.lst ss) :: nw := .tail _ (.tail _ (.tail _ (g13.sub (.tail _ hT))))
              (repeat' (first | (k_unfold; (try dsimp only)) | (((fail_if_success (with_reducible show wpAny _ _ (call (Value.ref _) _) _ _ _))); ((fail_if_success (with_reducible show wpAny _ _ (call (Value.type "set") _) _ _ _))); (((fail_if_success (with_reducible show PyProof.Rows.LCg.CompSrc _ _ _ _ _ _ _ _ _ _ _ _ _ _)); (fail_if_success (with_reducible show PyProof.Rows.LCt.CompSrcT _ _ _ _ _ _ _ _ _ _ _ _ _ _ _)))); ((fail_if_success (with_reducible show wpAny _ _ (exec (Stmt.For _ _ _ _ _) _) _ _ _))); ((fail_if_success (with_reducible show wpAny _ _ (pyIter _) _ _ _))); (((fail_if_success (with_reducible show wpAny _ _ (eval (PySem.Expr.ListComp _ _ _ _) _) _ _ _)); (fail_if_success (with_reducible show wpAny _ _ (exec (Stmt.Assign _ (PySem.Expr.ListComp _ _ _ _) _) _) _ _ _)))); walk1) | (dsimp only; ((fail_if_success (with_reducible show wpAny _ _ (call (Value.ref _) _) _ _ _))); ((fail_if_success (with_reducible show wpAny _ _ (call (Value.type "set") _) _ _ _))); (((fail_if_success (with_reducible show PyProof.Rows.LCg.CompSrc _ _ _ _ _ _ _ _ _ _ _ _ _ _)); (fail_if_success (with_reducible show PyProof.Rows.LCt.CompSrcT _ _ _ _ _ _ _ _ _ _ _ _ _ _ _)))); ((fail_if_success (with_reducible show wpAny _ _ (exec (Stmt.For _ _ _ _ _) _) _ _ _))); ((fail_if_success (with_reducible show wpAny _ _ (pyIter _) _ _ _))); (((fail_if_success (with_reducible show wpAny _ _ (eval (PySem.Expr.ListComp _ _ _ _) _) _ _ _)); (fail_if_success (with_reducible show wpAny _ _ (exec (Stmt.Assign _ (PySem.Expr.ListComp _ _ _ _) _) _) _ _ _)))); walk1) | (leave1; walk_say "STEP leave1"; try dsimp only) | fail "no step"))
              rename_i lS
              have aS := allLt_ne (l := (I, oI) :: (C, oC) :: (D5, LCg.lst ss) :: nw) lS
              refine cend_gr (tl := [_]) (by k_asm) (by k_asm) (fun q hq p hp => by rw [List.mem_singleton.mp hp]; exact (aS q hq).symm) off (.inr ⟨_, .tail _ (g13.sub (.tail _ hD3)), rfl, _, rfl⟩) ⟨g13.put (fun p hp => aS p (.tail _ (.tail _ (.tail _ hp)))), ?_⟩
              rw [e3]
              exact (hss.sub fun p hp => .tail _ hp).snoc (.head _)
            case fin5 =>
              rintro ss nw ⟨g13, hss⟩
              rw [List.take_of_length_le (Nat.le_of_eq hus.len.symm)] at hss
              intro D5 h11 tk11 F11 N12 o11
              have o12 := off1_ne o11
              obtain ⟨B10, s1', s2', g14, oB10⟩ := gr_front g13 oB9
              have N13 : News _ _ _ ((231, tabObj ps8) :: (D5, LCg.lst ss) :: B10) := fun p hp => N12 p (by
                rcases List.mem_cons.mp hp with rfl | hp
                · exact .tail _ (s1' _ (.head _))
                rcases List.mem_cons.mp hp with rfl | hp
                · exact .head _
                · exact .tail _ (s1' _ (.tail _ hp)))
              have oB11 : ∀ p ∈ (D5, LCg.lst ss) :: B10, p.1 ≠ 231 := fun p hp => by
                rcases List.mem_cons.mp hp with rfl | hp
                · exact (o12 _ (s1' _ (.head _))).symm
                · exact oB10 p hp
              have gB : Gr B9 ((D5, LCg.lst ss) :: B10) := g14.put fun p hp => o12 p (s1' _ (.tail _ hp))
              have hss : SiteL ((231, tabObj ps8) :: (D5, LCg.lst ss) :: B10) ss gs := hss.sub fun p hp => by
                rcases List.mem_cons.mp (s2' p hp) with rfl | h
                · exact .head _
                · exact .tail _ (.tail _ h)
              have hD5 : (D5, listOf ss.toArray ss.length) ∈ (D5, LCg.lst ss) :: B10 := .head _
              have hda := gB.sub hda
              have hzs := hzs.mono gB
              have hD2 := gB.sub hD2
              have ht10 := ht9.mono fun p hp => gB.sub hp
              have hsl := hss.len
              generalize (D5, LCg.lst ss) :: B10 = B11 at N13 oB11 gB hss hD5 hda hzs hD2 ht10
              clear gB N12 o11 o12 oB9 ht9 hdb1 hr8 hus hD3 g13 g14 s1' s2' oB10 N11
              have hD5' : (_, _) ∈ (231, tabObj ps8) :: B11 := .tail _ hD5
              show wpAny _ _ _ _ _ _
              (repeat' (first | (k_unfold; (try dsimp only)) | (((fail_if_success (with_reducible show wpAny _ _ (call (Value.ref _) _) _ _ _))); ((fail_if_success (with_reducible show wpAny _ _ (call (Value.type "set") _) _ _ _))); (((fail_if_success (with_reducible show PyProof.Rows.LCg.CompSrc _ _ _ _ _ _ _ _ _ _ _ _ _ _)); (fail_if_success (with_reducible show PyProof.Rows.LCt.CompSrcT _ _ _ _ _ _ _ _ _ _ _ _ _ _ _)))); ((fail_if_success (with_reducible show wpAny _ _ (exec (Stmt.For _ _ _ _ _) _) _ _ _))); ((fail_if_success (with_reducible show wpAny _ _ (pyIter _) _ _ _))); (((fail_if_success (with_reducible show wpAny _ _ (eval (PySem.Expr.ListComp _ _ _ _) _) _ _ _)); (fail_if_success (with_reducible show wpAny _ _ (exec (Stmt.Assign _ (PySem.Expr.ListComp _ _ _ _) _) _) _ _ _)))); walk1) | (dsimp only; ((fail_if_success (with_reducible show wpAny _ _ (call (Value.ref _) _) _ _ _))); ((fail_if_success (with_reducible show wpAny _ _ (call (Value.type "set") _) _ _ _))); (((fail_if_success (with_reducible show PyProof.Rows.LCg.CompSrc _ _ _ _ _ _ _ _ _ _ _ _ _ _)); (fail_if_success (with_reducible show PyProof.Rows.LCt.CompSrcT _ _ _ _ _ _ _ _ _ _ _ _ _ _ _)))); ((fail_if_success (with_reducible show wpAny _ _ (exec (Stmt.For _ _ _ _ _) _) _ _ _))); ((fail_if_success (with_reducible show wpAny _ _ (pyIter _) _ _ _))); (((fail_if_success (with_reducible show wpAny _ _ (eval (PySem.Expr.ListComp _ _ _ _) _) _ _ _)); (fail_if_success (with_reducible show wpAny _ _ (exec (Stmt.Assign _ (PySem.Expr.ListComp _ _ _ _) _) _) _ _ _)))); walk1) | (leave1; walk_say "STEP leave1"; try dsimp only) | fail "no step"))
              refine set_of_list (knd := PySem.intKind _ w) F11 N13 hD5' (hss.keys N13) (by rw [hsl, List.length_map]) (by omega) ?hu ?hh (fun S h13 tk13 es ep tb F15 N15 lS hft hle hnd => ?_)
              case hu => units_room
              case hh => exact rfl
              have hS : (S, setObj es ep tb) ∈ (S, setObj es ep tb) :: (231, tabObj ps8) :: B11 := .head _
              have hD5'' : (_, _) ∈ (S, setObj es ep tb) :: (231, tabObj ps8) :: B11 := .tail _ hD5'
              clear F11 N13
              (repeat' (first | (k_unfold; (try dsimp only)) | (((fail_if_success (with_reducible show wpAny _ _ (call (Value.ref _) _) _ _ _))); ((fail_if_success (with_reducible show wpAny _ _ (call (Value.type "set") _) _ _ _))); (((fail_if_success (with_reducible show PyProof.Rows.LCg.CompSrc _ _ _ _ _ _ _ _ _ _ _ _ _ _)); (fail_if_success (with_reducible show PyProof.Rows.LCt.CompSrcT _ _ _ _ _ _ _ _ _ _ _ _ _ _ _)))); ((fail_if_success (with_reducible show wpAny _ _ (exec (Stmt.For _ _ _ _ _) _) _ _ _))); ((fail_if_success (with_reducible show wpAny _ _ (pyIter _) _ _ _))); (((fail_if_success (with_reducible show wpAny _ _ (eval (PySem.Expr.ListComp _ _ _ _) _) _ _ _)); (fail_if_success (with_reducible show wpAny _ _ (exec (Stmt.Assign _ (PySem.Expr.ListComp _ _ _ _) _) _) _ _ _)))); walk1) | (dsimp only; ((fail_if_success (with_reducible show wpAny _ _ (call (Value.ref _) _) _ _ _))); ((fail_if_success (with_reducible show wpAny _ _ (call (Value.type "set") _) _ _ _))); (((fail_if_success (with_reducible show PyProof.Rows.LCg.CompSrc _ _ _ _ _ _ _ _ _ _ _ _ _ _)); (fail_if_success (with_reducible show PyProof.Rows.LCt.CompSrcT _ _ _ _ _ _ _ _ _ _ _ _ _ _ _)))); ((fail_if_success (with_reducible show wpAny _ _ (exec (Stmt.For _ _ _ _ _) _) _ _ _))); ((fail_if_success (with_reducible show wpAny _ _ (pyIter _) _ _ _))); (((fail_if_success (with_reducible show wpAny _ _ (eval (PySem.Expr.ListComp _ _ _ _) _) _ _ _)); (fail_if_success (with_reducible show wpAny _ _ (exec (Stmt.Assign _ (PySem.Expr.ListComp _ _ _ _) _) _) _ _ _)))); walk1) | (leave1; walk_say "STEP leave1"; try dsimp only) | fail "no step"))
              · rename_i hsz _
                have hap := apart_of_nodup (hnd (by omega))
                have N16 := news_swap N15
                have oB12 : ∀ p ∈ (S, setObj es ep tb) :: B11, p.1 ≠ 231 := fun p hp => by
                  rcases List.mem_cons.mp hp with rfl | hp
                  · exact (Nat.ne_of_lt (lS _ (.head _))).symm
                  · exact oB11 p hp
                have gB : Gr B11 ((S, setObj es ep tb) :: B11) := (Gr.refl B11).put fun p hp => Nat.ne_of_lt (lS p (.tail _ hp))
                have hda := gB.sub hda
                have hzs := hzs.mono gB
                have hD2 := gB.sub hD2
                have ht12 := ht10.mono fun p hp => gB.sub hp
                generalize (S, setObj es ep tb) :: B11 = B12 at N16 oB12 gB hda hzs hD2 ht12
                refine rev_led F15 N16 hD2 oB12 (by have := hzs.len; omega) hzs (by have := hzs.len; omega) hda hdt (fun h15 B13 F17 N17 oB13 hbl13 hzr hD2r hda13 => ?_)
                have ht13 : TabOk B13 ps8 := ht12.subc hbl13
                have hddr : (_, _) ∈ (231, tabObj ps8) :: B13 := .tail _ hda13
                clear N15 N16 F15 gB hda hzs hD2 ht12 oB12 hS hD5''
                dsimp only
                (repeat' (first | (k_unfold; (try dsimp only)) | (((fail_if_success (with_reducible show wpAny _ _ (call (Value.ref _) _) _ _ _))); ((fail_if_success (with_reducible show wpAny _ _ (call (Value.type "set") _) _ _ _))); (((fail_if_success (with_reducible show PyProof.Rows.LCg.CompSrc _ _ _ _ _ _ _ _ _ _ _ _ _ _)); (fail_if_success (with_reducible show PyProof.Rows.LCt.CompSrcT _ _ _ _ _ _ _ _ _ _ _ _ _ _ _)))); ((fail_if_success (with_reducible show wpAny _ _ (exec (Stmt.For _ _ _ _ _) _) _ _ _))); ((fail_if_success (with_reducible show wpAny _ _ (pyIter _) _ _ _))); (((fail_if_success (with_reducible show wpAny _ _ (eval (PySem.Expr.ListComp _ _ _ _) _) _ _ _)); (fail_if_success (with_reducible show wpAny _ _ (exec (Stmt.Assign _ (PySem.Expr.ListComp _ _ _ _) _) _) _ _ _)))); walk1) | (dsimp only; ((fail_if_success (with_reducible show wpAny _ _ (call (Value.ref _) _) _ _ _))); ((fail_if_success (with_reducible show wpAny _ _ (call (Value.type "set") _) _ _ _))); (((fail_if_success (with_reducible show PyProof.Rows.LCg.CompSrc _ _ _ _ _ _ _ _ _ _ _ _ _ _)); (fail_if_success (with_reducible show PyProof.Rows.LCt.CompSrcT _ _ _ _ _ _ _ _ _ _ _ _ _ _ _)))); ((fail_if_success (with_reducible show wpAny _ _ (exec (Stmt.For _ _ _ _ _) _) _ _ _))); ((fail_if_success (with_reducible show wpAny _ _ (pyIter _) _ _ _))); (((fail_if_success (with_reducible show wpAny _ _ (eval (PySem.Expr.ListComp _ _ _ _) _) _ _ _)); (fail_if_success (with_reducible show wpAny _ _ (exec (Stmt.Assign _ (PySem.Expr.ListComp _ _ _ _) _) _) _ _ _)))); walk1) | (leave1; walk_say "STEP leave1"; try dsimp only) | fail "no step"))
                ((k_dflt (refine' ok_use (rows_of_ok w D2 zs.reverse zs.length gs.reverse ps8 kk _ B13 hD2r hzr (by rw [List.length_reverse]; have := hzr.len; rw [List.length_reverse, List.length_reverse] at this; omega) ht13 oB13 ⟨hk0, by omega⟩) ?k1 ?k2 ?k3 ?k4 ?k5 ?kK ?kd ?ku ?_; (case k1 => k_asm); (case k2 => k_asm); (case k3 => k_asm); (case k4 => k_asm); (case k5 => k_asm); (case kK => first | exact rfl | assumption); (case kd => first | exact ok_room hd rfl | ktr_room); (case ku => first | exact ok_room hu rfl | ktr_units)); intro r9 n9 h9 tk9 F9 N9 P9; (try dsimp only); (try k_fold)))
                obtain ⟨B14, ps14, ra14, rvs14, rn14, rows14, rfl, g14, ht14, oB14, rfl, hr14, hs14, hl14, hord14⟩ := P9
                rw [ordered_rows hord14 (fun g hg => hhi g (List.mem_reverse.mp hg)), rowsG_reverse hap] at hs14
                have hst14 := hs14.at
                have hdd14 : (_, _) ∈ (231, tabObj ps14) :: B14 := .tail _ (g14.sub hda13)
                clear hord14 hs14 g14 N17 hddr
                (repeat' (first | (k_unfold; (try dsimp only)) | (((fail_if_success (with_reducible show wpAny _ _ (call (Value.ref _) _) _ _ _))); ((fail_if_success (with_reducible show wpAny _ _ (call (Value.type "set") _) _ _ _))); (((fail_if_success (with_reducible show PyProof.Rows.LCg.CompSrc _ _ _ _ _ _ _ _ _ _ _ _ _ _)); (fail_if_success (with_reducible show PyProof.Rows.LCt.CompSrcT _ _ _ _ _ _ _ _ _ _ _ _ _ _ _)))); ((fail_if_success (with_reducible show wpAny _ _ (exec (Stmt.For _ _ _ _ _) _) _ _ _))); ((fail_if_success (with_reducible show wpAny _ _ (pyIter _) _ _ _))); (((fail_if_success (with_reducible show wpAny _ _ (eval (PySem.Expr.ListComp _ _ _ _) _) _ _ _)); (fail_if_success (with_reducible show wpAny _ _ (exec (Stmt.Assign _ (PySem.Expr.ListComp _ _ _ _) _) _) _ _ _)))); walk1) | (dsimp only; ((fail_if_success (with_reducible show wpAny _ _ (call (Value.ref _) _) _ _ _))); ((fail_if_success (with_reducible show wpAny _ _ (call (Value.type "set") _) _ _ _))); (((fail_if_success (with_reducible show PyProof.Rows.LCg.CompSrc _ _ _ _ _ _ _ _ _ _ _ _ _ _)); (fail_if_success (with_reducible show PyProof.Rows.LCt.CompSrcT _ _ _ _ _ _ _ _ _ _ _ _ _ _ _)))); ((fail_if_success (with_reducible show wpAny _ _ (exec (Stmt.For _ _ _ _ _) _) _ _ _))); ((fail_if_success (with_reducible show wpAny _ _ (pyIter _) _ _ _))); (((fail_if_success (with_reducible show wpAny _ _ (eval (PySem.Expr.ListComp _ _ _ _) _) _ _ _)); (fail_if_success (with_reducible show wpAny _ _ (exec (Stmt.Assign _ (PySem.Expr.ListComp _ _ _ _) _) _) _ _ _)))); walk1) | (leave1; walk_say "STEP leave1"; try dsimp only) | fail "no step"))
                exact law_end F9 (by assumption) rfl
              · exact law_end F15 (by assumption) rfl
end
end Mine
theorem PySem.Challenge.cw_og0150_01_holds : PySem.Challenge.rw_og0150_01.Holds :=
  Mine.top
