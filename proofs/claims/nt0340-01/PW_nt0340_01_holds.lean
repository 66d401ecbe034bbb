import PyProof.Rows.All
import Wide.All
import OpenK.AllK
import Wide.FinOn
import Lean
import PySem.Challenge.RW_nt0340_01
set_option Elab.async false
section
open PySem PySem.W PyProof.Rows
namespace Mine
set_option maxRecDepth 100000 in
set_option maxHeartbeats 8000000 in
open_top hd for PySem.Challenge.rw_nt0340_01
end Mine
end
section
open PySem PySem.W PySem.Calls PyProof.Rows PySem.Spec
namespace Mine
/-- a call of the text's def at address f, over the ledger: what it leaves -/
def Says (w : World) (f : Addr) (vs : List Value) (d u : Nat) (news : List (Addr × Obj)) (Post : Value → List (Addr × Obj) → Prop) : Prop :=
  ∀ (mean : ExcName → Option Value) (mg mb : Str → Option Value) (dp un : Nat) (gd : Option (List Code)) (cn : Str) (cs : Scope) (a : Addr) (ccd : Value) (cl : List (Str × Addr)) (outer : List Env) (A₀ : Around) (base h₀ : Heap) (L : Addr) (m : Str → Option Value) (s : Shared)
    (Q E : Value → Shared → Prop),
    Below A₀ base outer h₀ → Fr h₀ L s.heap m → (hd.heap_39 w.params).In h₀ → News h₀ L s.heap news → Top hd.view_39 (looseW hd.view_39 []) mean mg mb h₀ → cs.kind = .function → dp + d < recursionLimit → un + u < cLine →
    (∀ r news' h' tk', Fr h₀ L h' m → News h₀ L h' news' → Post r news' → Q r { s with heap := h', toks := tk' }) →
    wpAny (model PySem.Challenge.rw_nt0340_01.row.prog w) (ktrTop dp un gd cn cs L a ccd cl outer) (call (.ref f) vs) Q E s
theorem Says.weaken {w : World} {f : Addr} {vs : List Value} {d u : Nat} {news₁ news₂ : List (Addr × Obj)} {P₁ P₂ : Value → List (Addr × Obj) → Prop} (S : Says w f vs d u news₁ P₁)
    (hs : ∀ p ∈ news₁, p ∈ news₂) (hp : ∀ r n, P₁ r n → ∃ n', (∀ p ∈ n', p ∈ n) ∧ P₂ r n') : Says w f vs d u news₂ P₂ := by
  intro mean mg mb dp un gd cn cs a ccd cl outer A₀ base h₀ L m s Q E B F X N T hk hd' hu hret
  refine S mean mg mb dp un gd cn cs a ccd cl outer A₀ base h₀ L m s Q E B F X (fun p hp' => N p (hs p hp')) T hk hd' hu fun r n h' tk' F' N' hP => ?_
  obtain ⟨n', hn, h2⟩ := hp r n hP
  exact hret r n' h' tk' F' (fun p hp' => N' p (hn p hp')) h2
theorem says_use {w : World} {f : Addr} {vs : List Value} {d u : Nat} {news : List (Addr × Obj)} {Post : Value → List (Addr × Obj) → Prop} (S : Says w f vs d u news Post)
    {mean : ExcName → Option Value} {mg mb : Str → Option Value} {dp un : Nat} {gd : Option (List Code)} {cn : Str} {cs : Scope} {a : Addr} {ccd : Value} {cl : List (Str × Addr)} {outer : List Env} {A₀ : Around} {base h₀ : Heap} {L : Addr} {m : Str → Option Value} {s : Shared}
    {Q E : Value → Shared → Prop}
    (B : Below A₀ base outer h₀) (F : Fr h₀ L s.heap m) (X : (hd.heap_39 w.params).In h₀) (N : News h₀ L s.heap news) (T : Top hd.view_39 (looseW hd.view_39 []) mean mg mb h₀) (hk : cs.kind = .function) (hd' : dp + d < recursionLimit) (hu : un + u < cLine)
    (hret : ∀ r news' h' tk', Fr h₀ L h' m → News h₀ L h' news' → Post r news' → Q r { s with heap := h', toks := tk' }) :
    wpAny (model PySem.Challenge.rw_nt0340_01.row.prog w) (ktrTop dp un gd cn cs L a ccd cl outer) (call (.ref f) vs) Q E s :=
  S mean mg mb dp un gd cn cs a ccd cl outer A₀ base h₀ L m s Q E B F X N T hk hd' hu hret
/-- the box of draws -/
def IsBox (l : Addr) (o : Obj) : Prop := ∃ pos seed t1 t2 n, o = W.listOf #[.ref l, .int pos t1, .int seed t2] n ∧ 0 ≤ pos ∧ 0 ≤ seed ∧ seed < 4294967296
end Mine
end
section
open PySem PySem.W PySem.Calls PyProof.Rows PySem.Spec PyProof.V
namespace Mine
theorem news_eq {h₀ : Heap} {L : Addr} {h : Heap} {a b : List (Addr × Obj)} (N : News h₀ L h a) (e : a = b) : News h₀ L h b := e ▸ N
theorem news_sub {h₀ : Heap} {L : Addr} {h : Heap} {a b : List (Addr × Obj)} (N : News h₀ L h a) (e : ∀ p ∈ b, p ∈ a) : News h₀ L h b := fun p hp => N p (e p hp)
theorem allLt_all {d : Addr} : ∀ {l : List (Addr × Obj)}, AllLt d l → ∀ p ∈ l, p.1 < d
  | [], _, _, hp => (nomatch hp)
  | q :: r, h, p, hp => by
    rcases List.mem_cons.mp hp with rfl | hp
    · exact h.1
    · exact allLt_all h.2 p hp
section
variable {prog : Program} {w : World} {A : Around} {E : Value → Shared → Prop} {s : Shared} {env : Env} {h₀ : Heap} {x : Str} {body : List Stmt} {Q : Flow → Shared → Prop}
def LEnd (h₀ : Heap) (L : Addr) (J : (Str → Option Value) → List (Addr × Obj) → Prop) (own : List (Addr × Obj)) (s₁ s₂ : Shared) : Prop :=
  ∃ h' tk m' nx, s₂ = { s₁ with heap := h', toks := tk } ∧ Fr h₀ L h' m' ∧ News h₀ L h' (nx ++ own) ∧ (∀ q ∈ nx, ∀ p ∈ own, q.1 ≠ p.1) ∧ J m' nx
def LPost (h₀ : Heap) (L : Addr) (J : (Str → Option Value) → List (Addr × Obj) → Prop) (own : List (Addr × Obj)) (s₁ : Shared) (Q : Flow → Shared → Prop) (f : Flow) (s₂ : Shared) : Prop :=
  match f with
  | .ret v => Q (.ret v) s₂
  | .brk => Q .next s₂
  | _ => LEnd h₀ L J own s₁ s₂
theorem LPost.next {L : Addr} {J : (Str → Option Value) → List (Addr × Obj) → Prop} {own nx : List (Addr × Obj)} {m' : Str → Option Value} {s₁ : Shared} {h' : Heap} {tk : Nat} (F : Fr h₀ L h' m') (N : News h₀ L h' (nx ++ own)) (hoff : ∀ q ∈ nx, ∀ p ∈ own, q.1 ≠ p.1) (hj : J m' nx) :
    LPost h₀ L J own s₁ Q .next { s₁ with heap := h', toks := tk } := ⟨h', tk, m', nx, rfl, F, N, hoff, hj⟩
/-- the frame's map, written out at the names told -/
theorem fr_ps {h : Heap} {L : Addr} {v : Value} {m₁ : Str → Option Value} (ps : List (Str × Value)) (h1 : ∀ p ∈ ps, m₁ p.1 = some p.2) (F : Fr h₀ L h (fun y => if y = x then some v else m₁ y)) : Fr h₀ L h (fun y => if y = x then some v else kstB m₁ ps y) := by
  have em : (fun y => if y = x then some v else kstB m₁ ps y) = fun y => if y = x then some v else m₁ y := by
    funext y
    by_cases hy : y = x
    · rw [if_pos hy, if_pos hy]
    · rw [if_neg hy, if_neg hy]; exact kstB_eq h1 fun _ => rfl
  rw [em]; exact F
theorem fr_ps0 {h : Heap} {L : Addr} {m₁ : Str → Option Value} (ps : List (Str × Value)) (h1 : ∀ p ∈ ps, m₁ p.1 = some p.2) (F : Fr h₀ L h m₁) : Fr h₀ L h (kstB m₁ ps) := by
  have em : kstB m₁ ps = m₁ := by
    funext y; exact kstB_eq h1 fun _ => rfl
  rw [em]; exact F
theorem loop_range {r : Addr} {a₀ b₀ : Int} {t₀ u₀ v₀ : Tok} {n : Nat} {m₀ : Str → Option Value} {news : List (Addr × Obj)} (J : Nat → (Str → Option Value) → List (Addr × Obj) → Prop)
    (hh : A.handled = none) (hr : IsRange s.heap r a₀ b₀ 1 t₀ u₀ v₀) (hsmall : Builtin.Range.small a₀ b₀ 1 = true) (hn : Builtin.Range.rangeSize a₀ b₀ 1 = (n : Int)) (F : Fr h₀ env.locals s.heap m₀) (N : News h₀ env.locals s.heap news) (hj : J 0 m₀ news)
    (turn : ∀ i t m₁ nx h tk own, i < n → (∀ q ∈ nx, ∀ p ∈ own, q.1 ≠ p.1) → J i m₁ nx → Fr h₀ env.locals h (fun y => if y = x then some (.int (a₀ + (i : Int)) t) else m₁ y) → News h₀ env.locals h (nx ++ own) →
      wpAny (model prog w) A (execs body env) (LPost h₀ env.locals (J (i + 1)) own { s with heap := h, toks := tk } Q) E { s with heap := h, toks := tk })
    (done : ∀ m₁ nx h tk, J n m₁ nx → Fr h₀ env.locals h m₁ → News h₀ env.locals h nx → Q .next { s with heap := h, toks := tk }) :
    wpAny (model prog w) A (pyIter (.ref r)) (fun it s₂ => LoopAtV prog w A h₀ env x body Q E it s₂) E s := by
  refine wpAny_pyIter_range hr hsmall ?_
  have W : Walks prog w A s.heap.objs.size [s.heap.objs.size] [s.heap.objs.size] n (fun i v => i < n ∧ ∃ t, v = .int (a₀ + i * 1) t)
      (fun i h => IsRangeIter h s.heap.objs.size (a₀ + (i : Nat) * 1) ((n : Int) - (i : Nat)) 1) := (Walks.range hh _ a₀ 1 n).bound
  refine ⟨_, _, _, n, _, _, m₀, news, J, rfl, W, ?_, ?_, ?_, (by show IsRangeIter _ _ _ _ _; rw [hn]; simpa using Heap.get?_push_size _ rfl), F.push _, (fun p hp => ⟨Heap.get?_push_of_some _ (N p hp).1, (N p hp).2⟩), hj, ?_, ?_⟩
  · intro hm
    exact absurd F.ns.lt ((List.mem_singleton.mp hm) ▸ Nat.lt_irrefl _)
  · intro b hb
    rw [List.mem_singleton.mp hb]
    exact next_is_new F
  · intro p hp hI
    exact absurd (Heap.lt_size (N p hp).1) ((List.mem_singleton.mp hI) ▸ Nat.lt_irrefl _)
  · rintro i v m₁ nx s₁ own ⟨h, tk, rfl⟩ hi ⟨_, t, rfl⟩ hJ hoff hown hget hmem hst F₁ N₁
    have e1 : a₀ + (i : Int) * 1 = a₀ + (i : Int) := by omega
    rw [e1] at F₁
    have hI : ∃ o, (s.heap.objs.size, o) ∈ own := by
      have hst' : IsRangeIter h s.heap.objs.size _ _ _ := hst
      exact ⟨_, hmem _ (.head _) (next_is_new F) _ hst'⟩
    have hsep : ∀ q ∈ nx, ∀ p ∈ own, q.1 ≠ p.1 := fun q hq p hp e => hoff q hq (e ▸ hown p hp)
    have N₂ : News h₀ env.locals h (nx ++ own) := fun p hp => N₁ p ((List.mem_append.mp hp).elim (fun h => List.mem_append.mpr (.inr h)) fun h => List.mem_append.mpr (.inl h))
    refine wpAny_mono (turn i t m₁ nx h tk own hi hsep hJ F₁ N₂) (fun f s₂ p => ?_) fun _ _ e => e
    have fin : LEnd h₀ env.locals (J (i + 1)) own { s with heap := h, toks := tk } s₂ → LoopStepU h₀ env.locals [s.heap.objs.size] own (J (i + 1)) { s with heap := h, toks := tk } .next s₂ := by
      rintro ⟨h', tk', m', nx', e, F', N', hoff', hm⟩
      refine ⟨rfl, h', tk', m', nx', e, F', fun p hp => N' p ((List.mem_append.mp hp).elim (fun h => List.mem_append.mpr (.inr h)) fun h => List.mem_append.mpr (.inl h)), fun p hp hq => ?_, hm⟩
      obtain ⟨o, ho⟩ := hI
      exact hoff' p hp _ ho (List.mem_singleton.mp hq)
    cases f with
    | ret v => exact .ret p
    | brk => exact .brk p
    | next => exact .next (fin p)
    | cont => exact .cont (fin p)
  · rintro h' tk m' news' F' N' _ hJ
    exact done m' news' h' tk hJ F' N'
theorem own_keep {h₀ h h' : Heap} {L I l : Addr} {vs : Array Value} {k : Nat} {own nx' : List (Addr × Obj)} (_hoff : ∀ q ∈ nx', ∀ p ∈ own.filter (fun p => decide (p.1 = I)), q.1 ≠ p.1)
    (hown : ∀ p ∈ own, p.1 ∈ [I, l]) (hget : ∀ p ∈ own, h.get? p.1 = some p.2) (hlo : h.get? l = some (W.listOf vs k)) (hl' : (l, W.listOf vs k) ∈ nx')
    (N' : News h₀ L h' (nx' ++ own.filter (fun p => decide (p.1 = I)))) : News h₀ L h' (own ++ nx') := by
  intro p hp
  rcases List.mem_append.mp hp with h1 | h1
  · by_cases hI : p.1 = I
    · exact N' p (List.mem_append.mpr (.inr (List.mem_filter.mpr ⟨h1, by simpa using hI⟩)))
    · have h2 : p.1 = l := by
        rcases List.mem_cons.mp (hown p h1) with h3 | h3
        · exact absurd h3 hI
        · exact List.mem_singleton.mp h3
      have h3 : h.get? p.1 = some p.2 := hget p h1
      rw [h2, hlo] at h3
      have h4 : p = (l, W.listOf vs k) := Prod.ext h2 (Option.some.inj h3).symm
      rw [h4]
      exact N' _ (List.mem_append.mpr (.inl hl'))
  · exact N' p (List.mem_append.mpr (.inl h1))
theorem loop_listV {l : Addr} {vs : List Value} {k : Nat} {m₀ : Str → Option Value} {news : List (Addr × Obj)} (J : Nat → (Str → Option Value) → List (Addr × Obj) → Prop)
    (hh : A.handled = none) (hl : (l, W.listOf vs.toArray k) ∈ news) (F : Fr h₀ env.locals s.heap m₀) (N : News h₀ env.locals s.heap news) (hj : J 0 m₀ news)
    (hJl : ∀ i m nx, J i m nx → (l, W.listOf vs.toArray k) ∈ nx)
    (turn : ∀ i v m₁ nx h tk own, vs[i]? = some v → (∀ q ∈ nx, ∀ p ∈ own, q.1 ≠ p.1) → J i m₁ nx → Fr h₀ env.locals h (fun y => if y = x then some v else m₁ y) → News h₀ env.locals h (nx ++ own) →
      wpAny (model prog w) A (execs body env) (LPost h₀ env.locals (J (i + 1)) own { s with heap := h, toks := tk } Q) E { s with heap := h, toks := tk })
    (done : ∀ m₁ nx h tk, J vs.length m₁ nx → Fr h₀ env.locals h m₁ → News h₀ env.locals h nx → Q .next { s with heap := h, toks := tk }) :
    wpAny (model prog w) A (pyIter (.ref l)) (fun it s₂ => LoopAtV prog w A h₀ env x body Q E it s₂) E s := by
  have hol : s.heap.get? l = some (W.listOf vs.toArray k) := (N _ hl).1
  have hls : s.heap.IsList l vs.toArray := ⟨_, hol, rfl, k, rfl⟩
  have hne : l ≠ s.heap.objs.size := Nat.ne_of_lt (Heap.lt_size hol)
  refine wpAny_pyIter_list hls ?_
  have W := Walks.list (prog := prog) (w := w) hh s.heap.objs.size l hne vs.toArray
  have hlen : vs.toArray.size = vs.length := by simp
  rw [hlen] at W
  refine ⟨_, _, _, vs.length, _, _, m₀, news, J, rfl, W, ?_, ?_, ?_, ⟨⟨_, Heap.get?_push_size _ rfl, rfl, rfl⟩, hls.at fun o e => Heap.get?_push_of_some _ e⟩, F.push _, (fun p hp => ⟨Heap.get?_push_of_some _ (N p hp).1, (N p hp).2⟩), hj, ?_, ?_⟩
  · intro hm
    rcases List.mem_cons.mp hm with e | hm
    · exact absurd F.ns.lt (e ▸ Nat.lt_irrefl _)
    · exact (N _ hl).2.1 ((List.mem_singleton.mp hm).symm)
  · intro b hb
    rw [List.mem_singleton.mp hb]
    exact next_is_new F
  · intro p hp hI
    exact absurd (Heap.lt_size (N p hp).1) ((List.mem_singleton.mp hI) ▸ Nat.lt_irrefl _)
  · rintro i v m₁ nx s₁ own ⟨h, tk, rfl⟩ hin hP hJ hoff hown hget hmem hst F₁ N₁
    obtain ⟨⟨oi, hoi, _⟩, _⟩ := hst
    have hI : (s.heap.objs.size, oi) ∈ own := hmem _ (.head _) (next_is_new F) oi hoi
    have hsep : ∀ q ∈ nx, ∀ p ∈ own.filter (fun p => decide (p.1 = s.heap.objs.size)), q.1 ≠ p.1 := by
      intro q hq p hp e
      have h1 : p.1 = s.heap.objs.size := by simpa using (List.mem_filter.mp hp).2
      exact hoff q hq (by rw [e, h1]; exact List.mem_singleton.mpr rfl)
    have N₂ : News h₀ env.locals h (nx ++ own.filter fun p => decide (p.1 = s.heap.objs.size)) := fun p hp => N₁ p ((List.mem_append.mp hp).elim (fun h => List.mem_append.mpr (.inr h)) fun h => List.mem_append.mpr (.inl ((List.mem_filter.mp h).1)))
    have hlo : h.get? l = some (PySem.W.listOf vs.toArray k) := (N₁ _ (List.mem_append.mpr (.inr (hJl _ _ _ hJ)))).1
    refine wpAny_mono (turn i v m₁ nx h tk _ (by simpa using hP) hsep hJ F₁ N₂) (fun f s₂ p => ?_) fun _ _ e => e
    have fin : LEnd h₀ env.locals (J (i + 1)) (own.filter fun p => decide (p.1 = s.heap.objs.size)) { s with heap := h, toks := tk } s₂ → LoopStepU h₀ env.locals [s.heap.objs.size] own (J (i + 1)) { s with heap := h, toks := tk } .next s₂ := by
      rintro ⟨h', tk', m', nx', e, F', N', hoff', hm⟩
      refine ⟨rfl, h', tk', m', nx', e, F', own_keep hoff' hown hget hlo (hJl _ _ _ hm) N', fun p hp hq => ?_, hm⟩
      exact hoff' p hp _ (List.mem_filter.mpr ⟨hI, by simp⟩) (List.mem_singleton.mp hq)
    cases f with
    | ret v => exact .ret p
    | brk => exact .brk p
    | next => exact .next (fin p)
    | cont => exact .cont (fin p)
  · rintro h' tk m' news' F' N' _ hJ
    exact done m' news' h' tk hJ F' N'
def LPostU (h₀ : Heap) (L : Addr) (J : (Str → Option Value) → List (Addr × Obj) → Prop) (own : List (Addr × Obj)) (s₁ : Shared) (f : Flow) (s₂ : Shared) : Prop := f = .next ∧ LEnd h₀ L J own s₁ s₂
theorem LPostU.next {L : Addr} {J : (Str → Option Value) → List (Addr × Obj) → Prop} {own nx : List (Addr × Obj)} {m' : Str → Option Value} {s₁ : Shared} {h' : Heap} {tk : Nat} (F : Fr h₀ L h' m') (N : News h₀ L h' (nx ++ own)) (hoff : ∀ q ∈ nx, ∀ p ∈ own, q.1 ≠ p.1) (hj : J m' nx) :
    LPostU h₀ L J own s₁ .next { s₁ with heap := h', toks := tk } := ⟨rfl, h', tk, m', nx, rfl, F, N, hoff, hj⟩
theorem loop_listT {target : Expr} {l : Addr} {vs : List Value} {k : Nat} {m₀ : Str → Option Value} {news : List (Addr × Obj)} (J : Nat → (Str → Option Value) → List (Addr × Obj) → Prop)
    (hh : A.handled = none) (hl : (l, W.listOf vs.toArray k) ∈ news) (F : Fr h₀ env.locals s.heap m₀) (N : News h₀ env.locals s.heap news) (hj : J 0 m₀ news)
    (hJl : ∀ i m nx, J i m nx → (l, W.listOf vs.toArray k) ∈ nx)
    (turn : ∀ i v m₁ nx s₁ own, vs[i]? = some v → (∀ q ∈ nx, ∀ p ∈ own, q.1 ≠ p.1) → J i m₁ nx → Fr h₀ env.locals s₁.heap m₁ → News h₀ env.locals s₁.heap (nx ++ own) →
      wpAny (model prog w) A (assign target env v) (fun _ s₃ => wpAny (model prog w) A (execs body env) (LPostU h₀ env.locals (J (i + 1)) own s₁) E s₃) E s₁)
    (done : ∀ m₁ nx h tk, J vs.length m₁ nx → Fr h₀ env.locals h m₁ → News h₀ env.locals h nx → Q .next { s with heap := h, toks := tk }) :
    wpAny (model prog w) A (pyIter (.ref l)) (fun it s₂ => LoopAtT prog w A h₀ env target body Q E it s₂) E s := by
  have hol : s.heap.get? l = some (W.listOf vs.toArray k) := (N _ hl).1
  have hls : s.heap.IsList l vs.toArray := ⟨_, hol, rfl, k, rfl⟩
  have hne : l ≠ s.heap.objs.size := Nat.ne_of_lt (Heap.lt_size hol)
  refine wpAny_pyIter_list hls ?_
  have W := Walks.list (prog := prog) (w := w) hh s.heap.objs.size l hne vs.toArray
  have hlen : vs.toArray.size = vs.length := by simp
  rw [hlen] at W
  refine ⟨_, _, _, vs.length, _, _, m₀, news, fun i m nx => J i m nx, rfl, W, ?_, ?_, ?_, ⟨⟨_, Heap.get?_push_size _ rfl, rfl, rfl⟩, hls.at fun o e => Heap.get?_push_of_some _ e⟩, F.push _, (fun p hp => ⟨Heap.get?_push_of_some _ (N p hp).1, (N p hp).2⟩), (fun i s' v Q' st hQ' => letGo_listiter st.1 hQ'), hj, ?_, ?_⟩
  · intro hm
    rcases List.mem_cons.mp hm with e | hm
    · exact absurd F.ns.lt (e ▸ Nat.lt_irrefl _)
    · exact (N _ hl).2.1 ((List.mem_singleton.mp hm).symm)
  · intro b hb
    rw [List.mem_singleton.mp hb]
    exact next_is_new F
  · intro p hp hI
    exact absurd (Heap.lt_size (N p hp).1) ((List.mem_singleton.mp hI) ▸ Nat.lt_irrefl _)
  · rintro i v m₁ nx s₁ own hin hP hJ hoff hown hget hmem hst F₁ N₁
    obtain ⟨⟨oi, hoi, _⟩, _⟩ := hst
    have hI : (s.heap.objs.size, oi) ∈ own := hmem _ (.head _) (next_is_new F) oi hoi
    have hsep : ∀ q ∈ nx, ∀ p ∈ own.filter (fun p => decide (p.1 = s.heap.objs.size)), q.1 ≠ p.1 := by
      intro q hq p hp e
      have h1 : p.1 = s.heap.objs.size := by simpa using (List.mem_filter.mp hp).2
      exact hoff q hq (by rw [e, h1]; exact List.mem_singleton.mpr rfl)
    have N₂ : News h₀ env.locals s₁.heap (nx ++ own.filter fun p => decide (p.1 = s.heap.objs.size)) := fun p hp => N₁ p ((List.mem_append.mp hp).elim (fun h => List.mem_append.mpr (.inr h)) fun h => List.mem_append.mpr (.inl ((List.mem_filter.mp h).1)))
    have hlo : s₁.heap.get? l = some (PySem.W.listOf vs.toArray k) := (N₁ _ (List.mem_append.mpr (.inr (hJl _ _ _ hJ)))).1
    refine wpAny_mono (turn i v m₁ nx s₁ _ (by simpa using hP) hsep hJ F₁ N₂) (fun _ s₃ p => wpAny_mono p (fun f s₂ q => ?_) fun _ _ e => e) fun _ _ e => e
    obtain ⟨rfl, h', tk', m', nx', e, F', N', hoff', hm⟩ := q
    refine ⟨rfl, h', tk', m', nx', e, F', own_keep hoff' hown hget hlo (hJl _ _ _ hm) N', fun p hp hq => ?_, hm⟩
    exact hoff' p hp _ (List.mem_filter.mpr ⟨hI, by simp⟩) (List.mem_singleton.mp hq)
  · rintro h' tk m' news' F' N' _ hJ
    exact done m' news' h' tk hJ F' N'
/-- what holds between a loop's turns: the turn's number, the frame's map, the ledger -/
structure Jw where
  J : Nat → (Str → Option Value) → List (Addr × Obj) → Prop
/-- a loop's turns and its end, held shut -/
def TurnR (prog : Program) (w : World) (A : Around) (E : Value → Shared → Prop) (s : Shared) (env : Env) (h₀ : Heap) (x : Str) (body : List Stmt) (Q : Flow → Shared → Prop) (n : Nat) (J : Jw) : Prop :=
  ∀ i t m₁ nx h tk own, i < n → (∀ q ∈ nx, ∀ p ∈ own, q.1 ≠ p.1) → J.J i m₁ nx → Fr h₀ env.locals h (fun y => if y = x then some (.int (i : Int) t) else m₁ y) → News h₀ env.locals h (nx ++ own) →
      wpAny (model prog w) A (execs body env) (LPost h₀ env.locals (J.J (i + 1)) own { s with heap := h, toks := tk } Q) E { s with heap := h, toks := tk }
def TurnL (prog : Program) (w : World) (A : Around) (E : Value → Shared → Prop) (s : Shared) (env : Env) (h₀ : Heap) (x : Str) (body : List Stmt) (Q : Flow → Shared → Prop) (vs : List Value) (J : Jw) : Prop :=
  ∀ i v m₁ nx h tk own, vs[i]? = some v → (∀ q ∈ nx, ∀ p ∈ own, q.1 ≠ p.1) → J.J i m₁ nx → Fr h₀ env.locals h (fun y => if y = x then some v else m₁ y) → News h₀ env.locals h (nx ++ own) →
      wpAny (model prog w) A (execs body env) (LPost h₀ env.locals (J.J (i + 1)) own { s with heap := h, toks := tk } Q) E { s with heap := h, toks := tk }
def TurnT (prog : Program) (w : World) (A : Around) (E : Value → Shared → Prop) (env : Env) (h₀ : Heap) (target : Expr) (body : List Stmt) (vs : List Value) (J : Jw) : Prop :=
  ∀ i v m₁ nx s₁ own, vs[i]? = some v → (∀ q ∈ nx, ∀ p ∈ own, q.1 ≠ p.1) → J.J i m₁ nx → Fr h₀ env.locals s₁.heap m₁ → News h₀ env.locals s₁.heap (nx ++ own) →
      wpAny (model prog w) A (assign target env v) (fun _ s₃ => wpAny (model prog w) A (execs body env) (LPostU h₀ env.locals (J.J (i + 1)) own s₁) E s₃) E s₁
def DoneW (s : Shared) (env : Env) (h₀ : Heap) (Q : Flow → Shared → Prop) (n : Nat) (J : Jw) : Prop :=
  ∀ m₁ nx h tk, J.J n m₁ nx → Fr h₀ env.locals h m₁ → News h₀ env.locals h nx → Q .next { s with heap := h, toks := tk }
def StartW (J : Jw) (m₀ : Str → Option Value) (news : List (Addr × Obj)) : Prop := J.J 0 m₀ news
def KeepW (J : Jw) (l : Addr) (vs : List Value) (k : Nat) : Prop := ∀ i m nx, J.J i m nx → (l, PySem.W.listOf vs.toArray k) ∈ nx
theorem loop_rangeW {r : Addr} {b₀ : Int} {t₀ u₀ v₀ : Tok} {m₀ : Str → Option Value} {news : List (Addr × Obj)} (J : Jw)
    (hh : A.handled = none) (hr : IsRange s.heap r 0 b₀ 1 t₀ u₀ v₀) (ha : 0 ≤ b₀) (hb : b₀ < 1000) (F : Fr h₀ env.locals s.heap m₀) (N : News h₀ env.locals s.heap news) (hj : StartW J m₀ news)
    (turn : TurnR prog w A E s env h₀ x body Q b₀.toNat J) (done : DoneW s env h₀ Q b₀.toNat J) : wpAny (model prog w) A (pyIter (.ref r)) (fun it s₂ => LoopAtV prog w A h₀ env x body Q E it s₂) E s := by
  refine loop_range (n := b₀.toNat) J.J hh hr (small_one (by decide) (by decide) (by omega) (by omega)) (by rw [rangeSize_nat]; omega) F N hj ?_ done
  intro i t m₁ nx h tk own hi hoff hJ F₁ N₁
  have e : (0 : Int) + (i : Int) = (i : Int) := by omega
  rw [e] at F₁
  exact turn i t m₁ nx h tk own hi hoff hJ F₁ N₁
theorem loop_listVW {l : Addr} {vs : List Value} {k : Nat} {m₀ : Str → Option Value} {news : List (Addr × Obj)} (J : Jw)
    (hh : A.handled = none) (hl : (l, PySem.W.listOf vs.toArray k) ∈ news) (F : Fr h₀ env.locals s.heap m₀) (N : News h₀ env.locals s.heap news) (hj : StartW J m₀ news) (hJl : KeepW J l vs k)
    (turn : TurnL prog w A E s env h₀ x body Q vs J) (done : DoneW s env h₀ Q vs.length J) : wpAny (model prog w) A (pyIter (.ref l)) (fun it s₂ => LoopAtV prog w A h₀ env x body Q E it s₂) E s :=
  loop_listV J.J hh hl F N hj hJl turn done
theorem loop_listTW {target : Expr} {l : Addr} {vs : List Value} {k : Nat} {m₀ : Str → Option Value} {news : List (Addr × Obj)} (J : Jw)
    (hh : A.handled = none) (hl : (l, PySem.W.listOf vs.toArray k) ∈ news) (F : Fr h₀ env.locals s.heap m₀) (N : News h₀ env.locals s.heap news) (hj : StartW J m₀ news) (hJl : KeepW J l vs k)
    (turn : TurnT prog w A E env h₀ target body vs J) (done : DoneW s env h₀ Q vs.length J) : wpAny (model prog w) A (pyIter (.ref l)) (fun it s₂ => LoopAtT prog w A h₀ env target body Q E it s₂) E s :=
  loop_listT J.J hh hl F N hj hJl turn done
end
end Mine
end
section
open PySem PySem.W PySem.Calls PyProof.Rows PySem.Spec
namespace Mine
theorem fmod_lo {a b : Int} (h : 0 < b) : 0 ≤ a.fmod b := Int.fmod_nonneg_of_pos a h
theorem fmod_hi {a b : Int} (h : 0 < b) : a.fmod b < b := Int.fmod_lt_of_pos a h
set_option maxRecDepth 100000
set_option maxHeartbeats 8000000
local macro_rules | `(tactic| k_all) => `(tactic| assumption)
theorem take0 (w : World) (b l : Addr) (hbl : @Ne Nat b l) (vs : List Value) (ns : List Int) (hi : IntsAre vs ns) (hlen : ns.length ≤ 40) (pos seed many : Int) (t1 t2 t3 : Tok) (n nn : Nat) (own : List (Addr × Obj)) 
  (h0 : 0 ≤ pos) (h1 : 0 ≤ seed) (h2 : seed < 4294967296) (h3 : 0 < many) (h4 : many < 1000)
  (ho : ∀ p ∈ own, p.1 ≠ b) :
  Says w 105 [.ref b, .int many t3] 8 100
   ((b, W.listOf #[.ref l, .int pos t1, .int seed t2] n) :: (l, W.listOf vs.toArray nn) :: own)
   (fun r news' => ∃ k t pos' seed' t1' t2', r = .int k t ∧ 0 ≤ k ∧ k < many ∧ 0 ≤ pos' ∧ 0 ≤ seed' ∧ seed' < 4294967296 ∧ news' = (b, W.listOf #[.ref l, .int pos' t1', .int seed' t2'] n) :: (l, W.listOf vs.toArray nn) :: own) := by
  unfold Says
  w_top off
  k_fill
  intro mean mg mb dp un gd cn cs a ccd cl outer A₀ base h₀ L m s Q E B F X N T hk hd' hu hret
  refine wpAny_call ?_
  k_dflt ktr_enter
  k_steps
  all_goals exact hret _ _ _ _ (by assumption) (by assumption) ⟨_, _, _, _, _, _, rfl, fmod_lo h3, fmod_hi h3, by omega, fmod_lo (by decide), fmod_hi (by decide), rfl⟩
theorem take_says {w : World} {b l : Addr} {o : Obj} {many : Int} {t : Tok} {vs : List Value} {ns : List Int} {nn : Nat} {news : List (Addr × Obj)} {g : Obj → List (Addr × Obj)} (U : UpdF b o news g) (hB : IsBox l o) (hl : (l, W.listOf vs.toArray nn) ∈ news) (hi : IntsAre vs ns) (hlen : ns.length ≤ 40)
    (hbl : @Ne Nat b l) (h3 : 0 < many) (h4 : many < 1000) :
    Says w 105 [.ref b, .int many t] 8 100 news (fun r news' => ∃ k t' o', r = .int k t' ∧ 0 ≤ k ∧ k < many ∧ IsBox l o' ∧ news' = g o') := by
  obtain ⟨pos, seed, t1, t2, n, rfl, h0, h1, h2⟩ := hB
  obtain ⟨pre, post, rfl, hg, hpre, hpost⟩ := U.split
  refine (take0 w b l hbl vs ns hi hlen pos seed many t1 t2 t n nn (pre ++ post) h0 h1 h2 h3 h4 ?_).weaken ?_ ?_
  · intro p hp
    rcases List.mem_append.mp hp with h | h
    · exact hpre p h
    · exact hpost p h
  · intro p hp
    rcases List.mem_cons.mp hp with rfl | hp
    · simp
    · rcases List.mem_cons.mp hp with rfl | hp
      · exact hl
      · rcases List.mem_append.mp hp with h | h
        · exact List.mem_append_left _ h
        · exact List.mem_append_right _ (List.mem_cons_of_mem _ h)
  · rintro r nx ⟨k, t', pos', seed', t1', t2', rfl, hk0, hk1, hp0, hs0, hs1, rfl⟩
    refine ⟨g (W.listOf #[.ref l, .int pos' t1', .int seed' t2'] n), ?_, k, t', _, rfl, hk0, hk1, ⟨pos', seed', t1', t2', n, rfl, hp0, hs0, hs1⟩, rfl⟩
    intro p hp
    rw [hg] at hp
    rcases List.mem_append.mp hp with h | h
    · exact List.mem_cons_of_mem _ (List.mem_cons_of_mem _ (List.mem_append_left _ h))
    · rcases List.mem_cons.mp h with rfl | h
      · exact List.mem_cons_self
      · exact List.mem_cons_of_mem _ (List.mem_cons_of_mem _ (List.mem_append_right _ h))
end Mine
end
section
open PySem PySem.W PySem.Calls PyProof.Rows PySem.Spec
namespace Mine
/-- one drawn pair: its tuple's place, whether of the frame's own, its number -/
structure Pr where
  a : Addr
  io : Bool
  k : Int
  t : Tok
abbrev Pr.obj (q : Pr) : Obj := { cls := .type "tuple", data := .seq #[.bool q.io, .int q.k q.t] }
def PairsAre (own kept : Nat) (led : List (Addr × Obj)) (qs : List Pr) : Prop := ∀ q ∈ qs, (q.a, q.obj) ∈ led ∧ 0 ≤ q.k ∧ (q.io = true → q.k < own) ∧ (q.io = false → q.k < kept)
/-- the loop of _law_pairs -/
def pairsJ (b l : Addr) (ob : Obj) (own kept : Nat) (to tk : Tok) (rest : List (Addr × Obj)) (i : Nat) (m : Str → Option Value) (nx : List (Addr × Obj)) : Prop :=
  ∃ P tl ob' qs n, m (Str.ofString "box") = some (.ref b) ∧ m (Str.ofString "own") = some (.int own to) ∧ m (Str.ofString "kept") = some (.int kept tk) ∧ m (Str.ofString "found") = some (.ref P) ∧
    nx = (P, PySem.W.listOf (qs.map fun q => Value.ref q.a).toArray n) :: (b, ob') :: (tl ++ rest) ∧ IsBox l ob' ∧ qs.length ≤ i ∧ PairsAre own kept tl qs ∧ (∀ q ∈ tl, ∀ p ∈ (b, ob) :: rest, p.1 < q.1) ∧ (∀ p ∈ (b, ob) :: rest, p.1 < P) ∧ (∀ p ∈ tl, p.1 ≠ P)
section
variable {g : Heap} {L b l P D : Addr} {ob ob' : Obj} {own kept : Nat} {to tk₀ : Tok} {rest tl owns R : List (Addr × Obj)} {qs : List Pr} {n i : Nat} {io : Bool} {k' : Int} {t' : Tok} {m' : Str → Option Value} {s₁ : Shared} {Q : Flow → Shared → Prop} {h' : Heap} {tk : Nat} {ob₁ : Obj}
theorem pairs_endA (hR : tl ++ rest ++ owns = R) (m1 : m' (Str.ofString "box") = some (.ref b)) (m2 : m' (Str.ofString "own") = some (.int own to)) (m3 : m' (Str.ofString "kept") = some (.int kept tk₀)) (m4 : m' (Str.ofString "found") = some (.ref P))
    (hB : IsBox l ob') (hq : qs.length ≤ i) (hP : PairsAre own kept tl qs) (hab : ∀ q ∈ tl, ∀ p ∈ (b, ob) :: rest, p.1 < q.1) (hlt : ∀ p ∈ (b, ob) :: rest, p.1 < P) (hne : ∀ p ∈ tl, p.1 ≠ P)
    (hoff : ∀ q ∈ (P, PySem.W.listOf (qs.map fun q => Value.ref q.a).toArray n) :: (b, ob₁) :: (tl ++ rest), ∀ p ∈ owns, q.1 ≠ p.1)
    (F : Fr g L h' m') (N : News g L h' ((D, (⟨.type "tuple", none, .seq #[.bool io, .int k' t'] 0, #[]⟩ : Obj)) :: (P, PySem.W.listOf ((qs.map fun q => Value.ref q.a).toArray.push (.ref D)) (n + 1)) :: (b, ob') :: R))
    (l1 : P < D ∧ b < D ∧ AllLt D R) (h0 : 0 ≤ k') (hio1 : io = true → k' < own) (hio2 : io = false → k' < kept) :
    LPost g L (pairsJ b l ob own kept to tk₀ rest (i + 1)) owns s₁ Q .next { s₁ with heap := h', toks := tk } := by
  have hDR := allLt_all l1.2.2
  have hlen : (qs ++ [(⟨D, io, k', t'⟩ : Pr)]).length ≤ i + 1 := by simp; omega
  refine LPost.next (nx := (P, PySem.W.listOf ((qs ++ [(⟨D, io, k', t'⟩ : Pr)]).map fun q => Value.ref q.a).toArray (n + 1)) :: (b, ob') :: (((D, (⟨.type "tuple", none, .seq #[.bool io, .int k' t'] 0, #[]⟩ : Obj)) :: tl) ++ rest)) F ?_ ?_
    ⟨P, _, ob', qs ++ [⟨D, io, k', t'⟩], n + 1, m1, m2, m3, m4, rfl, hB, hlen, ?_, ?_, hlt, ?_⟩
  · refine news_sub N ?_
    rw [← hR]
    intro p hp
    simp only [List.map_append, List.map_cons, List.map_nil, List.cons_append, List.mem_cons, List.mem_append, List.push_toArray, List.append_assoc] at hp ⊢
    rcases hp with h | h | h | h | h | h
    · exact .inr (.inl h)
    · exact .inr (.inr (.inl h))
    · exact .inl h
    · exact .inr (.inr (.inr (.inl h)))
    · exact .inr (.inr (.inr (.inr (.inl h))))
    · exact .inr (.inr (.inr (.inr (.inr h))))
  · intro q hq' p hp
    simp only [List.cons_append, List.mem_cons, List.mem_append] at hq'
    rcases hq' with rfl | rfl | rfl | h | h
    · exact hoff _ (.head _) p hp
    · exact hoff (b, ob₁) (.tail _ (.head _)) p hp
    · exact Nat.ne_of_gt (hDR p (by rw [← hR]; exact List.mem_append_right _ hp))
    · exact hoff q (.tail _ (.tail _ (List.mem_append_left _ h))) p hp
    · exact hoff q (.tail _ (.tail _ (List.mem_append_right _ h))) p hp
  · intro q hq'
    rcases List.mem_append.mp hq' with h | h
    · exact ⟨.tail _ (hP q h).1, (hP q h).2⟩
    · rw [List.mem_singleton.mp h]
      exact ⟨.head _, h0, hio1, hio2⟩
  · intro q hq' p hp
    rcases List.mem_cons.mp hq' with rfl | h
    · rcases List.mem_cons.mp hp with rfl | hp
      · exact l1.2.1
      · exact hDR p (by rw [← hR]; exact List.mem_append_left _ (List.mem_append_right _ hp))
    · exact hab q h p hp
  · intro p hp
    rcases List.mem_cons.mp hp with rfl | h
    · exact Nat.ne_of_gt l1.1
    · exact hne p h
theorem pairs_endB (hR : tl ++ rest ++ owns = R) (m1 : m' (Str.ofString "box") = some (.ref b)) (m2 : m' (Str.ofString "own") = some (.int own to)) (m3 : m' (Str.ofString "kept") = some (.int kept tk₀)) (m4 : m' (Str.ofString "found") = some (.ref P))
    (hB : IsBox l ob₁) (hq : qs.length ≤ i) (hP : PairsAre own kept tl qs) (hab : ∀ q ∈ tl, ∀ p ∈ (b, ob) :: rest, p.1 < q.1) (hlt : ∀ p ∈ (b, ob) :: rest, p.1 < P) (hne : ∀ p ∈ tl, p.1 ≠ P)
    (hoff : ∀ q ∈ (P, PySem.W.listOf (qs.map fun q => Value.ref q.a).toArray n) :: (b, ob₁) :: (tl ++ rest), ∀ p ∈ owns, q.1 ≠ p.1)
    (F : Fr g L h' m') (N : News g L h' ((P, PySem.W.listOf (qs.map fun q => Value.ref q.a).toArray n) :: (b, ob₁) :: R)) :
    LPost g L (pairsJ b l ob own kept to tk₀ rest (i + 1)) owns s₁ Q .next { s₁ with heap := h', toks := tk } :=
  LPost.next (nx := (P, PySem.W.listOf (qs.map fun q => Value.ref q.a).toArray n) :: (b, ob₁) :: (tl ++ rest)) F (news_eq N (by rw [← hR]; simp only [List.cons_append])) hoff
    ⟨P, tl, ob₁, qs, n, m1, m2, m3, m4, rfl, hB, Nat.le_succ_of_le hq, hP, hab, hlt, hne⟩
end
set_option maxRecDepth 100000
set_option maxHeartbeats 8000000
local macro_rules | `(tactic| k_all) => `(tactic| assumption)
local macro_rules | `(tactic| walk_at "call ref") => `(tactic| (k_here; k_dflt (refine' says_use (take_says ?U ?hB ?hl ?hi ?hlen ?hbl ?h3 ?h4) ?B ?F ?X ?N ?T ?hk ?hd ?hu ?_; (case B => k_asm); (case F => k_asm); (case X => k_asm); (case N => k_asm); (case T => k_asm); (case hk => first | exact rfl | assumption); (case U => k_updF); (case hB => assumption); (case hl => kst_mem); (case hi => assumption); (case hlen => assumption); (case hbl => assumption); (case h3 => omega); (case h4 => omega); (case hd => ktr_room); (case hu => ktr_units); k_whole); intro r' n' h' tk' F' N' hp'; obtain ⟨k', t', ob', e1', h1', h2', hB', e2'⟩ := hp'; subst e1'; subst e2'))
local macro_rules | `(tactic| walk_at "exec For Name Call cons nil") => `(tactic| (k_here; (rename Fr _ _ _ _ => lF'); (with_unfolding_all refine' For_invVF lF' ?k1 ?k2 ?_; (case k1 => exact rfl); (case k2 => exact rfl); k_whole)))
local macro_rules | `(tactic| walk_at "call type:range") => `(tactic| ((rename Fr _ _ _ _ => F'); (rename News _ _ _ _ => N'); (with_unfolding_all refine range1_rows F' N' ?_; intro _ _ _ _ _ _ _ _ _)))
local macro_rules | `(tactic| walk_at "pyIter ref") => `(tactic| ((with_reducible show wpAny _ _ (pyIter (Value.ref _)) (fun it s₂ => LoopAtV _ _ _ _ _ _ _ _ _ it s₂) _ _); (rename Fr _ _ _ _ => lF'); (rename News _ _ _ _ => lN'); (with_unfolding_all refine' loop_rangeW ?_ ?hh ?hr ?ha ?hb lF' lN' ?_ ?_ ?_); (case hh => exact rfl); (case hr => assumption); (case ha => omega); (case hb => omega)))
theorem pairs0 (w : World) (b l : Addr) (hbl : @Ne Nat b l) (vs : List Value) (ns : List Int) (hi : IntsAre vs ns) (hlen : ns.length ≤ 40) (nn : Nat) (ob : Obj) (hB : IsBox l ob) (rest : List (Addr × Obj)) (hl : (l, PySem.W.listOf vs.toArray nn) ∈ rest) (hr : ∀ p ∈ rest, p.1 ≠ b)
   (own kept : Nat) (to tk₀ : Tok) (ho : own < 1000) (hk₀ : kept < 1000) :
  Says w 112 [.ref b, .int own to, .int kept tk₀] 16 200 ((b, ob) :: rest)
   (fun r news' => ∃ P tl ob' qs n, r = .ref P ∧ IsBox l ob' ∧ news' = (P, PySem.W.listOf (qs.map fun q => Value.ref q.a).toArray n) :: (b, ob') :: (tl ++ rest) ∧ qs.length ≤ 3 ∧ PairsAre own kept tl qs ∧ (∀ q ∈ tl, ∀ p ∈ (b, ob) :: rest, p.1 < q.1) ∧ (∀ p ∈ (b, ob) :: rest, p.1 < P)) := by
  unfold Says
  w_top off
  k_fill
  intro mean mg mb dp un gd cn cs a ccd cl outer A₀ base h₀ L m s Q E B F X N T hk hd' hu hret
  refine wpAny_call ?_
  k_dflt ktr_enter
  k_steps
  · exact ⟨pairsJ b l ob own kept to tk₀ rest⟩
  · unfold StartW
    dsimp only
    unfold pairsJ
    refine ⟨_, [], _, [], 0, rfl, rfl, rfl, rfl, rfl, by assumption, Nat.le_refl _, (fun _ h => nomatch h), (fun _ h => nomatch h), ?_, (fun _ h => nomatch h)⟩
    rename _ ∧ AllLt _ _ => l1
    exact fun p hp => allLt_all (l := (b, ob) :: rest) l1 p hp
  · unfold TurnR
    dsimp only
    intro i t m₁ nx h tk owns hi' hoff hJ F₁ N₁
    unfold pairsJ at hJ
    obtain ⟨P, tl, ob₁, qs, n, m1, m2, m3, m4, rfl, hB₁, hq, hP, hab, hlt, hne⟩ := hJ
    have F₂ := fr_ps [(_, _), (_, _), (_, _), (_, _)] (List.forall_mem_cons.mpr ⟨m1, List.forall_mem_cons.mpr ⟨m2, List.forall_mem_cons.mpr ⟨m3, List.forall_mem_cons.mpr ⟨m4, List.forall_mem_nil _⟩⟩⟩⟩) F₁
    generalize hR : tl ++ rest ++ owns = R at *
    have hbR : ∀ p ∈ R, p.1 ≠ b := by
      intro p hp
      rw [← hR] at hp
      rcases List.mem_append.mp hp with hp | hp
      · rcases List.mem_append.mp hp with hp | hp
        · exact Nat.ne_of_gt (hab p hp _ (.head _))
        · exact hr p hp
      · exact (hoff (b, ob₁) (.tail _ (.head _)) p hp).symm
    have hPR : ∀ p ∈ R, p.1 ≠ P := by
      intro p hp
      rw [← hR] at hp
      rcases List.mem_append.mp hp with hp | hp
      · rcases List.mem_append.mp hp with hp | hp
        · exact hne p hp
        · exact Nat.ne_of_lt (hlt p (.tail _ hp))
      · exact (hoff _ (.head _) p hp).symm
    have hlR : (l, PySem.W.listOf vs.toArray nn) ∈ R := by
      rw [← hR]
      exact List.mem_append_left _ (List.mem_append_right _ hl)
    have hbP : @LT.lt Nat _ b P := hlt (b, ob) (.head _)
    have N₂ := news_eq N₁ (show _ = (P, PySem.W.listOf (qs.map fun q => Value.ref q.a).toArray n) :: (b, ob₁) :: R by rw [← hR]; simp only [List.cons_append])
    clear F₁ N₁
    k_steps
    all_goals first
      | exact pairs_endB hR rfl rfl rfl rfl (by assumption) hq hP hab hlt hne hoff (by assumption) (by assumption)
      | exact pairs_endA hR rfl rfl rfl rfl (by assumption) hq hP hab hlt hne hoff (by assumption) (by assumption) (by assumption) (by assumption) (fun h => by first | omega | (simp at h; omega)) (fun h => by first | omega | (simp at h; omega))
  · unfold DoneW
    dsimp only
    intro m₁ nx h tk hJ F₁ N₁
    unfold pairsJ at hJ
    obtain ⟨P, tl, ob₁, qs, n, m1, m2, m3, m4, rfl, hB₁, hq, hP, hab, hlt, hne⟩ := hJ
    have F₂ := fr_ps0 [(_, _), (_, _), (_, _), (_, _)] (List.forall_mem_cons.mpr ⟨m1, List.forall_mem_cons.mpr ⟨m2, List.forall_mem_cons.mpr ⟨m3, List.forall_mem_cons.mpr ⟨m4, List.forall_mem_nil _⟩⟩⟩⟩) F₁
    clear F₁
    k_steps
    exact hret _ _ _ _ (by assumption) (by assumption) ⟨P, tl, ob₁, qs, n, rfl, hB₁, rfl, by omega, hP, hab, hlt⟩
end Mine
end
section
open PySem PySem.W PySem.Calls PyProof.Rows PySem.Spec
namespace Mine
/-- a cell: its own object, its dict, the key's token, the value -/
structure Ce where
  c : Addr
  d : Addr
  t : Tok
  v : Value
abbrev Ce.inst (x : Ce) : Obj := instObj 31 x.d
abbrev Ce.dict (w : World) (x : Ce) : Obj := PySem.W.dictOf [⟨PyData.keyHash w.params (Str.ofString "value"), .str (Str.ofString "value") x.t, x.v⟩] 1
def cellLed (w : World) (x : Ce) : List (Addr × Obj) := [(x.c, x.inst), (x.d, x.dict w)]
def cellsLed (w : World) (cs : List Ce) : List (Addr × Obj) := cs.flatMap (cellLed w)
/-- new places: none twice, all above what stood -/
def FreshA (as : List Addr) (old : List (Addr × Obj)) : Prop := as.Nodup ∧ ∀ a ∈ as, ∀ p ∈ old, p.1 < a
def freshJ (w : World) (rest : List (Addr × Obj)) (i : Nat) (m : Str → Option Value) (nx : List (Addr × Obj)) : Prop :=
  ∃ C cs n, m (Str.ofString "found") = some (.ref C) ∧ nx = (C, PySem.W.listOf (cs.map fun x => Value.ref x.c).toArray n) :: (cellsLed w cs ++ rest) ∧ cs.length = i ∧ (∀ x ∈ cs, x.v = .none) ∧ FreshA (C :: (cellsLed w cs).map (·.1)) rest
theorem cellsLed_append (w : World) (a b : List Ce) : cellsLed w (a ++ b) = cellsLed w a ++ cellsLed w b := by unfold cellsLed; exact List.flatMap_append
theorem cellsLed_one (w : World) (x : Ce) : cellsLed w [x] = [(x.c, x.inst), (x.d, x.dict w)] := rfl
section
variable {w : World} {g : Heap} {L C x dx : Addr} {rest owns R : List (Addr × Obj)} {cs : List Ce} {n i : Nat} {t' : Tok} {m' : Str → Option Value} {s₁ : Shared} {Q : Flow → Shared → Prop} {h' : Heap} {tk : Nat}
theorem fresh_end (hR : cellsLed w cs ++ rest ++ owns = R) (m1 : m' (Str.ofString "found") = some (.ref C)) (hlen : cs.length = i) (hv : ∀ x ∈ cs, x.v = .none) (hf1 : (C :: (cellsLed w cs).map (·.1)).Nodup) (hf2 : ∀ a ∈ C :: (cellsLed w cs).map (·.1), ∀ p ∈ rest, p.1 < a)
    (hoff : ∀ q ∈ (C, PySem.W.listOf (cs.map fun x => Value.ref x.c).toArray n) :: (cellsLed w cs ++ rest), ∀ p ∈ owns, q.1 ≠ p.1)
    (F : Fr g L h' m') (N : News g L h' ((x, instObj 31 dx) :: (dx, PySem.W.dictOf [⟨PyData.keyHash w.params (Str.ofString "value"), .str (Str.ofString "value") t', .none⟩] 1) :: (C, PySem.W.listOf ((cs.map fun x => Value.ref x.c).toArray.push (.ref x)) (n + 1)) :: R))
    (l1 : C < dx ∧ AllLt dx R) (l2 : dx < x) : LPost g L (freshJ w rest (i + 1)) owns s₁ Q .next { s₁ with heap := h', toks := tk } := by
  have hdR := allLt_all l1.2
  have hin : ∀ p ∈ cellsLed w cs, p ∈ R := fun p hp => by rw [← hR]; exact List.mem_append_left _ (List.mem_append_left _ hp)
  have hinr : ∀ p ∈ rest, p ∈ R := fun p hp => by rw [← hR]; exact List.mem_append_left _ (List.mem_append_right _ hp)
  have hino : ∀ p ∈ owns, p ∈ R := fun p hp => by rw [← hR]; exact List.mem_append_right _ hp
  refine LPost.next (nx := (C, PySem.W.listOf ((cs ++ [(⟨x, dx, t', .none⟩ : Ce)]).map fun x => Value.ref x.c).toArray (n + 1)) :: (cellsLed w (cs ++ [⟨x, dx, t', .none⟩]) ++ rest)) F ?_ ?_
    ⟨C, cs ++ [⟨x, dx, t', .none⟩], n + 1, m1, rfl, by simp [hlen], ?_, ?_, ?_⟩
  · refine news_sub N ?_
    rw [← hR, cellsLed_append, cellsLed_one]
    intro p hp
    simp only [List.map_append, List.map_cons, List.map_nil, List.cons_append, List.nil_append, List.mem_cons, List.mem_append, List.push_toArray, List.append_assoc, List.not_mem_nil, or_false] at hp ⊢
    rcases hp with h | h | h | h | h | h
    · exact .inr (.inr (.inl h))
    · exact .inr (.inr (.inr (.inl h)))
    · exact .inl h
    · exact .inr (.inl h)
    · exact .inr (.inr (.inr (.inr (.inl h))))
    · exact .inr (.inr (.inr (.inr (.inr h))))
  · intro q hq p hp
    have h1 := hdR p (hino p hp)
    rw [cellsLed_append, cellsLed_one] at hq
    simp only [List.mem_cons, List.mem_append, List.not_mem_nil, or_false] at hq
    rcases hq with rfl | (h | rfl | rfl) | h
    · exact hoff _ (.head _) p hp
    · exact hoff q (.tail _ (List.mem_append_left _ h)) p hp
    · exact Nat.ne_of_gt (Nat.lt_trans h1 l2)
    · exact Nat.ne_of_gt h1
    · exact hoff q (.tail _ (List.mem_append_right _ h)) p hp
  · intro y hy
    rcases List.mem_append.mp hy with h | h
    · exact hv y h
    · rw [List.mem_singleton.mp h]
  · rw [cellsLed_append, cellsLed_one, List.map_append, ← List.cons_append]
    refine List.nodup_append.mpr ⟨hf1, ?_, ?_⟩
    · simp only [List.map_cons, List.map_nil, List.nodup_cons, List.mem_singleton, List.not_mem_nil, not_false_eq_true, List.nodup_nil, and_true]
      exact Nat.ne_of_gt l2
    · intro a ha b hb e
      subst e
      have h1 : a < dx := by
        rcases List.mem_cons.mp ha with rfl | ha
        · exact l1.1
        · obtain ⟨q, hq, rfl⟩ := List.mem_map.mp ha
          exact hdR q (hin q hq)
      simp only [List.map_cons, List.map_nil, List.mem_cons, List.not_mem_nil, or_false] at hb
      rcases hb with rfl | rfl
      · exact absurd (Nat.lt_trans h1 l2) (Nat.lt_irrefl _)
      · exact absurd h1 (Nat.lt_irrefl _)
  · intro a ha p hp
    rw [cellsLed_append, cellsLed_one, List.map_append, ← List.cons_append] at ha
    have h1 := hdR p (hinr p hp)
    rcases List.mem_append.mp ha with h | h
    · exact hf2 a h p hp
    · simp only [List.map_cons, List.map_nil, List.mem_cons, List.not_mem_nil, or_false] at h
      rcases h with rfl | rfl
      · exact Nat.lt_trans h1 l2
      · exact h1
end
set_option maxRecDepth 100000
set_option maxHeartbeats 8000000
local macro_rules | `(tactic| k_all) => `(tactic| assumption)
local macro_rules | `(tactic| k_room) => `(tactic| ktr_room)
local macro_rules | `(tactic| walk_at "exec For Name Call cons nil") => `(tactic| (k_here; (rename Fr _ _ _ _ => lF'); (with_unfolding_all refine' For_invVF lF' ?k1 ?k2 ?_; (case k1 => exact rfl); (case k2 => exact rfl); k_whole)))
local macro_rules | `(tactic| walk_at "call type:range") => `(tactic| ((rename Fr _ _ _ _ => F'); (rename News _ _ _ _ => N'); (with_unfolding_all refine range1_rows F' N' ?_; intro _ _ _ _ _ _ _ _ _)))
local macro_rules | `(tactic| walk_at "pyIter ref") => `(tactic| ((with_reducible show wpAny _ _ (pyIter (Value.ref _)) (fun it s₂ => LoopAtV _ _ _ _ _ _ _ _ _ it s₂) _ _); (rename Fr _ _ _ _ => lF'); (rename News _ _ _ _ => lN'); (with_unfolding_all refine' loop_rangeW ?_ ?hh ?hr ?ha ?hb lF' lN' ?_ ?_ ?_); (case hh => exact rfl); (case hr => assumption); (case ha => omega); (case hb => omega)))
theorem fresh0 (w : World) (rest : List (Addr × Obj)) (many : Int) (tm : Tok) (hm0 : 0 ≤ many) (hm : many < 1000) :
  Says w 70 [.int many tm] 16 200 rest
   (fun r news' => ∃ C cs n, r = .ref C ∧ news' = (C, PySem.W.listOf (cs.map fun x => Value.ref x.c).toArray n) :: (cellsLed w cs ++ rest) ∧ cs.length = many.toNat ∧ (∀ x ∈ cs, x.v = .none) ∧ FreshA (C :: (cellsLed w cs).map (·.1)) rest) := by
  unfold Says
  w_top off
  k_fill
  intro mean mg mb dp un gd cn cs a ccd cl outer A₀ base h₀ L m s Q E B F X N T hk hd' hu hret
  refine wpAny_call ?_
  k_dflt ktr_enter
  k_steps
  · exact ⟨freshJ w rest⟩
  · unfold StartW
    dsimp only
    unfold freshJ
    refine ⟨_, [], 0, rfl, rfl, rfl, (fun _ h => nomatch h), ⟨?_, ?_⟩⟩
    · simp [cellsLed]
    · intro a ha p hp
      rw [List.mem_singleton.mp ha]
      rename ∀ p ∈ rest, p.1 < _ => l1
      exact l1 p hp
  · unfold TurnR
    dsimp only
    intro i t m₁ nx h tk owns hi' hoff hJ F₁ N₁
    unfold freshJ at hJ
    obtain ⟨C, cs, n, m1, rfl, hlen, hv, hf1, hf2⟩ := hJ
    have F₂ := fr_ps [(_, _)] (List.forall_mem_cons.mpr ⟨m1, List.forall_mem_nil _⟩) F₁
    generalize hR : cellsLed w cs ++ rest ++ owns = R at *
    have hCR : ∀ p ∈ R, p.1 ≠ C := by
      intro p hp
      rw [← hR] at hp
      rcases List.mem_append.mp hp with hp | hp
      · rcases List.mem_append.mp hp with hp | hp
        · exact fun e => (List.nodup_cons.mp hf1).1 (e ▸ List.mem_map.mpr ⟨p, hp, rfl⟩)
        · exact Nat.ne_of_lt (hf2 C (.head _) p hp)
      · exact (hoff _ (.head _) p hp).symm
    have N₂ := news_eq N₁ (show _ = (C, PySem.W.listOf (cs.map fun x => Value.ref x.c).toArray n) :: R by rw [← hR]; simp only [List.cons_append])
    clear F₁ N₁
    k_steps
    exact fresh_end hR rfl hlen hv hf1 hf2 hoff (by assumption) (by assumption) (by assumption) (by assumption)
  · unfold DoneW
    dsimp only
    intro m₁ nx h tk hJ F₁ N₁
    unfold freshJ at hJ
    obtain ⟨C, cs, n, m1, rfl, hlen, hv, hf1, hf2⟩ := hJ
    have F₂ := fr_ps0 [(_, _)] (List.forall_mem_cons.mpr ⟨m1, List.forall_mem_nil _⟩) F₁
    clear F₁
    k_steps
    exact hret _ _ _ _ (by assumption) (by assumption) ⟨C, cs, n, rfl, rfl, hlen, hv, hf1, hf2⟩
end Mine
end
section
open PySem PySem.W PySem.Calls PyProof.Rows PySem.Spec PyProof
namespace Mine
section
theorem item_led {prog : Program} {w : World} {A : Around} {E : Value → Shared → Prop} {s : Shared} {h₀ : Heap} {L l : Addr} {news : List (Addr × Obj)} {vs : List Value} {n : Nat} {k : Int} {u : Tok} {value slice : PySem.Expr} {Q : Value → Shared → Prop}
    (N : News h₀ L s.heap news) (hm : (l, PySem.W.listOf vs.toArray n) ∈ news) (h0 : 0 ≤ k) (h1 : k < vs.length) (h2 : vs.length < 1000) (h : Q (vs.getD k.toNat .none) s)
    (hs : subscripted slice false (.ref l) (.int k u) = operate [.ref l, .int k u] (getItem (.ref l) (.int k u)) := by with_unfolding_all rfl) :
    wpAny (model prog w) A (subscriptTail value slice (.ref l) (.int k u)) Q E s := by
  have hl : s.heap.IsList l vs.toArray := ⟨_, (N _ hm).1, rfl, n, rfl⟩
  have hlt : k.toNat < vs.length := by omega
  refine tail_any hl.typeIs slot_list_getitem.lookup (wpAny_getItem_list hl h0 (by omega) (x := vs.getD k.toNat .none) ?_ h) hs
  rw [List.getElem?_toArray, List.getD_eq_getElem?_getD, List.getElem?_eq_getElem hlt]; rfl
/-- what a pair picks -/
def pick (cv uv : List Value) (q : Pr) : Value := (if q.io then cv else uv).getD q.k.toNat .none
def captJ (ca ua : Addr) (cv uv : List Value) (qs : List Pr) (rest : List (Addr × Obj)) (i : Nat) (m : Str → Option Value) (nx : List (Addr × Obj)) : Prop :=
  ∃ U n, m (Str.ofString "cells") = some (.ref ca) ∧ m (Str.ofString "ups") = some (.ref ua) ∧ m (Str.ofString "found") = some (.ref U) ∧ nx = (U, PySem.W.listOf ((qs.take i).map (pick cv uv)).toArray n) :: rest ∧ (∀ p ∈ rest, p.1 < U)
theorem capt_end {g : Heap} {L ca ua U : Addr} {cv uv : List Value} {qs : List Pr} {q : Pr} {rest owns R : List (Addr × Obj)} {n i : Nat} {v : Value} {m' : Str → Option Value} {s₁ : Shared} {h' : Heap} {tk : Nat} (hR : rest ++ owns = R) (hqi : qs[i]? = some q)
    (m1 : m' (Str.ofString "cells") = some (.ref ca)) (m2 : m' (Str.ofString "ups") = some (.ref ua)) (m3 : m' (Str.ofString "found") = some (.ref U)) (hU : ∀ p ∈ rest, p.1 < U)
    (hoff : ∀ q ∈ (U, PySem.W.listOf ((qs.take i).map (pick cv uv)).toArray n) :: rest, ∀ p ∈ owns, q.1 ≠ p.1)
    (F : Fr g L h' m') (N : News g L h' ((U, PySem.W.listOf (((qs.take i).map (pick cv uv)).toArray.push v) (n + 1)) :: R)) (hv : pick cv uv q = v) : LPostU g L (captJ ca ua cv uv qs rest (i + 1)) owns s₁ .next { s₁ with heap := h', toks := tk } := by
  have e : ((qs.take (i + 1)).map (pick cv uv)).toArray = ((qs.take i).map (pick cv uv)).toArray.push v := by
    rw [List.take_add_one, hqi]; simp [hv]
  refine LPostU.next (nx := (U, PySem.W.listOf ((qs.take (i + 1)).map (pick cv uv)).toArray (n + 1)) :: rest) F ?_ ?_ ⟨U, n + 1, m1, m2, m3, rfl, hU⟩
  · rw [e]
    exact news_eq N (by rw [← hR]; rfl)
  · intro q hq p hp
    rcases List.mem_cons.mp hq with rfl | hq
    · exact hoff _ (.head _) p hp
    · exact hoff q (.tail _ hq) p hp
end
local macro_rules | `(tactic| k_all) => `(tactic| assumption)
local macro_rules | `(tactic| k_mem) => `(tactic| assumption)
local macro_rules | `(tactic| k_room) => `(tactic| ktr_room)
section
set_option maxRecDepth 100000
set_option maxHeartbeats 8000000
local macro_rules | `(tactic| walk_at "a key of no step") => `(tactic| fail "none")
local macro_rules | `(tactic| walk_at "exec For Tuple Name cons nil") => `(tactic| (k_here; (rename Fr _ _ _ _ => lF'); (with_unfolding_all refine' For_invTF lF' ?_ ?k1; (case k1 => intro _; exact rfl); k_whole)))
local macro_rules | `(tactic| walk_at "pyIter ref") => `(tactic| ((with_reducible show wpAny _ _ (pyIter (Value.ref _)) (fun it s₂ => LoopAtT _ _ _ _ _ _ _ _ _ it s₂) _ _); (rename Fr _ _ _ _ => lF'); (rename News _ _ _ _ => lN'); (with_unfolding_all refine' loop_listTW ?_ ?hh ?hl lF' lN' ?_ ?_ ?_ ?_); (case hh => exact rfl); (case hl => kst_mem)))
local macro_rules | `(tactic| walk_at "subscriptTail") => `(tactic| (k_here; (with_reducible show wpAny _ _ (subscriptTail _ _ (Value.ref _) (Value.int _ _)) _ _ _); k_dflt (refine' item_led ?N ?hm ?h0 ?h1 ?h2 ?_; (case N => k_asm); (case hm => kst_mem); (case h0 => assumption); (case h1 => assumption); (case h2 => assumption); k_whole)))
theorem capt0 (w : World) (rest : List (Addr × Obj)) (P ca ua : Addr) (qs : List Pr) (np nc nu : Nat) (cv uv : List Value) (hP : (P, PySem.W.listOf (qs.map fun q => Value.ref q.a).toArray np) ∈ rest) (hq : PairsAre cv.length uv.length rest qs)
   (hc : (ca, PySem.W.listOf cv.toArray nc) ∈ rest) (hu' : (ua, PySem.W.listOf uv.toArray nu) ∈ rest) (hcl : cv.length < 1000) (hul : uv.length < 1000) (hql : qs.length ≤ 3) :
  Says w 77 [.ref P, .ref ca, .ref ua] 16 200 rest
   (fun r news' => ∃ U n, r = .ref U ∧ news' = (U, PySem.W.listOf (qs.map (pick cv uv)).toArray n) :: rest ∧ ∀ p ∈ rest, p.1 < U) := by
  unfold Says
  w_top off
  k_fill
  intro mean mg mb dp un gd cn cs a ccd cl outer A₀ base h₀ L m s Q E B F X N T hk hd' hu hret
  refine wpAny_call ?_
  k_dflt ktr_enter
  k_steps
  · exact ⟨captJ ca ua cv uv qs rest⟩
  · unfold StartW
    dsimp only
    unfold captJ
    refine ⟨_, 0, rfl, rfl, rfl, rfl, ?_⟩
    assumption
  · rintro i m nx ⟨U, n, _, _, _, rfl, _⟩
    exact .tail _ hP
  · unfold TurnT
    dsimp only
    intro i v m₁ nx s₁ owns hv hoff hJ F₁ N₁
    unfold captJ at hJ
    obtain ⟨U, n, m1, m2, m3, rfl, hU⟩ := hJ
    have F₂ := fr_ps0 [(_, _), (_, _), (_, _)] (List.forall_mem_cons.mpr ⟨m1, List.forall_mem_cons.mpr ⟨m2, List.forall_mem_cons.mpr ⟨m3, List.forall_mem_nil _⟩⟩⟩) F₁
    obtain ⟨q, hqi, rfl⟩ : ∃ q, qs[i]? = some q ∧ v = .ref q.a := by
      rw [List.getElem?_map] at hv
      cases hqi : qs[i]? with
      | none => rw [hqi] at hv; cases hv
      | some q => rw [hqi] at hv; exact ⟨q, rfl, (Option.some.inj hv).symm⟩
    obtain ⟨hqm, hq0, hq1, hq2⟩ := hq q (List.mem_of_getElem? hqi)
    have hiq : i < qs.length := (List.getElem?_eq_some_iff.mp hqi).1
    have htk : (qs.take i).length = i := by rw [List.length_take]; omega
    generalize hR : rest ++ owns = R at *
    have hUR : ∀ p ∈ R, p.1 ≠ U := by
      intro p hp
      rw [← hR] at hp
      rcases List.mem_append.mp hp with hp | hp
      · exact Nat.ne_of_lt (hU p hp)
      · exact (hoff _ (.head _) p hp).symm
    have hqR : (q.a, (⟨.type "tuple", none, .seq #[.bool q.io, .int q.k q.t] 0, #[]⟩ : Obj)) ∈ R := by rw [← hR]; exact List.mem_append_left _ hqm
    have hcR : (ca, PySem.W.listOf cv.toArray nc) ∈ R := by rw [← hR]; exact List.mem_append_left _ hc
    have huR : (ua, PySem.W.listOf uv.toArray nu) ∈ R := by rw [← hR]; exact List.mem_append_left _ hu'
    have N₂ := news_eq N₁ (show _ = (U, PySem.W.listOf ((qs.take i).map (pick cv uv)).toArray n) :: R by rw [← hR]; simp only [List.cons_append])
    clear F₁ N₁
    obtain ⟨qa, io, qk, qt⟩ := q
    cases io
    · have hq3 : qk < uv.length := hq2 rfl
      dsimp only at hqR hq0
      change wpAny _ _ (assign _ _ (Value.ref qa)) _ _ _
      k_steps
      exact capt_end hR hqi rfl rfl rfl hU hoff (by assumption) (by assumption) rfl
    · have hq3 : qk < cv.length := hq1 rfl
      dsimp only at hqR hq0
      change wpAny _ _ (assign _ _ (Value.ref qa)) _ _ _
      k_steps
      exact capt_end hR hqi rfl rfl rfl hU hoff (by assumption) (by assumption) rfl
  · unfold DoneW
    dsimp only
    intro m₁ nx h tk hJ F₁ N₁
    unfold captJ at hJ
    obtain ⟨U, n, m1, m2, m3, rfl, hU⟩ := hJ
    have F₂ := fr_ps0 [(_, _), (_, _), (_, _)] (List.forall_mem_cons.mpr ⟨m1, List.forall_mem_cons.mpr ⟨m2, List.forall_mem_cons.mpr ⟨m3, List.forall_mem_nil _⟩⟩⟩) F₁
    clear F₁
    k_steps
    have e : qs.take (qs.map fun q => Value.ref q.a).length = qs := by rw [List.length_map]; exact List.take_length
    exact hret _ _ _ _ (by assumption) (by assumption) ⟨U, n, rfl, by rw [e], hU⟩
end
section
def FreshL (new old : List (Addr × Obj)) : Prop := (new.map (·.1)).Nodup ∧ ∀ q ∈ new, ∀ p ∈ old, p.1 < q.1
theorem FreshL.ne {new old : List (Addr × Obj)} {d : Addr} {o : Obj} (h : FreshL new old) (hm : (d, o) ∈ old) : ∀ p ∈ new, p.1 ≠ d := fun p hp => Nat.ne_of_gt (h.2 p hp _ hm)
theorem all_app {a b : List (Addr × Obj)} {d : Addr} (ha : ∀ p ∈ a, p.1 ≠ d) (hb : ∀ p ∈ b, p.1 ≠ d) : ∀ p ∈ a ++ b, p.1 ≠ d := fun p hp => (List.mem_append.mp hp).elim (ha p) (hb p)
theorem fresh_says {w : World} {news : List (Addr × Obj)} {many : Int} {tm : Tok} (hm0 : 0 ≤ many) (hm : many < 1000) :
  Says w 70 [.int many tm] 16 200 news
   (fun r news' => ∃ C cs n, r = .ref C ∧ news' = news ++ (C, PySem.W.listOf (cs.map fun x => Value.ref x.c).toArray n) :: cellsLed w cs ∧ cs.length = many.toNat ∧ (∀ x ∈ cs, x.v = .none) ∧ FreshL ((C, PySem.W.listOf (cs.map fun x => Value.ref x.c).toArray n) :: cellsLed w cs) news) := by
  refine (fresh0 w news many tm hm0 hm).weaken (fun _ h => h) ?_
  rintro r nx ⟨C, cs, n, rfl, rfl, hlen, hv, hf1, hf2⟩
  refine ⟨_, ?_, C, cs, n, rfl, rfl, hlen, hv, hf1, ?_⟩
  · intro p hp
    rcases List.mem_append.mp hp with h | h
    · exact .tail _ (List.mem_append_right _ h)
    · rcases List.mem_cons.mp h with rfl | h
      · exact .head _
      · exact .tail _ (List.mem_append_left _ h)
  · intro q hq p hp
    refine hf2 q.1 ?_ p hp
    rcases List.mem_cons.mp hq with rfl | h
    · exact .head _
    · exact .tail _ (List.mem_map.mpr ⟨q, h, rfl⟩)
theorem mul_none0 {prog : Program} {w : World} {A : Around} {E : Value → Shared → Prop} {s : Shared} {h₀ : Heap} {L l : Addr} {m : Str → Option Value} {news : List (Addr × Obj)} {k : Nat} {u : Tok} {Q : Value → Shared → Prop} (F : Fr h₀ L s.heap m) (N : News h₀ L s.heap news) (hm : (l, PySem.W.listOf #[.none] k) ∈ news)
    (h : ∀ D h', Fr h₀ L h' m → News h₀ L h' ((D, PySem.W.listOf #[] 0) :: news) → (∀ p ∈ news, p.1 < D) → Q (.ref D) { s with heap := h' }) : wpAny (model prog w) A (binaryOp .Mult (.ref l) (.int 0 u)) Q E s :=
  mul_list F N (N _ hm).1 (by omega) (by omega) (by simp) fun h' F' N' => by
    have e : List.foldl (fun x1 x2 => x1 ++ x2) #[] (List.replicate (if (#[Value.none] : Array Value).isEmpty = true then 0 else (0 : Int).toNat) #[Value.none]) = #[] := by simp
    rw [e] at N'
    exact h _ h' F' N' fun p hp => Heap.lt_size (N p hp).1
theorem frame_fresh {x d : Addr} {o o' : Obj} {pre rest new : List (Addr × Obj)} (hf : FreshL new (pre ++ (x, o) :: (d, o') :: rest)) (l3 : AllLt d rest) (l2 : @LT.lt Nat _ d x) (o₁ o₂ : Obj) : FreshL ((x, o₁) :: (d, o₂) :: new) rest := by
  have hdr := allLt_all l3
  have hx : ∀ q ∈ new, x < q.1 := fun q hq => hf.2 q hq (x, o) (List.mem_append_right _ (.head _))
  have hd : ∀ q ∈ new, d < q.1 := fun q hq => hf.2 q hq (d, o') (List.mem_append_right _ (.tail _ (.head _)))
  refine ⟨?_, ?_⟩
  · simp only [List.map_cons, List.nodup_cons, List.mem_cons, List.mem_map, not_or, not_exists, not_and]
    exact ⟨⟨Nat.ne_of_gt l2, fun q hq e => Nat.lt_irrefl _ (e ▸ hx q hq)⟩, fun q hq e => Nat.lt_irrefl _ (e ▸ hd q hq), hf.1⟩
  · intro q hq p hp
    rcases List.mem_cons.mp hq with rfl | hq
    · exact Nat.lt_trans (hdr p hp) l2
    · rcases List.mem_cons.mp hq with rfl | hq
      · exact hdr p hp
      · exact hf.2 q hq p (List.mem_append_right _ (.tail _ (.tail _ hp)))
end
local macro_rules | `(tactic| ktr_units) => `(tactic| ((try simp only [units_under_make, units_in1, units_deeper, Around.mark_units, units_caller]); (try dsimp only [ktrTop]); omega))
local macro_rules | `(tactic| ktr_room) => `(tactic| ((try simp only [depth_under_make, depth_under_kw, depth_in1, depth_deeper, depth_caller]); (try dsimp only [ktrTop]); omega))
local macro_rules | `(tactic| walk_at "getAttr ref") => `(tactic| (k_here; k_dflt (refine' get_own ?k1 ?k2 ?k3 ?k4 ?k5 ?k6 ?k7 ?k8 ?k9 ?_; (case k1 => k_asm); (case k2 => k_asm); (case k3 => k_inst); (case k4 => k_is); (case k5 => k_is); (case k6 => k_is); (case k7 => k_is); (case k8 => assumption); (case k9 => k_handed); k_whole)))
section
set_option maxRecDepth 100000
set_option maxHeartbeats 8000000
local macro_rules | `(tactic| k_all) => `(tactic| (refine all_app ?_ ?_; (exact tbn_neAll (by tbn_find)); exact FreshL.ne (by assumption) (by k_memK)))
local macro_rules | `(tactic| walk_at "binaryOp Mult ref int") => `(tactic| (k_here; k_dflt (refine' mul_none0 ?k1 ?k2 ?k3 ?_; (case k1 => k_asm); (case k2 => k_asm); (case k3 => k_memK); k_whole); intro D' h' F' N' l1; (try k_lt l1)))
local macro_rules | `(tactic| walk_at "call ref") => `(tactic| (k_here; k_dflt (refine' says_use (fresh_says ?h3 ?h4) ?B ?F ?X ?N ?T ?hk ?hd ?hu ?_; (case B => k_asm); (case F => k_asm); (case X => k_asm); (case N => k_asm); (case T => k_asm); (case hk => first | exact rfl | assumption); (case h3 => omega); (case h4 => omega); (case hd => ktr_room); (case hu => ktr_units); k_whole); intro r' n' h' tk' F' N' hp'; obtain ⟨C', cs', n', e1', e2', h1', h2', hf'⟩ := hp'; subst e1'; subst e2'; (try simp only [List.cons_append] at N')))
theorem frame0 (w : World) (rest : List (Addr × Obj)) (ux ud ua : Addr) (es : List DictEntry) (ne : Nat) (k : Int) (t0 tk₀ : Tok) (h1 : (ux, instObj 94 ud) ∈ rest) (h2 : (ud, PySem.W.dictOf es ne) ∈ rest) (h3 : getL (Str.ofString "local_count") es = some (some (.int 0 t0))) (h4 : getL (Str.ofString "cell_count") es = some (some (.int k tk₀)))
   (hk0 : 0 ≤ k) (hk1 : k < 1000) :
  Says w 59 [.ref ux, .ref ua, .none] 24 300 rest
   (fun r news' => ∃ fx fd fes n C cs nc, r = .ref fx ∧ news' = (fx, instObj 59 fd) :: (fd, PySem.W.dictOf fes n) :: (rest ++ (C, PySem.W.listOf (cs.map fun x => Value.ref x.c).toArray nc) :: cellsLed w cs) ∧ cs.length = k.toNat ∧ (∀ x ∈ cs, x.v = .none) ∧
     getL (Str.ofString "cells") fes = some (some (.ref C)) ∧ getL (Str.ofString "ups") fes = some (some (.ref ua)) ∧ getL (Str.ofString "put") fes = some none ∧ FreshL ((fx, instObj 59 fd) :: (fd, PySem.W.dictOf fes n) :: (C, PySem.W.listOf (cs.map fun x => Value.ref x.c).toArray nc) :: cellsLed w cs) rest) := by
  unfold Says
  w_top off
  k_fill
  intro mean mg mb dp un gd cn cs a ccd cl outer A₀ base h₀ L m s Q E B F X N T hk hd' hu hret
  k_dflt (refine' call_cls ?k1 ?k2 ?k3 ?k4 ?k5 ?k6 ?_; (case k1 => k_asm); (case k2 => k_asm); (case k3 => k_asm); (case k4 => k_is); (case k5 => k_is); (case k6 => k_is); k_whole; intro x' d' h' F' N' l1 l2; have l3 := allLt_of l1; (try k_lt2 l2); (try k_sweep))
  k_dflt ktr_enter
  repeat' (first | (k_unfold; (try dsimp only)) | (k_end; wrow_close) | ((try dsimp only); walk1) | (leave1; walk_say "STEP leave1"; try dsimp only) | fail "no step")
  rename FreshL _ _ => hfr
  rename News h₀ L _ _ => kN
  exact hret _ _ _ _ (by assumption) (news_sub kN fun p hp => .tail _ (.tail _ (.tail _ hp))) ⟨_, _, _, _, _, _, _, rfl, rfl, by assumption, by assumption, rfl, rfl, rfl, frame_fresh (pre := [_, _, _]) hfr l3 l2 _ _⟩
end
section
section
variable {prog : Program} {w : World} {A : Around} {E : Value → Shared → Prop} {s : Shared} {h₀ : Heap} {L D : Addr} {m : Str → Option Value} {news news' : List (Addr × Obj)} {vs : List Value} {n : Nat} {k : Int} {v : Value} {t : Tok}
theorem set_led {Q : Unit → Shared → Prop} (F : Fr h₀ L s.heap m) (N : News h₀ L s.heap news) (U : Upd D (PySem.W.listOf vs.toArray n) (PySem.W.listOf (vs.set k.toNat v).toArray n) news news') (h0 : 0 ≤ k) (h1 : k < vs.length) (h2 : vs.length < 1000)
    (h : ∀ h', Fr h₀ L h' m → News h₀ L h' news' → Q () { s with heap := h' }) : wpAny (model prog w) A (setItem (.ref D) (.int k t) v) Q E s := by
  obtain ⟨pre, post, rfl, rfl, a, b⟩ := U.split
  have z := N (D, PySem.W.listOf vs.toArray n) (List.mem_append.mpr (.inr (.head _)))
  have hs : vs.toArray.size = vs.length := List.size_toArray
  refine ki_setAt z.1 h0 (by omega) (by omega) (h _ (F.change (Heap.SameBut.update ..) z.2.1 z.2.2) (ki_turn _ N a b ?_ ?_))
  · show vs.toArray.setIfInBounds k.toNat v = (vs.set k.toNat v).toArray
    apply Array.toList_inj.mp
    simp
  · simp
theorem len_led {Q : Value → Shared → Prop} (N : News h₀ L s.heap news) (hm : (D, PySem.W.listOf vs.toArray n) ∈ news) (h2 : vs.length < 1000) (h : ∀ t, Q (.int vs.length t) { s with toks := s.toks + 1 + 1 }) : wpAny (model prog w) A (call (.builtin "len") [.ref D]) Q E s := by
  have hs : vs.toArray.size = vs.length := List.size_toArray
  refine call_len_list (items := vs.toArray) ⟨_, (N _ hm).1, rfl, n, rfl⟩ (by omega) ?_
  rw [hs]
  exact h _
theorem app_led {Q : Value → Shared → Prop} (F : Fr h₀ L s.heap m) (N : News h₀ L s.heap news) (U : Upd D (PySem.W.listOf vs.toArray n) (PySem.W.listOf (vs ++ [v]).toArray (n + 1)) news news') (h2 : vs.length < 1000)
    (h : ∀ h', Fr h₀ L h' m → News h₀ L h' news' → Q .none { s with heap := h' }) : wpAny (model prog w) A (call (.builtin "list.append") [.ref D, v]) Q E s := by
  refine append_K F N (its := vs.toArray) (n := n) ?_ h (by rw [List.size_toArray, sizeLine_eq]; omega)
  rw [List.push_toArray]
  exact U
end
end
section
theorem renew_len (vals : List Value) : ((vals ++ [Value.none]).length : Int) - 1 = vals.length := by simp
theorem renew_fresh {a b c x d : Addr} {oa ob oc : Obj} {rest : List (Addr × Obj)} (l1 : a < d ∧ b < d ∧ c < d ∧ AllLt d rest) (l2 : d < x) (o₁ o₂ : Obj) : FreshL [(x, o₁), (d, o₂)] ((a, oa) :: (b, ob) :: (c, oc) :: rest) := by
  have hlt : ∀ p ∈ (a, oa) :: (b, ob) :: (c, oc) :: rest, p.1 < d := allLt_all l1
  refine ⟨by simp [Nat.ne_of_gt l2], fun q hq p hp => ?_⟩
  have h1 := hlt p hp
  rcases List.mem_cons.mp hq with rfl | hq
  · exact Nat.lt_trans h1 l2
  · rw [List.mem_singleton.mp hq]; exact h1
end
local macro_rules | `(tactic| walk_at "call builtin:list.append") => `(tactic| (k_here; (with_reducible show wpAny _ _ (call (Value.builtin _) [Value.ref _, _]) _ _ _); k_dflt (refine' app_led ?k1 ?k2 ?k3 ?k4 ?_; (case k1 => k_asm); (case k2 => k_asm); (case k3 => k_upd); (case k4 => assumption); k_whole); intro h' F' N'; (try k_sweep)))
section
set_option maxRecDepth 100000
set_option maxHeartbeats 8000000
local macro_rules | `(tactic| walk_at "setItem ref int") => `(tactic| (k_here; (with_reducible show wpAny _ _ (setItem (Value.ref _) (Value.int _ _) _) _ _ _); k_dflt (refine' set_led ?k1 ?k2 ?k3 ?k4 ?k5 ?k6 ?_; (case k1 => k_asm); (case k2 => k_asm); (case k3 => k_upd); (case k4 => assumption); (case k5 => assumption); (case k6 => assumption); k_whole); intro h' F' N'; (try k_sweep)))
local macro_rules | `(tactic| walk_at "call builtin:len") => `(tactic| (k_here; (with_reducible show wpAny _ _ (call (Value.builtin "len") [Value.ref _]) _ _ _); k_dflt (refine' len_led ?k1 ?k2 ?k3 ?_; (case k1 => k_asm); (case k2 => k_mem); (case k3 => assumption); k_whole); intro t'))
theorem renew0 (w : World) (rest : List (Addr × Obj)) (fa fd ca ta oa ka vl : Addr) (fes : List DictEntry) (nf nc nt no nv : Nat) (cv ov vals : List Value) (k : Int) (tk₀ : Tok)
   (h1 : (fa, instObj 59 fd) ∈ rest) (h2 : (fd, PySem.W.dictOf fes nf) ∈ rest) (h3 : getL (Str.ofString "cells") fes = some (some (.ref ca))) (h4 : (ta, (⟨.type "tuple", none, .seq #[.ref oa, .ref ka] nt, #[]⟩ : Obj)) ∈ rest)
   (hc : ∀ p ∈ rest, p.1 ≠ ca) (ho : ∀ p ∈ rest, p.1 ≠ oa) (hv : ∀ p ∈ rest, p.1 ≠ vl) (d1 : @Ne Nat ca oa) (d2 : @Ne Nat ca vl) (d3 : @Ne Nat oa vl)
   (hk0 : 0 ≤ k) (hk1 : k < cv.length) (hk2 : k < ov.length) (hcl : cv.length < 1000) (hol : ov.length < 1000) (hvl : vals.length < 1000) (hvl' : (vals ++ [Value.none]).length < 1000) :
  Says w 124 [.ref fa, .ref ta, .int k tk₀, .ref vl] 24 300 ((ca, PySem.W.listOf cv.toArray nc) :: (oa, PySem.W.listOf ov.toArray no) :: (vl, PySem.W.listOf vals.toArray nv) :: rest)
   (fun r news' => ∃ (x : Ce) (tv : Tok) (nv' : Nat), r = .none ∧ x.v = .none ∧ news' = (x.c, x.inst) :: (x.d, x.dict w) :: (ca, PySem.W.listOf (cv.set k.toNat (.ref x.c)).toArray nc) :: (oa, PySem.W.listOf (ov.set k.toNat (.int vals.length tv)).toArray no) :: (vl, PySem.W.listOf (vals ++ [Value.none]).toArray nv') :: rest ∧
      FreshL [(x.c, x.inst), (x.d, x.dict w)] ((ca, PySem.W.listOf cv.toArray nc) :: (oa, PySem.W.listOf ov.toArray no) :: (vl, PySem.W.listOf vals.toArray nv) :: rest)) := by
  unfold Says
  w_top off
  k_fill
  intro mean mg mb dp un gd cn cs a ccd cl outer A₀ base h₀ L m s Q E B F X N T hk hd' hu hret
  refine wpAny_call ?_
  k_dflt ktr_enter
  k_steps
  rename News h₀ L _ _ => kN
  rw [renew_len] at kN
  exact hret _ _ _ _ (by assumption) kN ⟨⟨_, _, _, .none⟩, _, _, rfl, rfl, rfl, renew_fresh (by assumption) (by assumption) _ _⟩
end
section
theorem find_put {n : Str} {hsh : Int} {key v : Value} : ∀ {es : List DictEntry} {e : DictEntry}, es.find? (·.key.isStr n) = some e → (putL n hsh key v es).find? (·.key.isStr n) = some ⟨e.hash, e.key, v⟩
  | [], _, h => by simp at h
  | a :: r, e, h => by
    rw [List.find?_cons] at h
    unfold putL
    cases ha : a.key.isStr n with
    | true =>
      rw [ha] at h
      obtain rfl := Option.some.inj h
      rw [if_pos rfl, List.find?_cons, ha]
    | false =>
      rw [ha] at h
      rw [if_neg Bool.false_ne_true, List.find?_cons, ha]
      exact find_put h
theorem isStr_ne {n m : Str} (hne : n ≠ m) : ∀ {k : Value}, k.isStr n = true → k.isStr m = false := by
  intro k h
  cases k with
  | str x t =>
    have h1 : (x == n) = true := h
    have h2 := eq_of_beq h1
    subst h2
    exact beq_eq_false_iff_ne.mpr hne
  | _ => exact absurd h Bool.false_ne_true
theorem find_put_ne {n m : Str} {hsh : Int} {key v : Value} (hne : n ≠ m) : ∀ {es : List DictEntry} {e : DictEntry}, es.find? (·.key.isStr n) = some e → (putL n hsh key v es).find? (·.key.isStr m) = es.find? (·.key.isStr m)
  | [], _, h => by simp at h
  | a :: r, e, h => by
    rw [List.find?_cons] at h
    unfold putL
    cases ha : a.key.isStr n with
    | true =>
      rw [if_pos rfl, List.find?_cons, List.find?_cons]
      show (match a.key.isStr m with | true => _ | false => _) = _
      rw [isStr_ne hne ha]
    | false =>
      rw [ha] at h
      rw [if_neg Bool.false_ne_true, List.find?_cons, List.find?_cons, find_put_ne hne h]
theorem put_len {n : Str} {hsh : Int} {key v : Value} : ∀ {es : List DictEntry} {e : DictEntry}, es.find? (·.key.isStr n) = some e → (putL n hsh key v es).length = es.length
  | [], _, h => by simp at h
  | a :: r, e, h => by
    rw [List.find?_cons] at h
    unfold putL
    cases ha : a.key.isStr n with
    | true => rw [if_pos rfl]; rfl
    | false =>
      rw [ha] at h
      rw [if_neg Bool.false_ne_true]
      show (putL n hsh key v r).length + 1 = _
      rw [put_len h]; rfl
theorem getL_find {n : Str} {es : List DictEntry} {v : Value} (h : getL n es = some (some v)) : ∃ e, es.find? (·.key.isStr n) = some e ∧ e.val = v := by
  unfold getL at h
  split at h
  · exact ⟨_, ‹_›, Option.some.inj (Option.some.inj h)⟩
  · split at h
    · cases h
    · cases h
theorem find_getL {n : Str} {es : List DictEntry} {e : DictEntry} (h : es.find? (·.key.isStr n) = some e) : getL n es = some (some e.val) := by
  unfold getL; rw [h]
theorem getL_put {n : Str} {hsh : Int} {key u v : Value} {es : List DictEntry} (h : getL n es = some (some u)) : getL n (putL n hsh key v es) = some (some v) := by
  obtain ⟨e, he, _⟩ := getL_find h
  exact find_getL (find_put he)
theorem getL_put_ne {n m : Str} {hsh : Int} {key u v x : Value} {es : List DictEntry} (hne : n ≠ m) (h : getL n es = some (some u)) (hm : getL m es = some (some x)) : getL m (putL n hsh key v es) = some (some x) := by
  obtain ⟨e, he, _⟩ := getL_find h
  obtain ⟨e2, he2, rfl⟩ := getL_find hm
  exact find_getL ((find_put_ne hne he).trans he2)
/-- a unit's dict: the names that are asked -/
structure UnitOk (es : List DictEntry) (v u : Value) : Prop where
  loc : ∃ t, getL (Str.ofString "local_count") es = some (some (.int 0 t))
  cell : getL (Str.ofString "cell_count") es = some (some v)
  capt : getL (Str.ofString "captures") es = some (some u)
  few : es.length ≤ 20
theorem UnitOk.put1 {es : List DictEntry} {v u x : Value} {hsh : Int} {key : Value} (h : UnitOk es v u) : UnitOk (putL (Str.ofString "cell_count") hsh key x es) x u := by
  obtain ⟨⟨t, h1⟩, h2, h3, h4⟩ := h
  obtain ⟨e, he, _⟩ := getL_find h2
  exact ⟨⟨t, getL_put_ne (by decide) h2 h1⟩, getL_put h2, getL_put_ne (by decide) h2 h3, (put_len he).symm ▸ h4⟩
theorem UnitOk.put2 {es : List DictEntry} {v u x : Value} {hsh : Int} {key : Value} (h : UnitOk es v u) : UnitOk (putL (Str.ofString "captures") hsh key x es) v x := by
  obtain ⟨⟨t, h1⟩, h2, h3, h4⟩ := h
  obtain ⟨e, he, _⟩ := getL_find h3
  exact ⟨⟨t, getL_put_ne (by decide) h3 h1⟩, getL_put_ne (by decide) h3 h2, getL_put h3, (put_len he).symm ▸ h4⟩
set_option maxRecDepth 100000
set_option maxHeartbeats 8000000
theorem unit0 (w : World) (rest : List (Addr × Obj)) (nm : Str) (tn : Tok) (pa : Addr) :
  Says w 94 [.str nm tn, .ref pa] 24 300 rest
   (fun r news' => ∃ ux ud es n v u, r = .ref ux ∧ news' = (ux, instObj 94 ud) :: (ud, PySem.W.dictOf es n) :: rest ∧ UnitOk es v u ∧ (∀ p ∈ rest, p.1 < ud) ∧ @LT.lt Nat _ ud ux) := by
  unfold Says
  w_top off
  k_fill
  intro mean mg mb dp un gd cn cs a ccd cl outer A₀ base h₀ L m s Q E B F X N T hk hd' hu hret
  k_dflt (refine' call_cls ?k1 ?k2 ?k3 ?k4 ?k5 ?k6 ?_; (case k1 => k_asm); (case k2 => k_asm); (case k3 => k_asm); (case k4 => k_is); (case k5 => k_is); (case k6 => k_is); k_whole; intro x' d' h' F' N' l1 l2; have l3 := allLt_of l1; (try k_lt2 l2); (try k_sweep))
  k_dflt ktr_enter
  repeat' (first | (k_unfold; (try dsimp only)) | (k_end; wrow_close) | ((try dsimp only); walk1) | (leave1; walk_say "STEP leave1"; try dsimp only) | fail "no step")
  rename News h₀ L _ _ => kN
  exact hret _ _ _ _ (by assumption) (news_sub kN fun p hp => .tail _ (.tail _ (.tail _ (.tail _ (.tail _ (.tail _ (.tail _ hp))))))) ⟨_, _, _, _, _, _, rfl, rfl, ⟨⟨_, rfl⟩, rfl, rfl, Nat.le_of_ble_eq_true rfl⟩, allLt_all l3, l2⟩
section
variable {w : World} {A : Around} {E : Value → Shared → Prop} {s : Shared} {h₀ : Heap} {L ux ud : Addr} {m : Str → Option Value} {news : List (Addr × Obj)} {g : Obj → List (Addr × Obj)} {es : List DictEntry} {n : Nat} {a b v : Value} {Q : Unit → Shared → Prop}
theorem upd_of {d : Addr} {o o' : Obj} : ∀ {l : List (Addr × Obj)} {g : Obj → List (Addr × Obj)}, UpdF d o l g → Upd d o o' l (g o')
  | _, _, .head h => .head h
  | _, _, .tail h r => .tail h (upd_of r)
theorem updF_mem {d : Addr} {o : Obj} : ∀ {l : List (Addr × Obj)} {g : Obj → List (Addr × Obj)}, UpdF d o l g → (d, o) ∈ l
  | _, _, .head _ => .head _
  | _, _, .tail _ r => .tail _ (updF_mem r)
theorem set_cnt (F : Fr h₀ L s.heap m) (XX : (hd.heap_39 w.params).In h₀) (N : News h₀ L s.heap news) (hx : (ux, instObj 94 ud) ∈ news) (U : UpdF ud (PySem.W.dictOf es n) news g) (ok : UnitOk es a b)
    (h : ∀ h' es' n', UnitOk es' v b → Fr h₀ L h' m → News h₀ L h' (g (PySem.W.dictOf es' n')) → Q () { s with heap := h', toks := s.toks + 2 }) : wpAny (model PySem.Challenge.rw_nt0340_01.row.prog w) A (setAttr (.ref ux) (Str.ofString "cell_count") v) Q E s := by
  revert F XX N h
  w_top off
  k_fill
  intro F XX N h
  obtain ⟨e, he, _⟩ := getL_find ok.cell
  have hud := updF_mem U
  have hI := InstAt.of_news N hx hud
  k_dflt (refine' set_dict F XX N hI ?k5 ?k6 ?k7 ?k8 ?k9 ?k10 rfl (upd_of U) ?k13 ?_; (case k5 => exact rfl); (case k6 => k_is); (case k7 => k_is); (case k8 => k_is); (case k9 => k_is); (case k10 => rw [ok.cell]; rfl); (case k13 => rw [put_len he]; exact Nat.le_trans ok.few (by decide)); k_whole)
  intro h' F' N'
  exact h _ _ _ ok.put1 F' N'
theorem set_cap (F : Fr h₀ L s.heap m) (XX : (hd.heap_39 w.params).In h₀) (N : News h₀ L s.heap news) (hx : (ux, instObj 94 ud) ∈ news) (U : UpdF ud (PySem.W.dictOf es n) news g) (ok : UnitOk es a b)
    (h : ∀ h' es' n', UnitOk es' a v → Fr h₀ L h' m → News h₀ L h' (g (PySem.W.dictOf es' n')) → Q () { s with heap := h', toks := s.toks + 2 }) : wpAny (model PySem.Challenge.rw_nt0340_01.row.prog w) A (setAttr (.ref ux) (Str.ofString "captures") v) Q E s := by
  revert F XX N h
  w_top off
  k_fill
  intro F XX N h
  obtain ⟨e, he, _⟩ := getL_find ok.capt
  have hud := updF_mem U
  have hI := InstAt.of_news N hx hud
  k_dflt (refine' set_dict F XX N hI ?k5 ?k6 ?k7 ?k8 ?k9 ?k10 rfl (upd_of U) ?k13 ?_; (case k5 => exact rfl); (case k6 => k_is); (case k7 => k_is); (case k8 => k_is); (case k9 => k_is); (case k10 => rw [ok.capt]; rfl); (case k13 => rw [put_len he]; exact Nat.le_trans ok.few (by decide)); k_whole)
  intro h' F' N'
  exact h _ _ _ ok.put2 F' N'
end
end
section
/-- the fixed places: the box, the lists of frames, told, variables; the script's ints -/
structure Fx where
  b : Addr
  fl : Addr
  ml : Addr
  vl : Addr
  l : Addr
  vs : List Value
  ns : List Int
  nl : Nat
/-- a frame and what is told of it -/
structure Fm where
  fa : Addr
  fd : Addr
  ca : Addr
  ua : Addr
  ta : Addr
  oa : Addr
  ka : Addr
  fes : List DictEntry
  nf : Nat
  nc : Nat
  nu : Nat
  nt : Nat
  no : Nat
  nk : Nat
  own : List (Nat × Tok)
  kept : List (Nat × Tok)
structure St where
  ob : Obj
  frames : List Fm
  cs : List Ce
  vals : List Value
  nfl : Nat
  nml : Nat
  nvl : Nat
def cref (cs : List Ce) (j : Nat) : Value := match cs[j]? with
  | some x => .ref x.c
  | none => .none
def crefs (cs : List Ce) (o : List (Nat × Tok)) : List Value := o.map fun p => cref cs p.1
def intsV (o : List (Nat × Tok)) : List Value := o.map fun p => Value.int (p.1 : Int) p.2
def fmLed (cs : List Ce) (f : Fm) : List (Addr × Obj) :=
  [(f.fa, instObj 59 f.fd), (f.fd, PySem.W.dictOf f.fes f.nf), (f.ca, PySem.W.listOf (crefs cs f.own).toArray f.nc), (f.ua, PySem.W.listOf (crefs cs f.kept).toArray f.nu),
   (f.ta, (⟨.type "tuple", none, .seq #[.ref f.oa, .ref f.ka] f.nt, #[]⟩ : Obj)), (f.oa, PySem.W.listOf (intsV f.own).toArray f.no), (f.ka, PySem.W.listOf (intsV f.kept).toArray f.nk)]
def framesLed (cs : List Ce) (fs : List Fm) : List (Addr × Obj) := fs.flatMap (fmLed cs)
def restL (w : World) (X : Fx) (fs : List Fm) (cs : List Ce) : List (Addr × Obj) := (X.l, PySem.W.listOf X.vs.toArray X.nl) :: (framesLed cs fs ++ cellsLed w cs)
def FLv (fs : List Fm) : List Value := fs.map fun f => .ref f.fa
def MLv (fs : List Fm) : List Value := fs.map fun f => .ref f.ta
def led (w : World) (X : Fx) (S : St) : List (Addr × Obj) :=
  (X.b, S.ob) :: (X.fl, PySem.W.listOf (FLv S.frames).toArray S.nfl) :: (X.ml, PySem.W.listOf (MLv S.frames).toArray S.nml) :: (X.vl, PySem.W.listOf S.vals.toArray S.nvl) :: restL w X S.frames S.cs
def sameV : Value → Value → Prop
  | .none, .none => True
  | .str x _, .str y _ => x = y ∧ PyData.strOk x = true
  | _, _ => False
def FmOk (n : Nat) (f : Fm) : Prop := getL (Str.ofString "cells") f.fes = some (some (.ref f.ca)) ∧ getL (Str.ofString "ups") f.fes = some (some (.ref f.ua)) ∧ getL (Str.ofString "put") f.fes = some none ∧ (∀ p ∈ f.own, p.1 < n) ∧ (∀ p ∈ f.kept, p.1 < n) ∧ f.own.length ≤ 2 ∧ f.kept.length ≤ 3
structure Inv (w : World) (X : Fx) (S : St) (out : List (Addr × Obj)) : Prop where
  box : IsBox X.l S.ob
  nd : ((led w X S).map (·.1)).Nodup
  off : ∀ q ∈ led w X S, ∀ p ∈ out, q.1 ≠ p.1
  fm : ∀ f ∈ S.frames, FmOk S.cs.length f
  len : S.vals.length = S.cs.length
  ia : IntsAre X.vs X.ns
  few : X.ns.length ≤ 40
def Vals (S : St) : Prop := ∀ (j : Nat) (x : Ce) (v : Value), S.cs[j]? = some x → S.vals[j]? = some v → sameV v x.v
theorem cref_append {cs ys : List Ce} {j : Nat} (h : j < cs.length) : cref (cs ++ ys) j = cref cs j := by
  unfold cref; rw [List.getElem?_append_left h]
theorem crefs_append {cs ys : List Ce} {o : List (Nat × Tok)} (h : ∀ p ∈ o, p.1 < cs.length) : crefs (cs ++ ys) o = crefs cs o := by
  unfold crefs; exact List.map_congr_left fun p hp => cref_append (h p hp)
theorem cref_set {cs : List Ce} {j : Nat} {x : Ce} (hx : cs[j]? = some x) (v : Value) (i : Nat) : cref (cs.set j { x with v := v }) i = cref cs i := by
  unfold cref
  rw [List.getElem?_set]
  by_cases e : j = i
  · subst e
    have hlt := (List.getElem?_eq_some_iff.mp hx).1
    rw [if_pos rfl, if_pos hlt, hx]
  · rw [if_neg e]
theorem crefs_set {cs : List Ce} {j : Nat} {x : Ce} (hx : cs[j]? = some x) (v : Value) (o : List (Nat × Tok)) : crefs (cs.set j { x with v := v }) o = crefs cs o := by
  unfold crefs; exact List.map_congr_left fun p _ => cref_set hx v p.1
theorem crefs_length (cs : List Ce) (o : List (Nat × Tok)) : (crefs cs o).length = o.length := List.length_map ..
theorem intsV_length (o : List (Nat × Tok)) : (intsV o).length = o.length := List.length_map ..
theorem crefs_get {cs : List Ce} {o : List (Nat × Tok)} {i : Nat} {p : Nat × Tok} {x : Ce} (hp : o[i]? = some p) (hx : cs[p.1]? = some x) : (crefs cs o).getD i .none = .ref x.c := by
  unfold crefs
  rw [List.getD_eq_getElem?_getD, List.getElem?_map, hp]
  show cref cs p.1 = _
  unfold cref; rw [hx]
theorem intsV_get {o : List (Nat × Tok)} {i : Nat} {p : Nat × Tok} (hp : o[i]? = some p) : (intsV o).getD i .none = .int p.1 p.2 := by
  unfold intsV
  rw [List.getD_eq_getElem?_getD, List.getElem?_map, hp]; rfl
theorem FLv_get {fs : List Fm} {i : Nat} {f : Fm} (hp : fs[i]? = some f) : (FLv fs).getD i .none = .ref f.fa := by
  unfold FLv
  rw [List.getD_eq_getElem?_getD, List.getElem?_map, hp]; rfl
theorem MLv_get {fs : List Fm} {i : Nat} {f : Fm} (hp : fs[i]? = some f) : (MLv fs).getD i .none = .ref f.ta := by
  unfold MLv
  rw [List.getD_eq_getElem?_getD, List.getElem?_map, hp]; rfl
theorem some_at {α : Type} {l : List α} {k : Int} (h0 : 0 ≤ k) (h1 : k < l.length) : ∃ a, l[k.toNat]? = some a := ⟨l[k.toNat]'(by omega), List.getElem?_eq_getElem _⟩
theorem fm_in {w : World} {X : Fx} {fs : List Fm} {cs : List Ce} {f : Fm} (h : f ∈ fs) : ∀ p ∈ fmLed cs f, p ∈ restL w X fs cs := fun p hp => .tail _ (List.mem_append_left _ (List.mem_flatMap.mpr ⟨f, h, hp⟩))
theorem ce_in {w : World} {X : Fx} {fs : List Fm} {cs : List Ce} {x : Ce} (h : x ∈ cs) : ∀ p ∈ cellLed w x, p ∈ restL w X fs cs := fun p hp => .tail _ (List.mem_append_right _ (List.mem_flatMap.mpr ⟨x, h, hp⟩))
/-- what the invariant says of the places -/
theorem Inv.apart {w : World} {X : Fx} {S : St} {out : List (Addr × Obj)} (I : Inv w X S out) :
    (@Ne Nat X.b X.fl ∧ @Ne Nat X.b X.ml ∧ @Ne Nat X.b X.vl ∧ @Ne Nat X.fl X.ml ∧ @Ne Nat X.fl X.vl ∧ @Ne Nat X.ml X.vl) ∧
    (∀ p ∈ restL w X S.frames S.cs ++ out, p.1 ≠ X.b) ∧ (∀ p ∈ restL w X S.frames S.cs ++ out, p.1 ≠ X.fl) ∧ (∀ p ∈ restL w X S.frames S.cs ++ out, p.1 ≠ X.ml) ∧ (∀ p ∈ restL w X S.frames S.cs ++ out, p.1 ≠ X.vl) ∧ @Ne Nat X.b X.l := by
  have nd := I.nd
  unfold led at nd
  simp only [List.map_cons, List.nodup_cons, List.mem_cons, not_or] at nd
  obtain ⟨⟨h1, h2, h3, h4⟩, ⟨h5, h6, h7⟩, ⟨h8, h9⟩, h10, _⟩ := nd
  have key : ∀ a : Addr, (a ∉ (restL w X S.frames S.cs).map (·.1)) → (∀ p ∈ out, a ≠ p.1) → ∀ p ∈ restL w X S.frames S.cs ++ out, p.1 ≠ a := fun a ha hb p hp e => by
    rcases List.mem_append.mp hp with h | h
    · exact ha (e ▸ List.mem_map.mpr ⟨p, h, rfl⟩)
    · exact hb p h e.symm
  refine ⟨⟨h1, h2, h3, h5, h6, h8⟩, key _ h4 (I.off _ (.head _)), key _ h7 (I.off _ (.tail _ (.head _))), key _ h9 (I.off _ (.tail _ (.tail _ (.head _)))), key _ h10 (I.off _ (.tail _ (.tail _ (.tail _ (.head _))))), fun e => h4 ?_⟩
  rw [e]
  exact List.mem_map.mpr ⟨(X.l, PySem.W.listOf X.vs.toArray X.nl), .head _, rfl⟩
theorem led_out (w : World) (X : Fx) (S : St) (out : List (Addr × Obj)) : led w X S ++ out = (X.b, S.ob) :: (X.fl, PySem.W.listOf (FLv S.frames).toArray S.nfl) :: (X.ml, PySem.W.listOf (MLv S.frames).toArray S.nml) :: (X.vl, PySem.W.listOf S.vals.toArray S.nvl) :: (restL w X S.frames S.cs ++ out) := rfl
end
section
open PyProof.Rows.LCg PyProof.Rows.LCp
section
variable {prog : Program} {w : World} {A : Around} {E : Value → Shared → Prop} {s : Shared} {h₀ : Heap} {L : Addr} {m : Str → Option Value} {env : Env}
theorem CompEnd.mono {s₁ s₂ : Shared} {I C D : Addr} {oI oC oD : Obj} {S : List (Addr × Obj) → Prop} {r r' : Value → List (Addr × Obj) → Prop} {y : Value} (h : CompEnd h₀ L m s₁ I oI C oC D oD S r y s₂) (hr : ∀ n, r y n → r' y n) : CompEnd h₀ L m s₁ I oI C oC D oD S r' y s₂ := by
  obtain ⟨h', tk, n, e, F, N, off, hS, hy⟩ := h
  exact ⟨h', tk, n, e, F, N, off, hS, hr n hy⟩
theorem compP_ind {elt : Expr} {x x₂ : Str} {scope : Scope} {cl : List (Str × Addr)} {S : List (Addr × Obj) → Prop} {P : Nat → Value → Prop} {Fin : List Value → List (Addr × Obj) → Prop} (n : Nat) (K : Nat → List Value → List (Addr × Obj) → Prop)
    (turn : ∀ i ys news v, i < n → P i v → K i ys news → ∃ (t : Addr) (ot : Obj) (v₁ v₂ : Value) (nt : Nat), v = .ref t ∧ (t, ot) ∈ news ∧ ot.cls = .type "tuple" ∧ ot.data = .seq #[v₁, v₂] nt ∧
      ∀ I oI C oC D m₂ h tk (E' : Value → Shared → Prop), NsObj oC m₂ → m₂ x = some v₁ → m₂ x₂ = some v₂ → Fr h₀ L h m → News h₀ L h ((I, oI) :: (C, oC) :: (D, lst ys) :: news) → Off3 I C D news → ((@Ne Nat I C) ∧ (@Ne Nat I D) ∧ (@Ne Nat C D)) →
      wpAny (model prog w) A (eval elt (compEnvC scope cl C env)) (CompEnd h₀ L m { s with heap := h, toks := tk } I oI C oC D (lst ys) S (fun y news' => K (i + 1) (ys ++ [y]) news')) E' { s with heap := h, toks := tk })
    (fin : ∀ ys news, K n ys news → Fin ys news) : ∀ k i ys news, i + k = n → K i ys news → CompRestP prog w A h₀ L m env elt x x₂ scope cl s S P Fin k i ys news := by
  intro k
  induction k with
  | zero => intro i ys news e hK; obtain rfl : i = n := by omega
            exact CompRestP.zero (fin ys news hK)
  | succ k ih =>
    intro i ys news e hK
    refine CompRestP.succ fun v hv => ?_
    obtain ⟨t, ot, v₁, v₂, nt, a1, a2, a3, a4, a5⟩ := turn i ys news v (by omega) hv hK
    refine ⟨t, ot, v₁, v₂, nt, a1, a2, a3, a4, fun I oI C oC D m₂ h tk E' b1 b2 b3 b4 b5 b6 b7 => ?_⟩
    exact wpAny_mono (a5 I oI C oC D m₂ h tk E' b1 b2 b3 b4 b5 b6 b7) (fun y s₂ q => CompEnd.mono q fun n' hn => ih (i + 1) _ n' (by omega) hn) fun _ _ x => x
theorem comp_ind {elt : Expr} {x : Str} {scope : Scope} {cl : List (Str × Addr)} {S : List (Addr × Obj) → Prop} {P : Nat → Value → Prop} {Fin : List Value → List (Addr × Obj) → Prop} (n : Nat) (K : Nat → List Value → List (Addr × Obj) → Prop)
    (turn : ∀ i ys news v I oI C oC D m₂ h tk (E' : Value → Shared → Prop), i < n → P i v → K i ys news → NsObj oC m₂ → m₂ x = some v → Fr h₀ L h m → News h₀ L h ((I, oI) :: (C, oC) :: (D, lst ys) :: news) → Off3 I C D news → ((@Ne Nat I C) ∧ (@Ne Nat I D) ∧ (@Ne Nat C D)) →
      wpAny (model prog w) A (eval elt (compEnvC scope cl C env)) (CompEnd h₀ L m { s with heap := h, toks := tk } I oI C oC D (lst ys) S (fun y news' => K (i + 1) (ys ++ [y]) news')) E' { s with heap := h, toks := tk })
    (fin : ∀ ys news, K n ys news → Fin ys news) : ∀ k i ys news, i + k = n → K i ys news → CompRest prog w A h₀ L m env elt x scope cl s S P Fin k i ys news := by
  intro k
  induction k with
  | zero => intro i ys news e hK; obtain rfl : i = n := by omega
            exact CompRest.zero (fin ys news hK)
  | succ k ih =>
    intro i ys news e hK
    refine CompRest.succ fun v I oI C oC D m₂ h tk E' hv b1 b2 b4 b5 b6 b7 => ?_
    exact wpAny_mono (turn i ys news v I oI C oC D m₂ h tk E' (by omega) hv hK b1 b2 b4 b5 b6 b7) (fun y s₂ q => CompEnd.mono q fun n' hn => ih (i + 1) _ n' (by omega) hn) fun _ _ x => x
end
theorem stop_iter {M : Model} {A : Around} {E : Value → Shared → Prop} {s : Shared} {v : Value} {Q : Value → Shared → Prop} {p : Prop} (h : p) (e : p = wpAny M A (pyIter v) Q E s) : wpAny M A (pyIter v) Q E s := e ▸ h
end
section
theorem framesLed_append (cs : List Ce) (a b : List Fm) : framesLed cs (a ++ b) = framesLed cs a ++ framesLed cs b := by unfold framesLed; exact List.flatMap_append
theorem framesLed_one (cs : List Ce) (f : Fm) : framesLed cs [f] = fmLed cs f := by unfold framesLed; simp
theorem fmLed_congr {cs cs' : List Ce} {f : Fm} (h1 : crefs cs f.own = crefs cs' f.own) (h2 : crefs cs f.kept = crefs cs' f.kept) : fmLed cs f = fmLed cs' f := by unfold fmLed; rw [h1, h2]
theorem framesLed_congr {cs cs' : List Ce} : ∀ {fs : List Fm}, (∀ f ∈ fs, fmLed cs f = fmLed cs' f) → framesLed cs fs = framesLed cs' fs
  | [], _ => rfl
  | f :: r, h => by
    have ih := framesLed_congr (fs := r) fun g hg => h g (.tail _ hg)
    unfold framesLed at ih ⊢
    rw [List.flatMap_cons, List.flatMap_cons, h f (.head _), ih]
/-- the new frame's own and kept places -/
def pickP (f : Fm) (q : Pr) : Nat × Tok := (if q.io then f.own else f.kept).getD q.k.toNat (0, 0)
def QOk (f : Fm) (q : Pr) : Prop := 0 ≤ q.k ∧ (q.io = true → q.k < f.own.length) ∧ (q.io = false → q.k < f.kept.length)
theorem pickP_mem {f : Fm} {q : Pr} (h : QOk f q) : pickP f q ∈ f.own ∨ pickP f q ∈ f.kept := by
  obtain ⟨h0, h1, h2⟩ := h
  unfold pickP
  cases hio : q.io with
  | true =>
    have hlt : q.k.toNat < f.own.length := by have := h1 hio; omega
    left
    simp only [if_true]
    rw [List.getD_eq_getElem?_getD, List.getElem?_eq_getElem hlt]
    exact List.getElem_mem hlt
  | false =>
    have hlt : q.k.toNat < f.kept.length := by have := h2 hio; omega
    right
    simp only [Bool.false_eq_true, if_false]
    rw [List.getD_eq_getElem?_getD, List.getElem?_eq_getElem hlt]
    exact List.getElem_mem hlt
theorem pick_map {f : Fm} {q : Pr} (h : QOk f q) (g : Nat × Tok → Value) : pick (f.own.map g) (f.kept.map g) q = g (pickP f q) := by
  obtain ⟨h0, h1, h2⟩ := h
  unfold pick pickP
  cases hio : q.io with
  | true =>
    have hlt : q.k.toNat < f.own.length := by have := h1 hio; omega
    simp only [if_true]
    rw [List.getD_eq_getElem?_getD, List.getD_eq_getElem?_getD, List.getElem?_map, List.getElem?_eq_getElem hlt]; rfl
  | false =>
    have hlt : q.k.toNat < f.kept.length := by have := h2 hio; omega
    simp only [Bool.false_eq_true, if_false]
    rw [List.getD_eq_getElem?_getD, List.getD_eq_getElem?_getD, List.getElem?_map, List.getElem?_eq_getElem hlt]; rfl
theorem crefs_new {cs cs' : List Ce} : ∀ {ow : List (Nat × Tok)}, ow.map (·.1) = List.range' cs.length cs'.length → crefs (cs ++ cs') ow = cs'.map fun x => Value.ref x.c := by
  intro ow h
  unfold crefs
  have e : (ow.map fun p => cref (cs ++ cs') p.1) = (ow.map (·.1)).map fun j => cref (cs ++ cs') j := by rw [List.map_map]; rfl
  rw [e, h]
  apply List.ext_getElem?
  intro i
  rw [List.getElem?_map, List.getElem?_map]
  by_cases hi : i < cs'.length
  · rw [List.getElem?_range' hi, List.getElem?_eq_getElem hi]
    show some (cref (cs ++ cs') (cs.length + 1 * i)) = _
    unfold cref
    rw [List.getElem?_append_right (by omega)]
    have e2 : cs.length + 1 * i - cs.length = i := by omega
    rw [e2, List.getElem?_eq_getElem hi]; rfl
  · have h1 : (List.range' cs.length cs'.length)[i]? = none := List.getElem?_eq_none (by rw [List.length_range']; omega)
    rw [h1, List.getElem?_eq_none (by omega)]; rfl
theorem app_all {α : Type} {P : α → Prop} {a b : List α} (ha : ∀ p ∈ a, P p) (hb : ∀ p ∈ b, P p) : ∀ p ∈ a ++ b, P p := List.forall_mem_append.mpr ⟨ha, hb⟩
theorem con_all {α : Type} {P : α → Prop} {a : α} {b : List α} (ha : P a) (hb : ∀ p ∈ b, P p) : ∀ p ∈ a :: b, P p := List.forall_mem_cons.mpr ⟨ha, hb⟩
theorem inner_sub {α : Type} {b fl ml vl l fx fd C U T O D : α} {fs cs cs' out : List α} : ∀ p ∈ (b :: fl :: ml :: vl :: l :: ((fs ++ [fx, fd, C, U, T, O, D]) ++ (cs ++ cs'))) ++ out, p ∈ T :: D :: vl :: O :: b :: fl :: ml :: ((l :: (fs ++ cs) ++ out) ++ fx :: fd :: U :: C :: cs') := by
  have q : ∀ p ∈ fx :: fd :: U :: C :: cs', p ∈ T :: D :: vl :: O :: b :: fl :: ml :: ((l :: (fs ++ cs) ++ out) ++ fx :: fd :: U :: C :: cs') := fun _ h => .tail _ (.tail _ (.tail _ (.tail _ (.tail _ (.tail _ (.tail _ (List.mem_append_right _ h)))))))
  have r : ∀ p ∈ l :: (fs ++ cs) ++ out, p ∈ T :: D :: vl :: O :: b :: fl :: ml :: ((l :: (fs ++ cs) ++ out) ++ fx :: fd :: U :: C :: cs') := fun _ h => .tail _ (.tail _ (.tail _ (.tail _ (.tail _ (.tail _ (.tail _ (List.mem_append_left _ h)))))))
  have r2 : ∀ p ∈ fs ++ cs, p ∈ T :: D :: vl :: O :: b :: fl :: ml :: ((l :: (fs ++ cs) ++ out) ++ fx :: fd :: U :: C :: cs') := fun p h => r p (List.mem_append_left _ (.tail _ h))
  refine app_all (con_all (.tail _ (.tail _ (.tail _ (.tail _ (.head _))))) (con_all (.tail _ (.tail _ (.tail _ (.tail _ (.tail _ (.head _)))))) (con_all (.tail _ (.tail _ (.tail _ (.tail _ (.tail _ (.tail _ (.head _))))))) (con_all (.tail _ (.tail _ (.head _))) (con_all (r _ (.head _)) (app_all (app_all (fun p h => r2 p (List.mem_append_left _ h)) ?_) (app_all (fun p h => r2 p (List.mem_append_right _ h)) fun p h => q p (.tail _ (.tail _ (.tail _ (.tail _ h))))))))))) fun p h => r p (List.mem_append_right _ h)
  exact con_all (q _ (.head _)) (con_all (q _ (.tail _ (.head _))) (con_all (q _ (.tail _ (.tail _ (.tail _ (.head _))))) (con_all (q _ (.tail _ (.tail _ (.head _)))) (con_all (.head _) (con_all (.tail _ (.tail _ (.tail _ (.head _)))) (con_all (.tail _ (.head _)) (List.forall_mem_nil _)))))))
theorem inner_close {w : World} {X : Fx} {S : St} {out : List (Addr × Obj)} (I : Inv w X S out) {f : Fm} (hfm : f ∈ S.frames) {qs : List Pr} (hq : qs.length ≤ 3) (hqk : ∀ q ∈ qs, QOk f q) {cs' : List Ce} {k : Nat} (hcn : cs'.length = k) (hk : k ≤ 2) (hcv : ∀ x ∈ cs', x.v = .none)
    {ow : List (Nat × Tok)} (how : ow.map (·.1) = List.range' S.vals.length k) {fx fd U C T O D : Addr} {fes : List DictEntry} {nfs nU nC no nv : Nat} (hg1 : getL (Str.ofString "cells") fes = some (some (.ref C))) (hg2 : getL (Str.ofString "ups") fes = some (some (.ref U))) (hg3 : getL (Str.ofString "put") fes = some none)
    {ob' : Obj} (hB : IsBox X.l ob') (hnd : (T :: D :: O :: fx :: fd :: U :: C :: (cellsLed w cs').map (·.1)).Nodup) (hna : ∀ a ∈ T :: D :: O :: fx :: fd :: U :: C :: (cellsLed w cs').map (·.1), ∀ p ∈ led w X S ++ out, p.1 ≠ a) :
    ∃ S', Inv w X S' out ∧ (Vals S → Vals S') ∧ S'.frames.length = S.frames.length + 1 ∧ S'.cs.length ≤ S.cs.length + 2 ∧
      ∀ p ∈ led w X S' ++ out, p ∈ (T, (⟨.type "tuple", none, .seq #[.ref O, .ref D] 0, #[]⟩ : Obj)) :: (D, PyProof.Rows.LCg.lst (qs.map (pick (intsV f.own) (intsV f.kept)))) :: (X.vl, PySem.W.listOf (S.vals ++ List.replicate k Value.none).toArray nv) :: (O, PySem.W.listOf (intsV ow).toArray no) :: (X.b, ob') ::
        (X.fl, PySem.W.listOf (FLv S.frames ++ [Value.ref fx]).toArray (S.nfl + 1)) :: (X.ml, PySem.W.listOf (MLv S.frames ++ [Value.ref T]).toArray (S.nml + 1)) ::
        ((restL w X S.frames S.cs ++ out) ++ (fx, instObj 59 fd) :: (fd, PySem.W.dictOf fes nfs) :: (U, PySem.W.listOf (qs.map (pick (crefs S.cs f.own) (crefs S.cs f.kept))).toArray nU) :: (C, PySem.W.listOf (cs'.map fun x => Value.ref x.c).toArray nC) :: cellsLed w cs') := by
  obtain ⟨ok1, ok2, ok7, ok3, ok4, ok5, ok6⟩ := I.fm f hfm
  let f' : Fm := { fa := fx, fd := fd, ca := C, ua := U, ta := T, oa := O, ka := D, fes := fes, nf := nfs, nc := nC, nu := nU, nt := 0, no := no, nk := (qs.map (pick (intsV f.own) (intsV f.kept))).length, own := ow, kept := qs.map (pickP f) }
  have hpb : ∀ q ∈ qs, (pickP f q).1 < S.cs.length := fun q hq' => (pickP_mem (hqk q hq')).elim (ok3 _) (ok4 _)
  have ecl : crefs (S.cs ++ cs') f'.own = cs'.map fun x => Value.ref x.c := crefs_new (by show ow.map _ = _; rw [how, I.len, hcn])
  have euv : crefs (S.cs ++ cs') f'.kept = qs.map (pick (crefs S.cs f.own) (crefs S.cs f.kept)) := by
    show crefs (S.cs ++ cs') (qs.map (pickP f)) = _
    unfold crefs
    rw [List.map_map]
    refine List.map_congr_left fun q hq' => ?_
    rw [pick_map (hqk q hq')]
    exact cref_append (hpb q hq')
  have ekv : intsV f'.kept = qs.map (pick (intsV f.own) (intsV f.kept)) := by
    show intsV (qs.map (pickP f)) = _
    unfold intsV
    rw [List.map_map]
    exact List.map_congr_left fun q hq' => (pick_map (hqk q hq') (fun p => Value.int (p.1 : Int) p.2)).symm
  have efr : framesLed (S.cs ++ cs') S.frames = framesLed S.cs S.frames := framesLed_congr fun g hg => by
    obtain ⟨_, _, _, g3, g4, _⟩ := I.fm g hg
    exact fmLed_congr (crefs_append g3) (crefs_append g4)
  have hol : ow.length = k := by have := congrArg List.length how; simpa using this
  let S' : St := { ob := ob', frames := S.frames ++ [f'], cs := S.cs ++ cs', vals := S.vals ++ List.replicate k Value.none, nfl := S.nfl + 1, nml := S.nml + 1, nvl := nv }
  have eFL : FLv S'.frames = FLv S.frames ++ [Value.ref fx] := by show FLv (S.frames ++ [f']) = _; unfold FLv; rw [List.map_append]; rfl
  have eML : MLv S'.frames = MLv S.frames ++ [Value.ref T] := by show MLv (S.frames ++ [f']) = _; unfold MLv; rw [List.map_append]; rfl
  have erest : restL w X S'.frames S'.cs = (X.l, PySem.W.listOf X.vs.toArray X.nl) :: ((framesLed S.cs S.frames ++ fmLed (S.cs ++ cs') f') ++ (cellsLed w S.cs ++ cellsLed w cs')) := by
    show (X.l, _) :: (framesLed (S.cs ++ cs') (S.frames ++ [f']) ++ cellsLed w (S.cs ++ cs')) = _
    rw [framesLed_append, framesLed_one, efr, cellsLed_append]
  have efm : fmLed (S.cs ++ cs') f' = [(fx, instObj 59 fd), (fd, PySem.W.dictOf fes nfs), (C, PySem.W.listOf (cs'.map fun x => Value.ref x.c).toArray nC), (U, PySem.W.listOf (qs.map (pick (crefs S.cs f.own) (crefs S.cs f.kept))).toArray nU),
      (T, (⟨.type "tuple", none, .seq #[.ref O, .ref D] 0, #[]⟩ : Obj)), (O, PySem.W.listOf (intsV ow).toArray no), (D, PySem.W.listOf (qs.map (pick (intsV f.own) (intsV f.kept))).toArray (qs.map (pick (intsV f.own) (intsV f.kept))).length)] := by
    unfold fmLed; rw [ecl, euv, ekv]
  have hperm : ((led w X S').map (·.1)).Perm ((led w X S).map (·.1) ++ (T :: D :: O :: fx :: fd :: U :: C :: (cellsLed w cs').map (·.1))) := by
    rw [List.perm_iff_count]
    intro a
    unfold led
    rw [erest, efm]
    unfold restL
    simp only [List.map_cons, List.map_append, List.map_nil, List.count_cons, List.count_append, List.count_nil, List.cons_append]
    omega
  have hdis : ∀ a ∈ (led w X S).map (·.1), ∀ b ∈ T :: D :: O :: fx :: fd :: U :: C :: (cellsLed w cs').map (·.1), a ≠ b := by
    intro a ha b hb
    obtain ⟨p, hp, rfl⟩ := List.mem_map.mp ha
    exact hna b hb p (List.mem_append_left _ hp)
  have hall : ∀ p ∈ led w X S', p.1 ∈ (led w X S).map (·.1) ∨ p.1 ∈ T :: D :: O :: fx :: fd :: U :: C :: (cellsLed w cs').map (·.1) := by
    intro p hp
    have h1 : p.1 ∈ (led w X S').map (·.1) := List.mem_map.mpr ⟨p, hp, rfl⟩
    exact List.mem_append.mp ((hperm.mem_iff).mp h1)
  refine ⟨S', ⟨hB, (hperm.nodup_iff).mpr (List.nodup_append.mpr ⟨I.nd, hnd, hdis⟩), ?_, ?_, ?_, I.ia, I.few⟩, ?_, by show (S.frames ++ [f']).length = _; simp, by show (S.cs ++ cs').length ≤ _; rw [List.length_append, hcn]; omega, ?_⟩
  · intro q hq' p hp e
    rcases hall q hq' with h | h
    · obtain ⟨r, hr, e2⟩ := List.mem_map.mp h
      exact I.off r hr p hp (e2.trans e)
    · exact hna _ h p (List.mem_append_right _ hp) e.symm
  · intro g hg
    show FmOk (S.cs ++ cs').length g
    rcases List.mem_append.mp hg with hg | hg
    · obtain ⟨g1, g2, g7, g3, g4, g5, g6⟩ := I.fm g hg
      exact ⟨g1, g2, g7, fun p hp => by have := g3 p hp; rw [List.length_append]; omega, fun p hp => by have := g4 p hp; rw [List.length_append]; omega, g5, g6⟩
    · rw [List.mem_singleton.mp hg]
      refine ⟨hg1, hg2, hg3, fun p hp => ?_, fun p hp => ?_, by show ow.length ≤ 2; omega, by show (qs.map (pickP f)).length ≤ 3; rw [List.length_map]; exact hq⟩
      · have h1 : p.1 ∈ ow.map (·.1) := List.mem_map.mpr ⟨p, hp, rfl⟩
        rw [how, List.mem_range'_1] at h1
        rw [List.length_append, hcn, ← I.len]; omega
      · obtain ⟨q, hq', rfl⟩ := List.mem_map.mp hp
        have := hpb q hq'
        rw [List.length_append]; omega
  · show (S.vals ++ List.replicate k Value.none).length = (S.cs ++ cs').length
    rw [List.length_append, List.length_append, List.length_replicate, I.len, hcn]
  · intro hV j x v hx hv
    change (S.cs ++ cs')[j]? = some x at hx
    change (S.vals ++ List.replicate k Value.none)[j]? = some v at hv
    by_cases hj : j < S.cs.length
    · rw [List.getElem?_append_left hj] at hx
      rw [List.getElem?_append_left (by rw [I.len]; exact hj)] at hv
      exact hV j x v hx hv
    · rw [List.getElem?_append_right (by omega)] at hx
      rw [List.getElem?_append_right (by rw [I.len]; omega)] at hv
      have h1 := hcv x (List.mem_of_getElem? hx)
      have h2 := List.eq_of_mem_replicate (List.mem_of_getElem? hv)
      rw [h1, h2]; trivial
  · have e0 : led w X S' = (X.b, ob') :: (X.fl, PySem.W.listOf (FLv S.frames ++ [Value.ref fx]).toArray (S.nfl + 1)) :: (X.ml, PySem.W.listOf (MLv S.frames ++ [Value.ref T]).toArray (S.nml + 1)) :: (X.vl, PySem.W.listOf (S.vals ++ List.replicate k Value.none).toArray nv) :: restL w X S'.frames S'.cs := by
      unfold led; rw [eFL, eML]
    rw [e0, erest, efm]
    unfold restL
    exact inner_sub
theorem nodup_U {fx fd C : Addr × Obj} {U : Addr} {oU : Obj} {cl old : List (Addr × Obj)} (hff : FreshL (fx :: fd :: C :: cl) ((U, oU) :: old)) : ((fx :: fd :: (U, oU) :: C :: cl).map (·.1)).Nodup := by
  have h1 := hff.1
  have hU : ∀ q ∈ fx :: fd :: C :: cl, U < q.1 := fun q hq => hff.2 q hq (U, oU) (.head _)
  have hp : ((fx :: fd :: (U, oU) :: C :: cl).map (·.1)).Perm (U :: (fx :: fd :: C :: cl).map (·.1)) := by
    rw [List.perm_iff_count]
    intro a
    simp only [List.map_cons, List.count_cons]
    omega
  refine (hp.nodup_iff).mpr (List.nodup_cons.mpr ⟨fun hm => ?_, h1⟩)
  obtain ⟨q, hq, e⟩ := List.mem_map.mp hm
  exact Nat.lt_irrefl _ (e ▸ hU q hq)
theorem inner_fresh {T D O b fl ml vl : Addr} {NW R2 : List (Addr × Obj)} (hn1 : (NW.map (·.1)).Nodup) (hn2 : ∀ q ∈ NW, b < q.1 ∧ fl < q.1 ∧ ml < q.1 ∧ vl < q.1) (hn3 : ∀ q ∈ NW, ∀ p ∈ R2, p.1 < q.1)
    (hO : b < O ∧ fl < O ∧ ml < O ∧ vl < O ∧ ∀ p ∈ R2 ++ NW, p.1 < O) (hD : (b ≠ D ∧ fl ≠ D ∧ ml ≠ D ∧ vl ≠ D ∧ O ≠ D) ∧ ∀ p ∈ R2 ++ NW, p.1 ≠ D) (hT : (D < T ∧ O < T ∧ b < T ∧ fl < T ∧ ml < T ∧ vl < T) ∧ ∀ p ∈ R2 ++ NW, p.1 < T) :
    (T :: D :: O :: NW.map (·.1)).Nodup ∧ ∀ a ∈ T :: D :: O :: NW.map (·.1), ∀ x : Addr, (x = b ∨ x = fl ∨ x = ml ∨ x = vl ∨ ∃ p ∈ R2, p.1 = x) → x ≠ a := by
  obtain ⟨o1, o2, o3, o4, o5⟩ := hO
  obtain ⟨⟨q1, q2, q3, q4, q5⟩, q6⟩ := hD
  obtain ⟨⟨t1, t2, t3, t4, t5, t6⟩, t7⟩ := hT
  have inR : ∀ p ∈ NW, p ∈ R2 ++ NW := fun p hp => List.mem_append_right _ hp
  have inL : ∀ p ∈ R2, p ∈ R2 ++ NW := fun p hp => List.mem_append_left _ hp
  refine ⟨?_, ?_⟩
  · simp only [List.nodup_cons, List.mem_cons, not_or, List.mem_map, not_exists, not_and]
    refine ⟨⟨Nat.ne_of_gt t1, Nat.ne_of_gt t2, fun p hp e => Nat.lt_irrefl _ (e ▸ t7 p (inR p hp))⟩, ⟨Ne.symm q5, fun p hp e => q6 p (inR p hp) e⟩, fun p hp e => Nat.lt_irrefl _ (e ▸ o5 p (inR p hp)), hn1⟩
  · intro a ha x hx e
    subst e
    simp only [List.mem_cons, List.mem_map] at ha
    rcases ha with rfl | rfl | rfl | ⟨q, hq, rfl⟩
    · rcases hx with rfl | rfl | rfl | rfl | ⟨p, hp, e⟩
      · exact Nat.lt_irrefl _ t3
      · exact Nat.lt_irrefl _ t4
      · exact Nat.lt_irrefl _ t5
      · exact Nat.lt_irrefl _ t6
      · exact Nat.lt_irrefl _ (e ▸ t7 p (inL p hp))
    · rcases hx with rfl | rfl | rfl | rfl | ⟨p, hp, e⟩
      · exact q1 rfl
      · exact q2 rfl
      · exact q3 rfl
      · exact q4 rfl
      · exact q6 p (inL p hp) e
    · rcases hx with rfl | rfl | rfl | rfl | ⟨p, hp, e⟩
      · exact Nat.lt_irrefl _ o1
      · exact Nat.lt_irrefl _ o2
      · exact Nat.lt_irrefl _ o3
      · exact Nat.lt_irrefl _ o4
      · exact Nat.lt_irrefl _ (e ▸ o5 p (inL p hp))
    · obtain ⟨n1, n2, n3, n4⟩ := hn2 q hq
      rcases hx with h | h | h | h | ⟨p, hp, e⟩
      · exact Nat.lt_irrefl _ (h ▸ n1)
      · exact Nat.lt_irrefl _ (h ▸ n2)
      · exact Nat.lt_irrefl _ (h ▸ n3)
      · exact Nat.lt_irrefl _ (h ▸ n4)
      · have := hn3 q hq p hp
        rw [e] at this
        exact Nat.lt_irrefl _ this
theorem off1_mem {D : Addr} : ∀ {l : List (Addr × Obj)}, PyProof.Rows.LCg.Off1 D l → ∀ p ∈ l, p.1 ≠ D
  | [], _, _, hp => (nomatch hp)
  | q :: r, h, p, hp => by
    rcases List.mem_cons.mp hp with rfl | hp
    · exact h.1
    · exact off1_mem h.2 p hp
end
section
theorem nd_eq : ∀ {l : List (Addr × Obj)}, (l.map (·.1)).Nodup → ∀ {p q : Addr × Obj}, p ∈ l → q ∈ l → p.1 = q.1 → p = q
  | [], _, _, _, hp, _, _ => (nomatch hp)
  | a :: r, h, p, q, hp, hq, e => by
    rw [List.map_cons, List.nodup_cons] at h
    rcases List.mem_cons.mp hp with h1 | h1
    · rcases List.mem_cons.mp hq with h2 | h2
      · rw [h1, h2]
      · exact absurd (h1 ▸ e ▸ List.mem_map.mpr ⟨q, h2, rfl⟩ : a.1 ∈ r.map (·.1)) h.1
    · rcases List.mem_cons.mp hq with h2 | h2
      · exact absurd (h2 ▸ e ▸ List.mem_map.mpr ⟨p, h1, rfl⟩ : a.1 ∈ r.map (·.1)) h.1
      · exact nd_eq h.2 h1 h2 e
/-- the ledger without some places -/
def without (ks : List Addr) (l : List (Addr × Obj)) : List (Addr × Obj) := l.filter fun p => decide (p.1 ∉ ks)
theorem without_ne {ks : List Addr} {l : List (Addr × Obj)} {a : Addr} (ha : a ∈ ks) : ∀ p ∈ without ks l, p.1 ≠ a := fun p hp e => by
  have h := (List.mem_filter.mp hp).2
  exact (of_decide_eq_true h) (e ▸ ha)
theorem without_sub {ks : List Addr} {l : List (Addr × Obj)} : ∀ p ∈ without ks l, p ∈ l := fun _ hp => (List.mem_filter.mp hp).1
theorem without_mem {ks : List Addr} {l : List (Addr × Obj)} {p : Addr × Obj} (h : p ∈ l) (hn : p.1 ∉ ks) : p ∈ without ks l := List.mem_filter.mpr ⟨h, decide_eq_true hn⟩
theorem close_by {l l' out new : List (Addr × Obj)} {ks : List Addr} (nd' : (l'.map (·.1)).Nodup) (off' : ∀ q ∈ l', ∀ p ∈ out, q.1 ≠ p.1) (h : ∀ p ∈ l', p ∈ l ∨ p ∈ new) (hk : ∀ a ∈ ks, ∃ o, (a, o) ∈ new ∧ (a, o) ∈ l') : ∀ p ∈ l' ++ out, p ∈ new ++ without ks (l ++ out) := by
  intro p hp
  by_cases hks : p.1 ∈ ks
  · obtain ⟨o, h1, h2⟩ := hk _ hks
    rcases List.mem_append.mp hp with hp | hp
    · rw [nd_eq nd' hp h2 rfl]; exact List.mem_append_left _ h1
    · exact absurd rfl (off' _ h2 p hp)
  · rcases List.mem_append.mp hp with hp | hp
    · rcases h p hp with h | h
      · exact List.mem_append_right _ (without_mem (List.mem_append_left _ h) hks)
      · exact List.mem_append_left _ h
    · exact List.mem_append_right _ (without_mem (List.mem_append_right _ hp) hks)
theorem set_split {α : Type} : ∀ {l : List α} {j : Nat} {x : α}, l[j]? = some x → ∃ pre post, l = pre ++ x :: post ∧ ∀ y, l.set j y = pre ++ y :: post
  | [], _, _, h => by simp at h
  | a :: r, 0, x, h => ⟨[], r, by simpa using h, fun y => rfl⟩
  | a :: r, j + 1, x, h => by
    obtain ⟨pre, post, h1, h2⟩ := set_split (l := r) (j := j) (x := x) (by simpa using h)
    exact ⟨a :: pre, post, by rw [h1]; rfl, fun y => by rw [List.set_cons_succ, h2]; rfl⟩
theorem framesLed_cons (cs : List Ce) (f : Fm) (r : List Fm) : framesLed cs (f :: r) = fmLed cs f ++ framesLed cs r := List.flatMap_cons
theorem cellsLed_cons (w : World) (x : Ce) (r : List Ce) : cellsLed w (x :: r) = cellLed w x ++ cellsLed w r := List.flatMap_cons
theorem renew_sub {α : Type} {b fl ml vl vl' l fa fd ca ca' ua ta oa oa' ka c d : α} {FP FQ CS : List α} : ∀ p ∈ b :: fl :: ml :: vl' :: l :: ((FP ++ ([fa, fd, ca', ua, ta, oa', ka] ++ FQ)) ++ (CS ++ [c, d])), p ∈ b :: fl :: ml :: vl :: l :: ((FP ++ ([fa, fd, ca, ua, ta, oa, ka] ++ FQ)) ++ CS) ∨ p ∈ [c, d, ca', oa', vl'] := by
  have q : ∀ p ∈ [fa, fd, ca, ua, ta, oa, ka], p ∈ b :: fl :: ml :: vl :: l :: ((FP ++ ([fa, fd, ca, ua, ta, oa, ka] ++ FQ)) ++ CS) ∨ p ∈ [c, d, ca', oa', vl'] := fun _ h => .inl (.tail _ (.tail _ (.tail _ (.tail _ (.tail _ (List.mem_append_left _ (List.mem_append_right _ (List.mem_append_left _ h))))))))
  refine con_all (.inl (.head _)) (con_all (.inl (.tail _ (.head _))) (con_all (.inl (.tail _ (.tail _ (.head _)))) (con_all (.inr (.tail _ (.tail _ (.tail _ (.tail _ (.head _)))))) (con_all (.inl (.tail _ (.tail _ (.tail _ (.tail _ (.head _)))))) (app_all (app_all (fun _ h => .inl (.tail _ (.tail _ (.tail _ (.tail _ (.tail _ (List.mem_append_left _ (List.mem_append_left _ h)))))))) (app_all ?_ fun _ h => .inl (.tail _ (.tail _ (.tail _ (.tail _ (.tail _ (List.mem_append_left _ (List.mem_append_right _ (List.mem_append_right _ h)))))))))) (app_all (fun _ h => .inl (.tail _ (.tail _ (.tail _ (.tail _ (.tail _ (List.mem_append_right _ h))))))) ?_))))))
  · exact con_all (q _ (.head _)) (con_all (q _ (.tail _ (.head _))) (con_all (.inr (.tail _ (.tail _ (.head _)))) (con_all (q _ (.tail _ (.tail _ (.tail _ (.head _))))) (con_all (q _ (.tail _ (.tail _ (.tail _ (.tail _ (.head _)))))) (con_all (.inr (.tail _ (.tail _ (.tail _ (.head _))))) (con_all (q _ (.tail _ (.tail _ (.tail _ (.tail _ (.tail _ (.tail _ (.head _)))))))) (List.forall_mem_nil _)))))))
  · exact con_all (.inr (.head _)) (con_all (.inr (.tail _ (.head _))) (List.forall_mem_nil _))
theorem cell_sub {α : Type} {b fl ml vl l c d d' : α} {F P Q : List α} : ∀ p ∈ b :: fl :: ml :: vl :: l :: (F ++ (P ++ ([c, d'] ++ Q))), p ∈ b :: fl :: ml :: vl :: l :: (F ++ (P ++ ([c, d] ++ Q))) ∨ p ∈ [d'] :=
  con_all (.inl (.head _)) (con_all (.inl (.tail _ (.head _))) (con_all (.inl (.tail _ (.tail _ (.head _)))) (con_all (.inl (.tail _ (.tail _ (.tail _ (.head _))))) (con_all (.inl (.tail _ (.tail _ (.tail _ (.tail _ (.head _)))))) (app_all (fun _ h => .inl (.tail _ (.tail _ (.tail _ (.tail _ (.tail _ (List.mem_append_left _ h))))))) (app_all (fun _ h => .inl (.tail _ (.tail _ (.tail _ (.tail _ (.tail _ (List.mem_append_right _ (List.mem_append_left _ h)))))))) (app_all (con_all (.inl (.tail _ (.tail _ (.tail _ (.tail _ (.tail _ (List.mem_append_right _ (List.mem_append_right _ (List.mem_append_left _ (.head _)))))))))) (con_all (.inr (.head _)) (List.forall_mem_nil _))) fun _ h => .inl (.tail _ (.tail _ (.tail _ (.tail _ (.tail _ (List.mem_append_right _ (List.mem_append_right _ (List.mem_append_right _ h)))))))))))))))
theorem renew_close {w : World} {X : Fx} {S : St} {out : List (Addr × Obj)} (I : Inv w X S out) {f : Fm} (hf : f ∈ S.frames) {k : Nat} (hk : k < f.own.length) {x : Ce} (hxv : x.v = .none) (hne : x.c ≠ x.d)
    (hna : ∀ a ∈ [x.c, x.d], ∀ p ∈ led w X S ++ out, p.1 ≠ a) (t : Tok) (nv' : Nat) :
    ∃ S', Inv w X S' out ∧ (Vals S → Vals S') ∧ S'.frames.length = S.frames.length ∧ S'.cs.length = S.cs.length + 1 ∧
      ∀ p ∈ led w X S' ++ out, p ∈ [(x.c, x.inst), (x.d, x.dict w), (f.ca, PySem.W.listOf ((crefs S.cs f.own).set k (.ref x.c)).toArray f.nc), (f.oa, PySem.W.listOf ((intsV f.own).set k (.int S.vals.length t)).toArray f.no), (X.vl, PySem.W.listOf (S.vals ++ [Value.none]).toArray nv')] ++ without [f.ca, f.oa, X.vl] (led w X S ++ out) := by
  obtain ⟨pre, post, hS⟩ := List.append_of_mem hf
  obtain ⟨ok1, ok2, ok7, ok3, ok4, ok5, ok6⟩ := I.fm f hf
  let f' : Fm := { f with own := f.own.set k (S.vals.length, t) }
  have eown : crefs (S.cs ++ [x]) f'.own = (crefs S.cs f.own).set k (.ref x.c) := by
    show crefs (S.cs ++ [x]) (f.own.set k (S.vals.length, t)) = _
    have e1 : crefs (S.cs ++ [x]) f.own = crefs S.cs f.own := crefs_append ok3
    rw [← e1]
    unfold crefs
    rw [List.map_set]
    have e2 : cref (S.cs ++ [x]) S.vals.length = .ref x.c := by
      unfold cref
      rw [I.len, List.getElem?_append_right (Nat.le_refl _), Nat.sub_self]; rfl
    rw [e2]
  have eint : intsV f'.own = (intsV f.own).set k (.int S.vals.length t) := by
    show intsV (f.own.set k (S.vals.length, t)) = _
    unfold intsV; rw [List.map_set]
  have ekept : crefs (S.cs ++ [x]) f'.kept = crefs S.cs f.kept := crefs_append ok4
  have efr : ∀ g ∈ S.frames, fmLed (S.cs ++ [x]) g = fmLed S.cs g := fun g hg => by
    obtain ⟨_, _, _, g3, g4, _⟩ := I.fm g hg
    exact fmLed_congr (crefs_append g3) (crefs_append g4)
  have hpre : framesLed (S.cs ++ [x]) pre = framesLed S.cs pre := framesLed_congr fun g hg => efr g (by rw [hS]; exact List.mem_append_left _ hg)
  have hpost : framesLed (S.cs ++ [x]) post = framesLed S.cs post := framesLed_congr fun g hg => efr g (by rw [hS]; exact List.mem_append_right _ (.tail _ hg))
  let S' : St := { ob := S.ob, frames := pre ++ f' :: post, cs := S.cs ++ [x], vals := S.vals ++ [.none], nfl := S.nfl, nml := S.nml, nvl := nv' }
  have eFL : FLv S'.frames = FLv S.frames := by show FLv (pre ++ f' :: post) = _; rw [hS]; unfold FLv; rw [List.map_append, List.map_append]; rfl
  have eML : MLv S'.frames = MLv S.frames := by show MLv (pre ++ f' :: post) = _; rw [hS]; unfold MLv; rw [List.map_append, List.map_append]; rfl
  have erest : restL w X S'.frames S'.cs = (X.l, PySem.W.listOf X.vs.toArray X.nl) :: ((framesLed S.cs pre ++ (fmLed (S.cs ++ [x]) f' ++ framesLed S.cs post)) ++ (cellsLed w S.cs ++ cellLed w x)) := by
    show (X.l, _) :: (framesLed (S.cs ++ [x]) (pre ++ f' :: post) ++ cellsLed w (S.cs ++ [x])) = _
    rw [framesLed_append, framesLed_cons, hpre, hpost, cellsLed_append, cellsLed_one]; rfl
  have erest0 : restL w X S.frames S.cs = (X.l, PySem.W.listOf X.vs.toArray X.nl) :: ((framesLed S.cs pre ++ (fmLed S.cs f ++ framesLed S.cs post)) ++ cellsLed w S.cs) := by
    unfold restL
    rw [hS, framesLed_append, framesLed_cons]
  have efm : fmLed (S.cs ++ [x]) f' = [(f.fa, instObj 59 f.fd), (f.fd, PySem.W.dictOf f.fes f.nf), (f.ca, PySem.W.listOf ((crefs S.cs f.own).set k (.ref x.c)).toArray f.nc), (f.ua, PySem.W.listOf (crefs S.cs f.kept).toArray f.nu),
      (f.ta, (⟨.type "tuple", none, .seq #[.ref f.oa, .ref f.ka] f.nt, #[]⟩ : Obj)), (f.oa, PySem.W.listOf ((intsV f.own).set k (.int S.vals.length t)).toArray f.no), (f.ka, PySem.W.listOf (intsV f.kept).toArray f.nk)] := by
    unfold fmLed; rw [eown, ekept, eint]
  have e0 : led w X S' = (X.b, S.ob) :: (X.fl, PySem.W.listOf (FLv S.frames).toArray S.nfl) :: (X.ml, PySem.W.listOf (MLv S.frames).toArray S.nml) :: (X.vl, PySem.W.listOf (S.vals ++ [Value.none]).toArray nv') :: restL w X S'.frames S'.cs := by
    unfold led; rw [eFL, eML]
  have hperm : ((led w X S').map (·.1)).Perm ((led w X S).map (·.1) ++ [x.c, x.d]) := by
    rw [List.perm_iff_count]
    intro a
    rw [e0, erest, efm]
    unfold led
    rw [erest0]
    unfold fmLed cellLed
    simp only [List.map_cons, List.map_append, List.map_nil, List.count_cons, List.count_append, List.count_nil, List.cons_append, List.nil_append]
    omega
  have hdis : ∀ a ∈ (led w X S).map (·.1), ∀ b ∈ [x.c, x.d], a ≠ b := by
    intro a ha b hb
    obtain ⟨p, hp, rfl⟩ := List.mem_map.mp ha
    exact hna b hb p (List.mem_append_left _ hp)
  have hnd : ((led w X S').map (·.1)).Nodup := (hperm.nodup_iff).mpr (List.nodup_append.mpr ⟨I.nd, by simp [hne], hdis⟩)
  have hoff : ∀ q ∈ led w X S', ∀ p ∈ out, q.1 ≠ p.1 := by
    intro q hq' p hp e
    have h1 : q.1 ∈ (led w X S').map (·.1) := List.mem_map.mpr ⟨q, hq', rfl⟩
    rcases List.mem_append.mp ((hperm.mem_iff).mp h1) with h | h
    · obtain ⟨r, hr, e2⟩ := List.mem_map.mp h
      exact I.off r hr p hp (e2.trans e)
    · exact hna _ h p (List.mem_append_right _ hp) e.symm
  refine ⟨S', ⟨I.box, hnd, hoff, ?_, ?_, I.ia, I.few⟩, ?_, ?_, ?_, ?_⟩
  · intro g hg
    have hg' : g ∈ pre ++ f' :: post := hg
    show FmOk (S.cs ++ [x]).length g
    have old : ∀ g ∈ S.frames, FmOk (S.cs ++ [x]).length g := fun g hg => by
      obtain ⟨g1, g2, g7, g3, g4, g5, g6⟩ := I.fm g hg
      exact ⟨g1, g2, g7, fun p hp => by have := g3 p hp; rw [List.length_append]; omega, fun p hp => by have := g4 p hp; rw [List.length_append]; omega, g5, g6⟩
    rcases List.mem_append.mp hg' with hg' | hg'
    · exact old g (by rw [hS]; exact List.mem_append_left _ hg')
    · rcases List.mem_cons.mp hg' with rfl | hg'
      · obtain ⟨g1, g2, g7, g3, g4, g5, g6⟩ := old f hf
        refine ⟨g1, g2, g7, fun p hp => ?_, g4, by show (f.own.set k _).length ≤ 2; rw [List.length_set]; exact g5, g6⟩
        rcases List.mem_or_eq_of_mem_set (show p ∈ f.own.set k (S.vals.length, t) from hp) with h | rfl
        · exact g3 p h
        · show S.vals.length < _
          rw [List.length_append, I.len]; simp
      · exact old g (by rw [hS]; exact List.mem_append_right _ (.tail _ hg'))
  · show (S.vals ++ [Value.none]).length = (S.cs ++ [x]).length
    rw [List.length_append, List.length_append, I.len]; rfl
  · intro hV j y v hy hv
    change (S.cs ++ [x])[j]? = some y at hy
    change (S.vals ++ [Value.none])[j]? = some v at hv
    by_cases hj : j < S.cs.length
    · rw [List.getElem?_append_left hj] at hy
      rw [List.getElem?_append_left (by rw [I.len]; exact hj)] at hv
      exact hV j y v hy hv
    · rw [List.getElem?_append_right (by omega)] at hy
      rw [List.getElem?_append_right (by rw [I.len]; omega)] at hv
      have h1 := List.mem_singleton.mp (List.mem_of_getElem? hy)
      have h2 := List.mem_singleton.mp (List.mem_of_getElem? hv)
      rw [h1, h2, hxv]; trivial
  · show (pre ++ f' :: post).length = _
    rw [hS]; simp
  · show (S.cs ++ [x]).length = _
    simp
  · refine close_by hnd hoff ?_ ?_
    · rw [e0, erest, efm]
      unfold led
      rw [erest0]
      unfold fmLed cellLed
      exact renew_sub
    · rw [e0, erest, efm]
      have q : ∀ p ∈ [(f.fa, instObj 59 f.fd), (f.fd, PySem.W.dictOf f.fes f.nf), (f.ca, PySem.W.listOf ((crefs S.cs f.own).set k (.ref x.c)).toArray f.nc), (f.ua, PySem.W.listOf (crefs S.cs f.kept).toArray f.nu), (f.ta, (⟨.type "tuple", none, .seq #[.ref f.oa, .ref f.ka] f.nt, #[]⟩ : Obj)), (f.oa, PySem.W.listOf ((intsV f.own).set k (.int S.vals.length t)).toArray f.no), (f.ka, PySem.W.listOf (intsV f.kept).toArray f.nk)],
          p ∈ (X.b, S.ob) :: (X.fl, PySem.W.listOf (FLv S.frames).toArray S.nfl) :: (X.ml, PySem.W.listOf (MLv S.frames).toArray S.nml) :: (X.vl, PySem.W.listOf (S.vals ++ [Value.none]).toArray nv') :: (X.l, PySem.W.listOf X.vs.toArray X.nl) :: ((framesLed S.cs pre ++ ([(f.fa, instObj 59 f.fd), (f.fd, PySem.W.dictOf f.fes f.nf), (f.ca, PySem.W.listOf ((crefs S.cs f.own).set k (.ref x.c)).toArray f.nc), (f.ua, PySem.W.listOf (crefs S.cs f.kept).toArray f.nu), (f.ta, (⟨.type "tuple", none, .seq #[.ref f.oa, .ref f.ka] f.nt, #[]⟩ : Obj)), (f.oa, PySem.W.listOf ((intsV f.own).set k (.int S.vals.length t)).toArray f.no), (f.ka, PySem.W.listOf (intsV f.kept).toArray f.nk)] ++ framesLed S.cs post)) ++ (cellsLed w S.cs ++ cellLed w x)) :=
        fun _ h => .tail _ (.tail _ (.tail _ (.tail _ (.tail _ (List.mem_append_left _ (List.mem_append_right _ (List.mem_append_left _ h)))))))
      exact con_all ⟨_, .tail _ (.tail _ (.head _)), q _ (.tail _ (.tail _ (.head _)))⟩ (con_all ⟨_, .tail _ (.tail _ (.tail _ (.head _))), q _ (.tail _ (.tail _ (.tail _ (.tail _ (.tail _ (.head _))))))⟩ (con_all ⟨_, .tail _ (.tail _ (.tail _ (.tail _ (.head _)))), .tail _ (.tail _ (.tail _ (.head _)))⟩ (List.forall_mem_nil _)))
/-- a cell gets a value -/
def St.cell (S : St) (j : Nat) (x : Ce) (v : Value) : St := { S with cs := S.cs.set j { x with v := v } }
/-- a variable gets a value -/
def St.var (S : St) (j : Nat) (v : Value) : St := { S with vals := S.vals.set j v }
theorem cell_close {w : World} {X : Fx} {S : St} {out : List (Addr × Obj)} (I : Inv w X S out) {j : Nat} {x : Ce} (hx : S.cs[j]? = some x) (v : Value) :
    Inv w X (S.cell j x v) out ∧ ∀ p ∈ led w X (S.cell j x v) ++ out, p ∈ [(x.d, ({ x with v := v } : Ce).dict w)] ++ without [x.d] (led w X S ++ out) := by
  obtain ⟨pre, post, hS, hset⟩ := set_split hx
  have efr : framesLed (S.cell j x v).cs (S.cell j x v).frames = framesLed S.cs S.frames := framesLed_congr fun g hg => fmLed_congr (crefs_set hx v _) (crefs_set hx v _)
  have ec : (S.cell j x v).cs = pre ++ { x with v := v } :: post := hset _
  have erest : restL w X (S.cell j x v).frames (S.cell j x v).cs = (X.l, PySem.W.listOf X.vs.toArray X.nl) :: (framesLed S.cs S.frames ++ (cellsLed w pre ++ (cellLed w { x with v := v } ++ cellsLed w post))) := by
    unfold restL
    rw [efr, ec, cellsLed_append, cellsLed_cons]
  have erest0 : restL w X S.frames S.cs = (X.l, PySem.W.listOf X.vs.toArray X.nl) :: (framesLed S.cs S.frames ++ (cellsLed w pre ++ (cellLed w x ++ cellsLed w post))) := by
    have : cellsLed w S.cs = cellsLed w pre ++ (cellLed w x ++ cellsLed w post) := by rw [hS, cellsLed_append, cellsLed_cons]
    unfold restL
    rw [this]
  have e0 : led w X (S.cell j x v) = (X.b, S.ob) :: (X.fl, PySem.W.listOf (FLv S.frames).toArray S.nfl) :: (X.ml, PySem.W.listOf (MLv S.frames).toArray S.nml) :: (X.vl, PySem.W.listOf S.vals.toArray S.nvl) :: restL w X (S.cell j x v).frames (S.cell j x v).cs := rfl
  have hkeys : (led w X (S.cell j x v)).map (·.1) = (led w X S).map (·.1) := by
    rw [e0, erest]
    unfold led
    rw [erest0]
    unfold cellLed
    simp only [List.map_cons, List.map_append, List.map_nil]
  have hnd : ((led w X (S.cell j x v)).map (·.1)).Nodup := by rw [hkeys]; exact I.nd
  have hoff : ∀ q ∈ led w X (S.cell j x v), ∀ p ∈ out, q.1 ≠ p.1 := by
    intro q hq p hp e
    have h1 : q.1 ∈ (led w X S).map (·.1) := hkeys ▸ List.mem_map.mpr ⟨q, hq, rfl⟩
    obtain ⟨r, hr, e2⟩ := List.mem_map.mp h1
    exact I.off r hr p hp (e2.trans e)
  have hlen : (S.cell j x v).cs.length = S.cs.length := List.length_set ..
  refine ⟨⟨I.box, hnd, hoff, fun g hg => by rw [hlen]; exact I.fm g hg, by rw [hlen]; exact I.len, I.ia, I.few⟩, close_by hnd hoff ?_ ?_⟩
  · rw [e0, erest]
    unfold led
    rw [erest0]
    unfold cellLed
    exact cell_sub
  · intro a ha
    rw [List.mem_singleton.mp ha]
    refine ⟨_, .head _, ?_⟩
    rw [e0, erest]
    unfold cellLed
    exact .tail _ (.tail _ (.tail _ (.tail _ (.tail _ (List.mem_append_right _ (List.mem_append_right _ (List.mem_append_left _ (.tail _ (.head _)))))))))
theorem var_close {w : World} {X : Fx} {S : St} {out : List (Addr × Obj)} (I : Inv w X S out) (j : Nat) (v : Value) : Inv w X (S.var j v) out := by
  have hkeys : (led w X (S.var j v)).map (·.1) = (led w X S).map (·.1) := rfl
  refine ⟨I.box, hkeys ▸ I.nd, ?_, I.fm, by show (S.vals.set j v).length = _; rw [List.length_set]; exact I.len, I.ia, I.few⟩
  intro q hq p hp e
  have h1 : q.1 ∈ (led w X S).map (·.1) := hkeys ▸ List.mem_map.mpr ⟨q, hq, rfl⟩
  obtain ⟨r, hr, e2⟩ := List.mem_map.mp h1
  exact I.off r hr p hp (e2.trans e)
theorem vals_write {S : St} (hV : Vals S) {j : Nat} {x : Ce} (hx : S.cs[j]? = some x) {a : Str} (t t' : Tok) (hs : PyData.strOk a = true) : Vals ((S.cell j x (.str a t)).var j (.str a t')) := by
  intro i y v hy hv
  change (S.cs.set j { x with v := .str a t })[i]? = some y at hy
  change (S.vals.set j (.str a t'))[i]? = some v at hv
  by_cases e : j = i
  · subst e
    have hy' := List.mem_of_getElem? hy
    rw [List.getElem?_set] at hy hv
    simp only [if_true] at hy hv
    split at hy
    · split at hv
      · rw [← Option.some.inj hy, ← Option.some.inj hv]; exact ⟨rfl, hs⟩
      · cases hv
    · cases hy
  · rw [List.getElem?_set_ne e] at hy hv
    exact hV i y v hy hv
def plainV (v : Value) : Prop := v = .none ∨ ∃ x t, v = .str x t ∧ PyData.strOk x = true
def datV : Value → Dat
  | .str x _ => .str x
  | _ => .none
theorem datV_in {news : List (Addr × Obj)} {v : Value} (h : plainV v) : DatIn news v (datV v) := by
  rcases h with rfl | ⟨x, t, rfl, _⟩
  · exact .none
  · exact .str x t
theorem datV_ok {v : Value} (h : plainV v) (n : Nat) : kqdOk n (datV v) = true := by
  rcases h with rfl | ⟨x, t, rfl, hx⟩
  · cases n <;> rfl
  · cases n <;> exact hx
theorem sameV_plain {v u : Value} (h : sameV v u) : plainV v ∧ plainV u ∧ datV v = datV u := by
  unfold sameV at h
  split at h
  · exact ⟨.inl rfl, .inl rfl, rfl⟩
  · obtain ⟨rfl, h⟩ := h
    exact ⟨.inr ⟨_, _, rfl, h⟩, .inr ⟨_, _, rfl, h⟩, rfl⟩
  · exact h.elim
def cval (cs : List Ce) (j : Nat) : Value := match cs[j]? with
  | some x => x.v
  | none => .none
def seenD (cs : List Ce) (f : Fm) : Dat := .tuple [.list (f.own.map fun p => datV (cval cs p.1)), .list (f.kept.map fun p => datV (cval cs p.1))]
def knownD (vals : List Value) (f : Fm) : Dat := .tuple [.list (f.own.map fun p => datV (vals.getD p.1 .none)), .list (f.kept.map fun p => datV (vals.getD p.1 .none))]
theorem vals_cs {w : World} {X : Fx} {S : St} {out : List (Addr × Obj)} (I : Inv w X S out) (hV : Vals S) : (∀ x ∈ S.cs, plainV x.v) ∧ (∀ v ∈ S.vals, plainV v) ∧ ∀ j, j < S.cs.length → datV (cval S.cs j) = datV (S.vals.getD j .none) := by
  have key : ∀ j, j < S.cs.length → ∃ x v, S.cs[j]? = some x ∧ S.vals[j]? = some v ∧ sameV v x.v := fun j hj => ⟨_, _, List.getElem?_eq_getElem hj, List.getElem?_eq_getElem (I.len ▸ hj), hV j _ _ (List.getElem?_eq_getElem hj) (List.getElem?_eq_getElem (I.len ▸ hj))⟩
  refine ⟨fun x hx => ?_, fun v hv => ?_, fun j hj => ?_⟩
  · obtain ⟨j, hj, rfl⟩ := List.getElem_of_mem hx
    obtain ⟨y, v, h1, _, h3⟩ := key j hj
    rw [List.getElem?_eq_getElem hj] at h1
    rw [Option.some.inj h1]; exact (sameV_plain h3).2.1
  · obtain ⟨j, hj, rfl⟩ := List.getElem_of_mem hv
    obtain ⟨y, v, _, h2, h3⟩ := key j (I.len ▸ hj)
    rw [List.getElem?_eq_getElem hj] at h2
    rw [Option.some.inj h2]; exact (sameV_plain h3).1
  · obtain ⟨y, v, h1, h2, h3⟩ := key j hj
    unfold cval
    rw [h1, List.getD_eq_getElem?_getD, h2]
    exact (sameV_plain h3).2.2.symm
theorem seen_known {w : World} {X : Fx} {S : St} {out : List (Addr × Obj)} (I : Inv w X S out) (hV : Vals S) : S.frames.map (seenD S.cs) = S.frames.map (knownD S.vals) := by
  refine List.map_congr_left fun f hf => ?_
  obtain ⟨_, _, _, h3, h4, _⟩ := I.fm f hf
  have k := (vals_cs I hV).2.2
  unfold seenD knownD
  rw [List.map_congr_left fun p hp => k p.1 (h3 p hp), List.map_congr_left fun p hp => k p.1 (h4 p hp)]
theorem seen_ok {w : World} {X : Fx} {S : St} {out : List (Addr × Obj)} (I : Inv w X S out) (hV : Vals S) : ∀ d ∈ S.frames.map (seenD S.cs), kqdOk 8 d = true := by
  intro d hd
  obtain ⟨f, hf, rfl⟩ := List.mem_map.mp hd
  obtain ⟨_, _, _, h3, h4, _⟩ := I.fm f hf
  have k := (vals_cs I hV).1
  have hc : ∀ j, plainV (cval S.cs j) := fun j => by
    unfold cval
    split
    · exact k _ (List.mem_of_getElem? ‹_›)
    · exact .inl rfl
  unfold seenD
  simp only [kqdOk, List.all_cons, List.all_nil, Bool.and_true, Bool.and_eq_true, List.all_map, List.all_eq_true, Function.comp]
  exact ⟨fun p _ => datV_ok (hc _) _, fun p _ => datV_ok (hc _) _⟩
end
section
theorem pairs_says {w : World} {b l : Addr} {vs : List Value} {ns : List Int} {nn : Nat} {ob : Obj} {rest : List (Addr × Obj)} {own kept : Nat} {to tk₀ : Tok} (hbl : @Ne Nat b l) (hi : IntsAre vs ns) (hlen : ns.length ≤ 40) (hB : IsBox l ob) (hl : (l, PySem.W.listOf vs.toArray nn) ∈ rest) (hr : ∀ p ∈ rest, p.1 ≠ b)
   (ho : own < 1000) (hk₀ : kept < 1000) :
  Says w 112 [.ref b, .int own to, .int kept tk₀] 16 200 ((b, ob) :: rest)
   (fun r news' => ∃ P tl ob' qs n, r = .ref P ∧ IsBox l ob' ∧ news' = (b, ob') :: (rest ++ (P, PySem.W.listOf (qs.map fun q => Value.ref q.a).toArray n) :: tl) ∧ qs.length ≤ 3 ∧ PairsAre own kept tl qs ∧ (∀ q ∈ (P, PySem.W.listOf (qs.map fun q => Value.ref q.a).toArray n) :: tl, ∀ p ∈ (b, ob) :: rest, p.1 < q.1)) := by
  refine (pairs0 w b l hbl vs ns hi hlen nn ob hB rest hl hr own kept to tk₀ ho hk₀).weaken (fun _ h => h) ?_
  rintro r nx ⟨P, tl, ob', qs, n, rfl, hB', rfl, hq, hP, h1, h2⟩
  refine ⟨_, ?_, P, tl, ob', qs, n, rfl, hB', rfl, hq, hP, ?_⟩
  · intro p hp
    simp only [List.mem_cons, List.mem_append] at hp ⊢
    rcases hp with h | h | h | h
    · exact .inr (.inl h)
    · exact .inr (.inr (.inr h))
    · exact .inl h
    · exact .inr (.inr (.inl h))
  · intro q hq p hp
    rcases List.mem_cons.mp hq with rfl | hq
    · exact h2 p hp
    · exact h1 q hq p hp
def Stop (p : Prop) : Prop := p
theorem stop_at {M : Model} {A : Around} {E : Value → Shared → Prop} {s : Shared} {vs : List Value} {Q : Value → Shared → Prop} (n : Addr) (h : Stop (wpAny M A (call (.ref n) vs) Q E s)) : wpAny M A (call (.ref n) vs) Q E s := h
theorem stop_comp {M : Model} {A : Around} {E : Value → Shared → Prop} {s : Shared} {a b c d} {env : Env} {Q : Value → Shared → Prop} (h : Stop (wpAny M A (eval (.ListComp a b c d) env) Q E s)) : wpAny M A (eval (.ListComp a b c d) env) Q E s := h
theorem reorder1 {h₀ : Heap} {L : Addr} {h : Heap} {t c b : Addr × Obj} {rest : List (Addr × Obj)} (N : News h₀ L h (t :: c :: b :: rest)) : News h₀ L h (b :: c :: rest) := fun p hp => N p (by
  rcases List.mem_cons.mp hp with rfl | hp
  · exact .tail _ (.tail _ (.head _))
  · rcases List.mem_cons.mp hp with rfl | hp
    · exact .tail _ (.head _)
    · exact .tail _ (.tail _ (.tail _ hp)))
theorem reorder2 {h₀ : Heap} {L : Addr} {h : Heap} {x d b c fl ml vl : Addr × Obj} {rest : List (Addr × Obj)} (N : News h₀ L h (x :: d :: b :: c :: fl :: ml :: vl :: rest)) : News h₀ L h (b :: c :: fl :: ml :: vl :: x :: d :: rest) :=
  news_sub N (con_all (.tail _ (.tail _ (.head _))) (con_all (.tail _ (.tail _ (.tail _ (.head _)))) (con_all (.tail _ (.tail _ (.tail _ (.tail _ (.head _))))) (con_all (.tail _ (.tail _ (.tail _ (.tail _ (.tail _ (.head _)))))) (con_all (.tail _ (.tail _ (.tail _ (.tail _ (.tail _ (.tail _ (.head _))))))) (con_all (.head _) (con_all (.tail _ (.head _)) (fun _ h => .tail _ (.tail _ (.tail _ (.tail _ (.tail _ (.tail _ (.tail _ (h)))))))))))))))
theorem unit_upd {ux ud : Addr} {od : Obj} {l7 b c fl ml vl : Addr} {b' c' fl' ml' vl' : Obj} {R2 : List (Addr × Obj)} (hl : @LT.lt Nat _ l7 ud ∧ @LT.lt Nat _ b ud ∧ @LT.lt Nat _ c ud ∧ @LT.lt Nat _ fl ud ∧ @LT.lt Nat _ ml ud ∧ @LT.lt Nat _ vl ud ∧ AllLt ud R2) (h2 : @LT.lt Nat _ ud ux) :
    UpdF ud od ((ux, instObj 94 ud) :: (ud, od) :: (b, b') :: (c, c') :: (fl, fl') :: (ml, ml') :: (vl, vl') :: R2) (fun o => (ux, instObj 94 ud) :: (ud, o) :: (b, b') :: (c, c') :: (fl, fl') :: (ml, ml') :: (vl, vl') :: R2) :=
  .tail (Nat.ne_of_gt h2) (.head (con_all (Nat.ne_of_lt hl.2.1) (con_all (Nat.ne_of_lt hl.2.2.1) (con_all (Nat.ne_of_lt hl.2.2.2.1) (con_all (Nat.ne_of_lt hl.2.2.2.2.1) (con_all (Nat.ne_of_lt hl.2.2.2.2.2.1) fun p hp => Nat.ne_of_lt (allLt_all hl.2.2.2.2.2.2 p hp)))))))
theorem drop_tl {h₀ : Heap} {L : Addr} {h : Heap} {t x d l7 : Addr × Obj} {rest : List (Addr × Obj)} (N : News h₀ L h (t :: x :: d :: l7 :: rest)) : News h₀ L h (x :: d :: rest) :=
  news_sub N (con_all (.tail _ (.head _)) (con_all (.tail _ (.tail _ (.head _))) (fun _ h => .tail _ (.tail _ (.tail _ (.tail _ (h)))))))
theorem frame_says {w : World} {rest : List (Addr × Obj)} {ux ud ua : Addr} {es : List DictEntry} {ne : Nat} {k : Int} {t0 tk₀ : Tok} (h1 : (ux, instObj 94 ud) ∈ rest) (h2 : (ud, PySem.W.dictOf es ne) ∈ rest) (h3 : getL (Str.ofString "local_count") es = some (some (.int 0 t0))) (h4 : getL (Str.ofString "cell_count") es = some (some (.int k tk₀)))
   (hk0 : 0 ≤ k) (hk1 : k < 1000) :
  Says w 59 [.ref ux, .ref ua, .none] 24 300 rest
   (fun r news' => ∃ fx fd fes n C cs nc, r = .ref fx ∧ news' = (fx, instObj 59 fd) :: (fd, PySem.W.dictOf fes n) :: (rest ++ (C, PySem.W.listOf (cs.map fun x => Value.ref x.c).toArray nc) :: cellsLed w cs) ∧ cs.length = k.toNat ∧ (∀ x ∈ cs, x.v = .none) ∧
     getL (Str.ofString "cells") fes = some (some (.ref C)) ∧ getL (Str.ofString "ups") fes = some (some (.ref ua)) ∧ getL (Str.ofString "put") fes = some none ∧ FreshL ((fx, instObj 59 fd) :: (fd, PySem.W.dictOf fes n) :: (C, PySem.W.listOf (cs.map fun x => Value.ref x.c).toArray nc) :: cellsLed w cs) rest) := frame0 w rest ux ud ua es ne k t0 tk₀ h1 h2 h3 h4 hk0 hk1
theorem new_above {fx fd C : Addr × Obj} {U : Addr} {oU : Obj} {cl old : List (Addr × Obj)} (hU : ∀ p ∈ old, p.1 < U) (hff : FreshL (fx :: fd :: C :: cl) ((U, oU) :: old)) : ∀ q ∈ fx :: fd :: (U, oU) :: C :: cl, ∀ p ∈ old, p.1 < q.1 := by
  have k : ∀ q ∈ fx :: fd :: C :: cl, ∀ p ∈ old, p.1 < q.1 := fun q hq p hp => hff.2 q hq p (.tail _ hp)
  exact con_all (k _ (.head _)) (con_all (k _ (.tail _ (.head _))) (con_all hU (con_all (k _ (.tail _ (.tail _ (.head _)))) fun q hq => k q (.tail _ (.tail _ (.tail _ hq))))))
theorem stop_set {M : Model} {A : Around} {E : Value → Shared → Prop} {s : Shared} {v u : Value} {n : Str} {Q : Unit → Shared → Prop} (h : Stop (wpAny M A (setAttr v n u) Q E s)) : wpAny M A (setAttr v n u) Q E s := h
theorem stop_it {M : Model} {A : Around} {E : Value → Shared → Prop} {s : Shared} {v : Value} {Q : Value → Shared → Prop} (h : Stop (wpAny M A (pyIter v) Q E s)) : wpAny M A (pyIter v) Q E s := h
theorem reorder3 {h₀ : Heap} {L : Addr} {h : Heap} {fx fd U b c fl ml vl ux ud : Addr × Obj} {R2 NC : List (Addr × Obj)} (N : News h₀ L h (fx :: fd :: (U :: b :: c :: fl :: ml :: vl :: ux :: ud :: R2 ++ NC))) : News h₀ L h (b :: c :: fl :: ml :: vl :: ux :: ud :: (R2 ++ (fx :: fd :: U :: NC))) :=
  news_sub N (con_all (.tail _ (.tail _ (List.mem_append_left _ (.tail _ (.head _))))) (con_all (.tail _ (.tail _ (List.mem_append_left _ (.tail _ (.tail _ (.head _)))))) (con_all (.tail _ (.tail _ (List.mem_append_left _ (.tail _ (.tail _ (.tail _ (.head _))))))) (con_all (.tail _ (.tail _ (List.mem_append_left _ (.tail _ (.tail _ (.tail _ (.tail _ (.head _)))))))) (con_all (.tail _ (.tail _ (List.mem_append_left _ (.tail _ (.tail _ (.tail _ (.tail _ (.tail _ (.head _))))))))) (con_all (.tail _ (.tail _ (List.mem_append_left _ (.tail _ (.tail _ (.tail _ (.tail _ (.tail _ (.tail _ (.head _)))))))))) (con_all (.tail _ (.tail _ (List.mem_append_left _ (.tail _ (.tail _ (.tail _ (.tail _ (.tail _ (.tail _ (.tail _ (.head _))))))))))) (app_all (fun _ h => .tail _ (.tail _ (List.mem_append_left _ (.tail _ (.tail _ (.tail _ (.tail _ (.tail _ (.tail _ (.tail _ (.tail _ (h)))))))))))) (con_all (.head _) (con_all (.tail _ (.head _)) (con_all (.tail _ (.tail _ (List.mem_append_left _ (.head _)))) (fun _ h => .tail _ (.tail _ (List.mem_append_right _ (h)))))))))))))))
/-- the loop of _law_inner that tells the new cells -/
def innerJ (X : Fx) (vals : List Value) (P : Addr) (O : Addr) (rest : List (Addr × Obj)) (i : Nat) (m : Str → Option Value) (nx : List (Addr × Obj)) : Prop :=
  ∃ no nv ow, m (Str.ofString "variables") = some (.ref X.vl) ∧ m (Str.ofString "own") = some (.ref O) ∧ m (Str.ofString "model") = some (.ref X.ml) ∧ m (Str.ofString "pairs") = some (.ref P) ∧
    nx = (X.vl, PySem.W.listOf (vals ++ List.replicate i Value.none).toArray nv) :: (O, PySem.W.listOf (intsV ow).toArray no) :: rest ∧ ow.map (·.1) = List.range' vals.length i
theorem reorder4 {h₀ : Heap} {L : Addr} {h : Heap} {O b c fl ml vl ux ud : Addr × Obj} {R : List (Addr × Obj)} (N : News h₀ L h (O :: b :: c :: fl :: ml :: vl :: ux :: ud :: R)) : News h₀ L h (vl :: O :: b :: c :: fl :: ml :: R) :=
  news_sub N (con_all (.tail _ (.tail _ (.tail _ (.tail _ (.tail _ (.head _)))))) (con_all (.head _) (con_all (.tail _ (.head _)) (con_all (.tail _ (.tail _ (.head _))) (con_all (.tail _ (.tail _ (.tail _ (.head _)))) (con_all (.tail _ (.tail _ (.tail _ (.tail _ (.head _))))) (fun _ h => .tail _ (.tail _ (.tail _ (.tail _ (.tail _ (.tail _ (.tail _ (.tail _ (h)))))))))))))))
theorem end_sub {α : Type} {T D vl O b fl ml fx fd U C c P : α} {R cl tl : List α} : ∀ p ∈ (T :: D :: vl :: O :: b :: fl :: ml :: (R ++ (fx :: fd :: U :: C :: cl))), p ∈ (T :: D :: vl :: O :: b :: c :: fl :: ml :: ((R ++ (P :: tl)) ++ (fx :: fd :: U :: C :: cl))) :=
  con_all (.head _) (con_all (.tail _ (.head _)) (con_all (.tail _ (.tail _ (.head _))) (con_all (.tail _ (.tail _ (.tail _ (.head _)))) (con_all (.tail _ (.tail _ (.tail _ (.tail _ (.head _))))) (con_all (.tail _ (.tail _ (.tail _ (.tail _ (.tail _ (.tail _ (.head _))))))) (con_all (.tail _ (.tail _ (.tail _ (.tail _ (.tail _ (.tail _ (.tail _ (.head _)))))))) (app_all (fun _ h => .tail _ (.tail _ (.tail _ (.tail _ (.tail _ (.tail _ (.tail _ (.tail _ (List.mem_append_left _ (List.mem_append_left _ (h))))))))))) (con_all (.tail _ (.tail _ (.tail _ (.tail _ (.tail _ (.tail _ (.tail _ (.tail _ (List.mem_append_right _ (.head _)))))))))) (con_all (.tail _ (.tail _ (.tail _ (.tail _ (.tail _ (.tail _ (.tail _ (.tail _ (List.mem_append_right _ (.tail _ (.head _))))))))))) (con_all (.tail _ (.tail _ (.tail _ (.tail _ (.tail _ (.tail _ (.tail _ (.tail _ (List.mem_append_right _ (.tail _ (.tail _ (.head _)))))))))))) (con_all (.tail _ (.tail _ (.tail _ (.tail _ (.tail _ (.tail _ (.tail _ (.tail _ (List.mem_append_right _ (.tail _ (.tail _ (.tail _ (.head _))))))))))))) (fun _ h => .tail _ (.tail _ (.tail _ (.tail _ (.tail _ (.tail _ (.tail _ (.tail _ (List.mem_append_right _ (.tail _ (.tail _ (.tail _ (.tail _ (h)))))))))))))))))))))))))
theorem inner_loop {prog : Program} {w : World} {A : Around} {E : Value → Shared → Prop} {s : Shared} {env : Env} {h₀ : Heap} {x : Str} {body : List Stmt} {Q : Flow → Shared → Prop} {X : Fx} {vals : List Value} {P O r : Addr} {nv no : Nat} {rest : List (Addr × Obj)} {b₀ : Int} {t₀ u₀ v₀ : Tok} {m₀ : Str → Option Value}
    (N : News h₀ env.locals s.heap ((X.vl, PySem.W.listOf vals.toArray nv) :: (O, PySem.W.listOf #[] no) :: rest)) (F : Fr h₀ env.locals s.heap m₀) (hh : A.handled = none) (hr : IsRange s.heap r 0 b₀ 1 t₀ u₀ v₀) (ha : 0 ≤ b₀) (hb : b₀ < 1000)
    (m1 : m₀ (Str.ofString "variables") = some (.ref X.vl)) (m2 : m₀ (Str.ofString "own") = some (.ref O)) (m3 : m₀ (Str.ofString "model") = some (.ref X.ml)) (m4 : m₀ (Str.ofString "pairs") = some (.ref P))
    (turn : TurnR prog w A E s env h₀ x body Q b₀.toNat ⟨innerJ X vals P O rest⟩) (done : DoneW s env h₀ Q b₀.toNat ⟨innerJ X vals P O rest⟩) : wpAny (model prog w) A (pyIter (.ref r)) (fun it s₂ => LoopAtV prog w A h₀ env x body Q E it s₂) E s := by
  refine loop_rangeW ⟨innerJ X vals P O rest⟩ hh hr ha hb F N ⟨no, nv, [], m1, m2, m3, m4, ?_, rfl⟩ turn done
  simp [intsV]
theorem apart5 {b c fl ml : Addr × Obj} {R owns : List (Addr × Obj)} {d : Addr} (h1 : b.1 ≠ d) (h2 : c.1 ≠ d) (h3 : fl.1 ≠ d) (h4 : ml.1 ≠ d) (h5 : ∀ p ∈ R, p.1 ≠ d) (h6 : ∀ p ∈ owns, p.1 ≠ d) : ∀ p ∈ (b :: c :: fl :: ml :: R) ++ owns, p.1 ≠ d :=
  all_app (List.forall_mem_cons.mpr ⟨h1, List.forall_mem_cons.mpr ⟨h2, List.forall_mem_cons.mpr ⟨h3, List.forall_mem_cons.mpr ⟨h4, h5⟩⟩⟩⟩) h6
theorem turn_open {h₀ : Heap} {L : Addr} {h : Heap} {a o : Addr × Obj} {rest owns : List (Addr × Obj)} (N : News h₀ L h ((a :: o :: rest) ++ owns)) (ga : ∀ p ∈ rest ++ owns, p.1 ≠ a.1) (go : ∀ p ∈ rest ++ owns, p.1 ≠ o.1) :
    ∃ R9, rest ++ owns = R9 ∧ News h₀ L h (a :: o :: R9) ∧ (∀ p ∈ R9, p.1 ≠ a.1) ∧ (∀ p ∈ R9, p.1 ≠ o.1) := ⟨_, rfl, N, ga, go⟩
theorem inner_loop_end {X : Fx} {g : Heap} {L P O : Addr} {vals : List Value} {rest owns R : List (Addr × Obj)} {i no nv : Nat} {ow : List (Nat × Tok)} {t : Tok} {m' : Str → Option Value} {s₁ : Shared} {Q : Flow → Shared → Prop} {h' : Heap} {tk : Nat} (hR : rest ++ owns = R) (how : ow.map (·.1) = List.range' vals.length i)
    (m1 : m' (Str.ofString "variables") = some (.ref X.vl)) (m2 : m' (Str.ofString "own") = some (.ref O)) (m3 : m' (Str.ofString "model") = some (.ref X.ml)) (m4 : m' (Str.ofString "pairs") = some (.ref P))
    (hoff : ∀ q ∈ (X.vl, PySem.W.listOf (vals ++ List.replicate i Value.none).toArray nv) :: (O, PySem.W.listOf (intsV ow).toArray no) :: rest, ∀ p ∈ owns, q.1 ≠ p.1) (F : Fr g L h' m')
    (N : News g L h' ((X.vl, PySem.W.listOf ((vals ++ List.replicate i Value.none) ++ [Value.none]).toArray (nv + 1)) :: (O, PySem.W.listOf (intsV ow ++ [Value.int ((((vals ++ List.replicate i Value.none) ++ [Value.none]).length : Int) - 1) t]).toArray (no + 1)) :: R)) :
    LPost g L (innerJ X vals P O rest (i + 1)) owns s₁ Q .next { s₁ with heap := h', toks := tk } := by
  have e1 : (vals ++ List.replicate i Value.none) ++ [Value.none] = vals ++ List.replicate (i + 1) Value.none := by rw [List.append_assoc, List.replicate_succ']
  have e2 : ((((vals ++ List.replicate i Value.none) ++ [Value.none]).length : Int) - 1) = ((vals.length + i : Nat) : Int) := by simp; omega
  have e3 : intsV ow ++ [Value.int ((vals.length + i : Nat) : Int) t] = intsV (ow ++ [(vals.length + i, t)]) := by unfold intsV; rw [List.map_append]; rfl
  rw [e2, e3, e1] at N
  refine LPost.next (nx := (X.vl, PySem.W.listOf (vals ++ List.replicate (i + 1) Value.none).toArray (nv + 1)) :: (O, PySem.W.listOf (intsV (ow ++ [(vals.length + i, t)])).toArray (no + 1)) :: rest) F (news_eq N (by rw [← hR]; rfl)) ?_ ⟨_, _, _, m1, m2, m3, m4, rfl, ?_⟩
  · intro q hq p hp
    rcases List.mem_cons.mp hq with rfl | hq
    · exact hoff _ (.head _) p hp
    · rcases List.mem_cons.mp hq with rfl | hq
      · exact hoff (O, _) (.tail _ (.head _)) p hp
      · exact hoff q (.tail _ (.tail _ hq)) p hp
  · rw [List.map_append, how, List.range'_concat]; simp
end
local macro_rules | `(tactic| k_ne) => `(tactic| first | assumption | exact Ne.symm (by assumption))
local macro_rules | `(tactic| walk_at "exec For Name Call cons nil") => `(tactic| (k_here; (rename Fr _ _ _ _ => lF'); (with_unfolding_all refine' For_invVF lF' ?k1 ?k2 ?_; (case k1 => exact rfl); (case k2 => exact rfl); k_whole)))
local macro_rules | `(tactic| walk_at "call type:range") => `(tactic| ((rename Fr _ _ _ _ => F'); (rename News _ _ _ _ => N'); (with_unfolding_all refine range1_rows F' N' ?_; intro _ _ _ _ _ _ _ _ _)))
section
set_option maxRecDepth 100000
set_option maxHeartbeats 8000000
local macro_rules | `(tactic| walk_at "call builtin:len") => `(tactic| (k_here; (with_reducible show wpAny _ _ (call (Value.builtin "len") [Value.ref _]) _ _ _); k_dflt (refine' len_led ?k1 ?k2 ?k3 ?_; (case k1 => k_asm); (case k2 => first | k_memK | kst_mem); (case k3 => assumption); k_whole); intro t'; (try simp only [crefs_length, intsV_length])))
local macro_rules | `(tactic| walk_at "call ref") => `(tactic| (k_here; first | refine' stop_at 112 ?_ | refine' stop_at 77 ?_ | refine' stop_at 59 ?_ | refine' stop_at 94 ?_))
local macro_rules | `(tactic| walk_at "setAttr ref") => `(tactic| (k_here; refine' stop_set ?_))
local macro_rules | `(tactic| walk_at "pyIter ref") => `(tactic| (k_here; refine' stop_it ?_))
local macro_rules | `(tactic| walk_at "eval ListComp") => `(tactic| (k_here; refine' stop_comp ?_))
local macro_rules | `(tactic| walk_at "call ref") => `(tactic| (k_here; k_dflt (refine' says_use (take_says ?U ?hB ?hl ?hi ?hlen ?hbl ?h3 ?h4) ?B ?F ?X ?N ?T ?hk ?hd ?hu ?_; (case B => k_asm); (case F => k_asm); (case X => k_asm); (case N => k_asm); (case T => k_asm); (case hk => first | exact rfl | assumption); (case U => k_updF); (case hB => assumption); (case hl => kst_mem); (case hi => assumption); (case hlen => assumption); (case hbl => assumption); (case h3 => omega); (case h4 => omega); (case hd => ktr_room); (case hu => ktr_units); k_whole); intro r' n' h' tk' F' N' hp'; obtain ⟨k', t', ob', e1', h1', h2', hB', e2'⟩ := hp'; subst e1'; subst e2'))
theorem inner_says (w : World) (X : Fx) (S : St) (out : List (Addr × Obj)) (I : Inv w X S out) (hf1 : 1 ≤ S.frames.length) (hf2 : S.frames.length < 100) (hc : S.cs.length < 500) :
  Says w 117 [.ref X.b, .ref X.fl, .ref X.ml, .ref X.vl] 40 600 (led w X S ++ out)
   (fun r news' => r = .none ∧ ∃ S', Inv w X S' out ∧ (Vals S → Vals S') ∧ news' = led w X S' ++ out ∧ S'.frames.length = S.frames.length + 1 ∧ S'.cs.length ≤ S.cs.length + 2) := by
  obtain ⟨⟨d1, d2, d3, d4, d5, d6⟩, a1, a2, a3, a4, d7⟩ := I.apart
  have hB := I.box
  have hi := I.ia
  have hns := I.few
  rw [led_out]
  have hlR : (X.l, PySem.W.listOf X.vs.toArray X.nl) ∈ restL w X S.frames S.cs ++ out := List.mem_append_left _ (.head _)
  have hfR : ∀ f ∈ S.frames, ∀ p ∈ fmLed S.cs f, p ∈ restL w X S.frames S.cs ++ out := fun f hf p hp => List.mem_append_left _ (fm_in hf p hp)
  have hFl : (FLv S.frames).length < 1000 := by unfold FLv; rw [List.length_map]; omega
  have hFl' : (FLv S.frames).length = S.frames.length := by unfold FLv; rw [List.length_map]
  generalize hR : restL w X S.frames S.cs ++ out = R at *
  unfold Says
  w_top off
  k_fill
  intro mean mg mb dp un gd cn cs a ccd cl outer A₀ base h₀ L m s Q E B F XX N T hk hd' hu hret
  refine wpAny_call ?_
  k_dflt (refine' code_defC ?k1 ?k2 ?k3 ?k4 ?k5 ?kA ?kF ?kK ?k6 ?k7 ?k8 ?k9 ?kB ?kD ?_ ?c2 ?c3 ?c4; (case kA => exact rfl); (case kF => exact rfl); (case kK => assumption); (case k1 => k_asm); (case k2 => k_asm); (case k3 => k_asm); (case k4 => k_asm); (case k5 => k_asm); (case k6 => k_is); (case k7 => k_is); (case k8 => ktr_room); (case k9 => exact BindsTo.of_eq rfl); (case kB => exact rfl); (case kD => decide +kernel); (case c2 => exact rfl); (case c3 => exact rfl); (case c4 => exact rfl); k_whole; intro g' L' h' tk' cells' FG' F' N' Y' B' X' T' l1; (try k_lt l1); k_cells Y'; (try simp only [List.cons_append, List.nil_append] at N'); (try dsimp only); (try k_fold))
  have hRL : ∀ p ∈ R, p.1 ≠ L' + 1 := fun p hp => Nat.ne_of_lt (Nat.lt_succ_of_lt (allLt_all l1.2.2.2.2 p hp))
  repeat' (first | (k_unfold; (try dsimp only)) | (k_end; wrow_close) | ((try dsimp only); walk1) | (leave1; walk_say "STEP leave1"; try dsimp only) | fail "no step")
  rename 0 ≤ _ => hk0
  rename _ < ((FLv S.frames).length : Int) => hk1
  rw [hFl'] at hk1
  obtain ⟨f, hf⟩ := some_at hk0 hk1
  have hfm := List.mem_of_getElem? hf
  obtain ⟨ok1, ok2, ok7, ok3, ok4, ok5, ok6⟩ := I.fm f hfm
  have hm1 : (f.fa, instObj 59 f.fd) ∈ R := hfR f hfm _ (.head _)
  have hm2 : (f.fd, PySem.W.dictOf f.fes f.nf) ∈ R := hfR f hfm _ (.tail _ (.head _))
  have hm3 : (f.ca, PySem.W.listOf (crefs S.cs f.own).toArray f.nc) ∈ R := hfR f hfm _ (.tail _ (.tail _ (.head _)))
  have hm4 : (f.ua, PySem.W.listOf (crefs S.cs f.kept).toArray f.nu) ∈ R := hfR f hfm _ (.tail _ (.tail _ (.tail _ (.head _))))
  have hm5 : (f.ta, (⟨.type "tuple", none, .seq #[.ref f.oa, .ref f.ka] f.nt, #[]⟩ : Obj)) ∈ R := hfR f hfm _ (.tail _ (.tail _ (.tail _ (.tail _ (.head _)))))
  have hm6 : (f.oa, PySem.W.listOf (intsV f.own).toArray f.no) ∈ R := hfR f hfm _ (.tail _ (.tail _ (.tail _ (.tail _ (.tail _ (.head _))))))
  have hm7 : (f.ka, PySem.W.listOf (intsV f.kept).toArray f.nk) ∈ R := hfR f hfm _ (.tail _ (.tail _ (.tail _ (.tail _ (.tail _ (.tail _ (.head _)))))))
  have hcl : (crefs S.cs f.own).length < 1000 := by rw [crefs_length]; omega
  have hul : (crefs S.cs f.kept).length < 1000 := by rw [crefs_length]; omega
  refine item_led (by assumption) (.tail _ (.tail _ (.head _))) hk0 (by rw [hFl']; exact hk1) hFl ?_
  rw [FLv_get hf]
  repeat' (first | (k_unfold; (try dsimp only)) | (k_end; wrow_close) | ((try dsimp only); walk1) | (leave1; walk_say "STEP leave1"; try dsimp only) | fail "no step")
  refine item_led (by assumption) (.tail _ (.tail _ (.tail _ (.head _)))) hk0 (by unfold MLv; rw [List.length_map]; exact hk1) (by unfold MLv; rw [List.length_map]; omega) ?_
  rw [MLv_get hf]
  repeat' (first | (k_unfold; (try dsimp only)) | (k_end; wrow_close) | ((try dsimp only); walk1) | (leave1; walk_say "STEP leave1"; try dsimp only) | fail "no step")
  unfold Stop
  rename News g' L' _ _ => N1
  rename IsBox X.l _ => hB1
  have N3 := reorder1 N1
  refine' says_use (pairs_says d7 hi hns hB1 ?ql ?qr ?q3 ?q4) B' (by assumption) X' N3 T' rfl ?_ ?_ ?_
  (case ql => exact .tail _ (.tail _ (.tail _ (.tail _ hlR))))
  (case qr => exact List.forall_mem_cons.mpr ⟨Nat.ne_of_gt (Nat.lt_succ_of_lt l1.1), List.forall_mem_cons.mpr ⟨Ne.symm d1, List.forall_mem_cons.mpr ⟨Ne.symm d2, List.forall_mem_cons.mpr ⟨Ne.symm d3, a1⟩⟩⟩⟩)
  (case q3 => omega)
  (case q4 => omega)
  · ktr_room
  · ktr_units
  clear N1 N3
  intro r2 n2 h2 tk2 F2 N2 hp2
  obtain ⟨P, tl, ob2, qs, nP, rfl, hB2, rfl, hq, hP, hfr⟩ := hp2
  simp only [List.cons_append] at N2
  have b1 : ∀ p ∈ R ++ (P, PySem.W.listOf (qs.map fun q => Value.ref q.a).toArray nP) :: tl, p.1 ≠ X.b := all_app a1 fun p hp => Nat.ne_of_gt (hfr p hp _ (.head _))
  have b2 : ∀ p ∈ R ++ (P, PySem.W.listOf (qs.map fun q => Value.ref q.a).toArray nP) :: tl, p.1 ≠ X.fl := all_app a2 fun p hp => Nat.ne_of_gt (hfr p hp _ (.tail _ (.tail _ (.head _))))
  have b3 : ∀ p ∈ R ++ (P, PySem.W.listOf (qs.map fun q => Value.ref q.a).toArray nP) :: tl, p.1 ≠ X.ml := all_app a3 fun p hp => Nat.ne_of_gt (hfr p hp _ (.tail _ (.tail _ (.tail _ (.head _)))))
  have b4 : ∀ p ∈ R ++ (P, PySem.W.listOf (qs.map fun q => Value.ref q.a).toArray nP) :: tl, p.1 ≠ X.vl := all_app a4 fun p hp => Nat.ne_of_gt (hfr p hp _ (.tail _ (.tail _ (.tail _ (.tail _ (.head _))))))
  have bR : ∀ p ∈ R, p ∈ R ++ (P, PySem.W.listOf (qs.map fun q => Value.ref q.a).toArray nP) :: tl := fun p hp => List.mem_append_left _ hp
  have hPR : (P, PySem.W.listOf (qs.map fun q => Value.ref q.a).toArray nP) ∈ R ++ (P, PySem.W.listOf (qs.map fun q => Value.ref q.a).toArray nP) :: tl := List.mem_append_right _ (.head _)
  have hqR : PairsAre f.own.length f.kept.length (R ++ (P, PySem.W.listOf (qs.map fun q => Value.ref q.a).toArray nP) :: tl) qs := fun q hq => ⟨List.mem_append_right _ (.tail _ (hP q hq).1), (hP q hq).2⟩
  generalize hR2 : R ++ (P, PySem.W.listOf (qs.map fun q => Value.ref q.a).toArray nP) :: tl = R2 at *
  have c1 := bR _ hm1
  have c2 := bR _ hm2
  have c3 := bR _ hm3
  have c4 := bR _ hm4
  have c5 := bR _ hm5
  have c6 := bR _ hm6
  have c7 := bR _ hm7
  have cl := bR _ hlR
  have hFn : (FLv S.frames).length < 1000 := hFl
  have hMn : (MLv S.frames).length < 1000 := by unfold MLv; rw [List.length_map]; omega
  repeat' (first | (k_unfold; (try dsimp only)) | (k_end; wrow_close) | ((try dsimp only); walk1) | (leave1; walk_say "STEP leave1"; try dsimp only) | fail "no step")
  unfold Stop
  rename News g' L' _ _ => N4
  refine' says_use (unit0 w _ _ _ _) B' (by assumption) X' N4 T' rfl ?_ ?_ ?_
  · ktr_room
  · ktr_units
  clear N4
  intro ru nu hu1 tku Fu Nu hpu
  obtain ⟨ux, ud, ues, un, uv, uu, rfl, rfl, uok, ul1, ul2⟩ := hpu
  k_lt ul1
  k_lt2 ul2
  repeat' (first | (k_unfold; (try dsimp only)) | (k_end; wrow_close) | ((try dsimp only); walk1) | (leave1; walk_say "STEP leave1"; try dsimp only) | fail "no step")
  rename IsBox X.l _ => hB3
  rename 0 ≤ _ => hm0
  rename _ < (3 : Int) => hm1
  unfold Stop
  rename News g' L' _ _ => N4
  refine set_cnt (by assumption) X' (drop_tl N4) (.head _) (unit_upd ul1 ul2) uok ?_
  clear N4
  intro h5 es5 n5 ok5 F5 N4
  (try dsimp only at N4)
  repeat' (first | (k_unfold; (try dsimp only)) | (k_end; wrow_close) | ((try dsimp only); walk1) | (leave1; walk_say "STEP leave1"; try dsimp only) | fail "no step")
  unfold Stop
  refine set_cap (by assumption) X' N4 (.head _) (unit_upd ul1 ul2) ok5 ?_
  clear N4
  intro h6 es6 n6 uk6 F6 N4
  (try dsimp only at N4)
  obtain ⟨⟨t06, ut6⟩, uc6, _, _⟩ := uk6
  repeat' (first | (k_unfold; (try dsimp only)) | (k_end; wrow_close) | ((try dsimp only); walk1) | (leave1; walk_say "STEP leave1"; try dsimp only) | fail "no step")
  unfold Stop
  have N5 := reorder2 N4
  clear N4
  refine' says_use (capt0 w _ P f.ca f.ua qs nP f.nc f.nu (crefs S.cs f.own) (crefs S.cs f.kept) ?p1 ?p2 ?p3 ?p4 hcl hul hq) B' (by assumption) X' N5 T' rfl ?_ ?_ ?_
  (case p1 => exact .tail _ (.tail _ (.tail _ (.tail _ (.tail _ (.tail _ (.tail _ hPR)))))))
  (case p2 => intro q hq'; rw [crefs_length, crefs_length]; exact ⟨.tail _ (.tail _ (.tail _ (.tail _ (.tail _ (.tail _ (.tail _ (hqR q hq').1)))))), (hqR q hq').2⟩)
  (case p3 => exact .tail _ (.tail _ (.tail _ (.tail _ (.tail _ (.tail _ (.tail _ c3)))))))
  (case p4 => exact .tail _ (.tail _ (.tail _ (.tail _ (.tail _ (.tail _ (.tail _ c4)))))))
  · ktr_room
  · ktr_units
  clear N5
  intro r3 n3 h3 tk3 F3 N3 hp3
  obtain ⟨U, nU, rfl, rfl, hU⟩ := hp3
  have hVn : S.vals.length < 1000 := by rw [I.len]; omega
  repeat' (first | (k_unfold; (try dsimp only)) | (k_end; wrow_close) | ((try dsimp only); walk1) | (leave1; walk_say "STEP leave1"; try dsimp only) | fail "no step")
  unfold Stop
  rename News g' L' _ _ => N6
  refine' says_use (frame_says ?g1 ?g2 ?g3 ?g4 ?g6 ?g5) B' (by assumption) X' N6 T' rfl ?_ ?_ ?_
  (case g1 => exact .tail _ (.tail _ (.tail _ (.tail _ (.tail _ (.tail _ (.head _)))))))
  (case g2 => exact .tail _ (.tail _ (.tail _ (.tail _ (.tail _ (.tail _ (.tail _ (.head _))))))))
  (case g6 => assumption)
  (case g3 => exact ut6)
  (case g4 => exact uc6)
  (case g5 => omega)
  · ktr_room
  · ktr_units
  clear N6
  intro r4 n4 h4 tk4 F4 N7 hp4
  obtain ⟨fx, fd, fes, nfs, C, cs', nC, rfl, rfl, hcn, hcv, hg1, hg2, hg3, hff⟩ := hp4
  have N8 := reorder3 N7
  clear N7
  have hnw := new_above hU hff
  have e1 := all_app b1 (fun p hp => Nat.ne_of_gt (hnw p hp _ (.head _)))
  have e2 := all_app b2 (fun p hp => Nat.ne_of_gt (hnw p hp _ (.tail _ (.tail _ (.head _)))))
  have e3 := all_app b3 (fun p hp => Nat.ne_of_gt (hnw p hp _ (.tail _ (.tail _ (.tail _ (.head _))))))
  have e4 := all_app b4 (fun p hp => Nat.ne_of_gt (hnw p hp _ (.tail _ (.tail _ (.tail _ (.tail _ (.head _)))))))
  have bR3 := fun p (hp : p ∈ R2) => List.mem_append_left ((fx, instObj 59 fd) :: (fd, PySem.W.dictOf fes nfs) :: (U, PySem.W.listOf (qs.map (pick (crefs S.cs f.own) (crefs S.cs f.kept))).toArray nU) :: (C, PySem.W.listOf (cs'.map fun x => Value.ref x.c).toArray nC) :: cellsLed w cs') hp
  generalize hR3 : R2 ++ ((fx, instObj 59 fd) :: (fd, PySem.W.dictOf fes nfs) :: (U, PySem.W.listOf (qs.map (pick (crefs S.cs f.own) (crefs S.cs f.kept))).toArray nU) :: (C, PySem.W.listOf (cs'.map fun x => Value.ref x.c).toArray nC) :: cellsLed w cs') = R3 at *
  repeat' (first | (k_unfold; (try dsimp only)) | (k_end; wrow_close) | ((try dsimp only); walk1) | (leave1; walk_say "STEP leave1"; try dsimp only) | fail "no step")
  unfold Stop
  rename News g' L' _ _ => N9
  rename X.b < _ ∧ _ => hO
  have N10 := reorder4 N9
  clear N9
  have hm9 : _ < (1000 : Int) := Int.lt_trans hm1 (by decide)
  refine inner_loop N10 (by assumption) rfl (by assumption) hm0 hm9 rfl rfl rfl rfl ?_ ?_
  · unfold TurnR
    dsimp only
    intro i t m₁ nx h tk owns hi' hoff hJ F₁ N₁
    unfold innerJ at hJ
    obtain ⟨no, nv, ow, m1, m2, m3, m4, rfl, how⟩ := hJ
    have F₂ := fr_ps [(_, _), (_, _), (_, _), (_, _)] (List.forall_mem_cons.mpr ⟨m1, List.forall_mem_cons.mpr ⟨m2, List.forall_mem_cons.mpr ⟨m3, List.forall_mem_cons.mpr ⟨m4, List.forall_mem_nil _⟩⟩⟩⟩) F₁
    have hol : ow.length = i := by have := congrArg List.length how; simpa using this
    have hl0 : (intsV ow).length < 1000 := by rw [intsV_length]; omega
    have hl1 : (S.vals ++ List.replicate i Value.none).length < 1000 := by simp; rw [I.len]; omega
    have hl2 : ((S.vals ++ List.replicate i Value.none) ++ [Value.none]).length < 1000 := by simp; rw [I.len]; omega
    obtain ⟨R9, hR9, N₂, g1, g2⟩ := turn_open N₁ (apart5 d3 (Nat.ne_of_gt (Nat.lt_succ_of_lt l1.2.2.2.1)) d5 d6 e4 (fun p hp => (hoff _ (.head _) p hp).symm))
      (apart5 (Nat.ne_of_lt hO.1) (Nat.ne_of_lt hO.2.1) (Nat.ne_of_lt hO.2.2.1) (Nat.ne_of_lt hO.2.2.2.1) (fun p hp => Nat.ne_of_lt (allLt_all hO.2.2.2.2.2.2.2 p hp)) (fun p hp => (hoff _ (.tail _ (.head _)) p hp).symm))
    have g3 : @Ne Nat X.vl _ := Nat.ne_of_lt hO.2.2.2.2.1
    dsimp only at g1 g2
    clear F₁ N₁
    repeat' (first | (k_unfold; (try dsimp only)) | (k_end; wrow_close) | ((try dsimp only); walk1) | (leave1; walk_say "STEP leave1"; try dsimp only) | fail "no step")
    exact inner_loop_end hR9 how rfl rfl rfl rfl hoff (by assumption) (by assumption)
  · unfold DoneW
    dsimp only
    intro m₁ nx h tk hJ F₁ N₁
    unfold innerJ at hJ
    obtain ⟨no, nv, ow, m1, m2, m3, m4, rfl, how⟩ := hJ
    have F₂ := fr_ps0 [(_, _), (_, _), (_, _), (_, _)] (List.forall_mem_cons.mpr ⟨m1, List.forall_mem_cons.mpr ⟨m2, List.forall_mem_cons.mpr ⟨m3, List.forall_mem_cons.mpr ⟨m4, List.forall_mem_nil _⟩⟩⟩⟩) F₁
    clear F₁
    have f1 := bR3 _ c5
    have f2 := bR3 _ c6
    have f3 := bR3 _ c7
    have hol : (intsV f.own).length < 1000 := by rw [intsV_length]; omega
    have hkl : (intsV f.kept).length < 1000 := by rw [intsV_length]; omega
    repeat' (first | (k_unfold; (try dsimp only)) | (k_end; wrow_close) | ((try dsimp only); walk1) | (leave1; walk_say "STEP leave1"; try dsimp only) | fail "no step")
    unfold Stop
    refine PyProof.Rows.LCp.ListComp_P (F₀ := F₂) (by with_unfolding_all rfl) (by decide) (by rfl) (by decide) (by rfl) (by rfl) (by decide) ?_
    repeat' (first | (k_unfold; (try dsimp only)) | (k_end; wrow_close) | ((try dsimp only); walk1) | (leave1; walk_say "STEP leave1"; try dsimp only) | fail "no step")
    have hPm := bR3 _ hPR
    have hszq : (qs.map fun q => Value.ref q.a).toArray.size = qs.length := by simp
    refine PyProof.Rows.LCp.SrcLP.ledger rfl F₂ N₁ (.tail _ (.tail _ (.tail _ (.tail _ (.tail _ (.tail _ hPm)))))) (by rw [hszq, sizeLine_eq]; omega) ?_
    intro g9
    refine compP_ind _ (fun i ys news => ys = (qs.take i).map (pick (intsV f.own) (intsV f.kept)) ∧ news = _) ?_ ?_ _ 0 [] _ (Nat.zero_add _) ⟨rfl, rfl⟩
    · rintro i ys news v hi9 hv ⟨rfl, rfl⟩
      obtain ⟨q, hqi, rfl⟩ : ∃ q, qs[i]? = some q ∧ v = .ref q.a := by
        rw [List.getElem?_toArray, List.getElem?_map] at hv
        cases hqi : qs[i]? with
        | none => rw [hqi] at hv; cases hv
        | some q => rw [hqi] at hv; exact ⟨q, rfl, (Option.some.inj hv).symm⟩
      obtain ⟨z1, z2, z3, z4⟩ := hqR q (List.mem_of_getElem? hqi)
      refine ⟨q.a, _, .bool q.io, .int q.k q.t, 0, rfl, .tail _ (.tail _ (.tail _ (.tail _ (.tail _ (.tail _ (bR3 _ z1)))))), rfl, rfl, ?_⟩
      intro I9 oI C9 oC D9 m₂ h9 tk9 E' hC9 hx9 hy9 F9 N9 off9 ne9
      have K9 : ∀ y, pick (intsV f.own) (intsV f.kept) q = y → ((qs.take i).map (pick (intsV f.own) (intsV f.kept)) ++ [y]) = (qs.take (i + 1)).map (pick (intsV f.own) (intsV f.kept)) := by
        rintro y rfl
        rw [List.take_add_one, hqi]; simp
      obtain ⟨qa, io, qk, qt⟩ := q
      dsimp only at z2 z3 z4 hx9 hy9
      cases io
      · have z5 := z4 rfl
        repeat' (first | (k_unfold; (try dsimp only)) | (k_end; wrow_close) | ((try dsimp only); walk1) | (leave1; walk_say "STEP leave1"; try dsimp only) | fail "no step")
        refine item_led N9 (.tail _ (.tail _ (.tail _ (.tail _ (.tail _ (.tail _ (.tail _ (.tail _ (.tail _ f3))))))))) z2 (by rw [intsV_length]; exact z5) hkl ?_
        exact PyProof.Rows.LCg.CompEnd.intro F9 N9 _ (fun p hp => hp) off9 (.inr ⟨_, .tail _ (.tail _ (.tail _ (.tail _ (.tail _ (.tail _ hPm))))), rfl, _, rfl⟩) ⟨K9 _ rfl, rfl⟩
      · have z5 := z3 rfl
        repeat' (first | (k_unfold; (try dsimp only)) | (k_end; wrow_close) | ((try dsimp only); walk1) | (leave1; walk_say "STEP leave1"; try dsimp only) | fail "no step")
        refine item_led N9 (.tail _ (.tail _ (.tail _ (.tail _ (.tail _ (.tail _ (.tail _ (.tail _ (.tail _ f2))))))))) z2 (by rw [intsV_length]; exact z5) hol ?_
        exact PyProof.Rows.LCg.CompEnd.intro F9 N9 _ (fun p hp => hp) off9 (.inr ⟨_, .tail _ (.tail _ (.tail _ (.tail _ (.tail _ (.tail _ hPm))))), rfl, _, rfl⟩) ⟨K9 _ rfl, rfl⟩
    · rintro ys news ⟨rfl, rfl⟩
      unfold PyProof.Rows.LCg.FinE
      intro D9 h9 tk9 F9 N9 off9
      have hD9 : @Ne Nat D9 X.ml := Ne.symm off9.2.2.2.2.2.1
      repeat' (first | (k_unfold; (try dsimp only)) | (k_end; wrow_close) | ((try dsimp only); walk1) | (leave1; walk_say "STEP leave1"; try dsimp only) | fail "no step")
      rename News h₀ L _ _ => kN
      rename Fr h₀ L _ _ => kF
      rename D9 < _ ∧ _ => hT
      have e9 : qs.take (qs.map fun q => Value.ref q.a).toArray.size = qs := by rw [hszq]; exact List.take_length
      rw [e9] at kN
      have hqk : ∀ q ∈ qs, QOk f q := fun q hq' => (hP q hq').2
      have o9 := off1_mem off9
      rw [← hR3] at hO hT o9
      obtain ⟨hnd, hna⟩ := inner_fresh (b := X.b) (fl := X.fl) (ml := X.ml) (vl := X.vl) (nodup_U hff) (fun q hq' => ⟨hnw q hq' _ (.head _), hnw q hq' _ (.tail _ (.tail _ (.head _))), hnw q hq' _ (.tail _ (.tail _ (.tail _ (.head _)))), hnw q hq' _ (.tail _ (.tail _ (.tail _ (.tail _ (.head _)))))⟩)
        (fun q hq' p hp => hnw q hq' p (.tail _ (.tail _ (.tail _ (.tail _ (.tail _ (.tail _ (.tail _ hp))))))))
        ⟨hO.1, hO.2.2.1, hO.2.2.2.1, hO.2.2.2.2.1, allLt_all hO.2.2.2.2.2.2.2⟩
        ⟨⟨o9 _ (.tail _ (.tail _ (.head _))), o9 _ (.tail _ (.tail _ (.tail _ (.tail _ (.head _))))), o9 _ (.tail _ (.tail _ (.tail _ (.tail _ (.tail _ (.head _)))))), o9 _ (.head _), o9 _ (.tail _ (.head _))⟩, fun p hp => o9 p (.tail _ (.tail _ (.tail _ (.tail _ (.tail _ (.tail _ hp))))))⟩
        ⟨⟨hT.1, hT.2.2.1, hT.2.2.2.1, hT.2.2.2.2.2.1, hT.2.2.2.2.2.2.1, hT.2.1⟩, allLt_all hT.2.2.2.2.2.2.2⟩
      obtain ⟨S', I', hV', hl1, hl2, hsub⟩ := inner_close (fx := fx) (fd := fd) (U := U) (C := C) (fes := fes) (nfs := nfs) (nU := nU) (nC := nC) (no := no) (nv := nv) I hfm hq hqk hcn (by omega) hcv how hg1 hg2 hg3 hB3 hnd (fun a ha p hp => hna a ha p.1 (by
        rw [led_out, hR] at hp
        simp only [List.mem_cons] at hp
        rcases hp with rfl | rfl | rfl | rfl | hp
        · exact .inl rfl
        · exact .inr (.inl rfl)
        · exact .inr (.inr (.inl rfl))
        · exact .inr (.inr (.inr (.inl rfl)))
        · exact .inr (.inr (.inr (.inr ⟨p, by rw [← hR2]; exact List.mem_append_left _ hp, rfl⟩)))))
      refine hret _ _ _ _ kF (news_sub kN fun p hp => ?_) ⟨rfl, S', I', hV', rfl, hl1, hl2⟩
      have h9 := hsub p hp
      rw [hR] at h9
      rw [← hR3, ← hR2]
      exact end_sub p h9
end
section
theorem Inv.frame_nd {w : World} {X : Fx} {S : St} {out : List (Addr × Obj)} (I : Inv w X S out) {f : Fm} (hf : f ∈ S.frames) : (X.b :: X.fl :: X.ml :: X.vl :: X.l :: (fmLed S.cs f).map (·.1)).Nodup := by
  obtain ⟨pre, post, hS⟩ := List.append_of_mem hf
  refine I.nd.sublist ?_
  unfold led restL
  simp only [List.map_cons, List.map_append]
  refine .cons₂ _ (.cons₂ _ (.cons₂ _ (.cons₂ _ (.cons₂ _ ?_))))
  refine List.Sublist.trans ?_ (List.sublist_append_left _ _)
  rw [hS, framesLed_append, framesLed_cons, List.map_append, List.map_append]
  exact (List.sublist_append_left _ _).trans (List.sublist_append_right _ _)
theorem nd_at {l : List Addr} (h : l.Nodup) (i j : Nat) {a b : Addr} (hij : i < j) (ha : l[i]? = some a) (hb : l[j]? = some b) : a ≠ b := by
  obtain ⟨h1, rfl⟩ := List.getElem?_eq_some_iff.mp ha
  obtain ⟨h2, rfl⟩ := List.getElem?_eq_some_iff.mp hb
  exact List.pairwise_iff_getElem.mp h i j h1 h2 hij
theorem renew_says (w : World) (X : Fx) (S : St) (out : List (Addr × Obj)) (I : Inv w X S out) {f : Fm} (hf : f ∈ S.frames) {k : Int} {tk : Tok} (hk0 : 0 ≤ k) (hk1 : k < f.own.length) (hc : S.cs.length < 900) :
  Says w 124 [.ref f.fa, .ref f.ta, .int k tk, .ref X.vl] 24 300 (led w X S ++ out)
   (fun r news' => r = .none ∧ ∃ S', Inv w X S' out ∧ (Vals S → Vals S') ∧ news' = led w X S' ++ out ∧ S'.frames.length = S.frames.length ∧ S'.cs.length = S.cs.length + 1) := by
  obtain ⟨ok1, ok2, ok7, ok3, ok4, ok5, ok6⟩ := I.fm f hf
  have nd := I.frame_nd hf
  have hin : ∀ p ∈ fmLed S.cs f, p ∈ led w X S ++ out := fun p hp => List.mem_append_left _ (.tail _ (.tail _ (.tail _ (.tail _ (fm_in hf p hp)))))
  have hm1 := hin (f.fa, instObj 59 f.fd) (.head _)
  have hm2 := hin (f.fd, PySem.W.dictOf f.fes f.nf) (.tail _ (.head _))
  have hm3 := hin (f.ca, PySem.W.listOf (crefs S.cs f.own).toArray f.nc) (.tail _ (.tail _ (.head _)))
  have hm5 := hin (f.ta, (⟨.type "tuple", none, .seq #[.ref f.oa, .ref f.ka] f.nt, #[]⟩ : Obj)) (.tail _ (.tail _ (.tail _ (.tail _ (.head _)))))
  have hm6 := hin (f.oa, PySem.W.listOf (intsV f.own).toArray f.no) (.tail _ (.tail _ (.tail _ (.tail _ (.tail _ (.head _))))))
  have hmv : (X.vl, PySem.W.listOf S.vals.toArray S.nvl) ∈ led w X S ++ out := .tail _ (.tail _ (.tail _ (.head _)))
  have R := renew0 w (without [f.ca, f.oa, X.vl] (led w X S ++ out)) f.fa f.fd f.ca f.ta f.oa f.ka X.vl f.fes f.nf f.nc f.nt f.no S.nvl (crefs S.cs f.own) (intsV f.own) S.vals k tk
    (without_mem hm1 (by simp only [List.mem_cons, List.not_mem_nil, or_false, not_or]; exact ⟨nd_at nd 5 7 (by decide) rfl rfl, nd_at nd 5 10 (by decide) rfl rfl, Ne.symm (nd_at nd 3 5 (by decide) rfl rfl)⟩))
    (without_mem hm2 (by simp only [List.mem_cons, List.not_mem_nil, or_false, not_or]; exact ⟨nd_at nd 6 7 (by decide) rfl rfl, nd_at nd 6 10 (by decide) rfl rfl, Ne.symm (nd_at nd 3 6 (by decide) rfl rfl)⟩)) ok1
    (without_mem hm5 (by simp only [List.mem_cons, List.not_mem_nil, or_false, not_or]; exact ⟨Ne.symm (nd_at nd 7 9 (by decide) rfl rfl), nd_at nd 9 10 (by decide) rfl rfl, Ne.symm (nd_at nd 3 9 (by decide) rfl rfl)⟩))
    (without_ne (by simp)) (without_ne (by simp)) (without_ne (by simp)) (nd_at nd 7 10 (by decide) rfl rfl) (Ne.symm (nd_at nd 3 7 (by decide) rfl rfl)) (Ne.symm (nd_at nd 3 10 (by decide) rfl rfl)) hk0 (by rw [crefs_length]; exact hk1) (by rw [intsV_length]; exact hk1)
    (by rw [crefs_length]; omega) (by rw [intsV_length]; omega) (by rw [I.len]; omega) (by rw [List.length_append, I.len]; simp; omega)
  refine R.weaken ?_ ?_
  · intro p hp
    simp only [List.mem_cons] at hp
    rcases hp with rfl | rfl | rfl | hp
    · exact hm3
    · exact hm6
    · exact hmv
    · exact without_sub p hp
  · rintro r nx ⟨x, tv, nv', rfl, hxv, rfl, hfr⟩
    have hold : ∀ q ∈ [(x.c, x.inst), (x.d, x.dict w)], ∀ p ∈ led w X S ++ out, p.1 < q.1 := by
      intro q hq p hp
      by_cases h1 : p.1 = f.ca
      · rw [h1]; exact hfr.2 q hq _ (.head _)
      · by_cases h2 : p.1 = f.oa
        · rw [h2]; exact hfr.2 q hq _ (.tail _ (.head _))
        · by_cases h3 : p.1 = X.vl
          · rw [h3]; exact hfr.2 q hq _ (.tail _ (.tail _ (.head _)))
          · exact hfr.2 q hq p (.tail _ (.tail _ (.tail _ (without_mem hp (by simp only [List.mem_cons, List.not_mem_nil, or_false, not_or]; exact ⟨h1, h2, h3⟩)))))
    have hne : x.c ≠ x.d := by
      have := hfr.1
      simp only [List.map_cons, List.map_nil, List.nodup_cons, List.mem_cons, List.not_mem_nil, or_false] at this
      exact this.1
    obtain ⟨S', I', hV', hl1, hl2, hsub⟩ := renew_close I hf (k := k.toNat) (by omega) hxv hne (fun a ha p hp => by
      simp only [List.mem_cons, List.not_mem_nil, or_false] at ha
      rcases ha with rfl | rfl
      · exact Nat.ne_of_lt (hold _ (.head _) p hp)
      · exact Nat.ne_of_lt (hold _ (.tail _ (.head _)) p hp)) tv nv'
    exact ⟨led w X S' ++ out, hsub, rfl, S', I', hV', rfl, hl1, hl2⟩
section
variable {w : World} {A : Around} {E : Value → Shared → Prop} {s : Shared} {h₀ : Heap} {L : Addr} {m : Str → Option Value} {X : Fx} {S : St} {out : List (Addr × Obj)} {Q : Unit → Shared → Prop}
theorem set_var (I : Inv w X S out) (F : Fr h₀ L s.heap m) (N : News h₀ L s.heap (led w X S ++ out)) {k : Int} {t : Tok} {v : Value} (h0 : 0 ≤ k) (h1 : k < S.vals.length) (h2 : S.cs.length < 1000)
    (h : ∀ h', Fr h₀ L h' m → News h₀ L h' (led w X (S.var k.toNat v) ++ out) → Q () { s with heap := h' }) : wpAny (model PySem.Challenge.rw_nt0340_01.row.prog w) A (setItem (.ref X.vl) (.int k t) v) Q E s := by
  obtain ⟨⟨d1, d2, d3, d4, d5, d6⟩, a1, a2, a3, a4, d7⟩ := I.apart
  refine set_led F N (n := S.nvl) (vs := S.vals) (news' := led w X (S.var k.toNat v) ++ out) ?_ h0 h1 (by rw [I.len]; exact h2) h
  exact .tail d3 (.tail d5 (.tail d6 (.head a4)))
set_option maxRecDepth 100000
set_option maxHeartbeats 8000000
theorem set_cell (I : Inv w X S out) (F : Fr h₀ L s.heap m) (XX : (hd.heap_39 w.params).In h₀) (N : News h₀ L s.heap (led w X S ++ out)) {j : Nat} {x : Ce} (hx : S.cs[j]? = some x) {v : Value}
    (h : ∀ h', Fr h₀ L h' m → News h₀ L h' (led w X (S.cell j x v) ++ out) → Q () { s with heap := h', toks := s.toks + 2 }) : wpAny (model PySem.Challenge.rw_nt0340_01.row.prog w) A (setAttr (.ref x.c) (Str.ofString "value") v) Q E s := by
  revert F XX N h
  w_top off
  k_fill
  intro F XX N h
  obtain ⟨I', hsub⟩ := cell_close I hx v
  have hxm := List.mem_of_getElem? hx
  have hxd : (x.d, x.dict w) ∈ led w X S ++ out := List.mem_append_left _ (.tail _ (.tail _ (.tail _ (.tail _ (ce_in hxm _ (.tail _ (.head _)))))))
  have hxc : (x.c, x.inst) ∈ led w X S ++ out := List.mem_append_left _ (.tail _ (.tail _ (.tail _ (.tail _ (ce_in hxm _ (.head _))))))
  have N1 : News h₀ L s.heap ((x.d, x.dict w) :: without [x.d] (led w X S ++ out)) := news_sub N fun p hp => by
    rcases List.mem_cons.mp hp with rfl | hp
    · exact hxd
    · exact without_sub p hp
  have hU : ∀ p ∈ without [x.d] (led w X S ++ out), p.1 ≠ x.d := without_ne (by simp)
  have N2 := N.get hxc
  have N3 := N.get hxd
  have hI : InstAt s.heap x.c x.inst 31 (some (x.dict w)) := InstAt.of_news N hxc hxd
  k_dflt (refine' set_dict F XX N1 hI ?k5 ?k6 ?k7 ?k8 ?k9 ?k10 ?k11 ?k12 ?k13 ?_; (case k5 => exact rfl); (case k6 => k_is); (case k7 => k_is); (case k8 => k_is); (case k9 => k_is); (case k10 => k_get); (case k11 => k_put); (case k12 => exact .head hU); (case k13 => exact Nat.le_of_ble_eq_true rfl); k_whole)
  intro h' F' N'
  exact h h' F' (news_sub N' hsub)
end
end
section
theorem datAll_snoc {news : List (Addr × Obj)} {vs : List Value} {ds : List Dat} {v : Value} {d : Dat} (h : DatAll news vs ds) (k : DatIn news v d) : DatAll news (vs ++ [v]) (ds ++ [d]) := h.append (DatAll.one k)
theorem datAll_map {news : List (Addr × Obj)} {f : Nat → Value} (hf : ∀ j, plainV (f j)) : ∀ (o : List (Nat × Tok)), DatAll news (o.map fun p => f p.1) (o.map fun p => datV (f p.1))
  | [] => .nil
  | p :: r => .cons (datV_in (hf p.1)) (datAll_map hf r)
theorem cval_plain {cs : List Ce} (h : ∀ x ∈ cs, plainV x.v) (j : Nat) : plainV (cval cs j) := by
  unfold cval
  split
  · exact h _ (List.mem_of_getElem? ‹_›)
  · exact .inl rfl
theorem getD_plain {vals : List Value} (h : ∀ v ∈ vals, plainV v) (j : Nat) : plainV (vals.getD j .none) := by
  rw [List.getD_eq_getElem?_getD]
  cases e : vals[j]? with
  | none => exact .inl rfl
  | some v => exact h v (List.mem_of_getElem? e)
theorem row_in {news : List (Addr × Obj)} {T A B : Addr} {nt na nb : Nat} {f : Nat → Value} {own kept : List (Nat × Tok)} (hf : ∀ j, plainV (f j)) (hT : (T, (⟨.type "tuple", none, .seq #[.ref A, .ref B] nt, #[]⟩ : Obj)) ∈ news) (hA : (A, PySem.W.listOf (own.map fun p => f p.1).toArray na) ∈ news) (hB : (B, PySem.W.listOf (kept.map fun p => f p.1).toArray nb) ∈ news) :
    DatIn news (.ref T) (.tuple [.list (own.map fun p => datV (f p.1)), .list (kept.map fun p => datV (f p.1))]) :=
  .tuple (vs := [.ref A, .ref B]) hT (.cons (.list hA (datAll_map hf own)) (.cons (.list hB (datAll_map hf kept)) .nil))
def seenJ (cs : List Ce) (fs : List Fm) (base : List (Addr × Obj)) (i : Nat) (m : Str → Option Value) (nx : List (Addr × Obj)) : Prop :=
  ∃ D vs n tl, m (Str.ofString "found") = some (.ref D) ∧ nx = (D, PySem.W.listOf vs.toArray n) :: (tl ++ base) ∧ DatAll tl vs ((fs.take i).map (seenD cs)) ∧ vs.length = i ∧ (∀ p ∈ tl ++ base, p.1 ≠ D)
theorem get_cell {w : World} {A : Around} {E : Value → Shared → Prop} {s : Shared} {h₀ : Heap} {L : Addr} {m : Str → Option Value} {news : List (Addr × Obj)} {x : Ce} {expr : Bool} {Q : Value → Shared → Prop} (F : Fr h₀ L s.heap m) (XX : (hd.heap_39 w.params).In h₀) (N : News h₀ L s.heap news) (hc : (x.c, x.inst) ∈ news) (hd' : (x.d, x.dict w) ∈ news) (hp : plainV x.v)
    (h : Q x.v { s with toks := s.toks + 1 }) : wpAny (model PySem.Challenge.rw_nt0340_01.row.prog w) A (getAttr (.ref x.c) (Str.ofString "value") expr) Q E s := by
  revert F XX N h
  w_top off
  k_fill
  intro F XX N h
  have hv : handedIn x.v = true := by
    rcases hp with e | ⟨_, _, e, _⟩ <;> rw [e] <;> rfl
  k_dflt (refine' get_own F XX (InstAt.of_news N hc hd') ?k4 ?k5 ?k6 ?k7 ?k8 hv h; (case k4 => k_is); (case k5 => k_is); (case k6 => k_is); (case k7 => k_is); (case k8 => rfl))
theorem seen_end {g : Heap} {L D T A B : Addr} {cs : List Ce} {fs : List Fm} {f : Fm} {base tl owns R : List (Addr × Obj)} {n nt na nb i : Nat} {vs : List Value} {m' : Str → Option Value} {s₁ : Shared} {Q : Flow → Shared → Prop} {h' : Heap} {tk : Nat} (hR : tl ++ base ++ owns = R) (hfi : fs[i]? = some f) (hp : ∀ x ∈ cs, plainV x.v)
    (m1 : m' (Str.ofString "found") = some (.ref D)) (hD : ∀ p ∈ tl ++ base, p.1 ≠ D) (hvl : vs.length = i) (hDA : DatAll tl vs ((fs.take i).map (seenD cs)))
    (hoff : ∀ q ∈ (D, PySem.W.listOf vs.toArray n) :: (tl ++ base), ∀ p ∈ owns, q.1 ≠ p.1) (oA : ∀ p ∈ R, p.1 ≠ A) (oB : ∀ p ∈ R, p.1 ≠ B) (oT : ∀ p ∈ R, p.1 ≠ T) (dA : @Ne Nat A D) (dB : @Ne Nat B D) (dT : @Ne Nat T D)
    (F : Fr g L h' m') (N : News g L h' ((T, (⟨.type "tuple", none, .seq #[.ref A, .ref B] nt, #[]⟩ : Obj)) :: (B, PySem.W.listOf (f.kept.map fun p => cval cs p.1).toArray nb) :: (A, PySem.W.listOf (f.own.map fun p => cval cs p.1).toArray na) :: (D, PySem.W.listOf (vs ++ [Value.ref T]).toArray (n + 1)) :: R)) :
    LPost g L (seenJ cs fs base (i + 1)) owns s₁ Q .next { s₁ with heap := h', toks := tk } := by
  have e : (fs.take (i + 1)).map (seenD cs) = (fs.take i).map (seenD cs) ++ [seenD cs f] := by rw [List.take_add_one, hfi]; simp
  refine LPost.next (nx := (D, PySem.W.listOf (vs ++ [Value.ref T]).toArray (n + 1)) :: (((T, (⟨.type "tuple", none, .seq #[.ref A, .ref B] nt, #[]⟩ : Obj)) :: (B, PySem.W.listOf (f.kept.map fun p => cval cs p.1).toArray nb) :: (A, PySem.W.listOf (f.own.map fun p => cval cs p.1).toArray na) :: tl) ++ base)) F ?_ ?_
    ⟨D, vs ++ [.ref T], n + 1, _, m1, rfl, ?_, by rw [List.length_append, hvl]; rfl, ?_⟩
  · refine news_sub N ?_
    rw [← hR]
    exact app_all (con_all (.tail _ (.tail _ (.tail _ (.head _)))) (app_all (con_all (.head _) (con_all (.tail _ (.head _)) (con_all (.tail _ (.tail _ (.head _))) (fun _ h => .tail _ (.tail _ (.tail _ (.tail _ (List.mem_append_left _ (List.mem_append_left _ (h)))))))))) (fun _ h => .tail _ (.tail _ (.tail _ (.tail _ (List.mem_append_left _ (List.mem_append_right _ (h))))))))) (fun _ h => .tail _ (.tail _ (.tail _ (.tail _ (List.mem_append_right _ (h))))))
  · intro q hq p hp
    have hpR : p ∈ R := by rw [← hR]; exact List.mem_append_right _ hp
    simp only [List.cons_append, List.mem_cons] at hq
    rcases hq with rfl | rfl | rfl | rfl | hq
    · exact hoff (D, _) (.head _) p hp
    · exact (oT p hpR).symm
    · exact (oB p hpR).symm
    · exact (oA p hpR).symm
    · exact hoff q (.tail _ hq) p hp
  · rw [e]
    exact datAll_snoc (hDA.mono fun p hp => .tail _ (.tail _ (.tail _ hp))) (row_in (cval_plain hp) (.head _) (.tail _ (.tail _ (.head _))) (.tail _ (.head _)))
  · intro p hp
    simp only [List.cons_append, List.mem_cons] at hp
    rcases hp with rfl | rfl | rfl | hp
    · exact dT
    · exact dB
    · exact dA
    · exact hD p hp
theorem crefs_at {cs : List Ce} {o : List (Nat × Tok)} {i : Nat} {v : Value} (hv : (crefs cs o).toArray[i]? = some v) (ho : ∀ p ∈ o, p.1 < cs.length) : ∃ p x, o[i]? = some p ∧ cs[p.1]? = some x ∧ v = .ref x.c := by
  unfold crefs at hv
  rw [List.getElem?_toArray, List.getElem?_map] at hv
  cases hp : o[i]? with
  | none => rw [hp] at hv; cases hv
  | some p =>
    rw [hp] at hv
    have hlt := ho p (List.mem_of_getElem? hp)
    refine ⟨p, cs[p.1], rfl, List.getElem?_eq_getElem hlt, ?_⟩
    rw [← Option.some.inj hv]
    show cref cs p.1 = _
    unfold cref
    rw [List.getElem?_eq_getElem hlt]
theorem take_snoc {o : List (Nat × Tok)} {f : Nat → Value} {i : Nat} {p : Nat × Tok} {y : Value} (hp : o[i]? = some p) (hy : f p.1 = y) : (o.take i).map (fun p => f p.1) ++ [y] = (o.take (i + 1)).map fun p => f p.1 := by
  rw [List.take_add_one, hp]; simp [hy]
theorem take_size {o : List (Nat × Tok)} {f : Nat → Value} {vs : List Value} (h : vs.length = o.length) : (o.take vs.toArray.size).map (fun p => f p.1) = o.map fun p => f p.1 := by
  rw [List.size_toArray, h, List.take_length]
def Stp (p : Prop) : Prop := p
theorem stp_comp {M : Model} {A : Around} {E : Value → Shared → Prop} {s : Shared} {a b c d} {env : Env} {Q : Value → Shared → Prop} (h : Stp (wpAny M A (eval (.ListComp a b c d) env) Q E s)) : wpAny M A (eval (.ListComp a b c d) env) Q E s := h
theorem stp_it {M : Model} {A : Around} {E : Value → Shared → Prop} {s : Shared} {v : Value} {Q : Value → Shared → Prop} (h : Stp (wpAny M A (pyIter v) Q E s)) : wpAny M A (pyIter v) Q E s := h
theorem stp_get {M : Model} {A : Around} {E : Value → Shared → Prop} {s : Shared} {v : Value} {n : Str} {b : Bool} {Q : Value → Shared → Prop} (h : Stp (wpAny M A (getAttr v n b) Q E s)) : wpAny M A (getAttr v n b) Q E s := h
end
local macro_rules | `(tactic| walk_at "eval ListComp") => `(tactic| (k_here; refine' stp_comp ?_))
section
set_option maxRecDepth 100000
set_option maxHeartbeats 8000000
local macro_rules | `(tactic| walk_at "getAttr ref") => `(tactic| (k_here; first | k_dflt (refine' get_own ?k1 ?k2 ?k3 ?k4 ?k5 ?k6 ?k7 ?k8 ?k9 ?_; (case k1 => k_asm); (case k2 => k_asm); (case k3 => k_inst); (case k4 => k_is); (case k5 => k_is); (case k6 => k_is); (case k7 => k_is); (case k8 => assumption); (case k9 => k_handed); k_whole) | refine' stp_get ?_))
local macro_rules | `(tactic| walk_at "exec For Name Name cons nil") => `(tactic| (k_here; (rename Fr _ _ _ _ => lF'); (with_unfolding_all refine' For_invVF lF' ?k1 ?k2 ?_; (case k1 => exact rfl); (case k2 => exact rfl); k_whole)))
local macro_rules | `(tactic| walk_at "pyIter ref") => `(tactic| (k_here; refine' stp_it ?_))
theorem seen0 (w : World) (base : List (Addr × Obj)) (fl : Addr) (nfl : Nat) (fs : List Fm) (cs : List Ce) (hl : (fl, PySem.W.listOf (FLv fs).toArray nfl) ∈ base) (hfr : ∀ f ∈ fs, ∀ p ∈ fmLed cs f, p ∈ base) (hce : ∀ x ∈ cs, ∀ p ∈ cellLed w x, p ∈ base) (hok : ∀ f ∈ fs, FmOk cs.length f) (hp : ∀ x ∈ cs, plainV x.v) (hn : fs.length < 100) :
  Says w 129 [.ref fl] 16 200 base (fun r news' => ∃ D vs n tl, r = .ref D ∧ news' = (D, PySem.W.listOf vs.toArray n) :: (tl ++ base) ∧ DatAll tl vs (fs.map (seenD cs))) := by
  unfold Says
  w_top off
  k_fill
  intro mean mg mb dp un gd cn cs' a ccd cl outer A₀ base' h₀ L m s Q E B F X N T hk hd' hu hret
  refine wpAny_call ?_
  k_dflt ktr_enter
  k_steps
  unfold Stp
  rename ∀ (p : Addr × Obj), p ∈ base → p.1 < _ => l1
  rename Fr _ _ _ _ => F2
  rename News _ _ _ _ => N2
  refine loop_listVW ⟨seenJ cs fs base⟩ rfl (.tail _ hl) F2 N2 ?_ ?_ ?_ ?_
  · unfold StartW
    dsimp only
    unfold seenJ
    exact ⟨_, [], 0, [], rfl, rfl, .nil, rfl, fun p hp => Nat.ne_of_lt (l1 p hp)⟩
  · unfold KeepW
    rintro i m nx ⟨D, vs, n, tl, _, rfl, _⟩
    exact .tail _ (List.mem_append_right _ hl)
  · unfold TurnL
    dsimp only
    intro i v m₁ nx h tk owns hv hoff hJ F₁ N₁
    unfold seenJ at hJ
    obtain ⟨D, vs, n, tl, m1, rfl, hDA, hvl, hD⟩ := hJ
    obtain ⟨f, hfi, rfl⟩ : ∃ f, fs[i]? = some f ∧ v = .ref f.fa := by
      unfold FLv at hv
      rw [List.getElem?_map] at hv
      cases hfi : fs[i]? with
      | none => rw [hfi] at hv; cases hv
      | some f => rw [hfi] at hv; exact ⟨f, rfl, (Option.some.inj hv).symm⟩
    have hfm := List.mem_of_getElem? hfi
    have hif : i < fs.length := (List.getElem?_eq_some_iff.mp hfi).1
    have F₂ := fr_ps [(_, _)] (List.forall_mem_cons.mpr ⟨m1, List.forall_mem_nil _⟩) F₁
    obtain ⟨ok1, ok2, ok7, ok3, ok4, ok5, ok6⟩ := hok f hfm
    have hvn : vs.length < 1000 := by omega
    generalize hR : tl ++ base ++ owns = R at *
    have hbR : ∀ p ∈ base, p ∈ R := fun p hp => by rw [← hR]; exact List.mem_append_left _ (List.mem_append_right _ hp)
    have hDR : ∀ p ∈ R, p.1 ≠ D := by
      intro p hp
      rw [← hR] at hp
      rcases List.mem_append.mp hp with hp | hp
      · exact hD p hp
      · exact (hoff _ (.head _) p hp).symm
    have N₂ := news_eq N₁ (show _ = (D, PySem.W.listOf vs.toArray n) :: R by rw [← hR]; simp only [List.cons_append])
    clear F₁ N₁
    have c1 := hbR _ (hfr f hfm (f.fa, instObj 59 f.fd) (.head _))
    have c2 := hbR _ (hfr f hfm (f.fd, PySem.W.dictOf f.fes f.nf) (.tail _ (.head _)))
    have c3 := hbR _ (hfr f hfm (f.ca, PySem.W.listOf (crefs cs f.own).toArray f.nc) (.tail _ (.tail _ (.head _))))
    have c4 := hbR _ (hfr f hfm (f.ua, PySem.W.listOf (crefs cs f.kept).toArray f.nu) (.tail _ (.tail _ (.tail _ (.head _)))))
    k_steps
    unfold Stp
    refine PyProof.Rows.LCg.ListComp_U (F₀ := F₂) (by with_unfolding_all rfl) (by decide) (by rfl) (by decide) (by rfl) ?_
    k_steps
    refine PyProof.Rows.LCg.CompSrc.ledger rfl F₂ N₂ (.tail _ c3) (by rw [List.size_toArray, crefs_length, sizeLine_eq]; omega) ?_
    intro g9
    refine comp_ind _ (fun i ys news => ys = (f.own.take i).map (fun p => cval cs p.1) ∧ news = _) ?_ ?_ _ 0 [] _ (Nat.zero_add _) ⟨rfl, rfl⟩
    · rintro i9 ys news v I9 oI C9 oC D9 m₂ h9 tk9 E' hi9 hv9 ⟨rfl, rfl⟩ hC9 hx9 F9 N9 off9 ne9
      obtain ⟨p9, x9, hp9, hx9', rfl⟩ := crefs_at hv9 ok3
      have hxm := List.mem_of_getElem? hx9'
      k_steps
      unfold Stp
      refine get_cell F9 (by assumption) N9 (.tail _ (.tail _ (.tail _ (.tail _ (hbR _ (hce x9 hxm _ (.head _))))))) (.tail _ (.tail _ (.tail _ (.tail _ (hbR _ (hce x9 hxm _ (.tail _ (.head _)))))))) (hp x9 hxm) ?_
      exact PyProof.Rows.LCg.CompEnd.intro F9 N9 _ (fun p hp => hp) off9 (.inr ⟨_, .tail _ c3, rfl, _, rfl⟩) ⟨take_snoc hp9 (by unfold cval; rw [hx9']), rfl⟩
    · rintro ys news ⟨rfl, rfl⟩
      rw [take_size (crefs_length _ _)]
      unfold PyProof.Rows.LCg.FinE
      intro A9 h8 tk8 F8 N8 off8
      k_steps
      unfold Stp
      refine PyProof.Rows.LCg.ListComp_U (F₀ := F8) (by with_unfolding_all rfl) (by decide) (by rfl) (by decide) (by rfl) ?_
      k_steps
      refine PyProof.Rows.LCg.CompSrc.ledger rfl F8 N8 (.tail _ (.tail _ c4)) (by rw [List.size_toArray, crefs_length, sizeLine_eq]; omega) ?_
      intro g7
      refine comp_ind _ (fun i ys news => ys = (f.kept.take i).map (fun p => cval cs p.1) ∧ news = _) ?_ ?_ _ 0 [] _ (Nat.zero_add _) ⟨rfl, rfl⟩
      · rintro i9 ys news v I9 oI C9 oC D9 m₂ h9 tk9 E' hi9 hv9 ⟨rfl, rfl⟩ hC9 hx9 F9 N9 off9 ne9
        obtain ⟨p9, x9, hp9, hx9', rfl⟩ := crefs_at hv9 ok4
        have hxm := List.mem_of_getElem? hx9'
        k_steps
        unfold Stp
        refine get_cell F9 (by assumption) N9 (.tail _ (.tail _ (.tail _ (.tail _ (.tail _ (hbR _ (hce x9 hxm _ (.head _)))))))) (.tail _ (.tail _ (.tail _ (.tail _ (.tail _ (hbR _ (hce x9 hxm _ (.tail _ (.head _))))))))) (hp x9 hxm) ?_
        exact PyProof.Rows.LCg.CompEnd.intro F9 N9 _ (fun p hp => hp) off9 (.inr ⟨_, .tail _ (.tail _ c4), rfl, _, rfl⟩) ⟨take_snoc hp9 (by unfold cval; rw [hx9']), rfl⟩
      · rintro ys news ⟨rfl, rfl⟩
        rw [take_size (crefs_length _ _)]
        unfold PyProof.Rows.LCg.FinE
        intro B9 h6 tk6 F6 N6 off6
        have hA9 : @Ne Nat A9 D := Ne.symm off8.1
        have hB9 : @Ne Nat B9 D := Ne.symm off6.2.1
        k_steps
        rename B9 < _ ∧ _ => hT
        exact seen_end hR hfi hp rfl hD hvl hDA hoff (fun p hp => off1_mem off8 p (.tail _ hp)) (fun p hp => off1_mem off6 p (.tail _ (.tail _ hp))) (fun p hp => Nat.ne_of_lt (allLt_all hT.2.2.2 p hp)) hA9 hB9 (Nat.ne_of_gt hT.2.2.1) (by assumption) (by assumption)
  · unfold DoneW
    dsimp only
    intro m₁ nx h tk hJ F₁ N₁
    unfold seenJ at hJ
    obtain ⟨D, vs, n, tl, m1, rfl, hDA, hvl, hD⟩ := hJ
    have F₂ := fr_ps0 [(_, _)] (List.forall_mem_cons.mpr ⟨m1, List.forall_mem_nil _⟩) F₁
    clear F₁
    k_steps
    have e : fs.take (FLv fs).length = fs := by unfold FLv; rw [List.length_map]; exact List.take_length
    rw [e] at hDA
    exact hret _ _ _ _ (by assumption) (by assumption) ⟨D, vs, n, tl, rfl, rfl, hDA⟩
end
section
theorem stp_sub {M : Model} {A : Around} {E : Value → Shared → Prop} {s : Shared} {a b : PySem.Expr} {v u : Value} {Q : Value → Shared → Prop} (h : Stp (wpAny M A (subscriptTail a b v u) Q E s)) : wpAny M A (subscriptTail a b v u) Q E s := h
theorem known_off {I C D A B T : Addr} {oI oC oD oA oT oB oA' oI' oC' oD' : Obj} {R : List (Addr × Obj)} (off9 : PyProof.Rows.LCg.Off3 I C D R) (off8 : PyProof.Rows.LCg.Off1 A ((I, oI) :: (C, oC) :: (D, oD) :: R)) (off6 : PyProof.Rows.LCg.Off1 B ((A, oA) :: (I, oI') :: (C, oC') :: (D, oD') :: R)) (hT : B < T ∧ A < T ∧ I < T ∧ C < T ∧ D < T ∧ AllLt T R) :
    PyProof.Rows.LCg.Off3 I C D ((T, oT) :: (B, oB) :: (A, oA') :: R) :=
  ⟨⟨Nat.ne_of_gt hT.2.2.1, Nat.ne_of_gt hT.2.2.2.1, Nat.ne_of_gt hT.2.2.2.2.1⟩, ⟨Ne.symm off6.2.1, Ne.symm off6.2.2.1, Ne.symm off6.2.2.2.1⟩, ⟨Ne.symm off8.1, Ne.symm off8.2.1, Ne.symm off8.2.2.1⟩, off9⟩
theorem name_tl {h₀ : Heap} {L I C D : Addr} {h : Heap} {a b c : Addr × Obj} {tl N0 : List (Addr × Obj)} (N : News h₀ L h (a :: b :: c :: (tl ++ N0))) (off : PyProof.Rows.LCg.Off3 I C D (tl ++ N0)) : ∃ R, tl ++ N0 = R ∧ News h₀ L h (a :: b :: c :: R) ∧ PyProof.Rows.LCg.Off3 I C D R ∧ ∀ p ∈ N0, p ∈ R := ⟨_, rfl, N, off, fun _ hp => List.mem_append_right _ hp⟩
theorem comp_close {h₀ : Heap} {L I C D : Addr} {m : Str → Option Value} {s₁ : Shared} {oI oC oD : Obj} {S : List (Addr × Obj) → Prop} {r : Value → List (Addr × Obj) → Prop} {y : Value} {h' : Heap} {tk : Nat} {t b a : Addr × Obj} {R : List (Addr × Obj)} (F : Fr h₀ L h' m) (N : News h₀ L h' (t :: b :: a :: (I, oI) :: (C, oC) :: (D, oD) :: R))
    (off : PyProof.Rows.LCg.Off3 I C D (t :: b :: a :: R)) (hS : S (t :: b :: a :: R)) (hr : r y (t :: b :: a :: R)) : PyProof.Rows.LCg.CompEnd h₀ L m s₁ I oI C oC D oD S r y { s₁ with heap := h', toks := tk } :=
  PyProof.Rows.LCg.CompEnd.intro F N _ (con_all (.tail _ (.tail _ (.tail _ (.head _)))) (con_all (.tail _ (.tail _ (.tail _ (.tail _ (.head _))))) (con_all (.tail _ (.tail _ (.tail _ (.tail _ (.tail _ (.head _)))))) (con_all (.head _) (con_all (.tail _ (.head _)) (con_all (.tail _ (.tail _ (.head _))) (fun _ h => .tail _ (.tail _ (.tail _ (.tail _ (.tail _ (.tail _ (h))))))))))))) off hS hr
theorem known_row {news0 : List (Addr × Obj)} {tl R : List (Addr × Obj)} {t b a : Addr × Obj} {ys : List Value} {y : Value} {fs : List Fm} {f : Fm} {i : Nat} {vals : List Value} (hR : tl ++ news0 = R) (hfi : fs[i]? = some f) (hDA : DatAll tl ys ((fs.take i).map (knownD vals))) (h : DatIn (t :: b :: a :: tl) y (knownD vals f)) :
    ∃ tl', t :: b :: a :: R = tl' ++ news0 ∧ DatAll tl' (ys ++ [y]) ((fs.take (i + 1)).map (knownD vals)) := by
  refine ⟨t :: b :: a :: tl, by rw [← hR]; rfl, ?_⟩
  have e : (fs.take (i + 1)).map (knownD vals) = (fs.take i).map (knownD vals) ++ [knownD vals f] := by rw [List.take_add_one, hfi]; simp
  rw [e]
  exact datAll_snoc (hDA.mono fun p hp => .tail _ (.tail _ (.tail _ hp))) h
theorem ints_at {o : List (Nat × Tok)} {i : Nat} {v : Value} (hv : (intsV o).toArray[i]? = some v) : ∃ p, o[i]? = some p ∧ v = .int (p.1 : Int) p.2 := by
  unfold intsV at hv
  rw [List.getElem?_toArray, List.getElem?_map] at hv
  cases hp : o[i]? with
  | none => rw [hp] at hv; cases hv
  | some p => rw [hp] at hv; exact ⟨p, rfl, (Option.some.inj hv).symm⟩
end
local macro_rules | `(tactic| walk_at "subscriptTail Name Name") => `(tactic| (k_here; refine' stp_sub ?_))
section
set_option maxRecDepth 100000
set_option maxHeartbeats 8000000
theorem known0 (w : World) (base : List (Addr × Obj)) (ml vl : Addr) (nml nvl : Nat) (fs : List Fm) (vals : List Value) (hl : (ml, PySem.W.listOf (MLv fs).toArray nml) ∈ base) (hvl : (vl, PySem.W.listOf vals.toArray nvl) ∈ base)
   (hfr : ∀ f ∈ fs, (f.ta, (⟨.type "tuple", none, .seq #[.ref f.oa, .ref f.ka] f.nt, #[]⟩ : Obj)) ∈ base ∧ (f.oa, PySem.W.listOf (intsV f.own).toArray f.no) ∈ base ∧ (f.ka, PySem.W.listOf (intsV f.kept).toArray f.nk) ∈ base) (hok : ∀ f ∈ fs, FmOk vals.length f) (hp : ∀ v ∈ vals, plainV v) (hn : fs.length < 100) (hvn : vals.length < 1000) :
  Says w 134 [.ref ml, .ref vl] 16 200 base (fun r news' => ∃ D vs n tl, r = .ref D ∧ news' = (D, PySem.W.listOf vs.toArray n) :: (tl ++ base) ∧ DatAll tl vs (fs.map (knownD vals))) := by
  unfold Says
  w_top off
  k_fill
  intro mean mg mb dp un gd cn cs a ccd cl outer A₀ base' h₀ L m s Q E B F XX N T hk hd' hu hret
  refine wpAny_call ?_
  k_dflt (refine' code_defC ?k1 ?k2 ?k3 ?k4 ?k5 ?kA ?kF ?kK ?k6 ?k7 ?k8 ?k9 ?kB ?kD ?_ ?c2 ?c3 ?c4; (case kA => exact rfl); (case kF => exact rfl); (case kK => assumption); (case k1 => k_asm); (case k2 => k_asm); (case k3 => k_asm); (case k4 => k_asm); (case k5 => k_asm); (case k6 => k_is); (case k7 => k_is); (case k8 => ktr_room); (case k9 => exact BindsTo.of_eq rfl); (case kB => exact rfl); (case kD => decide +kernel); (case c2 => exact rfl); (case c3 => exact rfl); (case c4 => exact rfl); k_whole; intro g' L' h' tk' cells' FG' F' N' Y' B' X' T' l1; (try k_lt l1); k_cells Y'; (try simp only [List.cons_append, List.nil_append] at N'); (try dsimp only); (try k_fold))
  k_steps
  unfold Stp
  rename Fr _ _ _ _ => F2
  rename News _ _ _ _ => N2
  refine PyProof.Rows.LCg.ListComp_U (F₀ := F2) (by with_unfolding_all rfl) (by decide) (by rfl) (by decide) (by rfl) ?_
  k_steps
  refine PyProof.Rows.LCg.CompSrc.ledger rfl F2 N2 (.tail _ hl) (by unfold MLv; rw [List.size_toArray, List.length_map, sizeLine_eq]; omega) ?_
  intro g9
  refine comp_ind _ (fun i ys news => ∃ tl, news = tl ++ _ ∧ DatAll tl ys ((fs.take i).map (knownD vals))) ?_ ?_ _ 0 [] _ (Nat.zero_add _) ⟨[], rfl, .nil⟩
  · rintro i9 ys news v I9 oI C9 oC D9 m₂ h9 tk9 E' hi9 hv9 ⟨tl, rfl, hDA⟩ hC9 hx9 F9 N9 off9 ne9
    obtain ⟨f, hfi, rfl⟩ : ∃ f, fs[i9]? = some f ∧ v = .ref f.ta := by
      unfold MLv at hv9
      rw [List.getElem?_toArray, List.getElem?_map] at hv9
      cases hfi : fs[i9]? with
      | none => rw [hfi] at hv9; cases hv9
      | some f => rw [hfi] at hv9; exact ⟨f, rfl, (Option.some.inj hv9).symm⟩
    have hfm := List.mem_of_getElem? hfi
    obtain ⟨ok1, ok2, ok7, ok3, ok4, ok5, ok6⟩ := hok f hfm
    obtain ⟨R, hR, N8, off8, hin⟩ := name_tl N9 off9
    clear N9 off9
    have hcm := hin _ (.head _)
    have hbR : ∀ p ∈ base, p ∈ R := fun p hp => hin p (.tail _ hp)
    have z1 := hbR _ (hfr f hfm).1
    have z2 := hbR _ (hfr f hfm).2.1
    have z3 := hbR _ (hfr f hfm).2.2
    have z4 := hbR _ hvl
    have z5 := hbR _ hl
    k_steps
    unfold Stp
    refine PyProof.Rows.LCg.ListComp_U (F₀ := F9) (by with_unfolding_all rfl) (by decide) (by rfl) (by decide) (by rfl) ?_
    k_steps
    refine PyProof.Rows.LCg.CompSrc.ledger rfl F9 N8 (.tail _ (.tail _ (.tail _ z2))) (by rw [List.size_toArray, intsV_length, sizeLine_eq]; omega) ?_
    intro g7
    refine comp_ind _ (fun i ys news => ys = (f.own.take i).map (fun p => vals.getD p.1 .none) ∧ news = _) ?_ ?_ _ 0 [] _ (Nat.zero_add _) ⟨rfl, rfl⟩
    · rintro i1 ys1 news1 v1 I1 oI1 C1 oC1 D1 m1 h1 tk1 E1 hi1 hv1 ⟨rfl, rfl⟩ hC1 hx1 F1 N1 off1 ne1
      obtain ⟨p1, hp1, rfl⟩ := ints_at hv1
      k_steps
      unfold Stp
      refine item_led N1 (.tail _ (.tail _ (.tail _ (.tail _ (.tail _ (.tail _ z4)))))) (Int.natCast_nonneg _) (by have := ok3 p1 (List.mem_of_getElem? hp1); omega) hvn ?_
      exact PyProof.Rows.LCg.CompEnd.intro F1 N1 _ (fun p hp => hp) off1 (.inr ⟨_, .tail _ (.tail _ (.tail _ z2)), rfl, _, rfl⟩) ⟨take_snoc (f := fun j => vals.getD j .none) hp1 (by simp), rfl⟩
    · rintro ys1 news1 ⟨rfl, rfl⟩
      rw [take_size (f := fun j => vals.getD j .none) (intsV_length _)]
      unfold PyProof.Rows.LCg.FinE
      intro A9 h8 tk8 F8 N7 offA
      k_steps
      unfold Stp
      refine PyProof.Rows.LCg.ListComp_U (F₀ := F8) (by with_unfolding_all rfl) (by decide) (by rfl) (by decide) (by rfl) ?_
      k_steps
      refine PyProof.Rows.LCg.CompSrc.ledger rfl F8 N7 (.tail _ (.tail _ (.tail _ (.tail _ z3)))) (by rw [List.size_toArray, intsV_length, sizeLine_eq]; omega) ?_
      intro g6
      refine comp_ind _ (fun i ys news => ys = (f.kept.take i).map (fun p => vals.getD p.1 .none) ∧ news = _) ?_ ?_ _ 0 [] _ (Nat.zero_add _) ⟨rfl, rfl⟩
      · rintro i1 ys1 news1 v1 I1 oI1 C1 oC1 D1 m1 h1 tk1 E1 hi1 hv1 ⟨rfl, rfl⟩ hC1 hx1 F1 N1 off1 ne1
        obtain ⟨p1, hp1, rfl⟩ := ints_at hv1
        k_steps
        unfold Stp
        refine item_led N1 (.tail _ (.tail _ (.tail _ (.tail _ (.tail _ (.tail _ (.tail _ z4))))))) (Int.natCast_nonneg _) (by have := ok4 p1 (List.mem_of_getElem? hp1); omega) hvn ?_
        exact PyProof.Rows.LCg.CompEnd.intro F1 N1 _ (fun p hp => hp) off1 (.inr ⟨_, .tail _ (.tail _ (.tail _ (.tail _ z3))), rfl, _, rfl⟩) ⟨take_snoc (f := fun j => vals.getD j .none) hp1 (by simp), rfl⟩
      · rintro ys1 news1 ⟨rfl, rfl⟩
        rw [take_size (f := fun j => vals.getD j .none) (intsV_length _)]
        unfold PyProof.Rows.LCg.FinE
        intro B9 h5 tk5 F5 N5 offB
        k_steps
        rename B9 < _ ∧ _ => hT
        rename News _ _ _ _ => kN
        exact comp_close (by assumption) kN (known_off off8 offA offB hT) (.inr ⟨_, .tail _ (.tail _ (.tail _ z5)), rfl, _, rfl⟩) (known_row hR hfi hDA (row_in (f := fun j => vals.getD j .none) (getD_plain hp) (.head _) (.tail _ (.tail _ (.head _))) (.tail _ (.head _))))
  · rintro ys news ⟨tl, rfl, hDA⟩
    unfold PyProof.Rows.LCg.FinE
    intro D9 h9 tk9 F9 N9 off9
    have e : fs.take (MLv fs).toArray.size = fs := by unfold MLv; rw [List.size_toArray, List.length_map]; exact List.take_length
    rw [e] at hDA
    k_steps
    rename News h₀ L _ _ => kN
    refine hret _ ((D9, PySem.W.listOf ys.toArray ys.length) :: (tl ++ base)) _ _ (by assumption) (news_sub kN fun p hp => ?_) ⟨D9, ys, ys.length, tl, rfl, rfl, hDA⟩
    rcases List.mem_cons.mp hp with rfl | hp
    · exact .head _
    · rcases List.mem_append.mp hp with hp | hp
      · exact .tail _ (List.mem_append_left _ hp)
      · exact .tail _ (List.mem_append_right _ (.tail _ hp))
end
section
def St.box (S : St) (o : Obj) : St := { S with ob := o }
theorem Inv.box_close {w : World} {X : Fx} {S : St} {out : List (Addr × Obj)} (I : Inv w X S out) {o : Obj} (h : IsBox X.l o) : Inv w X (S.box o) out := by
  have hkeys : (led w X (S.box o)).map (·.1) = (led w X S).map (·.1) := rfl
  refine ⟨h, hkeys ▸ I.nd, ?_, I.fm, I.len, I.ia, I.few⟩
  intro q hq p hp e
  have h1 : q.1 ∈ (led w X S).map (·.1) := hkeys ▸ List.mem_map.mpr ⟨q, hq, rfl⟩
  obtain ⟨r, hr, e2⟩ := List.mem_map.mp h1
  exact I.off r hr p hp (e2.trans e)
theorem take_st (w : World) (X : Fx) (S : St) (out : List (Addr × Obj)) (I : Inv w X S out) {many : Int} {t : Tok} (h3 : 0 < many) (h4 : many < 1000) :
    Says w 105 [.ref X.b, .int many t] 8 100 (led w X S ++ out) (fun r news' => ∃ k t' o', r = .int k t' ∧ 0 ≤ k ∧ k < many ∧ Inv w X (S.box o') out ∧ news' = led w X (S.box o') ++ out) := by
  obtain ⟨⟨d1, d2, d3, d4, d5, d6⟩, a1, a2, a3, a4, d7⟩ := I.apart
  have U : UpdF X.b S.ob (led w X S ++ out) (fun o' => led w X (S.box o') ++ out) := by
    refine UpdF.head ?_
    exact List.forall_mem_cons.mpr ⟨Ne.symm d1, List.forall_mem_cons.mpr ⟨Ne.symm d2, List.forall_mem_cons.mpr ⟨Ne.symm d3, a1⟩⟩⟩
  refine (take_says U I.box (l := X.l) (vs := X.vs) (ns := X.ns) (nn := X.nl) (.tail _ (.tail _ (.tail _ (.tail _ (.head _))))) I.ia I.few d7 h3 h4).weaken (fun _ h => h) ?_
  rintro r nx ⟨k, t', o', rfl, h0, h1, hB, rfl⟩
  exact ⟨_, fun _ h => h, k, t', o', rfl, h0, h1, I.box_close hB, rfl⟩
theorem Inv.out {w : World} {X : Fx} {S : St} {out own : List (Addr × Obj)} (I : Inv w X S out) (h : ∀ q ∈ led w X S, ∀ p ∈ own, q.1 ≠ p.1) : Inv w X S own := ⟨I.box, I.nd, h, I.fm, I.len, I.ia, I.few⟩
theorem start_sub {α : Type} {b fl ml vl l fx fd C U T O K : α} {cl : List α} : ∀ p ∈ (b :: fl :: ml :: vl :: l :: ([fx, fd, C, U, T, O, K] ++ cl)), p ∈ (ml :: T :: K :: O :: fl :: fx :: fd :: C :: U :: vl :: b :: l :: cl) :=
  con_all (.tail _ (.tail _ (.tail _ (.tail _ (.tail _ (.tail _ (.tail _ (.tail _ (.tail _ (.tail _ (.head _))))))))))) (con_all (.tail _ (.tail _ (.tail _ (.tail _ (.head _))))) (con_all (.head _) (con_all (.tail _ (.tail _ (.tail _ (.tail _ (.tail _ (.tail _ (.tail _ (.tail _ (.tail _ (.head _)))))))))) (con_all (.tail _ (.tail _ (.tail _ (.tail _ (.tail _ (.tail _ (.tail _ (.tail _ (.tail _ (.tail _ (.tail _ (.head _)))))))))))) (app_all (con_all (.tail _ (.tail _ (.tail _ (.tail _ (.tail _ (.head _)))))) (con_all (.tail _ (.tail _ (.tail _ (.tail _ (.tail _ (.tail _ (.head _))))))) (con_all (.tail _ (.tail _ (.tail _ (.tail _ (.tail _ (.tail _ (.tail _ (.head _)))))))) (con_all (.tail _ (.tail _ (.tail _ (.tail _ (.tail _ (.tail _ (.tail _ (.tail _ (.head _))))))))) (con_all (.tail _ (.head _)) (con_all (.tail _ (.tail _ (.tail _ (.head _)))) (con_all (.tail _ (.tail _ (.head _))) (List.forall_mem_nil _)))))))) (fun _ h => .tail _ (.tail _ (.tail _ (.tail _ (.tail _ (.tail _ (.tail _ (.tail _ (.tail _ (.tail _ (.tail _ (.tail _ (h))))))))))))))))))
theorem start_inv {w : World} {b fl ml vl l fx fd U C T O K : Addr} {ob : Obj} {vs : List Value} {ns : List Int} {nl nf nfl nml nvl nC nU nT nO nK : Nat} {fes : List DictEntry} {cs' : List Ce} {t0 t1 : Tok} (hcn : cs'.length = 2) (hcv : ∀ x ∈ cs', x.v = .none)
    (hg1 : getL (Str.ofString "cells") fes = some (some (.ref C))) (hg2 : getL (Str.ofString "ups") fes = some (some (.ref U))) (hg3 : getL (Str.ofString "put") fes = some none) (hB : IsBox l ob) (hi : IntsAre vs ns) (hf : ns.length ≤ 40)
    (hnd : (ml :: T :: K :: O :: fl :: (fx :: fd :: C :: (cellsLed w cs').map (·.1)) ++ [U, vl, b, l]).Nodup) :
    ∃ S, Inv w ⟨b, fl, ml, vl, l, vs, ns, nl⟩ S [] ∧ Vals S ∧ S.frames.length = 1 ∧ S.cs.length = 2 ∧ ∀ p ∈ led w ⟨b, fl, ml, vl, l, vs, ns, nl⟩ S,
      p ∈ (ml, PySem.W.listOf #[.ref T] nml) :: (T, (⟨.type "tuple", none, .seq #[.ref O, .ref K] nT, #[]⟩ : Obj)) :: (K, PySem.W.listOf #[] nK) :: (O, PySem.W.listOf #[.int 0 t0, .int 1 t1] nO) :: (fl, PySem.W.listOf #[.ref fx] nfl) :: (fx, instObj 59 fd) :: (fd, PySem.W.dictOf fes nf) ::
        (C, PySem.W.listOf (cs'.map fun x => Value.ref x.c).toArray nC) :: (U, PySem.W.listOf #[] nU) :: (vl, PySem.W.listOf #[.none, .none] nvl) :: (b, ob) :: (l, PySem.W.listOf vs.toArray nl) :: cellsLed w cs' := by
  let f : Fm := { fa := fx, fd := fd, ca := C, ua := U, ta := T, oa := O, ka := K, fes := fes, nf := nf, nc := nC, nu := nU, nt := nT, no := nO, nk := nK, own := [(0, t0), (1, t1)], kept := [] }
  let S : St := { ob := ob, frames := [f], cs := cs', vals := [.none, .none], nfl := nfl, nml := nml, nvl := nvl }
  have eown : crefs cs' f.own = cs'.map fun x => Value.ref x.c := by
    have := crefs_new (cs := []) (cs' := cs') (ow := f.own) (by rw [hcn]; rfl)
    rw [List.nil_append] at this
    exact this
  have efm : fmLed cs' f = [(fx, instObj 59 fd), (fd, PySem.W.dictOf fes nf), (C, PySem.W.listOf (cs'.map fun x => Value.ref x.c).toArray nC), (U, PySem.W.listOf #[] nU),
      (T, (⟨.type "tuple", none, .seq #[.ref O, .ref K] nT, #[]⟩ : Obj)), (O, PySem.W.listOf #[.int 0 t0, .int 1 t1] nO), (K, PySem.W.listOf #[] nK)] := by
    unfold fmLed; rw [eown]; rfl
  have e0 : led w ⟨b, fl, ml, vl, l, vs, ns, nl⟩ S = (b, ob) :: (fl, PySem.W.listOf #[.ref fx] nfl) :: (ml, PySem.W.listOf #[.ref T] nml) :: (vl, PySem.W.listOf #[.none, .none] nvl) :: (l, PySem.W.listOf vs.toArray nl) :: (fmLed cs' f ++ cellsLed w cs') := by
    show (b, ob) :: (fl, _) :: (ml, _) :: (vl, _) :: (l, _) :: (framesLed cs' [f] ++ cellsLed w cs') = _
    rw [framesLed_one]; rfl
  have hperm : ((led w ⟨b, fl, ml, vl, l, vs, ns, nl⟩ S).map (·.1)).Perm (ml :: T :: K :: O :: fl :: (fx :: fd :: C :: (cellsLed w cs').map (·.1)) ++ [U, vl, b, l]) := by
    rw [List.perm_iff_count]
    intro a
    rw [e0, efm]
    simp only [List.map_cons, List.map_append, List.map_nil, List.count_cons, List.count_append, List.count_nil, List.cons_append, List.nil_append]
    omega
  refine ⟨S, ⟨hB, (hperm.nodup_iff).mpr hnd, fun _ _ p hp => (nomatch hp), ?_, by show 2 = cs'.length; rw [hcn], hi, hf⟩, ?_, rfl, hcn, ?_⟩
  · intro g hg
    rw [List.mem_singleton.mp hg]
    refine ⟨hg1, hg2, hg3, fun p hp => ?_, fun p hp => (nomatch hp), by show 2 ≤ 2; omega, by show 0 ≤ 3; omega⟩
    show p.1 < cs'.length
    have hp' : p ∈ [(0, t0), (1, t1)] := hp
    simp only [List.mem_cons, List.not_mem_nil, or_false] at hp'
    rcases hp' with rfl | rfl <;> simp [hcn]
  · intro j x v hx hv
    have h1 := hcv x (List.mem_of_getElem? hx)
    have h2 : v ∈ [Value.none, Value.none] := List.mem_of_getElem? hv
    simp only [List.mem_cons, List.not_mem_nil, or_false, or_self] at h2
    rw [h1, h2]; trivial
  · rw [e0, efm]
    exact start_sub
/-- what holds between the law's turns -/
def lawJ (w : World) (X : Fx) (n c : Nat) (i : Nat) (m : Str → Option Value) (nx : List (Addr × Obj)) : Prop :=
  ∃ S, m (Str.ofString "box") = some (.ref X.b) ∧ m (Str.ofString "variables") = some (.ref X.vl) ∧ m (Str.ofString "frames") = some (.ref X.fl) ∧ m (Str.ofString "model") = some (.ref X.ml) ∧
    nx = led w X S ∧ Inv w X S [] ∧ Vals S ∧ 1 ≤ S.frames.length ∧ S.frames.length ≤ n + i ∧ S.cs.length ≤ c + 2 * i
theorem law_end {w : World} {X : Fx} {S : St} {owns : List (Addr × Obj)} {n c i : Nat} {g : Heap} {L : Addr} {m' : Str → Option Value} {s₁ : Shared} {Q : Flow → Shared → Prop} {h' : Heap} {tk : Nat} (F : Fr g L h' m') (N : News g L h' (led w X S ++ owns)) (I : Inv w X S owns) (V : Vals S)
    (m1 : m' (Str.ofString "box") = some (.ref X.b)) (m2 : m' (Str.ofString "variables") = some (.ref X.vl)) (m3 : m' (Str.ofString "frames") = some (.ref X.fl)) (m4 : m' (Str.ofString "model") = some (.ref X.ml))
    (h1 : 1 ≤ S.frames.length) (h2 : S.frames.length ≤ n + (i + 1)) (h3 : S.cs.length ≤ c + 2 * (i + 1)) : LPost g L (lawJ w X n c (i + 1)) owns s₁ Q .next { s₁ with heap := h', toks := tk } :=
  LPost.next F N I.off ⟨S, m1, m2, m3, m4, rfl, I.out fun _ _ p hp => (nomatch hp), V, h1, h2, h3⟩
theorem law_start {w : World} {X : Fx} {n c : Nat} {prog : Program} {A : Around} {E : Value → Shared → Prop} {s : Shared} {env : Env} {h₀ : Heap} {x : Str} {body : List Stmt} {Q : Flow → Shared → Prop} {S : St} {r : Addr} {b₀ : Int} {t₀ u₀ v₀ : Tok} {m₀ : Str → Option Value}
    (N : News h₀ env.locals s.heap (led w X S)) (F : Fr h₀ env.locals s.heap m₀) (hh : A.handled = none) (hr : IsRange s.heap r 0 b₀ 1 t₀ u₀ v₀) (ha : 0 ≤ b₀) (hb : b₀ < 1000) (I : Inv w X S []) (V : Vals S)
    (m1 : m₀ (Str.ofString "box") = some (.ref X.b)) (m2 : m₀ (Str.ofString "variables") = some (.ref X.vl)) (m3 : m₀ (Str.ofString "frames") = some (.ref X.fl)) (m4 : m₀ (Str.ofString "model") = some (.ref X.ml))
    (h1 : 1 ≤ S.frames.length) (h2 : S.frames.length ≤ n) (h3 : S.cs.length ≤ c)
    (turn : TurnR prog w A E s env h₀ x body Q b₀.toNat ⟨lawJ w X n c⟩) (done : DoneW s env h₀ Q b₀.toNat ⟨lawJ w X n c⟩) : wpAny (model prog w) A (pyIter (.ref r)) (fun it s₂ => LoopAtV prog w A h₀ env x body Q E it s₂) E s :=
  loop_rangeW ⟨lawJ w X n c⟩ hh hr ha hb F N ⟨S, m1, m2, m3, m4, rfl, I, V, h1, h2, h3⟩ turn done
theorem upper_nd {a : Addr} {l : List Addr} (h : ∀ x ∈ l, x < a) (hl : l.Nodup) : (a :: l).Nodup := List.nodup_cons.mpr ⟨fun hm => Nat.lt_irrefl _ (h a hm), hl⟩
end
section
theorem first_sub {α : Type} {ml T K O fl fx fd C U vl b l D : α} {cl : List α} : ∀ p ∈ (ml :: T :: K :: O :: fl :: fx :: fd :: C :: U :: vl :: b :: l :: cl), p ∈ (D :: ml :: T :: K :: O :: fl :: fx :: fd :: U :: vl :: b :: l :: C :: cl) :=
  con_all (.tail _ (.head _)) (con_all (.tail _ (.tail _ (.head _))) (con_all (.tail _ (.tail _ (.tail _ (.head _)))) (con_all (.tail _ (.tail _ (.tail _ (.tail _ (.head _))))) (con_all (.tail _ (.tail _ (.tail _ (.tail _ (.tail _ (.head _)))))) (con_all (.tail _ (.tail _ (.tail _ (.tail _ (.tail _ (.tail _ (.head _))))))) (con_all (.tail _ (.tail _ (.tail _ (.tail _ (.tail _ (.tail _ (.tail _ (.head _)))))))) (con_all (.tail _ (.tail _ (.tail _ (.tail _ (.tail _ (.tail _ (.tail _ (.tail _ (.tail _ (.tail _ (.tail _ (.tail _ (.head _))))))))))))) (con_all (.tail _ (.tail _ (.tail _ (.tail _ (.tail _ (.tail _ (.tail _ (.tail _ (.head _))))))))) (con_all (.tail _ (.tail _ (.tail _ (.tail _ (.tail _ (.tail _ (.tail _ (.tail _ (.tail _ (.head _)))))))))) (con_all (.tail _ (.tail _ (.tail _ (.tail _ (.tail _ (.tail _ (.tail _ (.tail _ (.tail _ (.tail _ (.head _))))))))))) (con_all (.tail _ (.tail _ (.tail _ (.tail _ (.tail _ (.tail _ (.tail _ (.tail _ (.tail _ (.tail _ (.tail _ (.head _)))))))))))) (fun _ h => .tail _ (.tail _ (.tail _ (.tail _ (.tail _ (.tail _ (.tail _ (.tail _ (.tail _ (.tail _ (.tail _ (.tail _ (.tail _ (h)))))))))))))))))))))))))
theorem law_first {w : World} {g h : Heap} {L fx fd U vl b l C ml T K O fl D' : Addr} {oD ob : Obj} {e8 e9 : Addr × Obj} {vs : List Value} {ns : List Int} {nl nf nfl nml nvl nC nU nT nO nK : Nat} {fes : List DictEntry} {cs' : List Ce} {t0 t1 : Tok} {R : List (Addr × Obj)}
    (N : News g L h ((D', oD) :: (ml, PySem.W.listOf #[.ref T] nml) :: (T, (⟨.type "tuple", none, .seq #[.ref O, .ref K] nT, #[]⟩ : Obj)) :: (K, PySem.W.listOf #[] nK) :: (O, PySem.W.listOf #[.int 0 t0, .int 1 t1] nO) :: (fl, PySem.W.listOf #[.ref fx] nfl) :: (fx, instObj 59 fd) :: (fd, PySem.W.dictOf fes nf) :: R))
    (hR : (U, PySem.W.listOf #[] nU) :: (vl, PySem.W.listOf #[.none, .none] nvl) :: (b, ob) :: (l, PySem.W.listOf vs.toArray nl) :: (C, PySem.W.listOf (cs'.map fun x => Value.ref x.c).toArray nC) :: cellsLed w cs' = R)
    (l1 : @LT.lt Nat _ fx fl ∧ @LT.lt Nat _ fd fl ∧ AllLt fl R)
    (l2 : @LT.lt Nat _ fl O ∧ @LT.lt Nat _ fx O ∧ @LT.lt Nat _ fd O ∧ AllLt O R)
    (l3 : @LT.lt Nat _ O K ∧ @LT.lt Nat _ fl K ∧ @LT.lt Nat _ fx K ∧ @LT.lt Nat _ fd K ∧ AllLt K R)
    (l4 : @LT.lt Nat _ K T ∧ @LT.lt Nat _ O T ∧ @LT.lt Nat _ fl T ∧ @LT.lt Nat _ fx T ∧ @LT.lt Nat _ fd T ∧ AllLt T R)
    (l5 : @LT.lt Nat _ T ml ∧ @LT.lt Nat _ K ml ∧ @LT.lt Nat _ O ml ∧ @LT.lt Nat _ fl ml ∧ @LT.lt Nat _ fx ml ∧ @LT.lt Nat _ fd ml ∧ AllLt ml R)
    (hff : FreshL ((fx, instObj 59 fd) :: (fd, PySem.W.dictOf fes nf) :: (C, PySem.W.listOf (cs'.map fun x => Value.ref x.c).toArray nC) :: cellsLed w cs') [e8, e9, (U, PySem.W.listOf #[] nU), (vl, PySem.W.listOf #[.none, .none] nvl), (b, ob), (l, PySem.W.listOf vs.toArray nl)])
    (o1 : @LT.lt Nat _ vl U) (o2 : @LT.lt Nat _ b vl) (o3 : @LT.lt Nat _ l b)
    (hcn : cs'.length = 2) (hcv : ∀ x ∈ cs', x.v = .none) (hg1 : getL (Str.ofString "cells") fes = some (some (.ref C))) (hg2 : getL (Str.ofString "ups") fes = some (some (.ref U))) (hg3 : getL (Str.ofString "put") fes = some none) (hB : IsBox l ob) (hi : IntsAre vs ns) (hf : ns.length ≤ 40) :
    ∃ S, Inv w ⟨b, fl, ml, vl, l, vs, ns, nl⟩ S [] ∧ Vals S ∧ S.frames.length = 1 ∧ S.cs.length = 2 ∧ News g L h (led w ⟨b, fl, ml, vl, l, vs, ns, nl⟩ S ++ []) := by
  have hin : ∀ x ∈ (fx :: fd :: C :: (cellsLed w cs').map (·.1)) ++ [U, vl, b, l], x = fx ∨ x = fd ∨ ∃ p ∈ R, p.1 = x := by
    intro x hx
    rw [← hR]
    simp only [List.cons_append, List.mem_cons, List.mem_append, List.mem_map, List.not_mem_nil, or_false] at hx
    rcases hx with h | h | h | ⟨p, hp, h⟩ | h | h | h | h
    · exact .inl h
    · exact .inr (.inl h)
    · exact .inr (.inr ⟨_, .tail _ (.tail _ (.tail _ (.tail _ (.head _)))), h.symm⟩)
    · exact .inr (.inr ⟨p, .tail _ (.tail _ (.tail _ (.tail _ (.tail _ hp)))), h⟩)
    · exact .inr (.inr ⟨_, .head _, h.symm⟩)
    · exact .inr (.inr ⟨_, .tail _ (.head _), h.symm⟩)
    · exact .inr (.inr ⟨_, .tail _ (.tail _ (.head _)), h.symm⟩)
    · exact .inr (.inr ⟨_, .tail _ (.tail _ (.tail _ (.head _))), h.symm⟩)
  have below : ∀ {a : Addr}, @LT.lt Nat _ fx a → @LT.lt Nat _ fd a → AllLt a R → ∀ x ∈ (fx :: fd :: C :: (cellsLed w cs').map (·.1)) ++ [U, vl, b, l], x < a := by
    intro a h1 h2 h3 x hx
    rcases hin x hx with rfl | rfl | ⟨p, hp, rfl⟩
    · exact h1
    · exact h2
    · exact allLt_all h3 p hp
  have nd0 : ((fx :: fd :: C :: (cellsLed w cs').map (·.1)) ++ [U, vl, b, l]).Nodup := by
    refine List.nodup_append.mpr ⟨hff.1, ?_, ?_⟩
    · refine upper_nd ?_ (upper_nd ?_ (upper_nd ?_ (by simp)))
      · intro x hx
        simp only [List.mem_cons, List.not_mem_nil, or_false] at hx
        rcases hx with rfl | rfl | rfl
        · exact o1
        · exact Nat.lt_trans o2 o1
        · exact Nat.lt_trans o3 (Nat.lt_trans o2 o1)
      · intro x hx
        simp only [List.mem_cons, List.not_mem_nil, or_false] at hx
        rcases hx with rfl | rfl
        · exact o2
        · exact Nat.lt_trans o3 o2
      · intro x hx
        rw [List.mem_singleton.mp hx]; exact o3
    · intro x hx y hy e
      have hx' : x ∈ (((fx, instObj 59 fd) :: (fd, PySem.W.dictOf fes nf) :: (C, PySem.W.listOf (cs'.map fun x => Value.ref x.c).toArray nC) :: cellsLed w cs').map (·.1)) := hx
      obtain ⟨q, hq, rfl⟩ := List.mem_map.mp hx'
      have k := hff.2 q hq
      have hy' : ∃ p ∈ [e8, e9, (U, PySem.W.listOf #[] nU), (vl, PySem.W.listOf #[.none, .none] nvl), (b, ob), (l, PySem.W.listOf vs.toArray nl)], p.1 = y := by
        simp only [List.mem_cons, List.not_mem_nil, or_false] at hy
        rcases hy with rfl | rfl | rfl | rfl
        · exact ⟨_, .tail _ (.tail _ (.head _)), rfl⟩
        · exact ⟨_, .tail _ (.tail _ (.tail _ (.head _))), rfl⟩
        · exact ⟨_, .tail _ (.tail _ (.tail _ (.tail _ (.head _)))), rfl⟩
        · exact ⟨_, .tail _ (.tail _ (.tail _ (.tail _ (.tail _ (.head _))))), rfl⟩
      obtain ⟨p, hp, rfl⟩ := hy'
      exact Nat.lt_irrefl _ (e ▸ k p hp)
  have nd : (ml :: T :: K :: O :: fl :: (fx :: fd :: C :: (cellsLed w cs').map (·.1)) ++ [U, vl, b, l]).Nodup := by
    refine upper_nd ?_ (upper_nd ?_ (upper_nd ?_ (upper_nd ?_ (upper_nd (below l1.1 l1.2.1 l1.2.2) nd0))))
    · intro x hx
      rcases List.mem_cons.mp hx with rfl | hx
      · exact l5.1
      rcases List.mem_cons.mp hx with rfl | hx
      · exact l5.2.1
      rcases List.mem_cons.mp hx with rfl | hx
      · exact l5.2.2.1
      rcases List.mem_cons.mp hx with rfl | hx
      · exact l5.2.2.2.1
      exact below l5.2.2.2.2.1 l5.2.2.2.2.2.1 l5.2.2.2.2.2.2 x hx
    · intro x hx
      rcases List.mem_cons.mp hx with rfl | hx
      · exact l4.1
      rcases List.mem_cons.mp hx with rfl | hx
      · exact l4.2.1
      rcases List.mem_cons.mp hx with rfl | hx
      · exact l4.2.2.1
      exact below l4.2.2.2.1 l4.2.2.2.2.1 l4.2.2.2.2.2 x hx
    · intro x hx
      rcases List.mem_cons.mp hx with rfl | hx
      · exact l3.1
      rcases List.mem_cons.mp hx with rfl | hx
      · exact l3.2.1
      exact below l3.2.2.1 l3.2.2.2.1 l3.2.2.2.2 x hx
    · intro x hx
      rcases List.mem_cons.mp hx with rfl | hx
      · exact l2.1
      exact below l2.2.1 l2.2.2.1 l2.2.2.2 x hx
  obtain ⟨S, I, V, h1, h2, h3⟩ := start_inv (w := w) (b := b) (fl := fl) (ml := ml) (vl := vl) (l := l) (fx := fx) (fd := fd) (U := U) (C := C) (T := T) (O := O) (K := K) (ob := ob) (nl := nl) (nf := nf) (nfl := nfl) (nml := nml) (nvl := nvl) (nC := nC) (nU := nU) (nT := nT) (nO := nO) (nK := nK) (fes := fes) (t0 := t0) (t1 := t1) hcn hcv hg1 hg2 hg3 hB hi hf nd
  refine ⟨S, I, V, h1, h2, ?_⟩
  rw [List.append_nil]
  refine news_sub N fun p hp => ?_
  have h4 := h3 p hp
  rw [← hR]
  exact first_sub p h4
theorem box_start {l : Addr} {t1 t2 : Tok} {n : Nat} : IsBox l (PySem.W.listOf #[.ref l, .int 0 t1, .int 5 t2] n) := ⟨0, 5, t1, t2, n, rfl, by decide, by decide, by decide⟩
theorem law_first2 {w : World} {g h : Heap} {L fx fd U vl b l C ml T K O fl D' : Addr} {oD ob : Obj} {e8 e9 : Addr × Obj} {vs : List Value} {ns : List Int} {nl nf nfl nml nvl nC nU nT nO nK : Nat} {fes : List DictEntry} {cs' : List Ce} {t0 t1 : Tok} {R : List (Addr × Obj)}
    (N : News g L h ((D', oD) :: (ml, PySem.W.listOf #[.ref T] nml) :: (T, (⟨.type "tuple", none, .seq #[.ref O, .ref K] nT, #[]⟩ : Obj)) :: (K, PySem.W.listOf #[] nK) :: (O, PySem.W.listOf #[.int 0 t0, .int 1 t1] nO) :: (fl, PySem.W.listOf #[.ref fx] nfl) :: (fx, instObj 59 fd) :: (fd, PySem.W.dictOf fes nf) :: R))
    (hR : (U, PySem.W.listOf #[] nU) :: (vl, PySem.W.listOf #[.none, .none] nvl) :: (b, ob) :: (l, PySem.W.listOf vs.toArray nl) :: (C, PySem.W.listOf (cs'.map fun x => Value.ref x.c).toArray nC) :: cellsLed w cs' = R)
    (l1 : @LT.lt Nat _ fx fl ∧ @LT.lt Nat _ fd fl ∧ AllLt fl R)
    (l2 : @LT.lt Nat _ fl O ∧ @LT.lt Nat _ fx O ∧ @LT.lt Nat _ fd O ∧ AllLt O R)
    (l3 : @LT.lt Nat _ O K ∧ @LT.lt Nat _ fl K ∧ @LT.lt Nat _ fx K ∧ @LT.lt Nat _ fd K ∧ AllLt K R)
    (l4 : @LT.lt Nat _ K T ∧ @LT.lt Nat _ O T ∧ @LT.lt Nat _ fl T ∧ @LT.lt Nat _ fx T ∧ @LT.lt Nat _ fd T ∧ AllLt T R)
    (l5 : @LT.lt Nat _ T ml ∧ @LT.lt Nat _ K ml ∧ @LT.lt Nat _ O ml ∧ @LT.lt Nat _ fl ml ∧ @LT.lt Nat _ fx ml ∧ @LT.lt Nat _ fd ml ∧ AllLt ml R)
    (hff : FreshL ((fx, instObj 59 fd) :: (fd, PySem.W.dictOf fes nf) :: (C, PySem.W.listOf (cs'.map fun x => Value.ref x.c).toArray nC) :: cellsLed w cs') [e8, e9, (U, PySem.W.listOf #[] nU), (vl, PySem.W.listOf #[.none, .none] nvl), (b, ob), (l, PySem.W.listOf vs.toArray nl)])
    (o1 : @LT.lt Nat _ vl U) (o2 : @LT.lt Nat _ b vl) (o3 : @LT.lt Nat _ l b)
    (hcn : cs'.length = 2) (hcv : ∀ x ∈ cs', x.v = .none) (hg1 : getL (Str.ofString "cells") fes = some (some (.ref C))) (hg2 : getL (Str.ofString "ups") fes = some (some (.ref U))) (hg3 : getL (Str.ofString "put") fes = some none) (hB : IsBox l ob) (hi : IntsAre vs ns) (hf : ns.length ≤ 40) :
    ∃ X S, X.b = b ∧ X.fl = fl ∧ X.ml = ml ∧ X.vl = vl ∧ Inv w X S [] ∧ Vals S ∧ S.frames.length = 1 ∧ S.cs.length = 2 ∧ News g L h (led w X S ++ []) := by
  obtain ⟨S, h⟩ := law_first N hR l1 l2 l3 l4 l5 hff o1 o2 o3 hcn hcv hg1 hg2 hg3 hB hi hf
  exact ⟨_, S, rfl, rfl, rfl, rfl, h⟩
theorem law_start2 {w : World} {X : Fx} {n c : Nat} {prog : Program} {A : Around} {E : Value → Shared → Prop} {s : Shared} {env : Env} {h₀ : Heap} {x : Str} {body : List Stmt} {Q : Flow → Shared → Prop} {S : St} {r : Addr} {b₀ : Int} {t₀ u₀ v₀ : Tok} {m₀ : Str → Option Value}
    (N : News h₀ env.locals s.heap (led w X S ++ [])) (F : Fr h₀ env.locals s.heap m₀) (hh : A.handled = none) (hr : IsRange s.heap r 0 b₀ 1 t₀ u₀ v₀) (ha : 0 ≤ b₀) (hb : b₀ < 1000) (I : Inv w X S []) (V : Vals S)
    (m1 : m₀ (Str.ofString "box") = some (.ref X.b)) (m2 : m₀ (Str.ofString "variables") = some (.ref X.vl)) (m3 : m₀ (Str.ofString "frames") = some (.ref X.fl)) (m4 : m₀ (Str.ofString "model") = some (.ref X.ml))
    (h1 : 1 ≤ S.frames.length) (h2 : S.frames.length ≤ n) (h3 : S.cs.length ≤ c)
    (turn : TurnR prog w A E s env h₀ x body Q b₀.toNat ⟨lawJ w X n c⟩) (done : DoneW s env h₀ Q b₀.toNat ⟨lawJ w X n c⟩) : wpAny (model prog w) A (pyIter (.ref r)) (fun it s₂ => LoopAtV prog w A h₀ env x body Q E it s₂) E s :=
  law_start (List.append_nil (led w X S) ▸ N) F hh hr ha hb I V m1 m2 m3 m4 h1 h2 h3 turn done
theorem take_st2 (w : World) (X : Fx) (S : St) (out : List (Addr × Obj)) (I : Inv w X S out) {many : Int} {t : Tok} (h3 : 0 < many) (h4 : many < 1000) :
    Says w 105 [.ref X.b, .int many t] 8 100 (led w X S ++ out) (fun r news' => ∃ k t' S', r = .int k t' ∧ 0 ≤ k ∧ k < many ∧ Inv w X S' out ∧ (Vals S → Vals S') ∧ S'.frames = S.frames ∧ S'.cs = S.cs ∧ news' = led w X S' ++ out) := by
  refine (take_st w X S out I h3 h4).weaken (fun _ h => h) ?_
  rintro r nx ⟨k, t', o', rfl, h0, h1, hI, rfl⟩
  exact ⟨_, fun _ h => h, k, t', S.box o', rfl, h0, h1, hI, fun h => h, rfl, rfl, rfl⟩
section
variable {w : World} {X : Fx} {S : St} {out : List (Addr × Obj)}
theorem led_fl : (X.fl, PySem.W.listOf (FLv S.frames).toArray S.nfl) ∈ led w X S ++ out := .tail _ (.head _)
theorem led_ml : (X.ml, PySem.W.listOf (MLv S.frames).toArray S.nml) ∈ led w X S ++ out := .tail _ (.tail _ (.head _))
theorem led_vl : (X.vl, PySem.W.listOf S.vals.toArray S.nvl) ∈ led w X S ++ out := .tail _ (.tail _ (.tail _ (.head _)))
theorem led_fm {f : Fm} (hf : f ∈ S.frames) : ∀ p ∈ fmLed S.cs f, p ∈ led w X S ++ out := fun p hp => List.mem_append_left _ (.tail _ (.tail _ (.tail _ (.tail _ (fm_in hf p hp)))))
theorem led_ce {x : Ce} (hx : x ∈ S.cs) : ∀ p ∈ cellLed w x, p ∈ led w X S ++ out := fun p hp => List.mem_append_left _ (.tail _ (.tail _ (.tail _ (.tail _ (ce_in hx p hp)))))
theorem FLv_length (fs : List Fm) : (FLv fs).length = fs.length := List.length_map ..
theorem MLv_length (fs : List Fm) : (MLv fs).length = fs.length := List.length_map ..
end
theorem stp_cmp {M : Model} {A : Around} {E : Value → Shared → Prop} {s : Shared} {op : CmpOp} {v u : Value} {Q : Value → Shared → Prop} (h : Stp (wpAny M A (compareOp op v u) Q E s)) : wpAny M A (compareOp op v u) Q E s := h
theorem seen_st (w : World) (X : Fx) (S : St) (out : List (Addr × Obj)) (I : Inv w X S out) (V : Vals S) (hn : S.frames.length < 100) :
    Says w 129 [.ref X.fl] 16 200 (led w X S ++ out) (fun r news' => ∃ D vs n tl, r = .ref D ∧ news' = (D, PySem.W.listOf vs.toArray n) :: (tl ++ (led w X S ++ out)) ∧ DatAll tl vs (S.frames.map (seenD S.cs))) :=
  seen0 w _ X.fl S.nfl S.frames S.cs led_fl (fun f hf => led_fm hf) (fun x hx => led_ce hx) I.fm (vals_cs I V).1 hn
theorem known_st (w : World) (X : Fx) (S : St) (out base : List (Addr × Obj)) (I : Inv w X S out) (V : Vals S) (hsub : ∀ p ∈ led w X S ++ out, p ∈ base) (hn : S.frames.length < 100) (hc : S.cs.length < 1000) :
    Says w 134 [.ref X.ml, .ref X.vl] 16 200 base (fun r news' => ∃ D vs n tl, r = .ref D ∧ news' = (D, PySem.W.listOf vs.toArray n) :: (tl ++ base) ∧ DatAll tl vs (S.frames.map (knownD S.vals))) := by
  refine known0 w base X.ml X.vl S.nml S.nvl S.frames S.vals (hsub _ led_ml) (hsub _ led_vl) (fun f hf => ⟨?_, ?_, ?_⟩) (fun f hf => I.len ▸ I.fm f hf) (vals_cs I V).2.1 hn (I.len ▸ hc)
  · exact hsub _ (led_fm hf _ (.tail _ (.tail _ (.tail _ (.tail _ (.head _))))))
  · exact hsub _ (led_fm hf _ (.tail _ (.tail _ (.tail _ (.tail _ (.tail _ (.head _)))))))
  · exact hsub _ (led_fm hf _ (.tail _ (.tail _ (.tail _ (.tail _ (.tail _ (.tail _ (.head _))))))))
theorem law_cmp {prog : Program} {w : World} {A : Around} {E : Value → Shared → Prop} {s : Shared} {h₀ : Heap} {L : Addr} {X : Fx} {S : St} {out : List (Addr × Obj)} {D₁ D₂ : Addr} {xs ys : List Value} {n₁ n₂ : Nat} {t₁ t₂ : List (Addr × Obj)} {Q : Value → Shared → Prop}
    (I : Inv w X S out) (V : Vals S) (N : News h₀ L s.heap ((D₂, PySem.W.listOf ys.toArray n₂) :: (t₂ ++ ((D₁, PySem.W.listOf xs.toArray n₁) :: (t₁ ++ (led w X S ++ out)))))) (Da : DatAll t₁ xs (S.frames.map (seenD S.cs))) (Db : DatAll t₂ ys (S.frames.map (knownD S.vals)))
    (hu : A.units + 64 < cLine) (h : Q (.bool false) s) : wpAny (model prog w) A (compareOp .NotEq (.ref D₁) (.ref D₂)) Q E s := by
  have e := seen_known I V
  have ok := seen_ok I V
  refine kqd_ne N (.tail _ (List.mem_append_right _ (.head _))) rfl rfl Da (fun p hp => .tail _ (List.mem_append_right _ (.tail _ (List.mem_append_left _ hp)))) (.head _) rfl rfl Db (fun p hp => .tail _ (List.mem_append_left _ hp)) ok (e ▸ ok) hu ?_
  have e2 : ∀ {inst : Decidable (S.frames.map (seenD S.cs) = S.frames.map (knownD S.vals))}, (!(@decide _ inst)) = false := fun {inst} => by rw [@decide_eq_true _ inst e]; rfl
  rw [e2]
  exact h
theorem law_done {w : World} {X : Fx} {S : St} {owns : List (Addr × Obj)} {n c i : Nat} {g : Heap} {L : Addr} {m' : Str → Option Value} {s₁ : Shared} {Q : Flow → Shared → Prop} {h' : Heap} {tk : Nat} {a b : Addr × Obj} {t₁ t₂ : List (Addr × Obj)} (F : Fr g L h' m') (N : News g L h' (a :: (t₂ ++ (b :: (t₁ ++ (led w X S ++ owns)))))) (I : Inv w X S owns) (V : Vals S)
    (m1 : m' (Str.ofString "box") = some (.ref X.b)) (m2 : m' (Str.ofString "variables") = some (.ref X.vl)) (m3 : m' (Str.ofString "frames") = some (.ref X.fl)) (m4 : m' (Str.ofString "model") = some (.ref X.ml))
    (h1 : 1 ≤ S.frames.length) (h2 : S.frames.length ≤ n + (i + 1)) (h3 : S.cs.length ≤ c + 2 * (i + 1)) : LPost g L (lawJ w X n c (i + 1)) owns s₁ Q .next { s₁ with heap := h', toks := tk } :=
  law_end F (news_sub N fun p hp => .tail _ (List.mem_append_right _ (.tail _ (List.mem_append_right _ hp)))) I V m1 m2 m3 m4 h1 h2 h3
theorem lab_ok {c : Str} {i : Nat} (hc : c = Str.ofString "u" ∨ c = Str.ofString "c") (hi : i < 6) : PyData.strOk (c ++ Str.ofString (toString (i : Int))) = true := by
  have h : i = 0 ∨ i = 1 ∨ i = 2 ∨ i = 3 ∨ i = 4 ∨ i = 5 := by omega
  rcases hc with rfl | rfl <;> rcases h with rfl | rfl | rfl | rfl | rfl | rfl <;> decide +kernel
theorem stp_set {M : Model} {A : Around} {E : Value → Shared → Prop} {s : Shared} {v u : Value} {n : Str} {Q : Unit → Shared → Prop} (h : Stp (wpAny M A (setAttr v n u) Q E s)) : wpAny M A (setAttr v n u) Q E s := h
theorem stp_item {M : Model} {A : Around} {E : Value → Shared → Prop} {s : Shared} {v u x : Value} {Q : Unit → Shared → Prop} (h : Stp (wpAny M A (setItem v u x) Q E s)) : wpAny M A (setItem v u x) Q E s := h
theorem cell_next {w : World} {X : Fx} {S : St} {out : List (Addr × Obj)} {g h : Heap} {L : Addr} {j : Nat} {x : Ce} {a : Str} {t : Tok} (I : Inv w X S out) (V : Vals S) (hx : S.cs[j]? = some x) (ha : PyData.strOk a = true) (N : News g L h (led w X (S.cell j x (.str a t)) ++ out)) :
    ∃ S', News g L h (led w X S' ++ out) ∧ Inv w X S' out ∧ S'.frames = S.frames ∧ S'.cs.length = S.cs.length ∧ ∀ t', Vals (S'.var j (.str a t')) :=
  ⟨_, N, (cell_close I hx _).1, rfl, List.length_set .., fun t' => vals_write V hx t t' ha⟩
theorem var_next {w : World} {X : Fx} {S : St} {out : List (Addr × Obj)} {g h : Heap} {L : Addr} {j : Nat} {a : Str} {t : Tok} (I : Inv w X S out) (V : ∀ t', Vals (S.var j (.str a t'))) (N : News g L h (led w X (S.var (j : Int).toNat (.str a t)) ++ out)) :
    ∃ S', News g L h (led w X S' ++ out) ∧ Inv w X S' out ∧ Vals S' ∧ S'.frames = S.frames ∧ S'.cs.length = S.cs.length :=
  ⟨_, N, var_close I _ _, V t, rfl, rfl⟩
/-- what a turn's choice leaves -/
def LawR (w : World) (X : Fx) (owns : List (Addr × Obj)) (n c i : Nat) (g : Heap) (L : Addr) (s₁ : Shared) (f : Flow) (s₂ : Shared) : Prop :=
  f = .next ∧ ∃ S h' tk m', s₂ = { s₁ with heap := h', toks := tk } ∧ Fr g L h' m' ∧ News g L h' (led w X S ++ owns) ∧ Inv w X S owns ∧ Vals S ∧
    m' (Str.ofString "box") = some (.ref X.b) ∧ m' (Str.ofString "variables") = some (.ref X.vl) ∧ m' (Str.ofString "frames") = some (.ref X.fl) ∧ m' (Str.ofString "model") = some (.ref X.ml) ∧
    1 ≤ S.frames.length ∧ S.frames.length ≤ n + (i + 1) ∧ S.cs.length ≤ c + 2 * (i + 1)
theorem law_mono {M : Model} {A : Around} {E : Value → Shared → Prop} {s : Shared} {w : World} {X : Fx} {owns news : List (Addr × Obj)} {g : Heap} {L : Addr} {t : Sem Flow} {Q : Flow → Shared → Prop} (n c i : Nat) (s' : Shared) (_N : News g L s.heap news)
    (hQ : ∀ f s₂, LawR w X owns n c i g L s' f s₂ → Q f s₂) (h : wpAny M A t (LawR w X owns n c i g L s') E s) : wpAny M A t Q E s := wpAny_mono h hQ fun _ _ e => e
theorem stop_ex {M : Model} {A : Around} {E : Value → Shared → Prop} {s : Shared} {a b c d} {env : Env} {Q : Flow → Shared → Prop} (h : Stop (wpAny M A (exec (.If a b c d) env) Q E s)) : wpAny M A (exec (.If a b c d) env) Q E s := h
def Mark : Prop := True
theorem mark : Mark := trivial
end
local macro_rules | `(tactic| walk_at "subscriptTail Attribute Name") => `(tactic| (k_here; refine' stp_sub ?_))
section
set_option maxRecDepth 100000
set_option maxHeartbeats 8000000
local macro_rules | `(tactic| walk_at "setAttr ref") => `(tactic| (k_here; (with_reducible show wpAny _ _ (setAttr (Value.ref _) (Str.ofString "value") _) _ _ _); refine' stp_set ?_))
theorem put_says (w : World) (X : Fx) (S : St) (out : List (Addr × Obj)) (I : Inv w X S out) {f : Fm} (hf : f ∈ S.frames) {k : Int} {tk : Tok} (hk0 : 0 ≤ k) (hk1 : k < f.own.length) {P : Addr} {t1 t2 : Tok} {a : Str} :
  Says w 56 [.ref f.fa, .ref P, .str a t2] 16 200 ((P, (⟨.type "tuple", none, .seq #[.str (Str.ofString "cell") t1, .int k tk] 0, #[]⟩ : Obj)) :: (led w X S ++ out))
   (fun r news' => r = .none ∧ ∃ p x, f.own[k.toNat]? = some p ∧ S.cs[p.1]? = some x ∧ news' = led w X (S.cell p.1 x (.str a t2)) ++ out) := by
  obtain ⟨ok1, ok2, ok7, ok3, ok4, ok5, ok6⟩ := I.fm f hf
  obtain ⟨p, hp⟩ := some_at (l := f.own) hk0 hk1
  have hpl := ok3 p (List.mem_of_getElem? hp)
  obtain ⟨x, hx⟩ : ∃ x, S.cs[p.1]? = some x := ⟨_, List.getElem?_eq_getElem hpl⟩
  have hin : ∀ p ∈ fmLed S.cs f, p ∈ led w X S ++ out := led_fm hf
  have hm1 := hin (f.fa, instObj 59 f.fd) (.head _)
  have hm2 := hin (f.fd, PySem.W.dictOf f.fes f.nf) (.tail _ (.head _))
  have hm3 := hin (f.ca, PySem.W.listOf (crefs S.cs f.own).toArray f.nc) (.tail _ (.tail _ (.head _)))
  clear hin
  generalize hLg : led w X S ++ out = Lg at *
  unfold Says
  w_top off
  k_fill
  intro mean mg mb dp un gd cn cs' ac ccd cl outer A₀ base' h₀ L m s Q E B F XX N T hk hd' hu hret
  refine wpAny_call ?_
  k_dflt ktr_enter
  k_steps
  unfold Stp
  rename News _ _ _ _ => kN
  refine item_led kN (.tail _ hm3) hk0 (by rw [crefs_length]; exact hk1) (by rw [crefs_length]; omega) ?_
  rw [crefs_get hp hx]
  k_steps
  unfold Stp
  rename News _ _ _ _ => kN
  replace kN := news_sub kN (b := Lg) (fun p hp => .tail _ hp)
  subst hLg
  k_dflt (refine' set_cell I ?F ?XX kN hx ?_; (case F => k_asm); (case XX => k_asm); k_whole)
  clear kN
  intro h5 F5 N5
  k_steps
  exact hret _ _ _ _ (by assumption) (by assumption) ⟨rfl, p, x, hp, hx, rfl⟩
end
section
theorem law_cond {h₀ : Heap} {L : Addr} {h : Heap} {U vl b l : Addr} {oU ov ob ol : Obj} {x d l7 t : Addr × Obj} (N : News h₀ L h [(U, oU), x, d, l7, t, (vl, ov), (b, ob), (l, ol)]) (o1 : @LT.lt Nat _ vl U) (o2 : @LT.lt Nat _ b vl) (o3 : @LT.lt Nat _ l b) :
    News h₀ L h [x, d, (U, oU), (vl, ov), (b, ob), (l, ol)] ∧ @LT.lt Nat _ vl U ∧ @LT.lt Nat _ b vl ∧ @LT.lt Nat _ l b := by
  exact ⟨news_sub N (con_all (.tail _ (.head _)) (con_all (.tail _ (.tail _ (.head _))) (con_all (.head _) (con_all (.tail _ (.tail _ (.tail _ (.tail _ (.tail _ (.head _)))))) (con_all (.tail _ (.tail _ (.tail _ (.tail _ (.tail _ (.tail _ (.head _))))))) (con_all (.tail _ (.tail _ (.tail _ (.tail _ (.tail _ (.tail _ (.tail _ (.head _)))))))) (List.forall_mem_nil _))))))), o1, o2, o3⟩
theorem unit_upd2 {ux ud : Addr} {od : Obj} {r : List (Addr × Obj)} (hl : ∀ p ∈ r, p.1 < ud) (h2 : @LT.lt Nat _ ud ux) : UpdF ud od ((ux, instObj 94 ud) :: (ud, od) :: r) (fun o => (ux, instObj 94 ud) :: (ud, o) :: r) :=
  .tail (Nat.ne_of_gt h2) (.head fun p hp => Nat.ne_of_lt (hl p hp))
theorem law_cond2 {h₀ : Heap} {L : Addr} {h : Heap} {fx fd e8 e9 U vl b l C : Addr × Obj} {cl : List (Addr × Obj)} (N : News h₀ L h (fx :: fd :: ([e8, e9, U, vl, b, l] ++ C :: cl))) : ∃ R, U :: vl :: b :: l :: C :: cl = R ∧ News h₀ L h (fx :: fd :: R) := by
  exact ⟨_, rfl, news_sub N (con_all (.head _) (con_all (.tail _ (.head _)) (con_all (.tail _ (.tail _ (.tail _ (.tail _ (.head _))))) (con_all (.tail _ (.tail _ (.tail _ (.tail _ (.tail _ (.head _)))))) (con_all (.tail _ (.tail _ (.tail _ (.tail _ (.tail _ (.tail _ (.head _))))))) (con_all (.tail _ (.tail _ (.tail _ (.tail _ (.tail _ (.tail _ (.tail _ (.head _)))))))) (con_all (.tail _ (.tail _ (.tail _ (.tail _ (.tail _ (.tail _ (.tail _ (.tail _ (.head _))))))))) (fun _ h => .tail _ (.tail _ (.tail _ (.tail _ (.tail _ (.tail _ (.tail _ (.tail _ (.tail _ (h)))))))))))))))))⟩
set_option maxRecDepth 100000
set_option maxHeartbeats 8000000
local macro_rules | `(tactic| walk_at "call builtin:len") => `(tactic| (k_here; (with_reducible show wpAny _ _ (call (Value.builtin "len") [Value.ref _]) _ _ _); k_dflt (refine' len_led ?k1 ?k2 ?k3 ?_; (case k1 => k_asm); (case k2 => first | k_memK | kst_mem); (case k3 => assumption); k_whole); intro t'; (try simp only [FLv_length, crefs_length, intsV_length])))
local macro_rules | `(tactic| walk_at "subscriptTail Subscript Name") => `(tactic| (k_here; refine' stp_sub ?_))
local macro_rules | `(tactic| walk_at "compareOp NotEq ref ref") => `(tactic| (k_here; refine' stp_cmp ?_))
local macro_rules | `(tactic| walk_at "setAttr ref") => `(tactic| (k_here; refine' stp_set ?_))
local macro_rules | `(tactic| walk_at "setItem ref int") => `(tactic| (k_here; refine' stp_item ?_))
local macro_rules | `(tactic| walk_at "getMethod ref") => `(tactic| (k_here; k_dflt (refine' method_inst ?k1 ?k2 ?k3 ?k4 ?k5 ?k6 ?k7 ?_; (case k1 => k_asm); (case k2 => k_asm); (case k3 => k_inst); (case k4 => k_is); (case k5 => k_is); (case k6 => k_is); (case k7 => assumption); k_whole)))
local macro_rules | `(tactic| walk_at "exec If") => `(tactic| (k_here; (fail_if_success (have : Mark := by assumption)); refine' stop_ex ?_))
local macro_rules | `(tactic| walk_at "call ref") => `(tactic| (k_here; first | refine' stop_at 56 ?_ | refine' stop_at 59 ?_ | refine' stop_at 94 ?_ | refine' stop_at 105 ?_ | refine' stop_at 117 ?_ | refine' stop_at 124 ?_ | refine' stop_at 129 ?_ | refine' stop_at 134 ?_))
local macro_rules | `(tactic| walk_at "pyIter ref") => `(tactic| (k_here; refine' stop_it ?_))
theorem t0 : PySem.Challenge.rw_nt0340_01.Holds := hd (by
  w_top off
  k_go0; (all_goals try k_fold); k_steps
  unfold Stop
  rename World => w
  rename News _ _ _ _ => kN
  k_dflt (refine' says_use (unit0 w _ _ _ _) ?B ?F ?X kN ?T ?hk ?hd ?hu ?_; (case B => k_asm); (case F => k_asm); (case X => k_asm); (case T => k_asm); (case hk => exact rfl); (case hd => ktr_room); (case hu => ktr_units); k_whole)
  clear kN
  intro ru nu hu1 tku Fu Nu hpu
  obtain ⟨ux, ud, ues, un, uv, uu, rfl, rfl, uok, ul1, ul2⟩ := hpu
  k_steps
  unfold Stp
  rename News _ _ _ _ => kN
  k_dflt (refine' set_cnt ?F ?X kN (.head _) (unit_upd2 ul1 ul2) uok ?_; (case F => k_asm); (case X => k_asm); k_whole)
  clear kN
  intro h6 es6 n6 uk6 F6 N6
  (try dsimp only at N6)
  obtain ⟨⟨t06, ut6⟩, uc6, _, _⟩ := uk6
  k_lt2 ul2
  repeat' (first | (k_unfold; (try dsimp only)) | (k_end; wrow_close) | ((try dsimp only); walk1) | (leave1; walk_say "STEP leave1"; try dsimp only) | fail "no step")
  unfold Stop
  rename News _ _ _ _ => kN
  obtain ⟨kN2, o1, o2, o3⟩ := law_cond kN (by omega) (by omega) (by omega)
  clear kN
  k_dflt (refine' says_use (frame_says ?g1 ?g2 ?g3 ?g4 ?g6 ?g5) ?B ?F ?X kN2 ?T ?hk ?hd ?hu ?_; (case B => k_asm); (case F => k_asm); (case X => k_asm); (case T => k_asm); (case hk => exact rfl); (case g1 => k_memK); (case g2 => k_memK); (case g3 => exact ut6); (case g4 => exact uc6); (case g5 => omega); (case g6 => omega); (case hd => ktr_room); (case hu => ktr_units); k_whole)
  clear kN2
  intro r1 n1 h1 tk1 F1 N1 hp1
  obtain ⟨fx, fd, fes, nfs, C, cs', nC, rfl, rfl, hcn, hcv, hg1, hg2, hg3, hff⟩ := hp1
  obtain ⟨R, hR, N3⟩ := law_cond2 N1
  clear N1
  repeat' (first | (k_unfold; (try dsimp only)) | (k_end; wrow_close) | ((try dsimp only); walk1) | (leave1; walk_say "STEP leave1"; try dsimp only) | fail "no step")
  unfold Stop
  rename News _ _ _ _ => kN
  obtain ⟨X, S, rfl, rfl, rfl, rfl, I, V, hf1, hc1, N5⟩ := law_first2 kN hR (by assumption) (by assumption) (by assumption) (by assumption) (by assumption) hff o1 o2 o3 hcn hcv hg1 hg2 hg3 box_start (by assumption) (by omega)
  clear kN hff hR
  k_dflt (refine' says_use (take_st _ X S [] I ?g1 ?g2) ?B ?F ?X N5 ?T ?hk ?hd ?hu ?_; (case B => k_asm); (case F => k_asm); (case X => k_asm); (case T => k_asm); (case hk => exact rfl); (case g1 => omega); (case g2 => omega); (case hd => ktr_room); (case hu => ktr_units); k_whole)
  clear N5
  intro r2 n2 h2 tk2 F2 N2 hp2
  obtain ⟨k2, t2, o2', rfl, hk0, hk1, I2, rfl⟩ := hp2
  repeat' (first | (k_unfold; (try dsimp only)) | (k_end; wrow_close) | ((try dsimp only); walk1) | (leave1; walk_say "STEP leave1"; try dsimp only) | fail "no step")
  unfold Stop
  rename News _ _ _ _ => kN
  rename Fr _ _ _ _ => kF
  refine law_start2 (n := 1) (c := 2) kN kF rfl (by assumption) (by omega) (by omega) I2 V rfl rfl rfl rfl (Nat.le_of_eq hf1.symm) (Nat.le_of_eq hf1) (Nat.le_of_eq hc1) ?_ ?_
  · clear kN kF
    refine (show ∀ (E' : Value → Shared → Prop) (Q' : Flow → Shared → Prop) (s' : Shared), TurnR _ w _ E' s' _ _ _ _ Q' _ _ from ?_) _ _ _
    intro E' Q' s'
    unfold TurnR
    dsimp only
    intro i t m₁ nx h tk owns hi hoff hJ F₁ N₁
    unfold lawJ at hJ
    obtain ⟨S, m1, m2, m3, m4, rfl, I, V, q1, q2, q3⟩ := hJ
    have F₂ := fr_ps [(_, _), (_, _), (_, _), (_, _)] (List.forall_mem_cons.mpr ⟨m1, List.forall_mem_cons.mpr ⟨m2, List.forall_mem_cons.mpr ⟨m3, List.forall_mem_cons.mpr ⟨m4, List.forall_mem_nil _⟩⟩⟩⟩) F₁
    clear F₁
    have I3 := I.out hoff
    repeat' (first | (k_unfold; (try dsimp only)) | (k_end; wrow_close) | ((try dsimp only); walk1) | (leave1; walk_say "STEP leave1"; try dsimp only) | fail "no step")
    unfold Stop
    k_dflt (refine' says_use (inner_says _ X S owns I3 q1 ?g1 ?g2) ?B ?F ?X N₁ ?T ?hk ?hd ?hu ?_; (case B => k_asm); (case F => k_asm); (case X => k_asm); (case T => k_asm); (case hk => exact rfl); (case g1 => omega); (case g2 => omega); (case hd => ktr_room); (case hu => ktr_units); k_whole)
    intro r3 n3 h3 tk3 F3 N4 hp3
    obtain ⟨rfl, S', I4, hV, rfl, g1, g2⟩ := hp3
    repeat' (first | (k_unfold; (try dsimp only)) | (k_end; wrow_close) | ((try dsimp only); walk1) | (leave1; walk_say "STEP leave1"; try dsimp only) | fail "no step")
    rename Fr _ _ _ _ => kF
    rename News _ _ _ _ => kN
    exact law_end kF kN I4 (hV V) rfl rfl rfl rfl (by omega) (by omega) (by omega)
  · clear kN kF
    unfold DoneW
    dsimp only
    intro m₁ nx h tk hJ F₁ N₁
    unfold lawJ at hJ
    obtain ⟨S, m1, m2, m3, m4, rfl, I, V, q1, q2, q3⟩ := hJ
    have F₂ := fr_ps0 [(_, _), (_, _), (_, _), (_, _)] (List.forall_mem_cons.mpr ⟨m1, List.forall_mem_cons.mpr ⟨m2, List.forall_mem_cons.mpr ⟨m3, List.forall_mem_cons.mpr ⟨m4, List.forall_mem_nil _⟩⟩⟩⟩) F₁
    clear F₁
    have j1 : S.frames.length ≤ 5 := by omega
    have j2 : S.cs.length ≤ 10 := by omega
    clear q2 q3 hf1 hc1
    repeat' (first | (k_unfold; (try dsimp only)) | (k_end; wrow_close) | ((try dsimp only); walk1) | (leave1; walk_say "STEP leave1"; try dsimp only) | fail "no step")
    unfold Stop
    rename News _ _ _ _ => kN
    rename Fr _ _ _ _ => kF
    refine law_start2 (n := 5) (c := 10) (news_eq kN (List.append_nil _).symm) kF rfl (by assumption) (by omega) (by omega) I V rfl rfl rfl rfl q1 j1 j2 ?_ ?_
    · clear kN kF
      clear V I q1 j1 j2
      refine (show ∀ (E' : Value → Shared → Prop) (Q' : Flow → Shared → Prop) (s' : Shared), TurnR _ w _ E' s' _ _ _ _ Q' _ _ from ?_) _ _ _
      intro E' Q' s'
      unfold TurnR
      dsimp only
      intro i t m₁ nx h tk owns hi hoff hJ F₁ N₁
      unfold lawJ at hJ
      obtain ⟨S, m1, m2, m3, m4, rfl, I, V, q1, q2, q3⟩ := hJ
      have F₂ := fr_ps [(_, _), (_, _), (_, _), (_, _)] (List.forall_mem_cons.mpr ⟨m1, List.forall_mem_cons.mpr ⟨m2, List.forall_mem_cons.mpr ⟨m3, List.forall_mem_cons.mpr ⟨m4, List.forall_mem_nil _⟩⟩⟩⟩) F₁
      clear F₁
      have hi6 : i < 6 := hi
      have I3 := I.out hoff
      clear I
      have hfl : (X.fl, PySem.W.listOf (FLv S.frames).toArray S.nfl) ∈ led w X S ++ owns := led_fl
      have hFn : (FLv S.frames).length < 1000 := by rw [FLv_length]; omega
      generalize hLg : led w X S ++ owns = Lg at *
      repeat' (first | (k_unfold; (try dsimp only)) | (k_end; wrow_close) | ((try dsimp only); walk1) | (leave1; walk_say "STEP leave1"; try dsimp only) | fail "no step")
      unfold Stop
      rename News _ _ _ _ => kN
      subst hLg
      k_dflt (refine' says_use (take_st2 w X S owns I3 ?g1 ?g2) ?B ?F ?X kN ?T ?hk ?hd ?hu ?_; (case B => k_asm); (case F => k_asm); (case X => k_asm); (case T => k_asm); (case hk => exact rfl); (case g1 => omega); (case g2 => omega); (case hd => ktr_room); (case hu => ktr_units); k_whole)
      clear kN
      intro r1 n1 h1 tk1 F1 N1 hp1
      obtain ⟨k1, t1', S1, rfl, a0, a1, I4, V1, e1, c1, rfl⟩ := hp1
      repeat' (first | (k_unfold; (try dsimp only)) | (k_end; wrow_close) | ((try dsimp only); walk1) | (leave1; walk_say "STEP leave1"; try dsimp only) | fail "no step")
      unfold Stop
      rename News _ _ _ _ => kN
      k_dflt (refine' says_use (take_st2 w X S1 owns I4 ?g1 ?g2) ?B ?F ?X kN ?T ?hk ?hd ?hu ?_; (case B => k_asm); (case F => k_asm); (case X => k_asm); (case T => k_asm); (case hk => exact rfl); (case g1 => omega); (case g2 => omega); (case hd => ktr_room); (case hu => ktr_units); k_whole)
      clear kN
      intro r2 n2 h2 tk2 F2 N2 hp2
      obtain ⟨k2, t2', S2, rfl, b0, b1, I5, V2, e2, c2, rfl⟩ := hp2
      have e3 : S2.frames.length = S.frames.length := by rw [e2, e1]
      have e4 : S2.cs.length = S.cs.length := by rw [c2, c1]
      have V3 : Vals S2 := V2 (V1 V)
      clear I3 I4 V V1 V2 hfl hFn
      have a2 : k1 < (S2.frames.length : Int) := by rw [e3]; exact a1
      rw [← e3] at q1 q2
      rw [← e4] at q3
      clear a1 e1 e2 e3 c1 c2 e4
      obtain ⟨f, hf⟩ := some_at a0 a2
      have hfm := List.mem_of_getElem? hf
      obtain ⟨ok1, ok2, ok7, ok3, ok4, ok5, ok6⟩ := I5.fm f hfm
      have hin : ∀ p ∈ fmLed S2.cs f, p ∈ led w X S2 ++ owns := led_fm hfm
      have hm1 := hin (f.fa, instObj 59 f.fd) (.head _)
      have hm2 := hin (f.fd, PySem.W.dictOf f.fes f.nf) (.tail _ (.head _))
      have hm3 := hin (f.ca, PySem.W.listOf (crefs S2.cs f.own).toArray f.nc) (.tail _ (.tail _ (.head _)))
      have hm4 := hin (f.ua, PySem.W.listOf (crefs S2.cs f.kept).toArray f.nu) (.tail _ (.tail _ (.tail _ (.head _))))
      have hm5 := hin (f.ta, (⟨.type "tuple", none, .seq #[.ref f.oa, .ref f.ka] f.nt, #[]⟩ : Obj)) (.tail _ (.tail _ (.tail _ (.tail _ (.head _)))))
      have hm6 := hin (f.oa, PySem.W.listOf (intsV f.own).toArray f.no) (.tail _ (.tail _ (.tail _ (.tail _ (.tail _ (.head _))))))
      have hm7 := hin (f.ka, PySem.W.listOf (intsV f.kept).toArray f.nk) (.tail _ (.tail _ (.tail _ (.tail _ (.tail _ (.tail _ (.head _)))))))
      clear hin
      have hfl : (X.fl, PySem.W.listOf (FLv S2.frames).toArray S2.nfl) ∈ led w X S2 ++ owns := led_fl
      have hml : (X.ml, PySem.W.listOf (MLv S2.frames).toArray S2.nml) ∈ led w X S2 ++ owns := led_ml
      have hFn : (FLv S2.frames).length < 1000 := by rw [FLv_length]; omega
      have hMn : (MLv S2.frames).length < 1000 := by rw [MLv_length]; omega
      have hcl : (crefs S2.cs f.own).length < 1000 := by rw [crefs_length]; omega
      have hul : (crefs S2.cs f.kept).length < 1000 := by rw [crefs_length]; omega
      have hol : (intsV f.own).length < 1000 := by rw [intsV_length]; omega
      have hkl : (intsV f.kept).length < 1000 := by rw [intsV_length]; omega
      generalize hLg : led w X S2 ++ owns = Lg at *
      repeat' (first | (k_unfold; (try dsimp only)) | (k_end; wrow_close) | ((try dsimp only); walk1) | (leave1; walk_say "STEP leave1"; try dsimp only) | fail "no step")
      unfold Stp
      rename News _ _ _ _ => kN
      refine item_led kN (.tail _ hfl) a0 (by rw [FLv_length]; exact a2) hFn ?_
      rw [FLv_get hf]
      repeat' (first | (k_unfold; (try dsimp only)) | (k_end; wrow_close) | ((try dsimp only); walk1) | (leave1; walk_say "STEP leave1"; try dsimp only) | fail "no step")
      unfold Stp
      rename News _ _ _ _ => kN
      refine item_led kN (.tail _ hml) a0 (by rw [MLv_length]; exact a2) hMn ?_
      rw [MLv_get hf]
      repeat' (first | (k_unfold; (try dsimp only)) | (k_end; wrow_close) | ((try dsimp only); walk1) | (leave1; walk_say "STEP leave1"; try dsimp only) | fail "no step")
      unfold Stop
      rename News _ _ _ _ => kN
      replace kN := news_eq (news_sub kN (b := Lg) (fun p hp => .tail _ (.tail _ (.tail _ hp)))) hLg.symm
      clear hm1 hm2 hm3 hm4 hm5 hm6 hm7 hfl hml hcl hul hol hkl hMn
      have hfl : (X.fl, PySem.W.listOf (FLv S2.frames).toArray S2.nfl) ∈ led w X S2 ++ owns := led_fl
      have mk := mark
      refine law_mono (w := w) (X := X) (owns := owns) 5 10 i s' kN ?_ ?_
      · rintro f9 s9 ⟨rfl, S, h9, tk9, m9, rfl, F9, N9, I, V, m1, m2, m3, m4, q1, q2, q3⟩
        have F10 := fr_ps0 [(_, _), (_, _), (_, _), (_, _)] (List.forall_mem_cons.mpr ⟨m1, List.forall_mem_cons.mpr ⟨m2, List.forall_mem_cons.mpr ⟨m3, List.forall_mem_cons.mpr ⟨m4, List.forall_mem_nil _⟩⟩⟩⟩) F9
        clear F9
        repeat' (first | (k_unfold; (try dsimp only)) | (k_end; wrow_close) | ((try dsimp only); walk1) | (leave1; walk_say "STEP leave1"; try dsimp only) | fail "no step")
        unfold Stop
        rename News _ _ _ _ => kN
        k_dflt (refine' says_use (seen_st w X S owns I V ?g1) ?B ?F ?X kN ?T ?hk ?hd ?hu ?_; (case B => k_asm); (case F => k_asm); (case X => k_asm); (case T => k_asm); (case hk => exact rfl); (case g1 => omega); (case hd => ktr_room); (case hu => ktr_units); k_whole)
        clear kN
        intro r8 n8 h8 tk8 F8 N8 hp8
        obtain ⟨D8, vs8, n8, tl8, rfl, rfl, hD8⟩ := hp8
        repeat' (first | (k_unfold; (try dsimp only)) | (k_end; wrow_close) | ((try dsimp only); walk1) | (leave1; walk_say "STEP leave1"; try dsimp only) | fail "no step")
        unfold Stop
        rename News _ _ _ _ => kN
        k_dflt (refine' says_use (known_st w X S owns _ I V (fun p hp => .tail _ (List.mem_append_right _ hp)) ?g1 ?g2) ?B ?F ?X kN ?T ?hk ?hd ?hu ?_; (case B => k_asm); (case F => k_asm); (case X => k_asm); (case T => k_asm); (case hk => exact rfl); (case g1 => omega); (case g2 => omega); (case hd => ktr_room); (case hu => ktr_units); k_whole)
        clear kN
        intro r9 n9 h9 tk9 F9 N9 hp9
        obtain ⟨D9, vs9, n9, tl9, rfl, rfl, hD9⟩ := hp9
        repeat' (first | (k_unfold; (try dsimp only)) | (k_end; wrow_close) | ((try dsimp only); walk1) | (leave1; walk_say "STEP leave1"; try dsimp only) | fail "no step")
        unfold Stp
        rename News _ _ _ _ => kN
        refine law_cmp I V kN hD8 hD9 ?_ ?_
        · ktr_units
        repeat' (first | (k_unfold; (try dsimp only)) | (k_end; wrow_close) | ((try dsimp only); walk1) | (leave1; walk_say "STEP leave1"; try dsimp only) | fail "no step")
        rename Fr _ _ _ _ => kF
        rename News _ _ _ _ => kN
        exact law_done kF kN I V rfl rfl rfl rfl q1 q2 q3
      repeat' (first | (k_unfold; (try dsimp only)) | (k_end; wrow_close) | ((try dsimp only); walk1) | (leave1; walk_say "STEP leave1"; try dsimp only) | fail "no step")
      all_goals (try (exfalso; omega))
      · unfold Stop
        rename News _ _ _ _ => kN
        k_dflt (refine' says_use (take_st2 w X S2 owns I5 ?g1 ?g2) ?B ?F ?X kN ?T ?hk ?hd ?hu ?_; (case B => k_asm); (case F => k_asm); (case X => k_asm); (case T => k_asm); (case hk => exact rfl); (case g1 => omega); (case g2 => omega); (case hd => ktr_room); (case hu => ktr_units); k_whole)
        clear kN
        intro r3 n3 h3 tk3 F3 N3 hp3
        obtain ⟨k3, t3', S3, rfl, y0, y1, I6, V4, e5, e6, rfl⟩ := hp3
        have V5 := V4 V3
        rw [← e5] at hfm hf q1 q2
        rw [← e6] at q3
        clear V4 I5 V3
        repeat' (first | (k_unfold; (try dsimp only)) | (k_end; wrow_close) | ((try dsimp only); walk1) | (leave1; walk_say "STEP leave1"; try dsimp only) | fail "no step")
        unfold Stop
        rename News _ _ _ _ => kN
        k_dflt (refine' says_use (renew_says w X S3 owns I6 hfm y0 y1 ?g1) ?B ?F ?X kN ?T ?hk ?hd ?hu ?_; (case B => k_asm); (case F => k_asm); (case X => k_asm); (case T => k_asm); (case hk => exact rfl); (case g1 => omega); (case hd => ktr_room); (case hu => ktr_units); k_whole)
        clear kN
        intro r4 n4 h4 tk4 F4 N4 hp4
        obtain ⟨rfl, S4, I7, V6, rfl, g1, g2⟩ := hp4
        repeat' (first | (k_unfold; (try dsimp only)) | (k_end; wrow_close) | ((try dsimp only); walk1) | (leave1; walk_say "STEP leave1"; try dsimp only) | fail "no step")
        rename Fr _ _ _ _ => kF
        rename News _ _ _ _ => kN
        exact ⟨rfl, S4, _, _, _, rfl, kF, kN, I7, (V6 V5), rfl, rfl, rfl, rfl, by omega, by omega, by omega⟩
      · rename Fr _ _ _ _ => kF
        rename News _ _ _ _ => kN
        exact ⟨rfl, S2, _, _, _, rfl, kF, kN, I5, V3, rfl, rfl, rfl, rfl, by omega, by omega, by omega⟩
      · unfold Stop
        rename News _ _ _ _ => kN
        k_dflt (refine' says_use (inner_says w X S2 owns I5 q1 ?g1 ?g2) ?B ?F ?X kN ?T ?hk ?hd ?hu ?_; (case B => k_asm); (case F => k_asm); (case X => k_asm); (case T => k_asm); (case hk => exact rfl); (case g1 => omega); (case g2 => omega); (case hd => ktr_room); (case hu => ktr_units); k_whole)
        clear kN
        intro r4 n4 h4 tk4 F4 N4 hp4
        obtain ⟨rfl, S4, I7, V6, rfl, g1, g2⟩ := hp4
        repeat' (first | (k_unfold; (try dsimp only)) | (k_end; wrow_close) | ((try dsimp only); walk1) | (leave1; walk_say "STEP leave1"; try dsimp only) | fail "no step")
        rename Fr _ _ _ _ => kF
        rename News _ _ _ _ => kN
        exact ⟨rfl, S4, _, _, _, rfl, kF, kN, I7, (V6 V3), rfl, rfl, rfl, rfl, by omega, by omega, by omega⟩
      · unfold Stop
        rename News _ _ _ _ => kN
        k_dflt (refine' says_use (take_st2 w X S2 owns I5 ?g1 ?g2) ?B ?F ?X kN ?T ?hk ?hd ?hu ?_; (case B => k_asm); (case F => k_asm); (case X => k_asm); (case T => k_asm); (case hk => exact rfl); (case g1 => omega); (case g2 => omega); (case hd => ktr_room); (case hu => ktr_units); k_whole)
        clear kN
        intro r3 n3 h3 tk3 F3 N3 hp3
        obtain ⟨k3, t3', S3, rfl, y0, y1, I6, V4, e5, e6, rfl⟩ := hp3
        have V5 := V4 V3
        rw [← e5] at hfm hf q1 q2
        rw [← e6] at q3
        clear V4 I5 V3
        obtain ⟨ok1, ok2, ok7, ok3, ok4, ok5, ok6⟩ := I6.fm f hfm
        obtain ⟨Lg, hLg⟩ : ∃ Lg, led w X S3 ++ owns = Lg := ⟨_, rfl⟩
        have hin : ∀ p ∈ fmLed S3.cs f, p ∈ Lg := hLg ▸ led_fm hfm
        replace N3 := news_eq N3 hLg
        have hm1 := hin (f.fa, instObj 59 f.fd) (.head _)
        have hm2 := hin (f.fd, PySem.W.dictOf f.fes f.nf) (.tail _ (.head _))
        have hm4 := hin (f.ua, PySem.W.listOf (crefs S3.cs f.kept).toArray f.nu) (.tail _ (.tail _ (.tail _ (.head _))))
        have hm5 := hin (f.ta, (⟨.type "tuple", none, .seq #[.ref f.oa, .ref f.ka] f.nt, #[]⟩ : Obj)) (.tail _ (.tail _ (.tail _ (.tail _ (.head _)))))
        have hm6 := hin (f.oa, PySem.W.listOf (intsV f.own).toArray f.no) (.tail _ (.tail _ (.tail _ (.tail _ (.tail _ (.head _))))))
        have hm7 := hin (f.ka, PySem.W.listOf (intsV f.kept).toArray f.nk) (.tail _ (.tail _ (.tail _ (.tail _ (.tail _ (.tail _ (.head _)))))))
        clear hin
        repeat' (first | (k_unfold; (try dsimp only)) | (k_end; wrow_close) | ((try dsimp only); walk1) | (leave1; walk_say "STEP leave1"; try dsimp only) | fail "no step")
        unfold Stop
        rename News _ _ _ _ => kN
        replace kN := news_eq kN (congrArg (List.cons _) hLg.symm)
        clear hm1 hm2 hm4 hm5 hm6 hm7
        k_dflt (refine' says_use (put_says w X S3 owns I6 hfm y0 y1) ?B ?F ?X kN ?T ?hk ?hd ?hu ?_; (case B => k_asm); (case F => k_asm); (case X => k_asm); (case T => k_asm); (case hk => exact rfl); (case hd => ktr_room); (case hu => ktr_units); k_whole)
        clear kN
        intro r5 n5 h5 tk5 F5 N5 hp5
        obtain ⟨rfl, p, x, hp, hx, rfl⟩ := hp5
        have hpl := (List.getElem?_eq_some_iff.mp hx).1
        obtain ⟨S4, N6, I7, e7, e8, V7⟩ := cell_next I6 V5 hx (lab_ok (.inr rfl) hi6) N5
        clear N5 I6 V5
        rw [← e7] at hfm hf q1 q2
        rw [← e8] at q3 hpl
        obtain ⟨ok1, ok2, ok7, ok3, ok4, ok5, ok6⟩ := I7.fm f hfm
        obtain ⟨Lg, hLg⟩ : ∃ Lg, led w X S4 ++ owns = Lg := ⟨_, rfl⟩
        have hin : ∀ p ∈ fmLed S4.cs f, p ∈ Lg := hLg ▸ led_fm hfm
        replace N6 := news_eq N6 hLg
        have hm1 := hin (f.fa, instObj 59 f.fd) (.head _)
        have hm2 := hin (f.fd, PySem.W.dictOf f.fes f.nf) (.tail _ (.head _))
        have hm4 := hin (f.ua, PySem.W.listOf (crefs S4.cs f.kept).toArray f.nu) (.tail _ (.tail _ (.tail _ (.head _))))
        have hm5 := hin (f.ta, (⟨.type "tuple", none, .seq #[.ref f.oa, .ref f.ka] f.nt, #[]⟩ : Obj)) (.tail _ (.tail _ (.tail _ (.tail _ (.head _)))))
        have hm6 := hin (f.oa, PySem.W.listOf (intsV f.own).toArray f.no) (.tail _ (.tail _ (.tail _ (.tail _ (.tail _ (.head _))))))
        have hm7 := hin (f.ka, PySem.W.listOf (intsV f.kept).toArray f.nk) (.tail _ (.tail _ (.tail _ (.tail _ (.tail _ (.tail _ (.head _)))))))
        clear hin
        repeat' (first | (k_unfold; (try dsimp only)) | (k_end; wrow_close) | ((try dsimp only); walk1) | (leave1; walk_say "STEP leave1"; try dsimp only) | fail "no step")
        unfold Stp
        rename News _ _ _ _ => kN
        refine item_led kN hm6 y0 (by rw [intsV_length]; exact y1) (by rw [intsV_length]; omega) ?_
        rw [intsV_get hp]
        repeat' (first | (k_unfold; (try dsimp only)) | (k_end; wrow_close) | ((try dsimp only); walk1) | (leave1; walk_say "STEP leave1"; try dsimp only) | fail "no step")
        unfold Stp
        rename News _ _ _ _ => kN
        replace kN := news_eq kN hLg.symm
        clear hm1 hm2 hm4 hm5 hm6 hm7
        k_dflt (refine' set_var I7 ?F kN (Int.natCast_nonneg _) ?v1 ?v2 ?_; (case F => k_asm); (case v1 => rw [I7.len]; omega); (case v2 => omega); k_whole)
        clear kN
        intro h6 F6 N7
        obtain ⟨S5, N8, I8, V8, e9, e10⟩ := var_next I7 V7 N7
        clear N7 I7 V7
        rw [← e9] at q1 q2
        rw [← e10] at q3
        repeat' (first | (k_unfold; (try dsimp only)) | (k_end; wrow_close) | ((try dsimp only); walk1) | (leave1; walk_say "STEP leave1"; try dsimp only) | fail "no step")
        rename Fr _ _ _ _ => kF
        rename News _ _ _ _ => kN
        exact ⟨rfl, S5, _, _, _, rfl, kF, kN, I8, V8, rfl, rfl, rfl, rfl, by omega, by omega, by omega⟩
      · rename Fr _ _ _ _ => kF
        rename News _ _ _ _ => kN
        exact ⟨rfl, S2, _, _, _, rfl, kF, kN, I5, V3, rfl, rfl, rfl, rfl, by omega, by omega, by omega⟩
      · unfold Stop
        rename News _ _ _ _ => kN
        k_dflt (refine' says_use (take_st2 w X S2 owns I5 ?g1 ?g2) ?B ?F ?X kN ?T ?hk ?hd ?hu ?_; (case B => k_asm); (case F => k_asm); (case X => k_asm); (case T => k_asm); (case hk => exact rfl); (case g1 => omega); (case g2 => omega); (case hd => ktr_room); (case hu => ktr_units); k_whole)
        clear kN
        intro r3 n3 h3 tk3 F3 N3 hp3
        obtain ⟨k3, t3', S3, rfl, y0, y1, I6, V4, e5, e6, rfl⟩ := hp3
        have V5 := V4 V3
        rw [← e5] at hfm hf q1 q2
        rw [← e6] at q3
        clear V4 I5 V3
        obtain ⟨ok1, ok2, ok7, ok3, ok4, ok5, ok6⟩ := I6.fm f hfm
        obtain ⟨Lg, hLg⟩ : ∃ Lg, led w X S3 ++ owns = Lg := ⟨_, rfl⟩
        have hin : ∀ p ∈ fmLed S3.cs f, p ∈ Lg := hLg ▸ led_fm hfm
        replace N3 := news_eq N3 hLg
        have hm1 := hin (f.fa, instObj 59 f.fd) (.head _)
        have hm2 := hin (f.fd, PySem.W.dictOf f.fes f.nf) (.tail _ (.head _))
        have hm4 := hin (f.ua, PySem.W.listOf (crefs S3.cs f.kept).toArray f.nu) (.tail _ (.tail _ (.tail _ (.head _))))
        have hm5 := hin (f.ta, (⟨.type "tuple", none, .seq #[.ref f.oa, .ref f.ka] f.nt, #[]⟩ : Obj)) (.tail _ (.tail _ (.tail _ (.tail _ (.head _)))))
        have hm6 := hin (f.oa, PySem.W.listOf (intsV f.own).toArray f.no) (.tail _ (.tail _ (.tail _ (.tail _ (.tail _ (.head _))))))
        have hm7 := hin (f.ka, PySem.W.listOf (intsV f.kept).toArray f.nk) (.tail _ (.tail _ (.tail _ (.tail _ (.tail _ (.tail _ (.head _)))))))
        clear hin
        repeat' (first | (k_unfold; (try dsimp only)) | (k_end; wrow_close) | ((try dsimp only); walk1) | (leave1; walk_say "STEP leave1"; try dsimp only) | fail "no step")
        unfold Stp
        rename News _ _ _ _ => kN
        obtain ⟨p, hp⟩ := some_at (l := f.kept) y0 y1
        have hpl := ok4 p (List.mem_of_getElem? hp)
        obtain ⟨x, hx⟩ : ∃ x, S3.cs[p.1]? = some x := ⟨_, List.getElem?_eq_getElem hpl⟩
        refine item_led kN hm4 y0 (by rw [crefs_length]; exact y1) (by rw [crefs_length]; omega) ?_
        rw [crefs_get hp hx]
        repeat' (first | (k_unfold; (try dsimp only)) | (k_end; wrow_close) | ((try dsimp only); walk1) | (leave1; walk_say "STEP leave1"; try dsimp only) | fail "no step")
        unfold Stp
        rename News _ _ _ _ => kN
        replace kN := news_eq kN hLg.symm
        clear hm1 hm2 hm4 hm5 hm6 hm7
        k_dflt (refine' set_cell I6 ?F ?XX kN hx ?_; (case F => k_asm); (case XX => k_asm); k_whole)
        clear kN hLg
        intro h5 F5 N5
        obtain ⟨S4, N6, I7, e7, e8, V7⟩ := cell_next I6 V5 hx (lab_ok (.inl rfl) hi6) N5
        clear N5 I6 V5
        rw [← e7] at hfm hf q1 q2
        rw [← e8] at q3 hpl
        obtain ⟨ok1, ok2, ok7, ok3, ok4, ok5, ok6⟩ := I7.fm f hfm
        obtain ⟨Lg, hLg⟩ : ∃ Lg, led w X S4 ++ owns = Lg := ⟨_, rfl⟩
        have hin : ∀ p ∈ fmLed S4.cs f, p ∈ Lg := hLg ▸ led_fm hfm
        replace N6 := news_eq N6 hLg
        have hm1 := hin (f.fa, instObj 59 f.fd) (.head _)
        have hm2 := hin (f.fd, PySem.W.dictOf f.fes f.nf) (.tail _ (.head _))
        have hm4 := hin (f.ua, PySem.W.listOf (crefs S4.cs f.kept).toArray f.nu) (.tail _ (.tail _ (.tail _ (.head _))))
        have hm5 := hin (f.ta, (⟨.type "tuple", none, .seq #[.ref f.oa, .ref f.ka] f.nt, #[]⟩ : Obj)) (.tail _ (.tail _ (.tail _ (.tail _ (.head _)))))
        have hm6 := hin (f.oa, PySem.W.listOf (intsV f.own).toArray f.no) (.tail _ (.tail _ (.tail _ (.tail _ (.tail _ (.head _))))))
        have hm7 := hin (f.ka, PySem.W.listOf (intsV f.kept).toArray f.nk) (.tail _ (.tail _ (.tail _ (.tail _ (.tail _ (.tail _ (.head _)))))))
        clear hin
        repeat' (first | (k_unfold; (try dsimp only)) | (k_end; wrow_close) | ((try dsimp only); walk1) | (leave1; walk_say "STEP leave1"; try dsimp only) | fail "no step")
        unfold Stp
        rename News _ _ _ _ => kN
        refine item_led kN hm7 y0 (by rw [intsV_length]; exact y1) (by rw [intsV_length]; omega) ?_
        rw [intsV_get hp]
        repeat' (first | (k_unfold; (try dsimp only)) | (k_end; wrow_close) | ((try dsimp only); walk1) | (leave1; walk_say "STEP leave1"; try dsimp only) | fail "no step")
        unfold Stp
        rename News _ _ _ _ => kN
        replace kN := news_eq kN hLg.symm
        clear hm1 hm2 hm4 hm5 hm6 hm7
        k_dflt (refine' set_var I7 ?F kN (Int.natCast_nonneg _) ?v1 ?v2 ?_; (case F => k_asm); (case v1 => rw [I7.len]; omega); (case v2 => omega); k_whole)
        clear kN
        intro h6 F6 N7
        obtain ⟨S5, N8, I8, V8, e9, e10⟩ := var_next I7 V7 N7
        clear N7 I7 V7
        rw [← e9] at q1 q2
        rw [← e10] at q3
        repeat' (first | (k_unfold; (try dsimp only)) | (k_end; wrow_close) | ((try dsimp only); walk1) | (leave1; walk_say "STEP leave1"; try dsimp only) | fail "no step")
        rename Fr _ _ _ _ => kF
        rename News _ _ _ _ => kN
        exact ⟨rfl, S5, _, _, _, rfl, kF, kN, I8, V8, rfl, rfl, rfl, rfl, by omega, by omega, by omega⟩
      · unfold Stop
        rename News _ _ _ _ => kN
        k_dflt (refine' says_use (take_st2 w X S2 owns I5 ?g1 ?g2) ?B ?F ?X kN ?T ?hk ?hd ?hu ?_; (case B => k_asm); (case F => k_asm); (case X => k_asm); (case T => k_asm); (case hk => exact rfl); (case g1 => omega); (case g2 => omega); (case hd => ktr_room); (case hu => ktr_units); k_whole)
        clear kN
        intro r3 n3 h3 tk3 F3 N3 hp3
        obtain ⟨k3, t3', S3, rfl, y0, y1, I6, V4, e5, e6, rfl⟩ := hp3
        have V5 := V4 V3
        rw [← e5] at hfm hf q1 q2
        rw [← e6] at q3
        clear V4 I5 V3
        obtain ⟨ok1, ok2, ok7, ok3, ok4, ok5, ok6⟩ := I6.fm f hfm
        obtain ⟨Lg, hLg⟩ : ∃ Lg, led w X S3 ++ owns = Lg := ⟨_, rfl⟩
        have hin : ∀ p ∈ fmLed S3.cs f, p ∈ Lg := hLg ▸ led_fm hfm
        replace N3 := news_eq N3 hLg
        have hm1 := hin (f.fa, instObj 59 f.fd) (.head _)
        have hm2 := hin (f.fd, PySem.W.dictOf f.fes f.nf) (.tail _ (.head _))
        have hm4 := hin (f.ua, PySem.W.listOf (crefs S3.cs f.kept).toArray f.nu) (.tail _ (.tail _ (.tail _ (.head _))))
        have hm5 := hin (f.ta, (⟨.type "tuple", none, .seq #[.ref f.oa, .ref f.ka] f.nt, #[]⟩ : Obj)) (.tail _ (.tail _ (.tail _ (.tail _ (.head _)))))
        have hm6 := hin (f.oa, PySem.W.listOf (intsV f.own).toArray f.no) (.tail _ (.tail _ (.tail _ (.tail _ (.tail _ (.head _))))))
        have hm7 := hin (f.ka, PySem.W.listOf (intsV f.kept).toArray f.nk) (.tail _ (.tail _ (.tail _ (.tail _ (.tail _ (.tail _ (.head _)))))))
        clear hin
        repeat' (first | (k_unfold; (try dsimp only)) | (k_end; wrow_close) | ((try dsimp only); walk1) | (leave1; walk_say "STEP leave1"; try dsimp only) | fail "no step")
        unfold Stop
        rename News _ _ _ _ => kN
        replace kN := news_eq kN (congrArg (List.cons _) hLg.symm)
        clear hm1 hm2 hm4 hm5 hm6 hm7
        k_dflt (refine' says_use (put_says w X S3 owns I6 hfm y0 y1) ?B ?F ?X kN ?T ?hk ?hd ?hu ?_; (case B => k_asm); (case F => k_asm); (case X => k_asm); (case T => k_asm); (case hk => exact rfl); (case hd => ktr_room); (case hu => ktr_units); k_whole)
        clear kN
        intro r5 n5 h5 tk5 F5 N5 hp5
        obtain ⟨rfl, p, x, hp, hx, rfl⟩ := hp5
        have hpl := (List.getElem?_eq_some_iff.mp hx).1
        obtain ⟨S4, N6, I7, e7, e8, V7⟩ := cell_next I6 V5 hx (lab_ok (.inr rfl) hi6) N5
        clear N5 I6 V5
        rw [← e7] at hfm hf q1 q2
        rw [← e8] at q3 hpl
        obtain ⟨ok1, ok2, ok7, ok3, ok4, ok5, ok6⟩ := I7.fm f hfm
        obtain ⟨Lg, hLg⟩ : ∃ Lg, led w X S4 ++ owns = Lg := ⟨_, rfl⟩
        have hin : ∀ p ∈ fmLed S4.cs f, p ∈ Lg := hLg ▸ led_fm hfm
        replace N6 := news_eq N6 hLg
        have hm1 := hin (f.fa, instObj 59 f.fd) (.head _)
        have hm2 := hin (f.fd, PySem.W.dictOf f.fes f.nf) (.tail _ (.head _))
        have hm4 := hin (f.ua, PySem.W.listOf (crefs S4.cs f.kept).toArray f.nu) (.tail _ (.tail _ (.tail _ (.head _))))
        have hm5 := hin (f.ta, (⟨.type "tuple", none, .seq #[.ref f.oa, .ref f.ka] f.nt, #[]⟩ : Obj)) (.tail _ (.tail _ (.tail _ (.tail _ (.head _)))))
        have hm6 := hin (f.oa, PySem.W.listOf (intsV f.own).toArray f.no) (.tail _ (.tail _ (.tail _ (.tail _ (.tail _ (.head _))))))
        have hm7 := hin (f.ka, PySem.W.listOf (intsV f.kept).toArray f.nk) (.tail _ (.tail _ (.tail _ (.tail _ (.tail _ (.tail _ (.head _)))))))
        clear hin
        repeat' (first | (k_unfold; (try dsimp only)) | (k_end; wrow_close) | ((try dsimp only); walk1) | (leave1; walk_say "STEP leave1"; try dsimp only) | fail "no step")
        unfold Stp
        rename News _ _ _ _ => kN
        refine item_led kN hm6 y0 (by rw [intsV_length]; exact y1) (by rw [intsV_length]; omega) ?_
        rw [intsV_get hp]
        repeat' (first | (k_unfold; (try dsimp only)) | (k_end; wrow_close) | ((try dsimp only); walk1) | (leave1; walk_say "STEP leave1"; try dsimp only) | fail "no step")
        unfold Stp
        rename News _ _ _ _ => kN
        replace kN := news_eq kN hLg.symm
        clear hm1 hm2 hm4 hm5 hm6 hm7
        k_dflt (refine' set_var I7 ?F kN (Int.natCast_nonneg _) ?v1 ?v2 ?_; (case F => k_asm); (case v1 => rw [I7.len]; omega); (case v2 => omega); k_whole)
        clear kN
        intro h6 F6 N7
        obtain ⟨S5, N8, I8, V8, e9, e10⟩ := var_next I7 V7 N7
        clear N7 I7 V7
        rw [← e9] at q1 q2
        rw [← e10] at q3
        repeat' (first | (k_unfold; (try dsimp only)) | (k_end; wrow_close) | ((try dsimp only); walk1) | (leave1; walk_say "STEP leave1"; try dsimp only) | fail "no step")
        rename Fr _ _ _ _ => kF
        rename News _ _ _ _ => kN
        exact ⟨rfl, S5, _, _, _, rfl, kF, kN, I8, V8, rfl, rfl, rfl, rfl, by omega, by omega, by omega⟩
      · rename Fr _ _ _ _ => kF
        rename News _ _ _ _ => kN
        exact ⟨rfl, S2, _, _, _, rfl, kF, kN, I5, V3, rfl, rfl, rfl, rfl, by omega, by omega, by omega⟩
      · unfold Stop
        rename News _ _ _ _ => kN
        k_dflt (refine' says_use (take_st2 w X S2 owns I5 ?g1 ?g2) ?B ?F ?X kN ?T ?hk ?hd ?hu ?_; (case B => k_asm); (case F => k_asm); (case X => k_asm); (case T => k_asm); (case hk => exact rfl); (case g1 => omega); (case g2 => omega); (case hd => ktr_room); (case hu => ktr_units); k_whole)
        clear kN
        intro r3 n3 h3 tk3 F3 N3 hp3
        obtain ⟨k3, t3', S3, rfl, y0, y1, I6, V4, e5, e6, rfl⟩ := hp3
        have V5 := V4 V3
        rw [← e5] at hfm hf q1 q2
        rw [← e6] at q3
        clear V4 I5 V3
        obtain ⟨ok1, ok2, ok7, ok3, ok4, ok5, ok6⟩ := I6.fm f hfm
        obtain ⟨Lg, hLg⟩ : ∃ Lg, led w X S3 ++ owns = Lg := ⟨_, rfl⟩
        have hin : ∀ p ∈ fmLed S3.cs f, p ∈ Lg := hLg ▸ led_fm hfm
        replace N3 := news_eq N3 hLg
        have hm1 := hin (f.fa, instObj 59 f.fd) (.head _)
        have hm2 := hin (f.fd, PySem.W.dictOf f.fes f.nf) (.tail _ (.head _))
        have hm4 := hin (f.ua, PySem.W.listOf (crefs S3.cs f.kept).toArray f.nu) (.tail _ (.tail _ (.tail _ (.head _))))
        have hm5 := hin (f.ta, (⟨.type "tuple", none, .seq #[.ref f.oa, .ref f.ka] f.nt, #[]⟩ : Obj)) (.tail _ (.tail _ (.tail _ (.tail _ (.head _)))))
        have hm6 := hin (f.oa, PySem.W.listOf (intsV f.own).toArray f.no) (.tail _ (.tail _ (.tail _ (.tail _ (.tail _ (.head _))))))
        have hm7 := hin (f.ka, PySem.W.listOf (intsV f.kept).toArray f.nk) (.tail _ (.tail _ (.tail _ (.tail _ (.tail _ (.tail _ (.head _)))))))
        clear hin
        repeat' (first | (k_unfold; (try dsimp only)) | (k_end; wrow_close) | ((try dsimp only); walk1) | (leave1; walk_say "STEP leave1"; try dsimp only) | fail "no step")
        unfold Stop
        rename News _ _ _ _ => kN
        replace kN := news_eq kN (congrArg (List.cons _) hLg.symm)
        clear hm1 hm2 hm4 hm5 hm6 hm7
        k_dflt (refine' says_use (put_says w X S3 owns I6 hfm y0 y1) ?B ?F ?X kN ?T ?hk ?hd ?hu ?_; (case B => k_asm); (case F => k_asm); (case X => k_asm); (case T => k_asm); (case hk => exact rfl); (case hd => ktr_room); (case hu => ktr_units); k_whole)
        clear kN
        intro r5 n5 h5 tk5 F5 N5 hp5
        obtain ⟨rfl, p, x, hp, hx, rfl⟩ := hp5
        have hpl := (List.getElem?_eq_some_iff.mp hx).1
        obtain ⟨S4, N6, I7, e7, e8, V7⟩ := cell_next I6 V5 hx (lab_ok (.inr rfl) hi6) N5
        clear N5 I6 V5
        rw [← e7] at hfm hf q1 q2
        rw [← e8] at q3 hpl
        obtain ⟨ok1, ok2, ok7, ok3, ok4, ok5, ok6⟩ := I7.fm f hfm
        obtain ⟨Lg, hLg⟩ : ∃ Lg, led w X S4 ++ owns = Lg := ⟨_, rfl⟩
        have hin : ∀ p ∈ fmLed S4.cs f, p ∈ Lg := hLg ▸ led_fm hfm
        replace N6 := news_eq N6 hLg
        have hm1 := hin (f.fa, instObj 59 f.fd) (.head _)
        have hm2 := hin (f.fd, PySem.W.dictOf f.fes f.nf) (.tail _ (.head _))
        have hm4 := hin (f.ua, PySem.W.listOf (crefs S4.cs f.kept).toArray f.nu) (.tail _ (.tail _ (.tail _ (.head _))))
        have hm5 := hin (f.ta, (⟨.type "tuple", none, .seq #[.ref f.oa, .ref f.ka] f.nt, #[]⟩ : Obj)) (.tail _ (.tail _ (.tail _ (.tail _ (.head _)))))
        have hm6 := hin (f.oa, PySem.W.listOf (intsV f.own).toArray f.no) (.tail _ (.tail _ (.tail _ (.tail _ (.tail _ (.head _))))))
        have hm7 := hin (f.ka, PySem.W.listOf (intsV f.kept).toArray f.nk) (.tail _ (.tail _ (.tail _ (.tail _ (.tail _ (.tail _ (.head _)))))))
        clear hin
        repeat' (first | (k_unfold; (try dsimp only)) | (k_end; wrow_close) | ((try dsimp only); walk1) | (leave1; walk_say "STEP leave1"; try dsimp only) | fail "no step")
        unfold Stp
        rename News _ _ _ _ => kN
        refine item_led kN hm6 y0 (by rw [intsV_length]; exact y1) (by rw [intsV_length]; omega) ?_
        rw [intsV_get hp]
        repeat' (first | (k_unfold; (try dsimp only)) | (k_end; wrow_close) | ((try dsimp only); walk1) | (leave1; walk_say "STEP leave1"; try dsimp only) | fail "no step")
        unfold Stp
        rename News _ _ _ _ => kN
        replace kN := news_eq kN hLg.symm
        clear hm1 hm2 hm4 hm5 hm6 hm7
        k_dflt (refine' set_var I7 ?F kN (Int.natCast_nonneg _) ?v1 ?v2 ?_; (case F => k_asm); (case v1 => rw [I7.len]; omega); (case v2 => omega); k_whole)
        clear kN
        intro h6 F6 N7
        obtain ⟨S5, N8, I8, V8, e9, e10⟩ := var_next I7 V7 N7
        clear N7 I7 V7
        rw [← e9] at q1 q2
        rw [← e10] at q3
        repeat' (first | (k_unfold; (try dsimp only)) | (k_end; wrow_close) | ((try dsimp only); walk1) | (leave1; walk_say "STEP leave1"; try dsimp only) | fail "no step")
        rename Fr _ _ _ _ => kF
        rename News _ _ _ _ => kN
        exact ⟨rfl, S5, _, _, _, rfl, kF, kN, I8, V8, rfl, rfl, rfl, rfl, by omega, by omega, by omega⟩
      · rename Fr _ _ _ _ => kF
        rename News _ _ _ _ => kN
        exact ⟨rfl, S2, _, _, _, rfl, kF, kN, I5, V3, rfl, rfl, rfl, rfl, by omega, by omega, by omega⟩
    · clear kN kF
      unfold DoneW
      dsimp only
      intro m₁ nx h tk hJ F₁ N₁
      unfold lawJ at hJ
      obtain ⟨S, m1, m2, m3, m4, rfl, I, V, q1, q2, q3⟩ := hJ
      have F₂ := fr_ps0 [(_, _), (_, _), (_, _), (_, _)] (List.forall_mem_cons.mpr ⟨m1, List.forall_mem_cons.mpr ⟨m2, List.forall_mem_cons.mpr ⟨m3, List.forall_mem_cons.mpr ⟨m4, List.forall_mem_nil _⟩⟩⟩⟩) F₁
      clear F₁
      repeat' (first | (k_unfold; (try dsimp only)) | (k_end; wrow_close) | ((try dsimp only); walk1) | (leave1; walk_say "STEP leave1"; try dsimp only) | fail "no step"))
end
end Mine
end
set_option maxRecDepth 100000 in
set_option maxHeartbeats 8000000 in
theorem PySem.Challenge.cw_nt0340_01_holds : PySem.Challenge.rw_nt0340_01.Holds := by
  exact Mine.t0
