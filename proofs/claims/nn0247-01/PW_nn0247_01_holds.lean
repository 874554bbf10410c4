import PyProof.Rows.All
import Wide.All
import OpenK.AllK
import Wide.FinOn
import PySem.Challenge.RW_nn0247_01
open PySem PySem.W PyProof.Rows
set_option Elab.async false
set_option linter.unusedVariables false
set_option linter.unusedSimpArgs false
set_option linter.unnecessarySimpa false
open PySem PySem.W PyProof.Rows
namespace Mine
set_option maxRecDepth 100000 in
set_option maxHeartbeats 8000000 in
open_top hd for PySem.Challenge.rw_nn0247_01
end Mine
section
open PySem PySem.W PyProof.Rows PyProof.V PySem.Spec
namespace Mine
/-- the end of a while's turn, under a name of our own: the walk stops here -/
def MEnd {σ : Type} (h₀ : Heap) (L : Addr) (s : Shared) (Led : σ → List (Addr × Obj)) (ps : σ → List (Str × Value)) (stored : List Str) (m₀ : Str → Option Value) (P : σ → Prop) (μ : σ → Nat) (c : σ) (s₂ : Shared) : Prop :=
  KswEnd h₀ L s Led ps (fun _ => True) stored m₀ P μ c s₂
def MPost {σ : Type} (h₀ : Heap) (L : Addr) (s : Shared) (Led : σ → List (Addr × Obj)) (ps : σ → List (Str × Value)) (stored : List Str) (m₀ : Str → Option Value) (P : σ → Prop) (μ : σ → Nat) (Q : Flow → Shared → Prop) (c : σ) (f : Flow) (s₂ : Shared) : Prop :=
  match f with
  | .ret v => Q (.ret v) s₂
  | .brk => Q .next s₂
  | _ => MEnd h₀ L s Led ps stored m₀ P μ c s₂
theorem m_end {σ : Type} {h₀ : Heap} {L : Addr} {s : Shared} {Led : σ → List (Addr × Obj)} {ps : σ → List (Str × Value)} {stored : List Str} {m₀ m' : Str → Option Value} {P : σ → Prop} {μ : σ → Nat} {c : σ} {h' : Heap} {tk : Nat} {news' : List (Addr × Obj)} (c' : σ)
    (F : Fr h₀ L h' m') (N : News h₀ L h' news') (hn : ∀ p ∈ Led c', p ∈ news') (hk : ∀ p ∈ ps c', m' p.1 = some p.2) (hr : ∀ z, (∀ p ∈ ps c', z ≠ p.1) → stored.contains z = false → m' z = m₀ z) (hp : P c') (hm : μ c' < μ c) :
    MEnd h₀ L s Led ps stored m₀ P μ c { s with heap := h', toks := tk } := ksw_end c' F N hn trivial hk hr hp hm
theorem m_while {prog : Program} {w : World} {A : Around} {E : Value → Shared → Prop} {Q : Flow → Shared → Prop} {s : Shared} {env : Env} {h₀ : Heap} {L : Addr} {σ : Type} {test : PySem.Expr} {body : List Stmt} {pos : Pos} {m₀ : Str → Option Value}
    (Led : σ → List (Addr × Obj)) (ps : σ → List (Str × Value)) (stored : List Str) (P : σ → Prop) (μ : σ → Nat) (c₀ : σ)
    (F : Fr h₀ L s.heap m₀) (N : News h₀ L s.heap (Led c₀)) (hk : ∀ p ∈ ps c₀, m₀ p.1 = some p.2) (hp : P c₀)
    (turn : ∀ (c : σ) (u : Str → Option Value) h tk, P c → Fr h₀ L h (kstB (fun z => if stored.contains z then u z else m₀ z) (ps c)) → News h₀ L h (Led c) →
      wpAny (model prog w) A (isTrue test env (eval test env)) (fun b s₂ =>
        if b = true then wpAny (model prog w) A (execs body env) (MPost h₀ L s Led ps stored m₀ P μ Q c) E s₂ else Q .next s₂) E { s with heap := h, toks := tk })
    (hE : PassesOwn (model prog w) A env E := by passes_own) :
    wpAny (model prog w) A (exec (.While test body [] pos) env) Q E s := by
  refine ksw_while Led ps (fun _ => True) stored P μ c₀ F N trivial hk hp (fun c u h tk _ hp' F' N' => ?_) hE
  refine wpAny_mono (turn c u h tk hp' F' N') (fun b s₂ hb => ?_) fun _ _ x => x
  cases b with
  | false => exact hb
  | true =>
    simp only [if_true] at hb ⊢
    refine wpAny_mono hb (fun f s₃ hf => ?_) fun _ _ x => x
    cases f <;> exact hf
end Mine
namespace Mine
theorem news_cons {h₀ h : Heap} {L : Addr} {p : Addr × Obj} {news : List (Addr × Obj)} (N : News h₀ L h news) (hm : p ∈ news) : News h₀ L h (p :: news) := fun q hq => by
  rcases List.mem_cons.mp hq with rfl | hq
  · exact N _ hm
  · exact N _ hq
end Mine
end
section
open PySem PySem.W PyProof.Rows PyProof.V PySem.Spec PySem.Calls
namespace Mine
theorem fold_filter {p : Int → Prop} {inst : ∀ k, Decidable (p k)} (ks acc : List Int) : ks.foldl (fun l k => @ite _ (p k) (inst k) (l ++ [k]) l) acc = acc ++ ks.filter fun k => @decide (p k) (inst k) := by
  induction ks generalizing acc with
  | nil => simp
  | cons k r ih =>
    rw [List.foldl_cons, ih, List.filter_cons]
    by_cases h : p k
    · simp [h]
    · simp [h]
theorem grows_if (p : Int → Prop) {inst : ∀ k, Decidable (p k)} : KPfGrows fun l k => @ite _ (p k) (inst k) (l ++ [k]) l := fun l k => by
  show (@ite _ (p k) (inst k) (l ++ [k]) l).length ≤ l.length + 1
  by_cases h : p k
  · rw [if_pos h, List.length_append]; exact Nat.le_refl _
  · rw [if_neg h]; omega
def MLEnd {σ : Type} (h₀ : Heap) (L : Addr) (s : Shared) (Led : σ → List (Addr × Obj)) (ps : σ → List (Str × Value)) (stored : List Str) (m₀ : Str → Option Value) (P : Nat → σ → Prop) (I : Addr) (it : Obj) (i : Nat) (s₂ : Shared) : Prop :=
  ∃ (c' : σ) (h' : Heap) (tk : Nat) (m' : Str → Option Value) (news' : List (Addr × Obj)), s₂ = { s with heap := h', toks := tk } ∧ Fr h₀ L h' m' ∧ News h₀ L h' news' ∧ (I, it) ∈ news' ∧ (∀ p ∈ Led c', p ∈ news') ∧ (∀ p ∈ Led c', p.1 ≠ I) ∧
    (∀ p ∈ ps c', m' p.1 = some p.2) ∧ (∀ z, (∀ p ∈ ps c', z ≠ p.1) → stored.contains z = false → m' z = m₀ z) ∧ P (i + 1) c'
def MLPost {σ : Type} (h₀ : Heap) (L : Addr) (s : Shared) (Led : σ → List (Addr × Obj)) (ps : σ → List (Str × Value)) (stored : List Str) (m₀ : Str → Option Value) (P : Nat → σ → Prop) (Q : Flow → Shared → Prop) (I : Addr) (it : Obj) (i : Nat) (f : Flow) (s₂ : Shared) : Prop :=
  match f with
  | .ret v => Q (.ret v) s₂
  | .brk => Q .next s₂
  | _ => MLEnd h₀ L s Led ps stored m₀ P I it i s₂
theorem ml_end {σ : Type} {h₀ : Heap} {L : Addr} {s : Shared} {Led : σ → List (Addr × Obj)} {ps : σ → List (Str × Value)} {stored : List Str} {m₀ m' : Str → Option Value} {P : Nat → σ → Prop} {I : Addr} {it : Obj} {i : Nat} {h' : Heap} {tk : Nat} {news' : List (Addr × Obj)} (c' : σ)
    (F : Fr h₀ L h' m') (N : News h₀ L h' news') (hI : (I, it) ∈ news') (hn : ∀ p ∈ Led c', p ∈ news') (hoff : ∀ p ∈ Led c', p.1 ≠ I) (hk : ∀ p ∈ ps c', m' p.1 = some p.2)
    (hr : ∀ z, (∀ p ∈ ps c', z ≠ p.1) → stored.contains z = false → m' z = m₀ z) (hp : P (i + 1) c') :
    MLEnd h₀ L s Led ps stored m₀ P I it i { s with heap := h', toks := tk } := ⟨c', h', tk, m', news', rfl, F, N, hI, hn, hoff, hk, hr, hp⟩
theorem ml_strip {Q : Value → Shared → Prop} {v : Value} {s : Shared} (h : Q v s) : Q v s := h
theorem ml_ret {Q : Flow → Shared → Prop} {v : Value} {s : Shared} (h : Q (.ret v) s) : Q (.ret v) s := h
section
variable {prog : Program} {w : World} {A : Around} {E : Value → Shared → Prop} {s : Shared} {env : Env} {h₀ : Heap} {x : Str} {body : List Stmt} {Q : Flow → Shared → Prop}
theorem ml_fr {L : Addr} {h : Heap} {ps : List (Str × Value)} {stored : List Str} {m₀ m₁ : Str → Option Value} {v : Value} (h1 : ∀ p ∈ ps, m₁ p.1 = some p.2) (h2 : ∀ z, (∀ p ∈ ps, z ≠ p.1) → stored.contains z = false → m₁ z = m₀ z)
    (F : Fr h₀ L h (fun y => if y = x then some v else m₁ y)) : Fr h₀ L h (fun y => if y = x then some v else kstB (fun z => if stored.contains z then m₁ z else m₀ z) ps y) := by
  have em : (fun y => if y = x then some v else kstB (fun z => if stored.contains z then m₁ z else m₀ z) ps y) = fun y => if y = x then some v else m₁ y := by
    funext y
    by_cases hy : y = x
    · rw [if_pos hy, if_pos hy]
    · rw [if_neg hy, if_neg hy]
      refine kstB_eq h1 fun hn => ?_
      show (if stored.contains y = true then m₁ y else m₀ y) = m₁ y
      cases h3 : stored.contains y with
      | true => simp
      | false => simp only [Bool.false_eq_true, if_false]; exact (h2 y hn h3).symm
  rw [em]
  exact F
theorem m_walk {σ : Type} {I : Addr} {fp : List Addr} {n : Nat} {Pv : Nat → Value → Prop} {St : Nat → Heap → Prop} {m₀ : Str → Option Value} {C : Value} (Led : σ → List (Addr × Obj)) (ps : σ → List (Str × Value)) (stored : List Str) (P : Nat → σ → Prop) (c₀ : σ)
    (W : Walks prog w A I fp [I] n Pv St) (hIf : I ∈ fp) (hLf : env.locals ∉ fp) (hI0 : h₀.get? I = none) (hst : St 0 s.heap) (hget : ∀ i h, St i h → ∃ o, h.get? I = some o ∧ o.cls = C)
    (hfp : ∀ q ∈ fp, q = I ∨ ∃ o, ∀ c, (q, o) ∈ Led c) (hoff0 : ∀ p ∈ Led c₀, p.1 ≠ I)
    (F : Fr h₀ env.locals s.heap m₀) (N : News h₀ env.locals s.heap (Led c₀)) (hk : ∀ p ∈ ps c₀, m₀ p.1 = some p.2) (hp : P 0 c₀)
    (turn : ∀ i v (c : σ) (u : Str → Option Value) it h tk, i < n → Pv i v → P i c → it.cls = C → (∀ p ∈ Led c, p.1 ≠ I) →
      Fr h₀ env.locals h (fun y => if y = x then some v else kstB (fun z => if stored.contains z then u z else m₀ z) (ps c) y) → News h₀ env.locals h ((I, it) :: Led c) →
      wpAny (model prog w) A (execs body env) (MLPost h₀ env.locals s Led ps stored m₀ P Q I it i) E { s with heap := h, toks := tk })
    (done : ∀ (c : σ) (u : Str → Option Value) h tk, P n c → Fr h₀ env.locals h (kstB (fun z => if stored.contains z then u z else m₀ z) (ps c)) → News h₀ env.locals h (Led c) → Q .next { s with heap := h, toks := tk }) :
    LoopAtV prog w A h₀ env x body Q E (.ref I) s := by
  refine ⟨I, fp, [I], n, Pv, St, m₀, Led c₀, (fun i m nx => ∃ c : σ, nx = Led c ∧ (∀ p ∈ ps c, m p.1 = some p.2) ∧ (∀ z, (∀ p ∈ ps c, z ≠ p.1) → stored.contains z = false → m z = m₀ z) ∧ P i c), rfl, W, hLf, ?_, ?_, hst, F, N, ⟨c₀, rfl, hk, fun _ _ _ => rfl, hp⟩, ?_, ?_⟩
  · intro b hb
    rw [List.mem_singleton.mp hb]; exact hI0
  · intro p hp hI
    exact hoff0 p hp (List.mem_singleton.mp hI)
  · rintro i v m₁ news₁ s₁ own ⟨hh', tk', rfl⟩ hin hP ⟨c, rfl, h1, h2, hp'⟩ hoff hown hgets hfps hst₁ F₁ N₁
    obtain ⟨it, hit, hC⟩ := hget _ _ hst₁
    have hitown : (I, it) ∈ own := hfps I hIf hI0 it hit
    have N₂ : News h₀ env.locals hh' ((I, it) :: Led c) := by
      intro p hp
      rcases List.mem_cons.mp hp with rfl | hp
      · exact N₁ _ (List.mem_append.mpr (.inl hitown))
      · exact N₁ _ (List.mem_append.mpr (.inr hp))
    have hoff' : ∀ p ∈ Led c, p.1 ≠ I := fun p hp e => hoff p hp (List.mem_singleton.mpr e)
    refine wpAny_mono (turn i v c m₁ it hh' tk' hin hP hp' hC hoff' (ml_fr h1 h2 F₁) N₂) (fun f s₂ p => ?_) fun _ _ e => e
    have fin : MLEnd h₀ env.locals s Led ps stored m₀ P I it i s₂ → LoopStepU h₀ env.locals [I] own (fun m nx => ∃ c : σ, nx = Led c ∧ (∀ p ∈ ps c, m p.1 = some p.2) ∧ (∀ z, (∀ p ∈ ps c, z ≠ p.1) → stored.contains z = false → m z = m₀ z) ∧ P (i + 1) c) { s with heap := hh', toks := tk' } .next s₂ := by
      rintro ⟨c', h', tk, m', news', rfl, F', N', hI, hn, hoffc, hk', hr', hp''⟩
      refine ⟨rfl, h', tk, m', Led c', rfl, F', fun p hp => ?_, fun p hp hq => hoffc p hp (List.mem_singleton.mp hq), c', rfl, hk', hr', hp''⟩
      rcases List.mem_append.mp hp with hp | hp
      · rcases hfp _ (hown p hp) with e | ⟨o, ho⟩
        · have h3 := hgets p hp
          rw [e, hit] at h3
          have : p = (I, it) := Prod.ext e (Option.some.inj h3).symm
          rw [this]; exact N' _ hI
        · have h3 := hgets p hp
          have h4 := (N₁ _ (List.mem_append.mpr (.inr (ho c)))).1
          have h5 : p.2 = o := by
            have h6 : some p.2 = some o := h3.symm.trans h4
            exact Option.some.inj h6
          have h6 := N' _ (hn _ (ho c'))
          have : p = (p.1, o) := Prod.ext rfl h5
          rw [this]; exact h6
      · exact N' p (hn p hp)
    cases f with
    | ret v => exact .ret p
    | brk => exact .brk p
    | next => exact .next (fin p)
    | cont => exact .cont (fin p)
  · rintro h' tk m' news' F' N' _ ⟨c, rfl, h1, h2, hp'⟩
    refine done c m' h' tk hp' ?_ N'
    exact ksw_fr h1 h2 F'
theorem m_list {σ : Type} {l : Addr} {lo : Obj} {vs : List Value} {nn : Nat} {m₀ : Str → Option Value} (Led : σ → List (Addr × Obj)) (ps : σ → List (Str × Value)) (stored : List Str) (P : Nat → σ → Prop) (c₀ : σ)
    (hh : A.handled = none) (F : Fr h₀ env.locals s.heap m₀) (N : News h₀ env.locals s.heap (Led c₀)) (hl : ∀ c : σ, (l, lo) ∈ Led c) (h1 : lo.cls = .type "list") (h2 : lo.data = .seq vs.toArray nn) (hk : ∀ p ∈ ps c₀, m₀ p.1 = some p.2) (hp : P 0 c₀)
    (turn : ∀ i v (c : σ) (u : Str → Option Value) it (I : Addr) h tk, vs[i]? = some v → P i c → it.cls = .type "list_iterator" → (∀ p ∈ Led c, p.1 ≠ I) →
      Fr h₀ env.locals h (fun y => if y = x then some v else kstB (fun z => if stored.contains z then u z else m₀ z) (ps c) y) → News h₀ env.locals h ((I, it) :: Led c) →
      wpAny (model prog w) A (execs body env) (MLPost h₀ env.locals s Led ps stored m₀ P Q I it i) E { s with heap := h, toks := tk })
    (done : ∀ (c : σ) (u : Str → Option Value) h tk, P vs.length c → Fr h₀ env.locals h (kstB (fun z => if stored.contains z then u z else m₀ z) (ps c)) → News h₀ env.locals h (Led c) → Q .next { s with heap := h, toks := tk }) :
    wpAny (model prog w) A (pyIter (.ref l)) (fun it s₂ => LoopAtV prog w A h₀ env x body Q E it s₂) E s := by
  have hol : s.heap.get? l = some lo := (N _ (hl c₀)).1
  have hls : s.heap.IsList l vs.toArray := ⟨_, hol, h1, nn, h2⟩
  have hne : l ≠ s.heap.objs.size := Nat.ne_of_lt (Heap.lt_size hol)
  refine wpAny_pyIter_list hls ?_
  have W := Walks.list (prog := prog) (w := w) hh s.heap.objs.size l hne vs.toArray
  have hlen : vs.toArray.size = vs.length := by simp
  rw [hlen] at W
  refine m_walk (C := .type "list_iterator") Led ps stored P c₀ W (.head _) ?_ (next_is_new F) ⟨⟨_, Heap.get?_push_size _ rfl, rfl, rfl⟩, hls.at fun o e => Heap.get?_push_of_some _ e⟩ ?_ ?_ ?_ (F.push _) (fun p hp => ⟨Heap.get?_push_of_some _ (N p hp).1, (N p hp).2⟩) hk hp ?_ (fun c u h tk hp F N => done c u h tk hp F N)
  · intro hm
    rcases List.mem_cons.mp hm with e | hm
    · exact absurd F.ns.lt (e ▸ Nat.lt_irrefl _)
    · exact (N _ (hl c₀)).2.1 ((List.mem_singleton.mp hm).symm)
  · rintro i h ⟨⟨o, ho, ho2, _⟩, _⟩
    exact ⟨o, ho, ho2⟩
  · intro q hq
    rcases List.mem_cons.mp hq with e | hq
    · exact .inl e
    · rw [List.mem_singleton.mp hq]; exact .inr ⟨lo, hl⟩
  · intro p hp e
    exact absurd (Heap.lt_size (N p hp).1) (by rw [e]; exact Nat.lt_irrefl _)
  · intro i v c u it h tk _ hv hP hC hoff F₁ N₁
    exact turn i v c u it _ h tk (by simpa using hv) hP hC hoff F₁ N₁
theorem m_range {σ : Type} {r : Addr} {a₀ b₀ : Int} {t₀ u₀ v₀ : Tok} {n : Nat} {m₀ : Str → Option Value} (Led : σ → List (Addr × Obj)) (ps : σ → List (Str × Value)) (stored : List Str) (P : Nat → σ → Prop) (c₀ : σ)
    (hh : A.handled = none) (hr : IsRange s.heap r a₀ b₀ 1 t₀ u₀ v₀) (hsmall : Builtin.Range.small a₀ b₀ 1 = true) (hn : Builtin.Range.rangeSize a₀ b₀ 1 = (n : Int)) (F : Fr h₀ env.locals s.heap m₀) (N : News h₀ env.locals s.heap (Led c₀)) (hk : ∀ p ∈ ps c₀, m₀ p.1 = some p.2) (hp : P 0 c₀)
    (turn : ∀ i t (c : σ) (u : Str → Option Value) it (I : Addr) h tk, i < n → P i c → it.cls = .type "range_iterator" → (∀ p ∈ Led c, p.1 ≠ I) →
      Fr h₀ env.locals h (fun y => if y = x then some (.int (a₀ + (i : Int)) t) else kstB (fun z => if stored.contains z then u z else m₀ z) (ps c) y) → News h₀ env.locals h ((I, it) :: Led c) →
      wpAny (model prog w) A (execs body env) (MLPost h₀ env.locals s Led ps stored m₀ P Q I it i) E { s with heap := h, toks := tk })
    (done : ∀ (c : σ) (u : Str → Option Value) h tk, P n c → Fr h₀ env.locals h (kstB (fun z => if stored.contains z then u z else m₀ z) (ps c)) → News h₀ env.locals h (Led c) → Q .next { s with heap := h, toks := tk }) :
    wpAny (model prog w) A (pyIter (.ref r)) (fun it s₂ => LoopAtV prog w A h₀ env x body Q E it s₂) E s := by
  refine wpAny_pyIter_range hr hsmall ?_
  have W : Walks prog w A s.heap.objs.size [s.heap.objs.size] [s.heap.objs.size] n (fun i v => i < n ∧ ∃ t, v = .int (a₀ + i * 1) t)
      (fun i h => IsRangeIter h s.heap.objs.size (a₀ + (i : Nat) * 1) ((n : Int) - (i : Nat)) 1) := (Walks.range hh _ a₀ 1 n).bound
  refine m_walk (C := .type "range_iterator") Led ps stored P c₀ W (.head _) ?_ (next_is_new F) (by show IsRangeIter _ _ _ _ _; rw [hn]; simpa using Heap.get?_push_size _ rfl) ?_ ?_ ?_ (F.push _) (fun p hp => ⟨Heap.get?_push_of_some _ (N p hp).1, (N p hp).2⟩) hk hp ?_ (fun c u h tk hp F N => done c u h tk hp F N)
  · intro hm
    exact absurd F.ns.lt ((List.mem_singleton.mp hm) ▸ Nat.lt_irrefl _)
  · intro i h hi
    exact ⟨_, hi, rfl⟩
  · intro q hq
    exact .inl (List.mem_singleton.mp hq)
  · intro p hp e
    exact absurd (Heap.lt_size (N p hp).1) (by rw [e]; exact Nat.lt_irrefl _)
  · rintro i v c u it h tk hi ⟨_, t, rfl⟩ hP hC hoff F₁ N₁
    have e1 : a₀ + (i : Int) * 1 = a₀ + (i : Int) := by omega
    rw [e1] at F₁
    exact turn i t c u it _ h tk hi hP hC hoff F₁ N₁
end
end Mine
end
section
namespace Mine
theorem gcd_start (x y : Int) : 0 ≤ (if x < 0 then -x else x) ∧ 0 ≤ (if y < 0 then -y else y) ∧ Int.gcd (if x < 0 then -x else x) (if y < 0 then -y else y) = Int.gcd x y := by
  refine ⟨by split <;> omega, by split <;> omega, ?_⟩
  split <;> split <;> simp
theorem gcd_fmod (a b : Int) : Int.gcd b (a.fmod b) = Int.gcd a b := by
  rw [Int.fmod_def, Int.gcd_sub_mul_left_right, Int.gcd_comm]
theorem gcd_turn {a b : Int} {n : Nat} (_h0 : 0 ≤ a) (h1 : 0 ≤ b) (h2 : Int.gcd a b = n) (hb : b ≠ 0) : 0 ≤ b ∧ 0 ≤ a.fmod b ∧ Int.gcd b (a.fmod b) = n :=
  ⟨h1, Int.fmod_nonneg_of_pos a (by omega), (gcd_fmod a b).trans h2⟩
theorem fmod_meas {a b : Int} (h1 : 0 ≤ b) (hb : b ≠ 0) : (a.fmod b).toNat < b.toNat := by
  have := Int.fmod_lt_of_pos a (show 0 < b by omega)
  omega
theorem gcd_last {a b : Int} {n : Nat} (h0 : 0 ≤ a) (h2 : Int.gcd a b = n) (hb : b = 0) : a = (n : Int) := by
  subst hb
  rw [← h2, Int.gcd_zero_right]
  omega
end Mine
end
section
namespace Mine
/-- the invariant of extended Euclid -/
structure ExtI (x y r0 s0 t0 r1 s1 t1 : Int) : Prop where
  n0 : 0 ≤ r0
  n1 : 0 ≤ r1
  e0 : r0 = s0 * x + t0 * y
  e1 : r1 = s1 * x + t1 * y
  g : Int.gcd r0 r1 = Int.gcd x y
  sg : ∃ e A B C D : Int, (e = 1 ∨ e = -1) ∧ 0 ≤ A ∧ 0 ≤ B ∧ 0 ≤ C ∧ 0 ≤ D ∧ s0 = e * A ∧ s1 = -(e * B) ∧ t0 = -(e * C) ∧ t1 = e * D ∧ B * r0 + A * r1 = y ∧ D * r0 + C * r1 = x
  b : r0 ≤ 1000 ∧ r1 ≤ 1000 ∧ -1000 ≤ s0 ∧ s0 ≤ 1000 ∧ -1000 ≤ t0 ∧ t0 ≤ 1000 ∧ -1000 ≤ s1 ∧ s1 ≤ 1000 ∧ -1000 ≤ t1 ∧ t1 ≤ 1000

theorem ext_start {x y : Int} (hx : 0 ≤ x) (hx' : x ≤ 1000) (hy : 1 ≤ y) (hy' : y ≤ 1000) : ExtI x y x 1 0 y 0 1 :=
  ⟨hx, by omega, by omega, by omega, rfl, ⟨1, 1, 0, 0, 1, by omega, by omega, by omega, by omega, by omega, by omega, by omega, by omega, by omega, by omega, by omega⟩, by omega⟩

theorem le_of_mul {A B r0 r1 y : Int} (hA : 0 ≤ A) (hB : 0 ≤ B) (h0 : 0 ≤ r0) (h1 : 1 ≤ r1) (h : B * r0 + A * r1 = y) : A ≤ y := by
  have h2 : 0 ≤ B * r0 := Int.mul_nonneg hB h0
  have h3 : A * 1 ≤ A * r1 := Int.mul_le_mul_of_nonneg_left h1 hA
  omega

theorem ext_turn {x y r0 s0 t0 r1 s1 t1 : Int} (hx' : x ≤ 1000) (hy' : y ≤ 1000) (I : ExtI x y r0 s0 t0 r1 s1 t1) (h : r1 ≠ 0) :
    ExtI x y r1 s1 t1 (r0 - r0.fdiv r1 * r1) (s0 - r0.fdiv r1 * s1) (t0 - r0.fdiv r1 * t1) := by
  obtain ⟨n0, n1, e0, e1, g, ⟨e, A, B, C, D, he, hA, hB, hC, hD, a1, a2, a3, a4, hy, hx⟩, b⟩ := I
  have hr : 1 ≤ r1 := by omega
  have hm : r0 - r0.fdiv r1 * r1 = r0.fmod r1 := by rw [Int.fmod_def, Int.mul_comm]
  have hm0 : 0 ≤ r0.fmod r1 := Int.fmod_nonneg_of_pos r0 (by omega)
  have hm1 : r0.fmod r1 < r1 := Int.fmod_lt_of_pos r0 (by omega)
  have hq : 0 ≤ r0.fdiv r1 := Int.fdiv_nonneg n0 n1
  have hqe : r0.fdiv r1 * r1 + r0.fmod r1 = r0 := by omega
  rw [hm]
  generalize hqq : r0.fdiv r1 = q at *
  generalize hrr : r0.fmod r1 = r2 at *
  have hqB : 0 ≤ q * B := Int.mul_nonneg hq hB
  have hqD : 0 ≤ q * D := Int.mul_nonneg hq hD
  have y1 : (A + q * B) * r2 + 0 = (A + q * B) * r2 := by omega
  have hy2 : (A + q * B) * r1 + B * r2 = y := by
    rw [← hy, ← hqe]
    rw [Int.add_mul, Int.mul_add, ← Int.mul_assoc, Int.mul_comm q B]; omega
  have hx2 : (C + q * D) * r1 + D * r2 = x := by
    rw [← hx, ← hqe]
    rw [Int.add_mul, Int.mul_add, ← Int.mul_assoc, Int.mul_comm q D]; omega
  have lA : A + q * B ≤ y := by
    refine le_of_mul (B := B) (r0 := r2) (r1 := r1) (by omega) hB hm0 hr ?_
    omega
  have lC : C + q * D ≤ x := by
    refine le_of_mul (B := D) (r0 := r2) (r1 := r1) (by omega) hD hm0 hr ?_
    omega
  have s2 : s0 - q * s1 = e * (A + q * B) := by
    rw [a1, a2, Int.mul_add, Int.mul_neg, Int.mul_left_comm q e B]; omega
  have t2 : t0 - q * t1 = -(e * (C + q * D)) := by
    rw [a3, a4, Int.mul_add, Int.mul_left_comm q e D]; omega
  refine ⟨by omega, hm0, e1, ?_, ?_, ⟨-e, B, A + q * B, D, C + q * D, by omega, hB, by omega, hD, by omega, ?_, ?_, ?_, ?_, ?_, ?_⟩, ?_⟩
  · have : r2 = r0 - q * r1 := by omega
    rw [this, e0, e1, Int.sub_mul, Int.sub_mul, Int.mul_add, Int.mul_assoc, Int.mul_assoc]; omega
  · rw [← g, ← hrr]; exact gcd_fmod r0 r1
  · rw [a2, Int.neg_mul]
  · rw [s2, Int.neg_mul]; omega
  · rw [a4, Int.neg_mul]; omega
  · rw [t2, Int.neg_mul]
  · omega
  · omega
  · rw [s2, t2]
    rcases he with rfl | rfl
    · refine ⟨by omega, by omega, by omega, by omega, by omega, by omega, by omega, by omega, by omega, by omega⟩
    · refine ⟨by omega, by omega, by omega, by omega, by omega, by omega, by omega, by omega, by omega, by omega⟩

theorem ext_meas {r0 r1 : Int} (h1 : 0 ≤ r1) (hb : r1 ≠ 0) : (r0 - r0.fdiv r1 * r1).toNat < r1.toNat := by
  have hm : r0 - r0.fdiv r1 * r1 = r0.fmod r1 := by rw [Int.fmod_def, Int.mul_comm]
  rw [hm]; exact fmod_meas h1 hb

/-- what extended gives -/
structure ExtR (x y g s t : Int) : Prop where
  eg : g = Int.gcd x y
  e : g = s * x + t * y
  b : -1000 ≤ s ∧ s ≤ 1000 ∧ -1000 ≤ t ∧ t ≤ 1000
theorem ext_last {x y r0 s0 t0 r1 s1 t1 : Int} (I : ExtI x y r0 s0 t0 r1 s1 t1) (h : r1 = 0) : ExtR x y r0 s0 t0 :=
  ⟨gcd_last I.n0 I.g h, I.e0, by have := I.b; omega⟩
theorem ext_ne {x y g p q : Int} (R : ExtR x y g p q) (h : g ≠ 1) : Int.gcd x y ≠ 1 := fun e => h (by rw [R.eg, e]; rfl)
theorem root_start {x : Int} (hx : 1 ≤ x) : (0 : Int) ≤ 0 ∧ (0 : Int) < 1 ∧ (1 : Int) ≤ 64 ∧ (0 : Int) * 0 ≤ x := by omega
end Mine
end
section
namespace Mine
theorem sq_eq (h : Int) : h ^ Int.toNat 2 = h * h := by
  show h ^ 2 = h * h
  rw [Int.pow_succ, Int.pow_succ, Int.pow_zero, Int.one_mul]
theorem lt_of_sq {a b : Int} (hb : 0 ≤ b) (h : a * a < b * b) : a < b := by
  rcases Int.lt_or_le a b with h1 | h1
  · exact h1
  · have := Int.mul_le_mul h1 h1 hb (by omega); omega
theorem root_grow {x low high : Int} (hx : x ≤ 1000) (h0 : 0 ≤ low) (h1 : low < high) (_h2 : high ≤ 64) (_h3 : low * low ≤ x) (h : high ^ Int.toNat 2 ≤ x) : 0 ≤ high ∧ high < 2 * high ∧ 2 * high ≤ 64 ∧ high * high ≤ x := by
  rw [sq_eq] at h
  have : high < 32 := lt_of_sq (by omega) (by omega)
  omega
theorem root_growm {low high : Int} (h0 : 0 ≤ low) (h1 : low < high) (h2 : high ≤ 64) : (64 - 2 * high).toNat < (64 - high).toNat ∨ high = 64 := by omega
theorem root_growm' {x low high : Int} (hx : x ≤ 1000) (h0 : 0 ≤ low) (h1 : low < high) (h2 : high ≤ 64) (h : high ^ Int.toNat 2 ≤ x) : (64 - 2 * high).toNat < (64 - high).toNat := by
  rw [sq_eq] at h
  have : high < 32 := lt_of_sq (by omega) (by omega)
  omega
theorem root_two {x low high : Int} (h0 : 0 ≤ low) (h1 : low < high) (h2 : high ≤ 64) (h3 : low * low ≤ x) (h : ¬ high ^ Int.toNat 2 ≤ x) : 0 ≤ low ∧ low < high ∧ high ≤ 64 ∧ low * low ≤ x ∧ x < high * high := by
  rw [sq_eq] at h
  omega
theorem mid_between {low high : Int} (h : 1 < high - low) : low < (low + high).fdiv 2 ∧ (low + high).fdiv 2 < high := by
  rw [Int.fdiv_eq_ediv_of_nonneg _ (by decide)]
  omega
theorem root_lo {x low high : Int} (h0 : 0 ≤ low) (h2 : high ≤ 64) (h4 : x < high * high) (hd : 1 < high - low) (h : (low + high).fdiv 2 ^ Int.toNat 2 ≤ x) :
    0 ≤ (low + high).fdiv 2 ∧ (low + high).fdiv 2 < high ∧ high ≤ 64 ∧ (low + high).fdiv 2 * (low + high).fdiv 2 ≤ x ∧ x < high * high := by
  rw [sq_eq] at h
  have := mid_between hd
  omega
theorem root_hi {x low high : Int} (h0 : 0 ≤ low) (h2 : high ≤ 64) (h3 : low * low ≤ x) (hd : 1 < high - low) (h : ¬ (low + high).fdiv 2 ^ Int.toNat 2 ≤ x) :
    0 ≤ low ∧ low < (low + high).fdiv 2 ∧ (low + high).fdiv 2 ≤ 64 ∧ low * low ≤ x ∧ x < (low + high).fdiv 2 * (low + high).fdiv 2 := by
  rw [sq_eq] at h
  have := mid_between hd
  omega
theorem root_lom {low high : Int} (hd : 1 < high - low) : (high - (low + high).fdiv 2).toNat < (high - low).toNat := by
  have := mid_between hd
  omega
theorem root_him {low high : Int} (hd : 1 < high - low) : ((low + high).fdiv 2 - low).toNat < (high - low).toNat := by
  have := mid_between hd
  omega
theorem root_last {x low high : Int} (h1 : low < high) (h4 : x < high * high) (hd : ¬ 1 < high - low) : x < (low + 1) * (low + 1) := by
  have : high = low + 1 := by omega
  rw [← this]; exact h4
end Mine
end
section
namespace Mine
/-- what chinese_two gives: the class of the numbers that have both rests -/
structure TwoR (r1 m1 r2 m2 v j : Int) : Prop where
  p : 1 ≤ j
  l : 0 ≤ v
  u : v < j
  le : j ≤ m1 * m2
  iff : ∀ x, (m1 ∣ x - r1 ∧ m2 ∣ x - r2) ↔ j ∣ x - v
def NoTwo (r1 m1 r2 m2 : Int) : Prop := ∀ x, ¬ (m1 ∣ x - r1 ∧ m2 ∣ x - r2)

theorem ext_pos {x y g p q : Int} (hy : 1 ≤ y) (R : ExtR x y g p q) : 1 ≤ g := by
  have := R.eg
  have h : 0 < Int.gcd x y := Int.gcd_pos_iff.mpr (Or.inr (by omega))
  omega
theorem ext_le {x y g p q : Int} (hy : 1 ≤ y) (R : ExtR x y g p q) : g ≤ y := by
  rw [R.eg]; exact Int.gcd_le_right _ (by omega)
theorem ext_dvd {x y g p q : Int} (R : ExtR x y g p q) : g ∣ x ∧ g ∣ y := by
  rw [R.eg]; exact ⟨Int.gcd_dvd_left .., Int.gcd_dvd_right ..⟩
theorem ext_joined {x y g p q : Int} (hx : 1 ≤ x) (hy : 1 ≤ y) (R : ExtR x y g p q) : 1 ≤ x.fdiv g * y ∧ x.fdiv g * y ≤ x * y := by
  have hg := ext_pos hy R
  obtain ⟨c, hc⟩ := (ext_dvd R).1
  have hq : x.fdiv g = c := by rw [hc]; exact Int.mul_fdiv_cancel_left _ (by omega)
  rw [hq]
  have hc1 : 1 ≤ c := by
    rcases Int.lt_or_le c 1 with h | h
    · exfalso
      have : g * c ≤ g * 0 := Int.mul_le_mul_of_nonneg_left (by omega) (by omega)
      omega
    · exact h
  have hcx : c ≤ x := by
    rw [hc]
    have : 1 * c ≤ g * c := Int.mul_le_mul_of_nonneg_right hg (by omega)
    omega
  have h1 : 1 * 1 ≤ c * y := Int.mul_le_mul hc1 hy (by omega) (by omega)
  exact ⟨by omega, Int.mul_le_mul_of_nonneg_right hcx (by omega)⟩
theorem fmod_dvd {a b : Int} (hb : 1 ≤ b) : a.fmod b = 0 ↔ b ∣ a := by
  rw [Int.fmod_eq_emod_of_nonneg _ (by omega)]
  exact (Int.dvd_iff_emod_eq_zero).symm
theorem two_none {r1 m1 r2 m2 g p q : Int} (h2 : 1 ≤ m2) (R : ExtR m1 m2 g p q) (h : (r2 - r1).fmod g ≠ 0) : NoTwo r1 m1 r2 m2 := by
  rintro x ⟨a, b⟩
  apply h
  rw [fmod_dvd (ext_pos h2 R)]
  have e1 := Int.dvd_trans (ext_dvd R).1 a
  have e2 := Int.dvd_trans (ext_dvd R).2 b
  have := Int.dvd_sub e1 e2
  have e3 : x - r1 - (x - r2) = r2 - r1 := by omega
  rwa [e3] at this
theorem two_some {r1 m1 r2 m2 g p q : Int} (h1 : 1 ≤ m1) (h2 : 1 ≤ m2) (R : ExtR m1 m2 g p q) (h : (r2 - r1).fmod g = 0) :
    TwoR r1 m1 r2 m2 ((r1 + m1 * (p * (r2 - r1).fdiv g)).fmod (m1.fdiv g * m2)) (m1.fdiv g * m2) := by
  have hg := ext_pos h2 R
  obtain ⟨hj1, hj2⟩ := ext_joined h1 h2 R
  obtain ⟨c, hc⟩ := (ext_dvd R).1
  obtain ⟨c2, hc2⟩ := (ext_dvd R).2
  have hq : m1.fdiv g = c := by rw [hc]; exact Int.mul_fdiv_cancel_left _ (by omega)
  rw [hq] at hj1 hj2 ⊢
  obtain ⟨d, hd⟩ := (fmod_dvd hg).mp h
  have hdd : (r2 - r1).fdiv g = d := by rw [hd]; exact Int.mul_fdiv_cancel_left _ (by omega)
  rw [hdd]
  generalize hV : r1 + m1 * (p * d) = V
  refine ⟨hj1, Int.fmod_nonneg_of_pos _ (by omega), Int.fmod_lt_of_pos _ (by omega), hj2, ?_⟩
  have hm : c * m2 ∣ V.fmod (c * m2) - V := ⟨-(V.fdiv (c * m2)), by rw [Int.fmod_def, Int.mul_neg]; omega⟩
  have d1 : m1 ∣ c * m2 := ⟨c2, by rw [hc, hc2, Int.mul_comm g c, Int.mul_assoc]⟩
  have d2 : m2 ∣ c * m2 := ⟨c, Int.mul_comm _ _⟩
  have v1 : m1 ∣ V - r1 := ⟨p * d, by rw [← hV]; omega⟩
  have v2 : m2 ∣ V - r2 := ⟨-(q * d), by
    have e := R.e
    have e2 : V - r2 = m1 * (p * d) - g * d := by rw [← hV]; omega
    have e3 : g * d = m1 * (p * d) + m2 * (q * d) := by
      rw [e, Int.add_mul, Int.mul_comm p m1, Int.mul_comm q m2, Int.mul_assoc, Int.mul_assoc]
    rw [e2, e3, Int.mul_neg]; omega⟩
  have lcm : ∀ z, m1 ∣ z → m2 ∣ z → c * m2 ∣ z := by
    rintro z ⟨a, ha⟩ ⟨b, hb⟩
    refine ⟨p * b + q * a, ?_⟩
    have e : g * z = g * (c * m2 * (p * b + q * a)) := by
      have k1 : g * z = (p * m1) * z + (q * m2) * z := by rw [← Int.add_mul, ← R.e]
      have k2 : (p * m1) * z = (p * m1) * (m2 * b) := by rw [← hb]
      have k3 : (q * m2) * z = (q * m2) * (m1 * a) := by rw [← ha]
      rw [k1, k2, k3, hc]
      grind
    exact Int.eq_of_mul_eq_mul_left (by omega) e
  intro x
  constructor
  · rintro ⟨a, b⟩
    have k1 : m1 ∣ x - V := by
      have := Int.dvd_sub a v1
      have e : x - r1 - (V - r1) = x - V := by omega
      rwa [e] at this
    have k2 : m2 ∣ x - V := by
      have := Int.dvd_sub b v2
      have e : x - r2 - (V - r2) = x - V := by omega
      rwa [e] at this
    have := Int.dvd_sub (lcm _ k1 k2) hm
    have e : x - V - (V.fmod (c * m2) - V) = x - V.fmod (c * m2) := by omega
    rwa [e] at this
  · intro k
    have kk : c * m2 ∣ x - V := by
      have := Int.dvd_add k hm
      have e : x - V.fmod (c * m2) + (V.fmod (c * m2) - V) = x - V := by omega
      rwa [e] at this
    constructor
    · have := Int.dvd_add (Int.dvd_trans d1 kk) v1
      have e : x - V + (V - r1) = x - r1 := by omega
      rwa [e] at this
    · have := Int.dvd_add (Int.dvd_trans d2 kk) v2
      have e : x - V + (V - r2) = x - r2 := by omega
      rwa [e] at this
end Mine
namespace Mine
def Fits (ps : List (Int × Int)) (x : Int) : Prop := ∀ p ∈ ps, p.2 ∣ x - p.1
structure ChR (ps : List (Int × Int)) (v j : Int) : Prop where
  p : 1 ≤ j
  l : 0 ≤ v
  u : v < j
  iff : ∀ x, Fits ps x ↔ j ∣ x - v
def ChN (ps : List (Int × Int)) : Prop := ∀ x, ¬ Fits ps x
theorem fits_snoc {ps : List (Int × Int)} {r m x : Int} : Fits (ps ++ [(r, m)]) x ↔ Fits ps x ∧ m ∣ x - r := by
  unfold Fits
  constructor
  · intro h
    exact ⟨fun p hp => h p (List.mem_append.mpr (.inl hp)), h (r, m) (List.mem_append.mpr (.inr (List.mem_singleton.mpr rfl)))⟩
  · rintro ⟨h1, h2⟩ p hp
    rcases List.mem_append.mp hp with hp | hp
    · exact h1 p hp
    · rw [List.mem_singleton.mp hp]; exact h2
theorem ch_nil : ChR [] 0 1 := ⟨by decide, by decide, by decide, fun x => ⟨fun _ => Int.one_dvd _, fun _ _ hp => nomatch hp⟩⟩
theorem ch_snoc {ps : List (Int × Int)} {v j r m v' j' : Int} (C : ChR ps v j) (T : TwoR v j r m v' j') : ChR (ps ++ [(r, m)]) v' j' :=
  ⟨T.p, T.l, T.u, fun x => by rw [fits_snoc, C.iff]; exact T.iff x⟩
theorem ch_none {ps : List (Int × Int)} {v j r m : Int} (C : ChR ps v j) (T : NoTwo v j r m) : ChN (ps ++ [(r, m)]) := fun x h => by
  rw [fits_snoc, C.iff] at h
  exact T x h
theorem ch_still {ps : List (Int × Int)} {q : Int × Int} (C : ChN ps) : ChN (ps ++ [q]) := fun x h => by
  obtain ⟨r, m⟩ := q
  exact C x (fits_snoc.mp h).1
theorem two_le {r1 m1 r2 m2 v j : Int} (h1 : 1 ≤ m1) (h2 : m2 ≤ 9) (T : TwoR r1 m1 r2 m2 v j) : j ≤ 9 * m1 := by
  have := T.le
  have h : m1 * m2 ≤ m1 * 9 := Int.mul_le_mul_of_nonneg_left h2 (by omega)
  omega
end Mine
end
section
namespace Mine
/-- the size of the parts: the root of half the modulus -/
structure NOf (m N : Int) : Prop where
  n : 0 ≤ N
  l : 2 * (N * N) ≤ m
  u : m < 2 * ((N + 1) * (N + 1))
theorem nof_uniq {m N N' : Int} (a : NOf m N) (b : NOf m N') : N = N' := by
  have key : ∀ {x y : Int}, NOf m x → NOf m y → x ≤ y := by
    intro x y hx hy
    rcases Int.lt_or_le y x with h | h
    · exfalso
      have h1 : (y + 1) * (y + 1) ≤ x * x := Int.mul_le_mul (by omega) (by omega) (by have := hy.n; omega) (by have := hx.n; omega)
      have := hx.l; have := hy.u; omega
    · exact h
  have := key a b; have := key b a; omega
theorem nof_pos {m N : Int} (a : NOf m N) (hm : 3 ≤ m) : 1 ≤ N := by
  rcases Int.lt_or_le N 1 with h | h
  · exfalso
    have h0 : N = 0 := by have := a.n; omega
    have := a.u
    rw [h0] at this; omega
  · exact h
theorem nof_lt {m N : Int} (a : NOf m N) (hm : 3 ≤ m) : N < m := by
  have h1 := nof_pos a hm
  have h2 : 1 * N ≤ N * N := Int.mul_le_mul_of_nonneg_right h1 (by omega)
  have := a.l; omega
theorem nof_root {m v : Int} (h0 : 0 ≤ v) (h1 : v * v ≤ m.fdiv 2) (h2 : m.fdiv 2 < (v + 1) * (v + 1)) : NOf m v := by
  rw [Int.fdiv_eq_ediv_of_nonneg _ (by decide)] at h1 h2
  exact ⟨h0, by omega, by omega⟩
/-- a ratio that is the rest -/
structure RatOk (x m N t b : Int) : Prop where
  p : 1 ≤ b
  u : b ≤ N
  tl : -N ≤ t
  tu : t ≤ N
  d : m ∣ x * b - t
  g : Int.gcd t b = 1
  gm : Int.gcd b m = 1
structure RatI (x m N r0 t0 r1 t1 : Int) : Prop where
  n1 : 0 ≤ r1
  lt : r1 < r0
  big : N < r0
  le : r0 ≤ m
  c0 : m ∣ x * t0 - r0
  c1 : m ∣ x * t1 - r1
  sg : ∃ e B D : Int, (e = 1 ∨ e = -1) ∧ 0 ≤ B ∧ 1 ≤ D ∧ t0 = -(e * B) ∧ t1 = e * D ∧ D * r0 + B * r1 = m
  b : -300 ≤ t0 ∧ t0 ≤ 300 ∧ -300 ≤ t1 ∧ t1 ≤ 300
theorem rat_start {x m N : Int} (hm : 3 ≤ m) (hm' : m ≤ 300) (hN : NOf m N) : RatI x m N m 0 (x.fmod m) 1 where
  n1 := Int.fmod_nonneg_of_pos x (by omega)
  lt := Int.fmod_lt_of_pos x (by omega)
  big := nof_lt hN hm
  le := Int.le_refl _
  c0 := ⟨-1, by omega⟩
  c1 := ⟨x.fdiv m, by rw [Int.fmod_def]; omega⟩
  sg := ⟨1, 0, 1, by omega, by omega, by omega, by omega, by omega, by omega⟩
  b := by omega
theorem rat_turn {x m N r0 t0 r1 t1 : Int} (hm' : m ≤ 300) (h0 : 0 ≤ N) (I : RatI x m N r0 t0 r1 t1) (h : N < r1) :
    RatI x m N r1 t1 (r0 - r0.fdiv r1 * r1) (t0 - r0.fdiv r1 * t1) := by
  obtain ⟨n1, lt, big, le, ⟨c0, hc0⟩, ⟨c1, hc1⟩, ⟨e, B, D, he, hB, hD, a1, a2, hs⟩, b⟩ := I
  have hr : 1 ≤ r1 := by omega
  have hm : r0 - r0.fdiv r1 * r1 = r0.fmod r1 := by rw [Int.fmod_def, Int.mul_comm]
  have hm0 : 0 ≤ r0.fmod r1 := Int.fmod_nonneg_of_pos r0 (by omega)
  have hm1 : r0.fmod r1 < r1 := Int.fmod_lt_of_pos r0 (by omega)
  have hqe : r0.fdiv r1 * r1 + r0.fmod r1 = r0 := by omega
  have hq : 1 ≤ r0.fdiv r1 := by
    rcases Int.lt_or_le (r0.fdiv r1) 1 with h | h
    · exfalso
      have : r0.fdiv r1 * r1 ≤ 0 * r1 := Int.mul_le_mul_of_nonneg_right (by omega) (by omega)
      omega
    · exact h
  rw [hm]
  generalize hqq : r0.fdiv r1 = q at *
  generalize hrr : r0.fmod r1 = r2 at *
  have hqD : 1 * D ≤ q * D := Int.mul_le_mul_of_nonneg_right hq (by omega)
  have hs2 : (B + q * D) * r1 + D * r2 = m := by
    rw [← hs, ← hqe]
    rw [Int.add_mul, Int.mul_add, ← Int.mul_assoc, Int.mul_comm q D]; omega
  have lD : B + q * D ≤ m := le_of_mul (B := D) (r0 := r2) (r1 := r1) (by omega) (by omega) hm0 hr (by omega)
  have lB : D ≤ m := le_of_mul (B := B) (r0 := r1) (r1 := r0) (by omega) hB n1 (by omega) (by omega)
  have t2 : t0 - q * t1 = -(e * (B + q * D)) := by
    rw [a1, a2, Int.mul_add, Int.mul_left_comm q e D]; omega
  refine ⟨hm0, hm1, h, by omega, ⟨c1, hc1⟩, ⟨c0 - q * c1, ?_⟩, ⟨-e, D, B + q * D, by omega, by omega, by omega, ?_, ?_, hs2⟩, ?_⟩
  · have e2 : r2 = r0 - q * r1 := by omega
    clear hm hqe hrr hqq; subst e2; grind
  · rw [a2, Int.neg_mul]; omega
  · rw [t2, Int.neg_mul]
  · rw [t2]
    rcases he with rfl | rfl
    · omega
    · omega
/-- the last row: the one candidate -/
structure RatF (x m N t b : Int) : Prop where
  p : 1 ≤ b
  le : b ≤ 300
  tl : -N ≤ t
  tu : t ≤ N
  d : m ∣ x * b - t
  one : ∀ n d, RatOk x m N n d → n = t ∧ d = b
theorem abs_mul_le {a b N : Int} (ha : -N ≤ a) (ha' : a ≤ N) (hb : 0 ≤ b) (hb' : b ≤ N) (hN : 0 ≤ N) : -(N * N) ≤ a * b ∧ a * b ≤ N * N := by
  constructor
  · have h1 : -N * b ≤ a * b := Int.mul_le_mul_of_nonneg_right ha hb
    have h2 : N * b ≤ N * N := Int.mul_le_mul_of_nonneg_left hb' hN
    rw [Int.neg_mul] at h1; omega
  · have h1 : a * b ≤ N * b := Int.mul_le_mul_of_nonneg_right ha' hb
    have h2 : N * b ≤ N * N := Int.mul_le_mul_of_nonneg_left hb' hN
    omega
theorem eq_of_prod {a b N : Int} (ha : 0 ≤ a) (ha' : a ≤ N) (_hb : 0 ≤ b) (hb' : b ≤ N) (hN : 1 ≤ N) (h : N * N ≤ a * b) : a = N ∧ b = N := by
  constructor
  · rcases Int.lt_or_le a N with h1 | h1
    · exfalso
      have h2 : a * b ≤ a * N := Int.mul_le_mul_of_nonneg_left hb' ha
      have h3 : a * N ≤ (N - 1) * N := Int.mul_le_mul_of_nonneg_right (by omega) (by omega)
      rw [Int.sub_mul] at h3; omega
    · omega
  · rcases Int.lt_or_le b N with h1 | h1
    · exfalso
      have h2 : a * b ≤ N * b := Int.mul_le_mul_of_nonneg_right ha' _hb
      have h3 : N * b ≤ N * (N - 1) := Int.mul_le_mul_of_nonneg_left (by omega) (by omega)
      rw [Int.mul_sub] at h3; omega
    · omega
/-- the heart: what fits is the last row (the sign e taken off) -/
theorem rat_one {x m N r0 t0 r1 t1 e B D n d : Int} (hm : 3 ≤ m) (hN : NOf m N) (n1 : 0 ≤ r1) (big : N < r0) (c0 : m ∣ x * t0 - r0) (c1 : m ∣ x * t1 - r1) (he : e = 1 ∨ e = -1) (hB : 0 ≤ B) (hD : 1 ≤ D)
    (a1 : t0 = -(e * B)) (a2 : t1 = e * D) (hs : D * r0 + B * r1 = m) (hl : r1 ≤ N) (R : RatOk x m N n d) : n = e * r1 ∧ d = D := by
  have hN1 := nof_pos hN hm
  have ee : e * e = 1 := by rcases he with rfl | rfl <;> decide
  obtain ⟨kc, hkc⟩ := R.d
  obtain ⟨k0, hk0⟩ := c0
  obtain ⟨k1, hk1⟩ := c1
  -- α = (n t1 - d r1) / m, β = (r0 d - t0 n) / m
  have hα : ∃ α, n * t1 - d * r1 = m * α := ⟨d * k1 - t1 * kc, by grind⟩
  have hβ : ∃ β, r0 * d - t0 * n = m * β := ⟨t0 * kc - d * k0, by grind⟩
  obtain ⟨α, hα⟩ := hα
  obtain ⟨β, hβ⟩ := hβ
  have hm0 : m ≠ 0 := by omega
  -- n = e (α r0 + β r1), d = e (α t0 + β t1) = β D - α B
  have hn : n = e * (α * r0 + β * r1) := by
    have h : m * n = m * (e * (α * r0 + β * r1)) := by
      have : m * (e * (α * r0 + β * r1)) = e * ((m * α) * r0 + (m * β) * r1) := by grind
      rw [this, ← hα, ← hβ, a1, a2]
      have : e * ((n * (e * D) - d * r1) * r0 + (r0 * d - -(e * B) * n) * r1) = (e * e) * (n * (D * r0 + B * r1)) := by grind
      rw [this, ee, hs]; grind
    exact Int.eq_of_mul_eq_mul_left hm0 h
  have hd : d = β * D - α * B := by
    have h : m * d = m * (β * D - α * B) := by
      have : m * (β * D - α * B) = (m * β) * D - (m * α) * B := by grind
      rw [this, ← hα, ← hβ, a1, a2]
      have : (r0 * d - -(e * B) * n) * D - (n * (e * D) - d * r1) * B = d * (D * r0 + B * r1) := by grind
      rw [this, hs]; grind
    exact Int.eq_of_mul_eq_mul_left hm0 h
  have hdp := R.p
  have hdu := R.u
  have hnl := R.tl
  have hnu := R.tu
  have habs : -N ≤ α * r0 + β * r1 ∧ α * r0 + β * r1 ≤ N := by
    rcases he with rfl | rfl <;> omega
  rcases Int.lt_trichotomy α 0 with hα0 | hα0 | hα0
  · exfalso
    rcases Int.lt_or_le β 1 with hβ0 | hβ0
    · have h1 : α * r0 ≤ -1 * r0 := Int.mul_le_mul_of_nonneg_right (by omega) (by omega)
      have h2 : β * r1 ≤ 0 * r1 := Int.mul_le_mul_of_nonneg_right (by omega) n1
      omega
    · have h1 : 1 * D ≤ β * D := Int.mul_le_mul_of_nonneg_right hβ0 (by omega)
      have h2 : α * B ≤ 0 * B := Int.mul_le_mul_of_nonneg_right (by omega) hB
      have hDN : D ≤ N := by omega
      have h3 : m * α ≤ m * -1 := Int.mul_le_mul_of_nonneg_left (by omega) (by omega)
      rw [← hα, a2] at h3
      have h4 : n * (e * D) = (e * n) * D := by grind
      rw [h4] at h3
      have h5 : -N ≤ e * n ∧ e * n ≤ N := by rcases he with rfl | rfl <;> omega
      have h6 := abs_mul_le h5.1 h5.2 (by omega : 0 ≤ D) hDN (by omega)
      have h7 := abs_mul_le (by omega : -N ≤ d) hdu n1 hl (by omega)
      have hNl := hN.l
      have h8 : N * N ≤ d * r1 := by omega
      have h9 : N * N ≤ (-(e * n)) * D := by rw [Int.neg_mul]; omega
      obtain ⟨q1, q2⟩ := eq_of_prod (by omega) hdu n1 hl hN1 h8
      obtain ⟨q3, q4⟩ := eq_of_prod (a := -(e * n)) (b := D) (by
        rcases Int.lt_or_le (-(e * n)) 0 with h | h
        · exfalso
          have : -(e * n) * D ≤ 0 * D := Int.mul_le_mul_of_nonneg_right (by omega) (by omega)
          have : 1 * 1 ≤ N * N := Int.mul_le_mul hN1 hN1 (by omega) (by omega)
          omega
        · exact h) (by omega) (by omega) hDN hN1 h9
      have hg := R.g
      have hnN : n = N ∨ n = -N := by rcases he with rfl | rfl <;> omega
      have hgN : Int.gcd n d = N.natAbs := by
        rw [q1]
        rcases hnN with h | h <;> rw [h] <;> simp
      rw [hg] at hgN
      have hN1' : N = 1 := by omega
      have : m ≤ 2 := by
        have h10 : m * -1 ≥ (e * n) * D - d * r1 := by omega
        have : (e * n) * D = -1 := by
          have : e * n = -1 := by omega
          rw [this, q4, hN1']; decide
        have : d * r1 = 1 := by rw [q1, q2, hN1']; decide
        omega
      omega
  · subst hα0
    rw [Int.zero_mul, Int.sub_zero] at hd
    rw [Int.zero_mul, Int.zero_add] at hn
    have hβ1 : β ∣ (Int.gcd n d : Int) := Int.dvd_coe_gcd (by rw [hn]; exact ⟨e * r1, by grind⟩) ⟨D, hd⟩
    rw [R.g] at hβ1
    have hβp : 0 < β := by
      rcases Int.lt_or_le 0 β with h | h
      · exact h
      · exfalso
        have : β * D ≤ 0 * D := Int.mul_le_mul_of_nonneg_right h (by omega)
        omega
    have hβ2 : β = 1 := by
      have := Int.le_of_dvd (by decide) hβ1
      omega
    rw [hβ2] at hn hd
    exact ⟨by rw [hn, Int.one_mul], by omega⟩
  · exfalso
    rcases Int.lt_or_le β 0 with hβ0 | hβ0
    · have h1 : β * D ≤ 0 * D := Int.mul_le_mul_of_nonneg_right (by omega) (by omega)
      have h2 : 0 * B ≤ α * B := Int.mul_le_mul_of_nonneg_right (by omega) hB
      omega
    · have h1 : 1 * r0 ≤ α * r0 := Int.mul_le_mul_of_nonneg_right (by omega) (by omega)
      have h2 : 0 * r1 ≤ β * r1 := Int.mul_le_mul_of_nonneg_right (by omega) n1
      omega
theorem rat_last_pos {x m N r0 t0 r1 t1 : Int} (hm : 3 ≤ m) (hN : NOf m N) (I : RatI x m N r0 t0 r1 t1) (hl : ¬ N < r1) (hp : 0 < t1) : RatF x m N r1 t1 := by
  obtain ⟨n1, lt, big, le, c0, c1, ⟨e, B, D, he, hB, hD, a1, a2, hs⟩, b⟩ := I
  have hN0 := hN.n
  have he1 : e = 1 := by
    rcases he with h | h
    · exact h
    · rw [h] at a2; omega
  refine ⟨hp, by omega, by omega, by omega, c1, fun n d R => ?_⟩
  obtain ⟨q1, q2⟩ := rat_one hm hN n1 big c0 c1 he hB hD a1 a2 hs (by omega) R
  rw [he1] at q1 a2
  exact ⟨by omega, by omega⟩
theorem rat_last_neg {x m N r0 t0 r1 t1 : Int} (hm : 3 ≤ m) (hN : NOf m N) (I : RatI x m N r0 t0 r1 t1) (hl : ¬ N < r1) (hp : ¬ 0 < t1) : RatF x m N (0 - r1) (0 - t1) := by
  obtain ⟨n1, lt, big, le, c0, c1, ⟨e, B, D, he, hB, hD, a1, a2, hs⟩, b⟩ := I
  have hN0 := hN.n
  have he1 : e = -1 := by
    rcases he with h | h
    · rw [h] at a2; omega
    · exact h
  refine ⟨by rw [he1] at a2; omega, by omega, by omega, by omega, ?_, fun n d R => ?_⟩
  · obtain ⟨k, hk⟩ := c1
    exact ⟨-k, by rw [Int.mul_neg, ← hk, Int.mul_sub]; omega⟩
  obtain ⟨q1, q2⟩ := rat_one hm hN n1 big c0 c1 he hB hD a1 a2 hs (by omega) R
  rw [he1] at q1 a2
  exact ⟨by omega, by omega⟩
def NoRat (x m N : Int) : Prop := ∀ n d, ¬ RatOk x m N n d
theorem rat_some {x m N t b : Int} (F : RatF x m N t b) (h1 : ¬ N < b) (h2 : (Int.gcd t b : Int) = 1) (h3 : (Int.gcd b m : Int) = 1) : RatOk x m N t b :=
  ⟨F.p, by omega, F.tl, F.tu, F.d, by omega, by omega⟩
theorem rat_no1 {x m N t b : Int} (F : RatF x m N t b) (h : N < b) : NoRat x m N := fun n d R => by
  have := (F.one n d R).2
  have := R.u
  omega
theorem rat_no2 {x m N t b : Int} (F : RatF x m N t b) (h : (Int.gcd t b : Int) ≠ 1) : NoRat x m N := fun n d R => by
  obtain ⟨q1, q2⟩ := F.one n d R
  have := R.g
  rw [q1, q2] at this
  omega
theorem rat_no3 {x m N t b : Int} (F : RatF x m N t b) (h : (Int.gcd b m : Int) ≠ 1) : NoRat x m N := fun n d R => by
  obtain ⟨q1, q2⟩ := F.one n d R
  have := R.gm
  rw [q2] at this
  omega
theorem rat_meas {r0 r1 : Int} (h : 1 ≤ r1) : (r0 - r0.fdiv r1 * r1).toNat < r1.toNat := by
  exact ext_meas (by omega) (by omega)
end Mine
namespace Mine
theorem half_ge {m : Int} (h : 3 ≤ m) : 1 ≤ m.fdiv 2 := by rw [Int.fdiv_eq_ediv_of_nonneg _ (by decide)]; omega
theorem half_le {m : Int} (h : m ≤ 300) : m.fdiv 2 ≤ 1000 := by rw [Int.fdiv_eq_ediv_of_nonneg _ (by decide)]; omega
end Mine
end
section
open PySem PySem.W
namespace Mine
abbrev sharesL (x y : Int) : List Int := List.foldl (fun l k => if x.fmod k = 0 ∧ y.fmod k = 0 then l ++ [k] else l) [] (rangeKs 2 ((if y < if x < 0 then -x else x then y else if x < 0 then -x else x) + 1 - 2).toNat)
theorem mem_sharesL {x y k : Int} (hy : 1 ≤ y) : k ∈ sharesL x y ↔ 2 ≤ k ∧ k ≤ (if y < if x < 0 then -x else x then y else if x < 0 then -x else x) ∧ k ∣ x ∧ k ∣ y := by
  unfold sharesL
  rw [fold_filter, List.nil_append, List.mem_filter, decide_eq_true_eq]
  constructor
  · rintro ⟨h1, h2, h3⟩
    obtain ⟨a, b⟩ := mem_rangeKs h1
    refine ⟨a, ?_, (fmod_dvd (by omega)).mp h2, (fmod_dvd (by omega)).mp h3⟩
    omega
  · rintro ⟨h1, h2, h3, h4⟩
    refine ⟨?_, (fmod_dvd (by omega)).mpr h3, (fmod_dvd (by omega)).mpr h4⟩
    unfold rangeKs
    refine List.mem_map.mpr ⟨(k - 2).toNat, List.mem_range.mpr (by omega), by omega⟩
theorem shares_ne {x y : Int} (hy : 1 ≤ y) (h : decide (sharesL x y = []) = false) : Int.gcd x y ≠ 1 := by
  rw [decide_eq_false_iff_not] at h
  obtain ⟨k, hk⟩ := List.exists_mem_of_ne_nil _ h
  obtain ⟨h1, _, h3, h4⟩ := (mem_sharesL hy).mp hk
  intro e
  have h5 : k ∣ (Int.gcd x y : Int) := Int.dvd_coe_gcd h3 h4
  rw [e] at h5
  have := Int.le_of_dvd (by decide) h5
  omega
theorem shares_nil {x y : Int} (hy : 1 ≤ y) (h : decide (sharesL x y = []) = true) (hx : x ≠ 0) : Int.gcd x y = 1 := by
  rw [decide_eq_true_eq] at h
  rcases Nat.lt_or_ge (Int.gcd x y) 2 with h1 | h1
  · have : 0 < Int.gcd x y := Int.gcd_pos_iff.mpr (Or.inl hx)
    omega
  · exfalso
    have hd1 : (Int.gcd x y : Int) ∣ x := Int.gcd_dvd_left ..
    have hd2 : (Int.gcd x y : Int) ∣ y := Int.gcd_dvd_right ..
    have hm : (Int.gcd x y : Int) ∈ sharesL x y := by
      refine (mem_sharesL hy).mpr ⟨by omega, ?_, hd1, hd2⟩
      have l1 := Int.le_of_dvd (by omega) hd2
      have l2 : (Int.gcd x y : Int) ≤ (if x < 0 then -x else x) := by
        split
        · exact Int.le_of_dvd (by omega) (Int.dvd_neg.mpr hd1)
        · exact Int.le_of_dvd (by omega) hd1
      split <;> omega
    rw [h] at hm
    cases hm
theorem shares_zero {x y : Int} (hy : 1 ≤ y) (hx : x = 0) : decide (1 < y) = true ↔ Int.gcd x y ≠ 1 := by
  rw [hx, Int.gcd_zero_left, decide_eq_true_eq]
  omega
theorem shares_one {x y : Int} (hy : 1 ≤ y) (h : decide (sharesL x y = []) = true) (hx : x ≠ 0) : (x == 0) = true ↔ Int.gcd x y ≠ 1 := by
  have := shares_nil hy h hx
  simp [hx, this]
theorem shares_two {x y : Int} (hy : 1 ≤ y) (h : decide (sharesL x y = []) = false) : (!decide (sharesL x y = [])) = true ↔ Int.gcd x y ≠ 1 := by
  have := shares_ne hy h
  simp [h, this]
end Mine
end
section
namespace Mine
def InP (x y N b : Int) (j : Nat) : Prop := ∀ n, RatOk x y N n b → 0 - N + (j : Int) ≤ n
def OutP (x y N : Int) (i : Nat) : Prop := ∀ n d, RatOk x y N n d → 1 + (i : Int) ≤ d
theorem in_start {x y N b : Int} : InP x y N b 0 := fun n R => by have := R.tl; omega
theorem out_start {x y N : Int} : OutP x y N 0 := fun n d R => by have := R.p; omega
theorem in_step {x y N b : Int} {j : Nat} (hP : InP x y N b j) (h : ¬ RatOk x y N (0 - N + (j : Int)) b) : InP x y N b (j + 1) := fun n R => by
  have h1 := hP n R
  rcases Int.lt_or_le n (0 - N + ((j + 1 : Nat) : Int)) with h2 | h2
  · exfalso
    have : n = 0 - N + (j : Int) := by omega
    exact h (this ▸ R)
  · exact h2
theorem in_no1 {x y N b : Int} {j : Nat} (hy : 1 ≤ y) (hP : InP x y N b j) (h : (x * b - (0 - N + (j : Int))).fmod y ≠ 0) : InP x y N b (j + 1) :=
  in_step hP fun R => h ((fmod_dvd hy).mpr R.d)
theorem in_no2 {x y N b : Int} {j : Nat} (hP : InP x y N b j) (h : Int.gcd (0 - N + (j : Int)) b ≠ 1) : InP x y N b (j + 1) := in_step hP fun R => h R.g
theorem in_no3 {x y N b : Int} {j : Nat} (hP : InP x y N b j) (h : Int.gcd b y ≠ 1) : InP x y N b (j + 1) := in_step hP fun R => h R.gm
theorem in_done {x y N : Int} {i : Nat} (h0 : 0 ≤ N) (hO : OutP x y N i) (hP : InP x y N (1 + (i : Int)) (N + 1 - (0 - N)).toNat) : OutP x y N (i + 1) := fun n d R => by
  have h1 := hO n d R
  rcases Int.lt_or_le d (1 + ((i + 1 : Nat) : Int)) with h2 | h2
  · exfalso
    have : d = 1 + (i : Int) := by omega
    have h3 := hP n (this ▸ R)
    have h4 := R.tu
    omega
  · exact h2
theorem out_done {x y N : Int} (h0 : 0 ≤ N) (hO : OutP x y N (N + 1 - 1).toNat) : NoRat x y N := fun n d R => by
  have h1 := hO n d R
  have h2 := R.u
  omega
theorem in_yes {x y N : Int} {i j : Nat} (h0 : 0 ≤ N) (hy : 1 ≤ y) (hi : i < (N + 1 - 1).toNat) (hj : j < (N + 1 - (0 - N)).toNat) (h1 : (x * (1 + (i : Int)) - (0 - N + (j : Int))).fmod y = 0) (h2 : Int.gcd (0 - N + (j : Int)) (1 + (i : Int)) = 1) (h3 : Int.gcd (1 + (i : Int)) y = 1) :
    RatOk x y N (0 - N + (j : Int)) (1 + (i : Int)) := ⟨by omega, by omega, by omega, by omega, (fmod_dvd hy).mp h1, h2, h3⟩
theorem size_start {y : Int} (hy : 3 ≤ y) : (0 : Int) ≤ 0 ∧ (0 : Int) ≤ 20 ∧ 2 * ((0 : Int) * 0) ≤ y := by omega
theorem size_sq {a : Int} (h0 : 0 ≤ a) (h1 : a ≤ 20) : 0 ≤ (a + 1) ^ Int.toNat 2 ∧ (a + 1) ^ Int.toNat 2 ≤ 441 := by
  rw [sq_eq]
  have h2 : 0 ≤ (a + 1) * (a + 1) := Int.mul_nonneg (by omega) (by omega)
  have h3 : (a + 1) * (a + 1) ≤ 21 * 21 := Int.mul_le_mul (by omega) (by omega) (by omega) (by omega)
  omega
theorem size_turn {a y : Int} (hy : y ≤ 300) (h0 : 0 ≤ a) (_h1 : a ≤ 20) (h : 2 * (a + 1) ^ Int.toNat 2 ≤ y) : 0 ≤ a + 1 ∧ a + 1 ≤ 20 ∧ 2 * ((a + 1) * (a + 1)) ≤ y := by
  rw [sq_eq] at h
  have : a + 1 < 13 := lt_of_sq (by omega) (by omega)
  omega
theorem size_end {a y : Int} (h0 : 0 ≤ a) (h1 : 2 * (a * a) ≤ y) (h : ¬ 2 * (a + 1) ^ Int.toNat 2 ≤ y) : NOf y a := by
  rw [sq_eq] at h
  exact ⟨h0, h1, by omega⟩
theorem size_name {a y : Int} (h : ¬ 2 * (a + 1) ^ Int.toNat 2 ≤ y) (h1 : 2 * (a * a) ≤ y) (h0 : 0 ≤ a) (h2 : a ≤ 20) : ∃ N, N = a ∧ NOf y N ∧ 0 ≤ N ∧ N ≤ 20 := ⟨a, rfl, size_end h0 h1 h, h0, h2⟩
theorem size_meas {a y : Int} (hy : y ≤ 300) (h0 : 0 ≤ a) (h1 : a ≤ 20) (h : 2 * (a + 1) ^ Int.toNat 2 ≤ y) : (20 - (a + 1)).toNat < (20 - a).toNat := by
  have := size_turn hy h0 h1 h
  omega
theorem dvd_cop {a b c : Int} (h : a ∣ b * c) (g : Int.gcd a c = 1) : a ∣ b := by
  have h1 : a.natAbs ∣ b.natAbs * c.natAbs := by rw [← Int.natAbs_mul]; exact Int.natAbs_dvd_natAbs.mpr h
  exact Int.natAbs_dvd_natAbs.mp (Nat.Coprime.dvd_of_dvd_mul_right g h1)
theorem rat_uniq {x m N n d n' d' : Int} (hm : 3 ≤ m) (hN : NOf m N) (R : RatOk x m N n d) (R' : RatOk x m N n' d') : n = n' ∧ d = d' := by
  have hN1 := nof_pos hN hm
  have hl := hN.l
  obtain ⟨k, hk⟩ := R.d
  obtain ⟨k', hk'⟩ := R'.d
  obtain ⟨p, u, tl, tu, _, g, _⟩ := R
  obtain ⟨p', u', tl', tu', _, g', _⟩ := R'
  have a1 := abs_mul_le tl tu (by omega : 0 ≤ d') u' (by omega)
  have a2 := abs_mul_le tl' tu' (by omega : 0 ≤ d) u (by omega)
  have hz : n * d' - n' * d = m * (k' * d - k * d') := by grind
  have key : n * d' = n' * d := by
    generalize k' * d - k * d' = c at hz
    rcases Int.lt_trichotomy c 0 with h | h | h
    · exfalso
      have h1 : m * c ≤ m * -1 := Int.mul_le_mul_of_nonneg_left (by omega) (by omega)
      have h2 : N * N ≤ n' * d := by omega
      have h3 : N * N ≤ (-n) * d' := by rw [Int.neg_mul]; omega
      have h4 : 1 * 1 ≤ N * N := Int.mul_le_mul hN1 hN1 (by omega) (by omega)
      have pos : 0 ≤ n' := by
        rcases Int.lt_or_le n' 0 with h | h
        · exfalso
          have : n' * d ≤ 0 * d := Int.mul_le_mul_of_nonneg_right (by omega) (by omega)
          omega
        · exact h
      have pos2 : 0 ≤ -n := by
        rcases Int.lt_or_le (-n) 0 with h | h
        · exfalso
          have : -n * d' ≤ 0 * d' := Int.mul_le_mul_of_nonneg_right (by omega) (by omega)
          omega
        · exact h
      obtain ⟨q1, q2⟩ := eq_of_prod pos tu' (by omega) u hN1 h2
      obtain ⟨q3, q4⟩ := eq_of_prod pos2 (by omega) (by omega) u' hN1 h3
      have hn : n = -N := by omega
      have hg : Int.gcd n d = N.natAbs := by rw [hn, q2]; simp
      rw [g] at hg
      have hN2 : N = 1 := by omega
      have e1 : n * d' = -1 := by rw [hn, q4, hN2]; decide
      have e2 : n' * d = 1 := by rw [q1, q2, hN2]; decide
      omega
    · rw [h, Int.mul_zero] at hz; omega
    · exfalso
      have h1 : m * 1 ≤ m * c := Int.mul_le_mul_of_nonneg_left (by omega) (by omega)
      have h2 : N * N ≤ n * d' := by omega
      have h3 : N * N ≤ (-n') * d := by rw [Int.neg_mul]; omega
      have h4 : 1 * 1 ≤ N * N := Int.mul_le_mul hN1 hN1 (by omega) (by omega)
      have pos : 0 ≤ n := by
        rcases Int.lt_or_le n 0 with h | h
        · exfalso
          have : n * d' ≤ 0 * d' := Int.mul_le_mul_of_nonneg_right (by omega) (by omega)
          omega
        · exact h
      have pos2 : 0 ≤ -n' := by
        rcases Int.lt_or_le (-n') 0 with h | h
        · exfalso
          have : -n' * d ≤ 0 * d := Int.mul_le_mul_of_nonneg_right (by omega) (by omega)
          omega
        · exact h
      obtain ⟨q1, q2⟩ := eq_of_prod pos tu (by omega) u' hN1 h2
      obtain ⟨q3, q4⟩ := eq_of_prod pos2 (by omega) (by omega) u hN1 h3
      have hg : Int.gcd n d = N.natAbs := by rw [q1, q4]; simp
      rw [g] at hg
      have hN2 : N = 1 := by omega
      have e1 : n * d' = 1 := by rw [q1, q2, hN2]; decide
      have hn' : n' = -1 := by omega
      have e2 : n' * d = -1 := by rw [hn', q4, hN2]; decide
      omega
  have dv : d ∣ d' := by
    have h1 : d ∣ d' * n := ⟨n', by rw [Int.mul_comm d' n, key, Int.mul_comm]⟩
    exact dvd_cop h1 (by rw [Int.gcd_comm]; exact g)
  have dv' : d' ∣ d := by
    have h1 : d' ∣ d * n' := ⟨n, by rw [Int.mul_comm d n', ← key, Int.mul_comm]⟩
    exact dvd_cop h1 (by rw [Int.gcd_comm]; exact g')
  have l1 := Int.le_of_dvd (by omega) dv
  have l2 := Int.le_of_dvd (by omega) dv'
  have hd : d = d' := by omega
  refine ⟨?_, hd⟩
  rw [hd] at key
  exact Int.eq_of_mul_eq_mul_right (by omega) key
theorem nof_small {m N : Int} (hN : NOf m N) (hm : m ≤ 300) : N ≤ 12 := by
  have h := hN.l
  have : N < 13 := lt_of_sq (by omega) (by omega)
  omega
theorem rat_bnd {x m N t b : Int} (hN : NOf m N) (hm : m ≤ 300) (R : RatOk x m N t b) : -1000 ≤ t ∧ t ≤ 1000 ∧ -1000 ≤ b ∧ b ≤ 1000 := by
  have h1 := nof_small hN hm
  have := R.p; have := R.u; have := R.tl; have := R.tu
  omega
theorem rat_first {m N : Int} (hm : 3 ≤ m) (hN : NOf m N) : RatOk 1 m N 1 1 := by
  have := nof_pos hN hm
  exact ⟨by omega, by omega, by omega, by omega, ⟨0, by omega⟩, by decide, by simp⟩
end Mine
end
section
open PySem PySem.W PyProof.Rows
namespace Mine
local macro_rules | `(tactic| walk_at "pad") => `(tactic| fail "pad")
local macro_rules | `(tactic| walk_at "pad") => `(tactic| fail "pad")
local macro_rules | `(tactic| walk_at "pad") => `(tactic| fail "pad")
local macro_rules | `(tactic| walk_at "pad") => `(tactic| fail "pad")
local macro_rules | `(tactic| walk_at "pad") => `(tactic| fail "pad")
local macro_rules | `(tactic| walk_at "pad") => `(tactic| fail "pad")
local macro_rules | `(tactic| walk_at "pad") => `(tactic| fail "pad")
local macro_rules | `(tactic| walk_at "pad") => `(tactic| fail "pad")
local macro_rules | `(tactic| walk_at "pad") => `(tactic| fail "pad")
local macro_rules | `(tactic| walk_at "pad") => `(tactic| fail "pad")
local macro_rules | `(tactic| walk_at "pad") => `(tactic| fail "pad")
local macro_rules | `(tactic| walk_at "pad") => `(tactic| fail "pad")
local macro_rules | `(tactic| walk_at "pad") => `(tactic| fail "pad")
local macro_rules | `(tactic| walk_at "pad") => `(tactic| fail "pad")
local macro_rules | `(tactic| walk_at "pad") => `(tactic| fail "pad")
local macro_rules | `(tactic| walk_at "pad") => `(tactic| fail "pad")
local macro_rules | `(tactic| walk_at "pad") => `(tactic| fail "pad")
local macro_rules | `(tactic| walk_at "pad") => `(tactic| fail "pad")
local macro_rules | `(tactic| walk_at "pad") => `(tactic| fail "pad")
local macro_rules | `(tactic| walk_at "pad") => `(tactic| fail "pad")
local macro_rules | `(tactic| walk_at "pad") => `(tactic| fail "pad")
local macro_rules | `(tactic| walk_at "pad") => `(tactic| fail "pad")
local macro_rules | `(tactic| walk_at "pad") => `(tactic| fail "pad")
local macro_rules | `(tactic| walk_at "pad") => `(tactic| fail "pad")
local macro_rules | `(tactic| walk_at "pad") => `(tactic| fail "pad")
local macro_rules | `(tactic| walk_at "pad") => `(tactic| fail "pad")
local macro_rules | `(tactic| walk_at "pad") => `(tactic| fail "pad")
local macro_rules | `(tactic| walk_at "pad") => `(tactic| fail "pad")
local macro_rules | `(tactic| walk_at "pad") => `(tactic| fail "pad")
local macro_rules | `(tactic| walk_at "pad") => `(tactic| fail "pad")
local macro_rules | `(tactic| walk_at "pad") => `(tactic| fail "pad")
local macro_rules | `(tactic| walk_at "pad") => `(tactic| fail "pad")
local macro_rules | `(tactic| walk_at "pad") => `(tactic| fail "pad")
local macro_rules | `(tactic| walk_at "pad") => `(tactic| fail "pad")
local macro_rules | `(tactic| walk_at "pad") => `(tactic| fail "pad")
local macro_rules | `(tactic| walk_at "pad") => `(tactic| fail "pad")
local macro_rules | `(tactic| walk_at "pad") => `(tactic| fail "pad")
local macro_rules | `(tactic| walk_at "pad") => `(tactic| fail "pad")
local macro_rules | `(tactic| walk_at "MPost") => `(tactic| (dsimp only [Mine.MPost]))
local macro_rules | `(tactic| walk_at "MLPost") => `(tactic| (dsimp only [Mine.MLPost]; (try with_reducible refine Mine.ml_ret ?_)))
local macro_rules | `(tactic| k_mem) => `(tactic| assumption)
local macro_rules | `(tactic| walk_at "call ref") => `(tactic| k_extra "call ref")
local macro_rules | `(tactic| walk_at "pyIter ref") => `(tactic| k_extra "pyIter ref")
local macro_rules | `(tactic| walk_at "CompSrcT") => `(tactic| k_extra "CompSrcT")
local macro_rules | `(tactic| walk_at "KCiEl") => `(tactic| k_extra "KCiEl")
local macro_rules | `(tactic| walk_at "KCiNo") => `(tactic| k_extra "KCiNo")
local macro_rules | `(tactic| walk_at "KPfGrows") => `(tactic| k_extra "KPfGrows")
local macro_rules | `(tactic| walk_at "CompEnd") => `(tactic| k_extra "CompEnd")
local macro_rules | `(tactic| walk_at "compareOp NotEq ref ref") => `(tactic| k_extra "compareOp NotEq ref ref")
local macro_rules | `(tactic| walk_at "compareOp Eq ref ref") => `(tactic| k_extra "compareOp Eq ref ref")
local macro_rules | `(tactic| k_all) => `(tactic| assumption)

set_option maxRecDepth 100000 in
set_option maxHeartbeats 8000000 in
theorem gcd_call {w : World} {loose : List Str} {mean : ExcName → Option Value} {mg mb : Str → Option Value}
    {dp un : Nat} {gd : Option (List Code)} {cn : Str} {cs : Scope} {a : Addr} {ccd : Value} {cl : List (Str × Addr)} {outer : List Env} {A₀ : Around} {base h₀ : Heap} {L : Addr} {m : Str → Option Value} {news : List (Addr × Obj)} {s : Shared}
    {Q E : Value → Shared → Prop}
    {x y : Int} {tx ty : Tok}
    (B : Below A₀ base outer h₀) (F : Fr h₀ L s.heap m) (X : (Mine.hd.heap_39 w.params).In h₀) (N : News h₀ L s.heap news) (T : Top Mine.hd.view_39 loose mean mg mb h₀) (hk : cs.kind = .function)
    (hd : dp + 1 < recursionLimit) (hu : un + 8 < cLine) 
    (hret : ∀ t h' tk', Fr h₀ L h' m → News h₀ L h' news → Q (.int (Int.gcd x y) t) { s with heap := h', toks := tk' }) :
    wpAny (model PySem.Challenge.rw_nn0247_01.row.prog w) (ktrTop dp un gd cn cs L a ccd cl outer) (call (.ref 21) [.int x tx, .int y ty]) Q E s := by
  w_top off
  have hh : (Mine.hd.heap_39 w.params).In h₀ → PySem.Challenge.rw_nn0247_01 = PySem.Challenge.rw_nn0247_01 := by k_fill; exact fun _ => rfl
  clear hh
  k_with_none
  refine wpAny_call ?_
  k_dflt ktr_enter
  k_with "exec While Compare cons nil" => k_while (fun (_ : List Int) a b => 0 ≤ a ∧ 0 ≤ b ∧ Int.gcd a b = Int.gcd x y) (fun (_ : List Int) _ b => b.toNat) "a" "b"
  k_with "state" => exact gcd_start x y
  k_with "state" => exact gcd_turn (by assumption) (by assumption) (by assumption) (by assumption)
  k_with "measure" => exact fmod_meas (by assumption) (by assumption)
  k_steps
  exact cb_retI hret (gcd_last (by assumption) (by assumption) (by assumption)) (by k_asm) (cb_drop (by assumption) (by first | exact (fun p hp => by first | exact hp | exact .tail _ (hp) | exact .tail _ (.tail _ (hp)) | exact .tail _ (.tail _ (.tail _ (hp))) | exact .tail _ (.tail _ (.tail _ (.tail _ (hp)))) | exact .tail _ (.tail _ (.tail _ (.tail _ (.tail _ (hp)))))) | exact (List.forall_mem_cons.mpr ⟨by first | exact .head _ | exact .tail _ (.head _) | exact .tail _ (.tail _ (.head _)) | exact .tail _ (.tail _ (.tail _ (.head _))) | exact .tail _ (.tail _ (.tail _ (.tail _ (.head _)))) | exact .tail _ (.tail _ (.tail _ (.tail _ (.tail _ (.head _))))), (fun p hp => by first | exact hp | exact .tail _ (hp) | exact .tail _ (.tail _ (hp)) | exact .tail _ (.tail _ (.tail _ (hp))) | exact .tail _ (.tail _ (.tail _ (.tail _ (hp)))) | exact .tail _ (.tail _ (.tail _ (.tail _ (.tail _ (hp))))))⟩)))


set_option maxRecDepth 100000 in
set_option maxHeartbeats 8000000 in
theorem symm_call {w : World} {loose : List Str} {mean : ExcName → Option Value} {mg mb : Str → Option Value}
    {dp un : Nat} {gd : Option (List Code)} {cn : Str} {cs : Scope} {a : Addr} {ccd : Value} {cl : List (Str × Addr)} {outer : List Env} {A₀ : Around} {base h₀ : Heap} {L : Addr} {m : Str → Option Value} {news : List (Addr × Obj)} {s : Shared}
    {Q E : Value → Shared → Prop}
    {x y : Int} {tx ty : Tok}
    (B : Below A₀ base outer h₀) (F : Fr h₀ L s.heap m) (X : (Mine.hd.heap_39 w.params).In h₀) (N : News h₀ L s.heap news) (T : Top Mine.hd.view_39 loose mean mg mb h₀) (hk : cs.kind = .function)
    (hd : dp + 1 < recursionLimit) (hu : un + 8 < cLine) (hy : 1 ≤ y)
    (hret : ∀ v t h' tk', Fr h₀ L h' m → News h₀ L h' news → (v = if y < 2 * x.fmod y then x.fmod y - y else x.fmod y) → Q (.int v t) { s with heap := h', toks := tk' }) :
    wpAny (model PySem.Challenge.rw_nn0247_01.row.prog w) (ktrTop dp un gd cn cs L a ccd cl outer) (call (.ref 63) [.int x tx, .int y ty]) Q E s := by
  w_top off
  have hh : (Mine.hd.heap_39 w.params).In h₀ → PySem.Challenge.rw_nn0247_01 = PySem.Challenge.rw_nn0247_01 := by k_fill; exact fun _ => rfl
  clear hh
  k_with_none
  refine wpAny_call ?_
  k_dflt ktr_enter
  k_steps
  all_goals first
    | exact hret _ _ _ _ (by k_asm) (by k_asm) (if_pos (by assumption)).symm
    | exact hret _ _ _ _ (by k_asm) (by k_asm) (if_neg (by assumption)).symm

end Mine
end
section
open PySem PySem.W PyProof.Rows
namespace Mine
local macro_rules | `(tactic| walk_at "pad") => `(tactic| fail "pad")
local macro_rules | `(tactic| walk_at "pad") => `(tactic| fail "pad")
local macro_rules | `(tactic| walk_at "pad") => `(tactic| fail "pad")
local macro_rules | `(tactic| walk_at "pad") => `(tactic| fail "pad")
local macro_rules | `(tactic| walk_at "pad") => `(tactic| fail "pad")
local macro_rules | `(tactic| walk_at "pad") => `(tactic| fail "pad")
local macro_rules | `(tactic| walk_at "pad") => `(tactic| fail "pad")
local macro_rules | `(tactic| walk_at "pad") => `(tactic| fail "pad")
local macro_rules | `(tactic| walk_at "pad") => `(tactic| fail "pad")
local macro_rules | `(tactic| walk_at "pad") => `(tactic| fail "pad")
local macro_rules | `(tactic| walk_at "pad") => `(tactic| fail "pad")
local macro_rules | `(tactic| walk_at "pad") => `(tactic| fail "pad")
local macro_rules | `(tactic| walk_at "pad") => `(tactic| fail "pad")
local macro_rules | `(tactic| walk_at "pad") => `(tactic| fail "pad")
local macro_rules | `(tactic| walk_at "pad") => `(tactic| fail "pad")
local macro_rules | `(tactic| walk_at "pad") => `(tactic| fail "pad")
local macro_rules | `(tactic| walk_at "pad") => `(tactic| fail "pad")
local macro_rules | `(tactic| walk_at "pad") => `(tactic| fail "pad")
local macro_rules | `(tactic| walk_at "pad") => `(tactic| fail "pad")
local macro_rules | `(tactic| walk_at "pad") => `(tactic| fail "pad")
local macro_rules | `(tactic| walk_at "pad") => `(tactic| fail "pad")
local macro_rules | `(tactic| walk_at "pad") => `(tactic| fail "pad")
local macro_rules | `(tactic| walk_at "pad") => `(tactic| fail "pad")
local macro_rules | `(tactic| walk_at "pad") => `(tactic| fail "pad")
local macro_rules | `(tactic| walk_at "pad") => `(tactic| fail "pad")
local macro_rules | `(tactic| walk_at "pad") => `(tactic| fail "pad")
local macro_rules | `(tactic| walk_at "pad") => `(tactic| fail "pad")
local macro_rules | `(tactic| walk_at "pad") => `(tactic| fail "pad")
local macro_rules | `(tactic| walk_at "pad") => `(tactic| fail "pad")
local macro_rules | `(tactic| walk_at "pad") => `(tactic| fail "pad")
local macro_rules | `(tactic| walk_at "pad") => `(tactic| fail "pad")
local macro_rules | `(tactic| walk_at "pad") => `(tactic| fail "pad")
local macro_rules | `(tactic| walk_at "pad") => `(tactic| fail "pad")
local macro_rules | `(tactic| walk_at "pad") => `(tactic| fail "pad")
local macro_rules | `(tactic| walk_at "pad") => `(tactic| fail "pad")
local macro_rules | `(tactic| walk_at "pad") => `(tactic| fail "pad")
local macro_rules | `(tactic| walk_at "pad") => `(tactic| fail "pad")
local macro_rules | `(tactic| walk_at "pad") => `(tactic| fail "pad")
local macro_rules | `(tactic| walk_at "pad") => `(tactic| fail "pad")
local macro_rules | `(tactic| walk_at "MPost") => `(tactic| (dsimp only [Mine.MPost]))
local macro_rules | `(tactic| walk_at "MLPost") => `(tactic| (dsimp only [Mine.MLPost]; (try with_reducible refine Mine.ml_ret ?_)))
local macro_rules | `(tactic| k_mem) => `(tactic| assumption)
local macro_rules | `(tactic| walk_at "call ref") => `(tactic| k_extra "call ref")
local macro_rules | `(tactic| walk_at "pyIter ref") => `(tactic| k_extra "pyIter ref")
local macro_rules | `(tactic| walk_at "CompSrcT") => `(tactic| k_extra "CompSrcT")
local macro_rules | `(tactic| walk_at "KCiEl") => `(tactic| k_extra "KCiEl")
local macro_rules | `(tactic| walk_at "KCiNo") => `(tactic| k_extra "KCiNo")
local macro_rules | `(tactic| walk_at "KPfGrows") => `(tactic| k_extra "KPfGrows")
local macro_rules | `(tactic| walk_at "CompEnd") => `(tactic| k_extra "CompEnd")
local macro_rules | `(tactic| walk_at "compareOp NotEq ref ref") => `(tactic| k_extra "compareOp NotEq ref ref")
local macro_rules | `(tactic| walk_at "compareOp Eq ref ref") => `(tactic| k_extra "compareOp Eq ref ref")
local macro_rules | `(tactic| k_all) => `(tactic| assumption)

set_option maxRecDepth 100000 in
set_option maxHeartbeats 8000000 in
theorem root_call {w : World} {loose : List Str} {mean : ExcName → Option Value} {mg mb : Str → Option Value}
    {dp un : Nat} {gd : Option (List Code)} {cn : Str} {cs : Scope} {a : Addr} {ccd : Value} {cl : List (Str × Addr)} {outer : List Env} {A₀ : Around} {base h₀ : Heap} {L : Addr} {m : Str → Option Value} {news : List (Addr × Obj)} {s : Shared}
    {Q E : Value → Shared → Prop}
    {x : Int} {tx ty : Tok}
    (B : Below A₀ base outer h₀) (F : Fr h₀ L s.heap m) (X : (Mine.hd.heap_39 w.params).In h₀) (N : News h₀ L s.heap news) (T : Top Mine.hd.view_39 loose mean mg mb h₀) (hk : cs.kind = .function)
    (hd : dp + 1 < recursionLimit) (hu : un + 8 < cLine) (hx : 1 ≤ x) (hx1 : x ≤ 1000)
    (hret : ∀ v t h' tk', Fr h₀ L h' m → News h₀ L h' news → 0 ≤ v → v * v ≤ x → x < (v + 1) * (v + 1) → Q (.int v t) { s with heap := h', toks := tk' }) :
    wpAny (model PySem.Challenge.rw_nn0247_01.row.prog w) (ktrTop dp un gd cn cs L a ccd cl outer) (call (.ref 42) [.int x tx, .int 2 ty]) Q E s := by
  w_top off
  have hh : (Mine.hd.heap_39 w.params).In h₀ → PySem.Challenge.rw_nn0247_01 = PySem.Challenge.rw_nn0247_01 := by k_fill; exact fun _ => rfl
  clear hh
  k_with_none
  refine wpAny_call ?_
  k_dflt ktr_enter
  k_with "exec While Compare cons nil" => ((with_reducible show wpAny _ _ (exec (Stmt.While (PySem.Expr.Compare (PySem.Expr.BinOp _ Operator.Pow _ _) _ _ _) _ _ _) _) _ _ _); k_while (fun (_ : List Int) low high => 0 ≤ low ∧ low < high ∧ high ≤ 64 ∧ low * low ≤ x) (fun (_ : List Int) _ b => (64 - b).toNat) "low" "high")
  k_with "exec While Compare cons nil" => ((with_reducible show wpAny _ _ (exec (Stmt.While (PySem.Expr.Compare (PySem.Expr.BinOp _ Operator.Sub _ _) _ _ _) _ _ _) _) _ _ _); k_while (fun (_ : List Int) low high => 0 ≤ low ∧ low < high ∧ high ≤ 64 ∧ low * low ≤ x ∧ x < high * high) (fun (_ : List Int) a b => (b - a).toNat) "low" "high")
  k_with "state" => exact root_start hx
  k_with "state" => exact root_grow hx1 (by assumption) (by assumption) (by assumption) (by assumption) (by assumption)
  k_with "state" => exact root_two (by assumption) (by assumption) (by assumption) (by assumption) (by assumption)
  k_with "state" => exact root_lo (by assumption) (by assumption) (by assumption) (by assumption) (by assumption)
  k_with "state" => exact root_hi (by assumption) (by assumption) (by assumption) (by assumption) (by assumption)
  k_with "binaryOp Pow int int" => ((have hmid9 := mid_between (by assumption)); (with_reducible refine pow_int_small ?_ ?_ ?_ ?_); (all_goals first | omega | skip))
  k_with "measure" => exact root_growm' hx1 (by assumption) (by assumption) (by assumption) (by assumption)
  k_with "measure" => exact root_lom (by assumption)
  k_with "measure" => exact root_him (by assumption)
  k_steps
  exact hret _ _ _ _ (by k_asm) (cb_drop (by assumption) (by first | exact (fun p hp => by first | exact hp | exact .tail _ (hp) | exact .tail _ (.tail _ (hp)) | exact .tail _ (.tail _ (.tail _ (hp))) | exact .tail _ (.tail _ (.tail _ (.tail _ (hp)))) | exact .tail _ (.tail _ (.tail _ (.tail _ (.tail _ (hp)))))) | exact (List.forall_mem_cons.mpr ⟨by first | exact .head _ | exact .tail _ (.head _) | exact .tail _ (.tail _ (.head _)) | exact .tail _ (.tail _ (.tail _ (.head _))) | exact .tail _ (.tail _ (.tail _ (.tail _ (.head _)))) | exact .tail _ (.tail _ (.tail _ (.tail _ (.tail _ (.head _))))), (fun p hp => by first | exact hp | exact .tail _ (hp) | exact .tail _ (.tail _ (hp)) | exact .tail _ (.tail _ (.tail _ (hp))) | exact .tail _ (.tail _ (.tail _ (.tail _ (hp)))) | exact .tail _ (.tail _ (.tail _ (.tail _ (.tail _ (hp))))))⟩))) (by assumption) (by assumption) (root_last (by assumption) (by assumption) (by assumption))

end Mine
end
section
open PySem PySem.W PyProof.Rows
namespace Mine
local macro_rules | `(tactic| walk_at "pad") => `(tactic| fail "pad")
local macro_rules | `(tactic| walk_at "pad") => `(tactic| fail "pad")
local macro_rules | `(tactic| walk_at "pad") => `(tactic| fail "pad")
local macro_rules | `(tactic| walk_at "pad") => `(tactic| fail "pad")
local macro_rules | `(tactic| walk_at "pad") => `(tactic| fail "pad")
local macro_rules | `(tactic| walk_at "pad") => `(tactic| fail "pad")
local macro_rules | `(tactic| walk_at "pad") => `(tactic| fail "pad")
local macro_rules | `(tactic| walk_at "pad") => `(tactic| fail "pad")
local macro_rules | `(tactic| walk_at "pad") => `(tactic| fail "pad")
local macro_rules | `(tactic| walk_at "pad") => `(tactic| fail "pad")
local macro_rules | `(tactic| walk_at "pad") => `(tactic| fail "pad")
local macro_rules | `(tactic| walk_at "pad") => `(tactic| fail "pad")
local macro_rules | `(tactic| walk_at "pad") => `(tactic| fail "pad")
local macro_rules | `(tactic| walk_at "pad") => `(tactic| fail "pad")
local macro_rules | `(tactic| walk_at "pad") => `(tactic| fail "pad")
local macro_rules | `(tactic| walk_at "pad") => `(tactic| fail "pad")
local macro_rules | `(tactic| walk_at "pad") => `(tactic| fail "pad")
local macro_rules | `(tactic| walk_at "pad") => `(tactic| fail "pad")
local macro_rules | `(tactic| walk_at "pad") => `(tactic| fail "pad")
local macro_rules | `(tactic| walk_at "pad") => `(tactic| fail "pad")
local macro_rules | `(tactic| walk_at "pad") => `(tactic| fail "pad")
local macro_rules | `(tactic| walk_at "pad") => `(tactic| fail "pad")
local macro_rules | `(tactic| walk_at "pad") => `(tactic| fail "pad")
local macro_rules | `(tactic| walk_at "pad") => `(tactic| fail "pad")
local macro_rules | `(tactic| walk_at "pad") => `(tactic| fail "pad")
local macro_rules | `(tactic| walk_at "pad") => `(tactic| fail "pad")
local macro_rules | `(tactic| walk_at "pad") => `(tactic| fail "pad")
local macro_rules | `(tactic| walk_at "pad") => `(tactic| fail "pad")
local macro_rules | `(tactic| walk_at "pad") => `(tactic| fail "pad")
local macro_rules | `(tactic| walk_at "pad") => `(tactic| fail "pad")
local macro_rules | `(tactic| walk_at "pad") => `(tactic| fail "pad")
local macro_rules | `(tactic| walk_at "pad") => `(tactic| fail "pad")
local macro_rules | `(tactic| walk_at "pad") => `(tactic| fail "pad")
local macro_rules | `(tactic| walk_at "pad") => `(tactic| fail "pad")
local macro_rules | `(tactic| walk_at "pad") => `(tactic| fail "pad")
local macro_rules | `(tactic| walk_at "pad") => `(tactic| fail "pad")
local macro_rules | `(tactic| walk_at "pad") => `(tactic| fail "pad")
local macro_rules | `(tactic| walk_at "pad") => `(tactic| fail "pad")
local macro_rules | `(tactic| walk_at "pad") => `(tactic| fail "pad")
local macro_rules | `(tactic| walk_at "pad") => `(tactic| fail "pad")
local macro_rules | `(tactic| walk_at "MPost") => `(tactic| (dsimp only [Mine.MPost]))
local macro_rules | `(tactic| walk_at "MLPost") => `(tactic| (dsimp only [Mine.MLPost]; (try with_reducible refine Mine.ml_ret ?_)))
local macro_rules | `(tactic| k_mem) => `(tactic| assumption)
local macro_rules | `(tactic| walk_at "call ref") => `(tactic| k_extra "call ref")
local macro_rules | `(tactic| walk_at "pyIter ref") => `(tactic| k_extra "pyIter ref")
local macro_rules | `(tactic| walk_at "CompSrcT") => `(tactic| k_extra "CompSrcT")
local macro_rules | `(tactic| walk_at "KCiEl") => `(tactic| k_extra "KCiEl")
local macro_rules | `(tactic| walk_at "KCiNo") => `(tactic| k_extra "KCiNo")
local macro_rules | `(tactic| walk_at "KPfGrows") => `(tactic| k_extra "KPfGrows")
local macro_rules | `(tactic| walk_at "CompEnd") => `(tactic| k_extra "CompEnd")
local macro_rules | `(tactic| walk_at "compareOp NotEq ref ref") => `(tactic| k_extra "compareOp NotEq ref ref")
local macro_rules | `(tactic| walk_at "compareOp Eq ref ref") => `(tactic| k_extra "compareOp Eq ref ref")
local macro_rules | `(tactic| k_all) => `(tactic| assumption)

abbrev tup2 (r s : Int) (k l : Nat) : Obj := { cls := .type "tuple", data := .seq #[.int r k, .int s l] }

abbrev tup3 (r s t : Int) (k l m : Nat) : Obj := { cls := .type "tuple", data := .seq #[.int r k, .int s l, .int t m] }
structure ExtS where
  (a1 a2 : Addr)
  (r0 s0 t0 r1 s1 t1 : Int)
  (k1 k2 k3 k4 k5 k6 : Nat)

set_option maxRecDepth 100000 in
set_option maxHeartbeats 8000000 in
theorem ext_call {w : World} {loose : List Str} {mean : ExcName → Option Value} {mg mb : Str → Option Value}
    {dp un : Nat} {gd : Option (List Code)} {cn : Str} {cs : Scope} {a : Addr} {ccd : Value} {cl : List (Str × Addr)} {outer : List Env} {A₀ : Around} {base h₀ : Heap} {L : Addr} {m : Str → Option Value} {news : List (Addr × Obj)} {s : Shared}
    {Q E : Value → Shared → Prop}
    {x y : Int} {tx ty : Tok}
    (B : Below A₀ base outer h₀) (F : Fr h₀ L s.heap m) (X : (Mine.hd.heap_39 w.params).In h₀) (N : News h₀ L s.heap news) (T : Top Mine.hd.view_39 loose mean mg mb h₀) (hk : cs.kind = .function)
    (hd : dp + 1 < recursionLimit) (hu : un + 8 < cLine) (hx : 0 ≤ x) (hx1 : x ≤ 1000) (hy : 1 ≤ y) (hy1 : y ≤ 1000)
    (hret : ∀ r g p q k1 k2 k3 h' tk', Fr h₀ L h' m → News h₀ L h' ((r, tup3 g p q k1 k2 k3) :: news) → (∀ p ∈ news, p.1 < r) → ExtR x y g p q → Q (.ref r) { s with heap := h', toks := tk' }) :
    wpAny (model PySem.Challenge.rw_nn0247_01.row.prog w) (ktrTop dp un gd cn cs L a ccd cl outer) (call (.ref 28) [.int x tx, .int y ty]) Q E s := by
  w_top off
  have hh : (Mine.hd.heap_39 w.params).In h₀ → PySem.Challenge.rw_nn0247_01 = PySem.Challenge.rw_nn0247_01 := by k_fill; exact fun _ => rfl
  clear hh
  k_with_none
  refine wpAny_call ?_
  k_dflt ktr_enter
  k_with "exec While Compare cons nil" => (k_here; (rename Fr _ _ _ _ => lF'); (rename News _ _ _ _ => lN'); (with_unfolding_all refine' m_while (σ := ExtS) (fun c => (c.a1, tup3 c.r0 c.s0 c.t0 c.k1 c.k2 c.k3) :: (c.a2, tup3 c.r1 c.s1 c.t1 c.k4 c.k5 c.k6) :: news) (fun c => [("one", .ref c.a1), ("other", .ref c.a2)]) ["times", "rest"] (fun c => ExtI x y c.r0 c.s0 c.t0 c.r1 c.s1 c.t1 ∧ (∀ p ∈ news, p.1 < c.a1) ∧ (∀ p ∈ news, p.1 < c.a2)) (fun c => c.r1.toNat) ⟨_, _, x, 1, 0, y, 0, 1, _, _, _, _, _, _⟩ lF' ?kn ?kk ?kp ?_); (case kk => kst_all); (case kp => exact ⟨ext_start hx hx1 hy hy1, by (first | assumption | exact ktn_ltOf (by assumption) | exact ktn_ltOf (And.right (by assumption)) | exact ktn_ltOf (And.right (And.right (by assumption))) | exact ktn_ltOf (And.right (And.right (And.right (by assumption)))) | exact ktn_ltOf (And.right (And.right (And.right (And.right (by assumption))))) | exact ktn_ltOf (And.right (And.right (And.right (And.right (And.right (by assumption))))))), by (first | assumption | exact ktn_ltOf (by assumption) | exact ktn_ltOf (And.right (by assumption)) | exact ktn_ltOf (And.right (And.right (by assumption))) | exact ktn_ltOf (And.right (And.right (And.right (by assumption)))) | exact ktn_ltOf (And.right (And.right (And.right (And.right (by assumption))))) | exact ktn_ltOf (And.right (And.right (And.right (And.right (And.right (by assumption)))))))⟩); (case kn => exact kst_newsOf lN' (by kst_inAny)); clear lF' lN'; intro c u h9 tk9 hI9 F9 N9; (obtain ⟨a1, a2, r0, s0, t0, r1, s1, t1, k1, k2, k3, k4, k5, k6⟩ := c); (dsimp only [kstB] at hI9 F9 N9); (obtain ⟨hI9, hF8, hF7⟩ := hI9); have hb9 := ExtI.b hI9; have n09 := ExtI.n0 hI9; have n19 := ExtI.n1 hI9; (obtain ⟨_, _, _, _, _, _, _, _, _, _⟩ := hb9); (try k_fold))
  k_steps
  · (rename News _ _ _ _ => nE'); (rename Fr _ _ _ _ => fE')
    (rename ExtI _ _ _ _ _ _ _ _ => hI')
    (refine' m_end ⟨a2, _, r1, s1, t1, r0 - r0.fdiv r1 * r1, s0 - r0.fdiv r1 * s1, t0 - r0.fdiv r1 * t1, _, _, _, _, _, _⟩ fE' nE' ?hn ?hk ?hr ?hp ?hm)
    (case hk => kst_all)
    (case hp => refine ⟨ext_turn hx1 hy1 hI' (by assumption), by (first | assumption | exact ktn_ltOf (by assumption) | exact ktn_ltOf (And.right (by assumption)) | exact ktn_ltOf (And.right (And.right (by assumption))) | exact ktn_ltOf (And.right (And.right (And.right (by assumption)))) | exact ktn_ltOf (And.right (And.right (And.right (And.right (by assumption))))) | exact ktn_ltOf (And.right (And.right (And.right (And.right (And.right (by assumption))))))), by (first | assumption | exact ktn_ltOf (by assumption) | exact ktn_ltOf (And.right (by assumption)) | exact ktn_ltOf (And.right (And.right (by assumption))) | exact ktn_ltOf (And.right (And.right (And.right (by assumption)))) | exact ktn_ltOf (And.right (And.right (And.right (And.right (by assumption))))) | exact ktn_ltOf (And.right (And.right (And.right (And.right (And.right (by assumption)))))))⟩)
    (case hn => kst_in)
    (case hm => exact ext_meas (by assumption) (by assumption))
    (case hr => ksw_same)
  · (rename ExtI _ _ _ _ _ _ _ _ => hI')
    refine' hret a1 r0 s0 t0 k1 k2 k3 _ _ ?e1  ?e2 ?e3 ?e4
    case e4 => exact ext_last hI' (by assumption)
    case e1 => k_asm
    case e2 => exact cb_drop (by assumption) (by first | exact (fun p hp => by first | exact hp | exact .tail _ (hp) | exact .tail _ (.tail _ (hp)) | exact .tail _ (.tail _ (.tail _ (hp))) | exact .tail _ (.tail _ (.tail _ (.tail _ (hp)))) | exact .tail _ (.tail _ (.tail _ (.tail _ (.tail _ (hp)))))) | exact (List.forall_mem_cons.mpr ⟨by first | exact .head _ | exact .tail _ (.head _) | exact .tail _ (.tail _ (.head _)) | exact .tail _ (.tail _ (.tail _ (.head _))) | exact .tail _ (.tail _ (.tail _ (.tail _ (.head _)))) | exact .tail _ (.tail _ (.tail _ (.tail _ (.tail _ (.head _))))), (fun p hp => by first | exact hp | exact .tail _ (hp) | exact .tail _ (.tail _ (hp)) | exact .tail _ (.tail _ (.tail _ (hp))) | exact .tail _ (.tail _ (.tail _ (.tail _ (hp)))) | exact .tail _ (.tail _ (.tail _ (.tail _ (.tail _ (hp))))))⟩))
    case e3 => (first | assumption | exact ktn_ltOf (by assumption) | exact ktn_ltOf (And.right (by assumption)) | exact ktn_ltOf (And.right (And.right (by assumption))) | exact ktn_ltOf (And.right (And.right (And.right (by assumption)))) | exact ktn_ltOf (And.right (And.right (And.right (And.right (by assumption))))) | exact ktn_ltOf (And.right (And.right (And.right (And.right (And.right (by assumption)))))))

end Mine
end
section
open PySem PySem.W PyProof.Rows
namespace Mine
local macro_rules | `(tactic| walk_at "pad") => `(tactic| fail "pad")
local macro_rules | `(tactic| walk_at "pad") => `(tactic| fail "pad")
local macro_rules | `(tactic| walk_at "pad") => `(tactic| fail "pad")
local macro_rules | `(tactic| walk_at "pad") => `(tactic| fail "pad")
local macro_rules | `(tactic| walk_at "pad") => `(tactic| fail "pad")
local macro_rules | `(tactic| walk_at "pad") => `(tactic| fail "pad")
local macro_rules | `(tactic| walk_at "pad") => `(tactic| fail "pad")
local macro_rules | `(tactic| walk_at "pad") => `(tactic| fail "pad")
local macro_rules | `(tactic| walk_at "pad") => `(tactic| fail "pad")
local macro_rules | `(tactic| walk_at "pad") => `(tactic| fail "pad")
local macro_rules | `(tactic| walk_at "pad") => `(tactic| fail "pad")
local macro_rules | `(tactic| walk_at "pad") => `(tactic| fail "pad")
local macro_rules | `(tactic| walk_at "pad") => `(tactic| fail "pad")
local macro_rules | `(tactic| walk_at "pad") => `(tactic| fail "pad")
local macro_rules | `(tactic| walk_at "pad") => `(tactic| fail "pad")
local macro_rules | `(tactic| walk_at "pad") => `(tactic| fail "pad")
local macro_rules | `(tactic| walk_at "pad") => `(tactic| fail "pad")
local macro_rules | `(tactic| walk_at "pad") => `(tactic| fail "pad")
local macro_rules | `(tactic| walk_at "pad") => `(tactic| fail "pad")
local macro_rules | `(tactic| walk_at "pad") => `(tactic| fail "pad")
local macro_rules | `(tactic| walk_at "pad") => `(tactic| fail "pad")
local macro_rules | `(tactic| walk_at "pad") => `(tactic| fail "pad")
local macro_rules | `(tactic| walk_at "pad") => `(tactic| fail "pad")
local macro_rules | `(tactic| walk_at "pad") => `(tactic| fail "pad")
local macro_rules | `(tactic| walk_at "pad") => `(tactic| fail "pad")
local macro_rules | `(tactic| walk_at "pad") => `(tactic| fail "pad")
local macro_rules | `(tactic| walk_at "pad") => `(tactic| fail "pad")
local macro_rules | `(tactic| walk_at "pad") => `(tactic| fail "pad")
local macro_rules | `(tactic| walk_at "pad") => `(tactic| fail "pad")
local macro_rules | `(tactic| walk_at "pad") => `(tactic| fail "pad")
local macro_rules | `(tactic| walk_at "pad") => `(tactic| fail "pad")
local macro_rules | `(tactic| walk_at "pad") => `(tactic| fail "pad")
local macro_rules | `(tactic| walk_at "pad") => `(tactic| fail "pad")
local macro_rules | `(tactic| walk_at "pad") => `(tactic| fail "pad")
local macro_rules | `(tactic| walk_at "pad") => `(tactic| fail "pad")
local macro_rules | `(tactic| walk_at "pad") => `(tactic| fail "pad")
local macro_rules | `(tactic| walk_at "pad") => `(tactic| fail "pad")
local macro_rules | `(tactic| walk_at "pad") => `(tactic| fail "pad")
local macro_rules | `(tactic| walk_at "pad") => `(tactic| fail "pad")
local macro_rules | `(tactic| walk_at "pad") => `(tactic| fail "pad")
local macro_rules | `(tactic| walk_at "MPost") => `(tactic| (dsimp only [Mine.MPost]))
local macro_rules | `(tactic| walk_at "MLPost") => `(tactic| (dsimp only [Mine.MLPost]; (try with_reducible refine Mine.ml_ret ?_)))
local macro_rules | `(tactic| k_mem) => `(tactic| assumption)
local macro_rules | `(tactic| walk_at "call ref") => `(tactic| k_extra "call ref")
local macro_rules | `(tactic| walk_at "pyIter ref") => `(tactic| k_extra "pyIter ref")
local macro_rules | `(tactic| walk_at "CompSrcT") => `(tactic| k_extra "CompSrcT")
local macro_rules | `(tactic| walk_at "KCiEl") => `(tactic| k_extra "KCiEl")
local macro_rules | `(tactic| walk_at "KCiNo") => `(tactic| k_extra "KCiNo")
local macro_rules | `(tactic| walk_at "KPfGrows") => `(tactic| k_extra "KPfGrows")
local macro_rules | `(tactic| walk_at "CompEnd") => `(tactic| k_extra "CompEnd")
local macro_rules | `(tactic| walk_at "compareOp NotEq ref ref") => `(tactic| k_extra "compareOp NotEq ref ref")
local macro_rules | `(tactic| walk_at "compareOp Eq ref ref") => `(tactic| k_extra "compareOp Eq ref ref")
local macro_rules | `(tactic| k_all) => `(tactic| assumption)
local macro_rules | `(tactic| walk_at "call ref") => `(tactic| (k_here; k_dflt (refine' ext_call ?k1 ?k2 ?k3 ?k4 ?k5 ?kK ?kd ?ku ?h0 ?h1 ?h2 ?h3 ?_; (case k1 => k_asm); (case k2 => k_asm); (case k3 => k_asm); (case k4 => k_asm); (case k5 => k_asm); (case kK => first | exact rfl | assumption); (case kd => ktr_room); (case ku => ktr_units); (case h0 => (first | assumption | omega | exact Int.fmod_nonneg_of_pos _ (by omega))); (case h1 => (first | assumption | omega | exact Int.le_of_lt (Int.lt_of_lt_of_le (Int.fmod_lt_of_pos _ (by omega)) (by omega)))); (case h2 => (first | assumption | omega | exact Int.fmod_nonneg_of_pos _ (by omega))); (case h3 => (first | assumption | omega | exact Int.le_of_lt (Int.lt_of_lt_of_le (Int.fmod_lt_of_pos _ (by omega)) (by omega)))); k_whole); intro r9 g9 p9 q9 k19 k29 k39 h9 tk9 F9 N9 l19 hR9; (try k_lt l19); (have hRb9 := ExtR.b hR9); (obtain ⟨_, _, _, _⟩ := hRb9); (try dsimp only); (try k_fold)))

set_option maxRecDepth 100000 in
set_option maxHeartbeats 8000000 in
theorem inv_call {w : World} {loose : List Str} {mean : ExcName → Option Value} {mg mb : Str → Option Value}
    {dp un : Nat} {gd : Option (List Code)} {cn : Str} {cs : Scope} {a : Addr} {ccd : Value} {cl : List (Str × Addr)} {outer : List Env} {A₀ : Around} {base h₀ : Heap} {L : Addr} {m : Str → Option Value} {news : List (Addr × Obj)} {s : Shared}
    {Q E : Value → Shared → Prop}
    {x y : Int} {tx ty : Tok}
    (B : Below A₀ base outer h₀) (F : Fr h₀ L s.heap m) (X : (Mine.hd.heap_39 w.params).In h₀) (N : News h₀ L s.heap news) (T : Top Mine.hd.view_39 loose mean mg mb h₀) (hk : cs.kind = .function)
    (hd : dp + 2 < recursionLimit) (hu : un + 16 < cLine) (hy : 1 ≤ y) (hy1 : y ≤ 1000)
    (hret2 : ∀ h' tk', Fr h₀ L h' m → News h₀ L h' news → Int.gcd (x.fmod y) y ≠ 1 → Q .none { s with heap := h', toks := tk' })
    (hret : ∀ g p q t h' tk', Fr h₀ L h' m → News h₀ L h' news → ExtR (x.fmod y) y g p q → g = 1 → Q (.int (p.fmod y) t) { s with heap := h', toks := tk' }) :
    wpAny (model PySem.Challenge.rw_nn0247_01.row.prog w) (ktrTop dp un gd cn cs L a ccd cl outer) (call (.ref 35) [.int x tx, .int y ty]) Q E s := by
  w_top off
  have hh : (Mine.hd.heap_39 w.params).In h₀ → PySem.Challenge.rw_nn0247_01 = PySem.Challenge.rw_nn0247_01 := by k_fill; exact fun _ => rfl
  clear hh
  k_with_none
  refine wpAny_call ?_
  k_dflt ktr_enter
  k_steps
  · exact hret _ _ _ _ _ _ (by k_asm) (cb_drop (by assumption) (by first | exact (fun p hp => by first | exact hp | exact .tail _ (hp) | exact .tail _ (.tail _ (hp)) | exact .tail _ (.tail _ (.tail _ (hp))) | exact .tail _ (.tail _ (.tail _ (.tail _ (hp)))) | exact .tail _ (.tail _ (.tail _ (.tail _ (.tail _ (hp)))))) | exact (List.forall_mem_cons.mpr ⟨by first | exact .head _ | exact .tail _ (.head _) | exact .tail _ (.tail _ (.head _)) | exact .tail _ (.tail _ (.tail _ (.head _))) | exact .tail _ (.tail _ (.tail _ (.tail _ (.head _)))) | exact .tail _ (.tail _ (.tail _ (.tail _ (.tail _ (.head _))))), (fun p hp => by first | exact hp | exact .tail _ (hp) | exact .tail _ (.tail _ (hp)) | exact .tail _ (.tail _ (.tail _ (hp))) | exact .tail _ (.tail _ (.tail _ (.tail _ (hp)))) | exact .tail _ (.tail _ (.tail _ (.tail _ (.tail _ (hp))))))⟩))) (by assumption) (by assumption)
  · exact hret2 _ _ (by k_asm) (cb_drop (by assumption) (by first | exact (fun p hp => by first | exact hp | exact .tail _ (hp) | exact .tail _ (.tail _ (hp)) | exact .tail _ (.tail _ (.tail _ (hp))) | exact .tail _ (.tail _ (.tail _ (.tail _ (hp)))) | exact .tail _ (.tail _ (.tail _ (.tail _ (.tail _ (hp)))))) | exact (List.forall_mem_cons.mpr ⟨by first | exact .head _ | exact .tail _ (.head _) | exact .tail _ (.tail _ (.head _)) | exact .tail _ (.tail _ (.tail _ (.head _))) | exact .tail _ (.tail _ (.tail _ (.tail _ (.head _)))) | exact .tail _ (.tail _ (.tail _ (.tail _ (.tail _ (.head _))))), (fun p hp => by first | exact hp | exact .tail _ (hp) | exact .tail _ (.tail _ (hp)) | exact .tail _ (.tail _ (.tail _ (hp))) | exact .tail _ (.tail _ (.tail _ (.tail _ (hp)))) | exact .tail _ (.tail _ (.tail _ (.tail _ (.tail _ (hp))))))⟩))) (ext_ne (by assumption) (by assumption))

end Mine
end
section
open PySem PySem.W PyProof.Rows
namespace Mine
local macro_rules | `(tactic| walk_at "pad") => `(tactic| fail "pad")
local macro_rules | `(tactic| walk_at "pad") => `(tactic| fail "pad")
local macro_rules | `(tactic| walk_at "pad") => `(tactic| fail "pad")
local macro_rules | `(tactic| walk_at "pad") => `(tactic| fail "pad")
local macro_rules | `(tactic| walk_at "pad") => `(tactic| fail "pad")
local macro_rules | `(tactic| walk_at "pad") => `(tactic| fail "pad")
local macro_rules | `(tactic| walk_at "pad") => `(tactic| fail "pad")
local macro_rules | `(tactic| walk_at "pad") => `(tactic| fail "pad")
local macro_rules | `(tactic| walk_at "pad") => `(tactic| fail "pad")
local macro_rules | `(tactic| walk_at "pad") => `(tactic| fail "pad")
local macro_rules | `(tactic| walk_at "pad") => `(tactic| fail "pad")
local macro_rules | `(tactic| walk_at "pad") => `(tactic| fail "pad")
local macro_rules | `(tactic| walk_at "pad") => `(tactic| fail "pad")
local macro_rules | `(tactic| walk_at "pad") => `(tactic| fail "pad")
local macro_rules | `(tactic| walk_at "pad") => `(tactic| fail "pad")
local macro_rules | `(tactic| walk_at "pad") => `(tactic| fail "pad")
local macro_rules | `(tactic| walk_at "pad") => `(tactic| fail "pad")
local macro_rules | `(tactic| walk_at "pad") => `(tactic| fail "pad")
local macro_rules | `(tactic| walk_at "pad") => `(tactic| fail "pad")
local macro_rules | `(tactic| walk_at "pad") => `(tactic| fail "pad")
local macro_rules | `(tactic| walk_at "pad") => `(tactic| fail "pad")
local macro_rules | `(tactic| walk_at "pad") => `(tactic| fail "pad")
local macro_rules | `(tactic| walk_at "pad") => `(tactic| fail "pad")
local macro_rules | `(tactic| walk_at "pad") => `(tactic| fail "pad")
local macro_rules | `(tactic| walk_at "pad") => `(tactic| fail "pad")
local macro_rules | `(tactic| walk_at "pad") => `(tactic| fail "pad")
local macro_rules | `(tactic| walk_at "pad") => `(tactic| fail "pad")
local macro_rules | `(tactic| walk_at "pad") => `(tactic| fail "pad")
local macro_rules | `(tactic| walk_at "pad") => `(tactic| fail "pad")
local macro_rules | `(tactic| walk_at "pad") => `(tactic| fail "pad")
local macro_rules | `(tactic| walk_at "pad") => `(tactic| fail "pad")
local macro_rules | `(tactic| walk_at "pad") => `(tactic| fail "pad")
local macro_rules | `(tactic| walk_at "pad") => `(tactic| fail "pad")
local macro_rules | `(tactic| walk_at "pad") => `(tactic| fail "pad")
local macro_rules | `(tactic| walk_at "pad") => `(tactic| fail "pad")
local macro_rules | `(tactic| walk_at "pad") => `(tactic| fail "pad")
local macro_rules | `(tactic| walk_at "pad") => `(tactic| fail "pad")
local macro_rules | `(tactic| walk_at "pad") => `(tactic| fail "pad")
local macro_rules | `(tactic| walk_at "pad") => `(tactic| fail "pad")
local macro_rules | `(tactic| walk_at "pad") => `(tactic| fail "pad")
local macro_rules | `(tactic| walk_at "pad") => `(tactic| fail "pad")
local macro_rules | `(tactic| walk_at "MPost") => `(tactic| (dsimp only [Mine.MPost]))
local macro_rules | `(tactic| walk_at "MLPost") => `(tactic| (dsimp only [Mine.MLPost]; (try with_reducible refine Mine.ml_ret ?_)))
local macro_rules | `(tactic| k_mem) => `(tactic| assumption)
local macro_rules | `(tactic| walk_at "call ref") => `(tactic| k_extra "call ref")
local macro_rules | `(tactic| walk_at "pyIter ref") => `(tactic| k_extra "pyIter ref")
local macro_rules | `(tactic| walk_at "CompSrcT") => `(tactic| k_extra "CompSrcT")
local macro_rules | `(tactic| walk_at "KCiEl") => `(tactic| k_extra "KCiEl")
local macro_rules | `(tactic| walk_at "KCiNo") => `(tactic| k_extra "KCiNo")
local macro_rules | `(tactic| walk_at "KPfGrows") => `(tactic| k_extra "KPfGrows")
local macro_rules | `(tactic| walk_at "CompEnd") => `(tactic| k_extra "CompEnd")
local macro_rules | `(tactic| walk_at "compareOp NotEq ref ref") => `(tactic| k_extra "compareOp NotEq ref ref")
local macro_rules | `(tactic| walk_at "compareOp Eq ref ref") => `(tactic| k_extra "compareOp Eq ref ref")
local macro_rules | `(tactic| k_all) => `(tactic| assumption)
local macro_rules | `(tactic| walk_at "call ref") => `(tactic| (k_here; k_dflt (refine' ext_call ?k1 ?k2 ?k3 ?k4 ?k5 ?kK ?kd ?ku ?h0 ?h1 ?h2 ?h3 ?_; (case k1 => k_asm); (case k2 => k_asm); (case k3 => k_asm); (case k4 => k_asm); (case k5 => k_asm); (case kK => first | exact rfl | assumption); (case kd => ktr_room); (case ku => ktr_units); (case h0 => (first | assumption | omega | exact Int.fmod_nonneg_of_pos _ (by omega))); (case h1 => (first | assumption | omega | exact Int.le_of_lt (Int.lt_of_lt_of_le (Int.fmod_lt_of_pos _ (by omega)) (by omega)))); (case h2 => (first | assumption | omega | exact Int.fmod_nonneg_of_pos _ (by omega))); (case h3 => (first | assumption | omega | exact Int.le_of_lt (Int.lt_of_lt_of_le (Int.fmod_lt_of_pos _ (by omega)) (by omega)))); k_whole); intro r9 g9 p9 q9 k19 k29 k39 h9 tk9 F9 N9 l19 hR9; (try k_lt l19); (have hRb9 := ExtR.b hR9); (obtain ⟨_, _, _, _⟩ := hRb9); (have hRp9 := ext_pos (by first | assumption | omega) hR9); (have hRq9 := ext_le (by first | assumption | omega) hR9); (try (have hj9 := ext_joined (by assumption) (by assumption) hR9; obtain ⟨_, _⟩ := hj9)); (try dsimp only); (try k_fold)))

set_option maxRecDepth 100000 in
set_option maxHeartbeats 8000000 in
theorem two_call {w : World} {loose : List Str} {mean : ExcName → Option Value} {mg mb : Str → Option Value}
    {dp un : Nat} {gd : Option (List Code)} {cn : Str} {cs : Scope} {a : Addr} {ccd : Value} {cl : List (Str × Addr)} {outer : List Env} {A₀ : Around} {base h₀ : Heap} {L : Addr} {m : Str → Option Value} {news : List (Addr × Obj)} {s : Shared}
    {Q E : Value → Shared → Prop}
    {o1 o2 : Addr} {r1 m1 r2 m2 : Int} {k1 k2 k3 k4 : Nat}
    (B : Below A₀ base outer h₀) (F : Fr h₀ L s.heap m) (X : (Mine.hd.heap_39 w.params).In h₀) (N : News h₀ L s.heap news) (T : Top Mine.hd.view_39 loose mean mg mb h₀) (hk : cs.kind = .function)
    (hd : dp + 2 < recursionLimit) (hu : un + 16 < cLine) (ho1 : (o1, tup2 r1 m1 k1 k2) ∈ news) (ho2 : (o2, tup2 r2 m2 k3 k4) ∈ news) (h1 : 1 ≤ m1) (h1' : m1 ≤ 1000) (h2 : 1 ≤ m2) (h2' : m2 ≤ 1000)
    (hret2 : ∀ h' tk', Fr h₀ L h' m → News h₀ L h' news → NoTwo r1 m1 r2 m2 → Q .none { s with heap := h', toks := tk' })
    (hret : ∀ r v j t t2 h' tk', Fr h₀ L h' m → News h₀ L h' ((r, tup2 v j t t2) :: news) → (∀ p ∈ news, p.1 < r) → TwoR r1 m1 r2 m2 v j → Q (.ref r) { s with heap := h', toks := tk' }) :
    wpAny (model PySem.Challenge.rw_nn0247_01.row.prog w) (ktrTop dp un gd cn cs L a ccd cl outer) (call (.ref 49) [.ref o1, .ref o2]) Q E s := by
  w_top off
  have hh : (Mine.hd.heap_39 w.params).In h₀ → PySem.Challenge.rw_nn0247_01 = PySem.Challenge.rw_nn0247_01 := by k_fill; exact fun _ => rfl
  clear hh
  k_with_none
  refine wpAny_call ?_
  k_dflt ktr_enter
  k_with "binaryOp FloorDiv int int" => (with_reducible refine floordiv_int (by omega) ?_ (Or.inl (PyProof.noPylong_small (by omega))))
  k_steps
  · exact hret2 _ _ (by k_asm) (cb_drop (by assumption) (by first | exact (fun p hp => by first | exact hp | exact .tail _ (hp) | exact .tail _ (.tail _ (hp)) | exact .tail _ (.tail _ (.tail _ (hp))) | exact .tail _ (.tail _ (.tail _ (.tail _ (hp)))) | exact .tail _ (.tail _ (.tail _ (.tail _ (.tail _ (hp)))))) | exact (List.forall_mem_cons.mpr ⟨by first | exact .head _ | exact .tail _ (.head _) | exact .tail _ (.tail _ (.head _)) | exact .tail _ (.tail _ (.tail _ (.head _))) | exact .tail _ (.tail _ (.tail _ (.tail _ (.head _)))) | exact .tail _ (.tail _ (.tail _ (.tail _ (.tail _ (.head _))))), (fun p hp => by first | exact hp | exact .tail _ (hp) | exact .tail _ (.tail _ (hp)) | exact .tail _ (.tail _ (.tail _ (hp))) | exact .tail _ (.tail _ (.tail _ (.tail _ (hp)))) | exact .tail _ (.tail _ (.tail _ (.tail _ (.tail _ (hp))))))⟩))) (two_none h2 (by assumption) (by assumption))
  · refine hret _ _ _ _ _ _ _ (by k_asm) (cb_drop (by assumption) (by first | exact (fun p hp => by first | exact hp | exact .tail _ (hp) | exact .tail _ (.tail _ (hp)) | exact .tail _ (.tail _ (.tail _ (hp))) | exact .tail _ (.tail _ (.tail _ (.tail _ (hp)))) | exact .tail _ (.tail _ (.tail _ (.tail _ (.tail _ (hp)))))) | exact (List.forall_mem_cons.mpr ⟨by first | exact .head _ | exact .tail _ (.head _) | exact .tail _ (.tail _ (.head _)) | exact .tail _ (.tail _ (.tail _ (.head _))) | exact .tail _ (.tail _ (.tail _ (.tail _ (.head _)))) | exact .tail _ (.tail _ (.tail _ (.tail _ (.tail _ (.head _))))), (fun p hp => by first | exact hp | exact .tail _ (hp) | exact .tail _ (.tail _ (hp)) | exact .tail _ (.tail _ (.tail _ (hp))) | exact .tail _ (.tail _ (.tail _ (.tail _ (hp)))) | exact .tail _ (.tail _ (.tail _ (.tail _ (.tail _ (hp))))))⟩))) (by (first | assumption | exact ktn_ltOf (by assumption) | exact ktn_ltOf (And.right (by assumption)) | exact ktn_ltOf (And.right (And.right (by assumption))) | exact ktn_ltOf (And.right (And.right (And.right (by assumption)))) | exact ktn_ltOf (And.right (And.right (And.right (And.right (by assumption))))) | exact ktn_ltOf (And.right (And.right (And.right (And.right (And.right (by assumption)))))))) (two_some h1 h2 (by assumption) (by assumption))

end Mine
end
section
open PySem PySem.W PyProof.Rows
namespace Mine
local macro_rules | `(tactic| walk_at "pad") => `(tactic| fail "pad")
local macro_rules | `(tactic| walk_at "pad") => `(tactic| fail "pad")
local macro_rules | `(tactic| walk_at "pad") => `(tactic| fail "pad")
local macro_rules | `(tactic| walk_at "pad") => `(tactic| fail "pad")
local macro_rules | `(tactic| walk_at "pad") => `(tactic| fail "pad")
local macro_rules | `(tactic| walk_at "pad") => `(tactic| fail "pad")
local macro_rules | `(tactic| walk_at "pad") => `(tactic| fail "pad")
local macro_rules | `(tactic| walk_at "pad") => `(tactic| fail "pad")
local macro_rules | `(tactic| walk_at "pad") => `(tactic| fail "pad")
local macro_rules | `(tactic| walk_at "pad") => `(tactic| fail "pad")
local macro_rules | `(tactic| walk_at "pad") => `(tactic| fail "pad")
local macro_rules | `(tactic| walk_at "pad") => `(tactic| fail "pad")
local macro_rules | `(tactic| walk_at "pad") => `(tactic| fail "pad")
local macro_rules | `(tactic| walk_at "pad") => `(tactic| fail "pad")
local macro_rules | `(tactic| walk_at "pad") => `(tactic| fail "pad")
local macro_rules | `(tactic| walk_at "pad") => `(tactic| fail "pad")
local macro_rules | `(tactic| walk_at "pad") => `(tactic| fail "pad")
local macro_rules | `(tactic| walk_at "pad") => `(tactic| fail "pad")
local macro_rules | `(tactic| walk_at "pad") => `(tactic| fail "pad")
local macro_rules | `(tactic| walk_at "pad") => `(tactic| fail "pad")
local macro_rules | `(tactic| walk_at "pad") => `(tactic| fail "pad")
local macro_rules | `(tactic| walk_at "pad") => `(tactic| fail "pad")
local macro_rules | `(tactic| walk_at "pad") => `(tactic| fail "pad")
local macro_rules | `(tactic| walk_at "pad") => `(tactic| fail "pad")
local macro_rules | `(tactic| walk_at "pad") => `(tactic| fail "pad")
local macro_rules | `(tactic| walk_at "pad") => `(tactic| fail "pad")
local macro_rules | `(tactic| walk_at "pad") => `(tactic| fail "pad")
local macro_rules | `(tactic| walk_at "pad") => `(tactic| fail "pad")
local macro_rules | `(tactic| walk_at "pad") => `(tactic| fail "pad")
local macro_rules | `(tactic| walk_at "pad") => `(tactic| fail "pad")
local macro_rules | `(tactic| walk_at "pad") => `(tactic| fail "pad")
local macro_rules | `(tactic| walk_at "pad") => `(tactic| fail "pad")
local macro_rules | `(tactic| walk_at "pad") => `(tactic| fail "pad")
local macro_rules | `(tactic| walk_at "pad") => `(tactic| fail "pad")
local macro_rules | `(tactic| walk_at "pad") => `(tactic| fail "pad")
local macro_rules | `(tactic| walk_at "pad") => `(tactic| fail "pad")
local macro_rules | `(tactic| walk_at "pad") => `(tactic| fail "pad")
local macro_rules | `(tactic| walk_at "pad") => `(tactic| fail "pad")
local macro_rules | `(tactic| walk_at "pad") => `(tactic| fail "pad")
local macro_rules | `(tactic| walk_at "pad") => `(tactic| fail "pad")
local macro_rules | `(tactic| walk_at "pad") => `(tactic| fail "pad")
local macro_rules | `(tactic| walk_at "pad") => `(tactic| fail "pad")
local macro_rules | `(tactic| walk_at "MPost") => `(tactic| (dsimp only [Mine.MPost]))
local macro_rules | `(tactic| walk_at "MLPost") => `(tactic| (dsimp only [Mine.MLPost]; (try with_reducible refine Mine.ml_ret ?_)))
local macro_rules | `(tactic| k_mem) => `(tactic| assumption)
local macro_rules | `(tactic| walk_at "call ref") => `(tactic| k_extra "call ref")
local macro_rules | `(tactic| walk_at "pyIter ref") => `(tactic| k_extra "pyIter ref")
local macro_rules | `(tactic| walk_at "CompSrcT") => `(tactic| k_extra "CompSrcT")
local macro_rules | `(tactic| walk_at "KCiEl") => `(tactic| k_extra "KCiEl")
local macro_rules | `(tactic| walk_at "KCiNo") => `(tactic| k_extra "KCiNo")
local macro_rules | `(tactic| walk_at "KPfGrows") => `(tactic| k_extra "KPfGrows")
local macro_rules | `(tactic| walk_at "CompEnd") => `(tactic| k_extra "CompEnd")
local macro_rules | `(tactic| walk_at "compareOp NotEq ref ref") => `(tactic| k_extra "compareOp NotEq ref ref")
local macro_rules | `(tactic| walk_at "compareOp Eq ref ref") => `(tactic| k_extra "compareOp Eq ref ref")
local macro_rules | `(tactic| k_all) => `(tactic| assumption)
local macro_rules | `(tactic| walk_at "call ref") => `(tactic| (k_here; k_dflt (refine' two_call ?k1 ?k2 ?k3 ?k4 ?k5 ?kK ?kd ?ku ?h0 ?h1 ?h2 ?h3 ?h4 ?h5 ?_ ?_; (case k1 => k_asm); (case k2 => k_asm); (case k3 => k_asm); (case k4 => k_asm); (case k5 => k_asm); (case kK => first | exact rfl | assumption); (case kd => ktr_room); (case ku => ktr_units); (case h0 => k_mem); (case h1 => k_mem); (case h2 => (first | assumption | omega)); (case h3 => (first | assumption | omega)); (case h4 => (first | assumption | omega)); (case h5 => (first | assumption | omega)); (all_goals first | k_extra "two_call 1" | k_extra "two_call 0"))))

structure Pr where
  (a : Addr)
  (r m : Int)
  (k l : Nat)
structure ChS where
  (a : Addr)
  (v j : Int)
  (k l : Nat)
abbrev prObj (ps : List Pr) (e : Nat) : Obj := listOf (ps.map fun p => Value.ref p.a).toArray e
abbrev prs (ps : List Pr) : List (Int × Int) := ps.map fun p => (p.r, p.m)
def PrsIn (ps : List Pr) (news : List (Addr × Obj)) : Prop := ∀ p ∈ ps, (p.a, tup2 p.r p.m p.k p.l) ∈ news ∧ 1 ≤ p.m ∧ p.m ≤ 9
def chLed (news : List (Addr × Obj)) : Option ChS → List (Addr × Obj)
  | none => news
  | some c => (c.a, tup2 c.v c.j c.k c.l) :: news
def chPs : Option ChS → List (Str × Value)
  | none => [("found", .none)]
  | some c => [("found", .ref c.a)]
def chP (news : List (Addr × Obj)) (ps : List Pr) (i : Nat) : Option ChS → Prop
  | none => ChN (prs (ps.take i))
  | some c => ChR (prs (ps.take i)) c.v c.j ∧ c.j ≤ 9 ^ i ∧ ∀ p ∈ news, p.1 < c.a
theorem ch_mem {news : List (Addr × Obj)} {q : Addr × Obj} (h : q ∈ news) : ∀ c, q ∈ chLed news c
  | none => h
  | some _ => .tail _ h
theorem pr_get {ps : List Pr} {i : Nat} {v : Value} (h : (ps.map fun p => Value.ref p.a)[i]? = some v) : ∃ p, p ∈ ps ∧ v = .ref p.a ∧ prs (ps.take (i + 1)) = prs (ps.take i) ++ [(p.r, p.m)] := by
  rw [List.getElem?_map] at h
  obtain ⟨p, hp, rfl⟩ := Option.map_eq_some_iff.mp h
  exact ⟨p, List.mem_of_getElem? hp, rfl, by simp [prs, List.take_add_one, hp]⟩
theorem pow_le3 {i : Nat} {j : Int} (h : j ≤ 9 ^ i) (hi : i ≤ 2) : j ≤ 81 := by
  have : (9 : Int) ^ i ≤ 81 := by
    rcases Nat.lt_or_ge i 1 with h1 | h1
    · have : i = 0 := by omega
      subst this; decide
    · rcases Nat.lt_or_ge i 2 with h2 | h2
      · have : i = 1 := by omega
        subst this; decide
      · have : i = 2 := by omega
        subst this; decide
  omega
theorem pow_step {i : Nat} {j j' : Int} (h : j ≤ 9 ^ i) (h' : j' ≤ 9 * j) : j' ≤ 9 ^ (i + 1) := by
  rw [Int.pow_succ]; omega

set_option maxRecDepth 100000 in
set_option maxHeartbeats 8000000 in
theorem chin_call {w : World} {loose : List Str} {mean : ExcName → Option Value} {mg mb : Str → Option Value}
    {dp un : Nat} {gd : Option (List Code)} {cn : Str} {cs : Scope} {a : Addr} {ccd : Value} {cl : List (Str × Addr)} {outer : List Env} {A₀ : Around} {base h₀ : Heap} {L : Addr} {m : Str → Option Value} {news : List (Addr × Obj)} {s : Shared}
    {Q E : Value → Shared → Prop}
    {pl : Addr} {e : Nat} {qs : List Pr}
    (B : Below A₀ base outer h₀) (F : Fr h₀ L s.heap m) (X : (Mine.hd.heap_39 w.params).In h₀) (N : News h₀ L s.heap news) (T : Top Mine.hd.view_39 loose mean mg mb h₀) (hk : cs.kind = .function)
    (hd : dp + 3 < recursionLimit) (hu : un + 24 < cLine) (hl : (pl, prObj qs e) ∈ news) (hps : PrsIn qs news) (hlen : qs.length ≤ 3)
    (hret2 : ∀ h' tk', Fr h₀ L h' m → News h₀ L h' news → ChN (prs qs) → Q .none { s with heap := h', toks := tk' })
    (hret : ∀ r v j t t2 h' tk', Fr h₀ L h' m → News h₀ L h' ((r, tup2 v j t t2) :: news) → (∀ p ∈ news, p.1 < r) → ChR (prs qs) v j → Q (.ref r) { s with heap := h', toks := tk' }) :
    wpAny (model PySem.Challenge.rw_nn0247_01.row.prog w) (ktrTop dp un gd cn cs L a ccd cl outer) (call (.ref 56) [.ref pl]) Q E s := by
  w_top off
  have hh : (Mine.hd.heap_39 w.params).In h₀ → PySem.Challenge.rw_nn0247_01 = PySem.Challenge.rw_nn0247_01 := by k_fill; exact fun _ => rfl
  clear hh
  k_with_none
  refine wpAny_call ?_
  k_dflt ktr_enter
  k_with "exec For Name Name cons nil" => (k_here; (rename Fr _ _ _ _ => lF'); (with_unfolding_all refine' For_invVF lF' ?k1 ?k2 ?_; (case k1 => exact rfl); (case k2 => exact rfl); k_whole))
  k_with "two_call 0" => (intro h9 tk9 F9 N9 hN9; (try dsimp only); (try with_reducible refine Mine.ml_strip ?_); (try k_fold))
  k_with "two_call 1" => (intro r9 v9 j9 k19 k29 h9 tk9 F9 N9 l19 hT9; (try k_lt l19); (have hTp9 := TwoR.p hT9); (have hTl9 := two_le (by first | assumption | omega) (by first | assumption | omega) hT9); (try dsimp only); (try with_reducible refine Mine.ml_strip ?_); (try k_fold))
  k_with "pyIter ref" => (k_here; (rename Fr _ _ _ _ => lF'); (rename News _ _ _ _ => lN'); (with_unfolding_all refine' m_list (lo := prObj qs e) (vs := qs.map fun p => Value.ref p.a) (nn := e) (chLed news) chPs ["pair"] (chP news qs) (some ⟨_, 0, 1, _, _⟩) (by rfl) lF' ?kn ?km (by rfl) (by rfl) ?kk ?kp ?_ ?_); (case kk => (dsimp only [chPs]; kst_all)); (case kn => (dsimp only [chLed]; with_unfolding_all exact kst_newsOf lN' (by kst_inAny))); (case km => exact ch_mem hl); (case kp => (dsimp only [chP]; exact ⟨ch_nil, by decide, by (first | assumption | exact ktn_ltOf (by assumption) | exact ktn_ltOf (And.right (by assumption)) | exact ktn_ltOf (And.right (And.right (by assumption))) | exact ktn_ltOf (And.right (And.right (And.right (by assumption)))) | exact ktn_ltOf (And.right (And.right (And.right (And.right (by assumption))))) | exact ktn_ltOf (And.right (And.right (And.right (And.right (And.right (by assumption)))))))⟩)); (all_goals first | (clear lF' lN'; intro i v c u it I h9 tk9 hv hP hcls hoff F9 N9; (obtain ⟨q, hq, hv9, htake⟩ := pr_get hv); subst hv9; (obtain ⟨hq1, hq2, hq3⟩ := hps q hq); (have hi3 : i < 3 := Nat.lt_of_lt_of_le (List.getElem?_eq_some_iff.mp hv).1 (by rw [List.length_map]; exact hlen)); clear hv; (rcases c with _ | ⟨a1, v1, j1, k1, l1⟩); (all_goals ((dsimp only [kstB, chPs, chLed, chP] at hP hoff F9 N9); (try (obtain ⟨hP1, hP2, hP3⟩ := hP; have hP4 := ChR.p hP1; have hP5 := pow_le3 hP2 (by omega))); (try k_fold)))) | (clear lF' lN'; intro c u h9 tk9 hP F9 N9; (rcases c with _ | ⟨a1, v1, j1, k1, l1⟩); (all_goals ((dsimp only [kstB, chPs, chLed, chP] at hP F9 N9); (try k_fold))))))
  k_steps
  · refine ml_end none F9 N9 (.head _) (fun p hp => .tail _ hp) hoff ?_ ?_ ?_
    · dsimp only [chPs]; kst_all
    · dsimp only [chPs]; ksw_same
    · dsimp only [chP]; rw [htake]; exact ch_still hP
  · refine ml_end none (by assumption) (by assumption) (.head _) (fun p hp => .tail _ (.tail _ hp)) (fun p hp => hoff p (.tail _ hp)) ?_ ?_ ?_
    · dsimp only [chPs]; kst_all
    · dsimp only [chPs]; ksw_same
    · dsimp only [chP]; rw [htake]; exact ch_none hP1 hN9
  · refine ml_end (some ⟨r9, v9, j9, k19, k29⟩) (by assumption) (by assumption) (.tail _ (.head _)) ?_ ?_ ?_ ?_ ?_
    · dsimp only [chLed]; kst_in
    · exact List.forall_mem_cons.mpr ⟨fun e => absurd l19.1 (by rw [show r9 = I from e]; exact Nat.lt_irrefl _), fun p hp => hoff p (.tail _ hp)⟩
    · dsimp only [chPs]; kst_all
    · dsimp only [chPs]; ksw_same
    · dsimp only [chP]; rw [htake]; exact ⟨ch_snoc hP1 hT9, pow_step hP2 (by assumption), by (first | assumption | exact ktn_ltOf (by assumption) | exact ktn_ltOf (And.right (by assumption)) | exact ktn_ltOf (And.right (And.right (by assumption))) | exact ktn_ltOf (And.right (And.right (And.right (by assumption)))) | exact ktn_ltOf (And.right (And.right (And.right (And.right (by assumption))))) | exact ktn_ltOf (And.right (And.right (And.right (And.right (And.right (by assumption)))))))⟩
  · rw [List.length_map, List.take_length] at hP
    exact hret2 _ _ (by k_asm) (by k_asm) hP
  · obtain ⟨hP1, hP2, hP3⟩ := hP
    rw [List.length_map, List.take_length] at hP1
    exact hret _ _ _ _ _ _ _ (by k_asm) (by k_asm) hP3 hP1

end Mine
end
section
open PySem PySem.W PyProof.Rows
namespace Mine
local macro_rules | `(tactic| walk_at "pad") => `(tactic| fail "pad")
local macro_rules | `(tactic| walk_at "pad") => `(tactic| fail "pad")
local macro_rules | `(tactic| walk_at "pad") => `(tactic| fail "pad")
local macro_rules | `(tactic| walk_at "pad") => `(tactic| fail "pad")
local macro_rules | `(tactic| walk_at "pad") => `(tactic| fail "pad")
local macro_rules | `(tactic| walk_at "pad") => `(tactic| fail "pad")
local macro_rules | `(tactic| walk_at "pad") => `(tactic| fail "pad")
local macro_rules | `(tactic| walk_at "pad") => `(tactic| fail "pad")
local macro_rules | `(tactic| walk_at "pad") => `(tactic| fail "pad")
local macro_rules | `(tactic| walk_at "pad") => `(tactic| fail "pad")
local macro_rules | `(tactic| walk_at "pad") => `(tactic| fail "pad")
local macro_rules | `(tactic| walk_at "pad") => `(tactic| fail "pad")
local macro_rules | `(tactic| walk_at "pad") => `(tactic| fail "pad")
local macro_rules | `(tactic| walk_at "pad") => `(tactic| fail "pad")
local macro_rules | `(tactic| walk_at "pad") => `(tactic| fail "pad")
local macro_rules | `(tactic| walk_at "pad") => `(tactic| fail "pad")
local macro_rules | `(tactic| walk_at "pad") => `(tactic| fail "pad")
local macro_rules | `(tactic| walk_at "pad") => `(tactic| fail "pad")
local macro_rules | `(tactic| walk_at "pad") => `(tactic| fail "pad")
local macro_rules | `(tactic| walk_at "pad") => `(tactic| fail "pad")
local macro_rules | `(tactic| walk_at "pad") => `(tactic| fail "pad")
local macro_rules | `(tactic| walk_at "pad") => `(tactic| fail "pad")
local macro_rules | `(tactic| walk_at "pad") => `(tactic| fail "pad")
local macro_rules | `(tactic| walk_at "pad") => `(tactic| fail "pad")
local macro_rules | `(tactic| walk_at "pad") => `(tactic| fail "pad")
local macro_rules | `(tactic| walk_at "pad") => `(tactic| fail "pad")
local macro_rules | `(tactic| walk_at "pad") => `(tactic| fail "pad")
local macro_rules | `(tactic| walk_at "pad") => `(tactic| fail "pad")
local macro_rules | `(tactic| walk_at "pad") => `(tactic| fail "pad")
local macro_rules | `(tactic| walk_at "pad") => `(tactic| fail "pad")
local macro_rules | `(tactic| walk_at "pad") => `(tactic| fail "pad")
local macro_rules | `(tactic| walk_at "pad") => `(tactic| fail "pad")
local macro_rules | `(tactic| walk_at "pad") => `(tactic| fail "pad")
local macro_rules | `(tactic| walk_at "pad") => `(tactic| fail "pad")
local macro_rules | `(tactic| walk_at "pad") => `(tactic| fail "pad")
local macro_rules | `(tactic| walk_at "pad") => `(tactic| fail "pad")
local macro_rules | `(tactic| walk_at "pad") => `(tactic| fail "pad")
local macro_rules | `(tactic| walk_at "pad") => `(tactic| fail "pad")
local macro_rules | `(tactic| walk_at "pad") => `(tactic| fail "pad")
local macro_rules | `(tactic| walk_at "pad") => `(tactic| fail "pad")
local macro_rules | `(tactic| walk_at "pad") => `(tactic| fail "pad")
local macro_rules | `(tactic| walk_at "pad") => `(tactic| fail "pad")
local macro_rules | `(tactic| walk_at "MPost") => `(tactic| (dsimp only [Mine.MPost]))
local macro_rules | `(tactic| walk_at "MLPost") => `(tactic| (dsimp only [Mine.MLPost]; (try with_reducible refine Mine.ml_ret ?_)))
local macro_rules | `(tactic| k_mem) => `(tactic| assumption)
local macro_rules | `(tactic| walk_at "call ref") => `(tactic| k_extra "call ref")
local macro_rules | `(tactic| walk_at "pyIter ref") => `(tactic| k_extra "pyIter ref")
local macro_rules | `(tactic| walk_at "CompSrcT") => `(tactic| k_extra "CompSrcT")
local macro_rules | `(tactic| walk_at "KCiEl") => `(tactic| k_extra "KCiEl")
local macro_rules | `(tactic| walk_at "KCiNo") => `(tactic| k_extra "KCiNo")
local macro_rules | `(tactic| walk_at "KPfGrows") => `(tactic| k_extra "KPfGrows")
local macro_rules | `(tactic| walk_at "CompEnd") => `(tactic| k_extra "CompEnd")
local macro_rules | `(tactic| walk_at "compareOp NotEq ref ref") => `(tactic| k_extra "compareOp NotEq ref ref")
local macro_rules | `(tactic| walk_at "compareOp Eq ref ref") => `(tactic| k_extra "compareOp Eq ref ref")
local macro_rules | `(tactic| k_all) => `(tactic| assumption)
local macro_rules | `(tactic| walk_at "call ref") => `(tactic| (k_here; k_dflt (refine' root_call ?k1 ?k2 ?k3 ?k4 ?k5 ?kK ?kd ?ku ?h0 ?h1 ?_; (case k1 => k_asm); (case k2 => k_asm); (case k3 => k_asm); (case k4 => k_asm); (case k5 => k_asm); (case kK => first | exact rfl | assumption); (case kd => ktr_room); (case ku => ktr_units); (case h0 => (first | assumption | omega | exact half_ge (by assumption))); (case h1 => (first | assumption | omega | exact half_le (by assumption))); k_extra "root_call 0")))
local macro_rules | `(tactic| walk_at "call ref") => `(tactic| (k_here; k_dflt (refine' gcd_call ?k1 ?k2 ?k3 ?k4 ?k5 ?kK ?kd ?ku  ?_; (case k1 => k_asm); (case k2 => k_asm); (case k3 => k_asm); (case k4 => k_asm); (case k5 => k_asm); (case kK => first | exact rfl | assumption); (case kd => ktr_room); (case ku => ktr_units);  k_extra "gcd_call 0")))

structure RatS where
  (a1 a2 : Addr)
  (r0 t0 r1 t1 : Int)
  (k1 k2 k3 k4 : Nat)

set_option maxRecDepth 100000 in
set_option maxHeartbeats 8000000 in
theorem rat_call {w : World} {loose : List Str} {mean : ExcName → Option Value} {mg mb : Str → Option Value}
    {dp un : Nat} {gd : Option (List Code)} {cn : Str} {cs : Scope} {a : Addr} {ccd : Value} {cl : List (Str × Addr)} {outer : List Env} {A₀ : Around} {base h₀ : Heap} {L : Addr} {m : Str → Option Value} {news : List (Addr × Obj)} {s : Shared}
    {Q E : Value → Shared → Prop}
    {x y : Int} {tx ty : Tok}
    (B : Below A₀ base outer h₀) (F : Fr h₀ L s.heap m) (X : (Mine.hd.heap_39 w.params).In h₀) (N : News h₀ L s.heap news) (T : Top Mine.hd.view_39 loose mean mg mb h₀) (hk : cs.kind = .function)
    (hd : dp + 2 < recursionLimit) (hu : un + 16 < cLine) (hy : 3 ≤ y) (hy1 : y ≤ 300)
    (hret2 : ∀ h' tk', Fr h₀ L h' m → News h₀ L h' news → ∀ N, NOf y N → NoRat x y N → Q .none { s with heap := h', toks := tk' })
    (hret : ∀ r t b k l h' tk', Fr h₀ L h' m → News h₀ L h' ((r, tup2 t b k l) :: news) → (∀ p ∈ news, p.1 < r) → ∀ N, NOf y N → RatOk x y N t b → Q (.ref r) { s with heap := h', toks := tk' }) :
    wpAny (model PySem.Challenge.rw_nn0247_01.row.prog w) (ktrTop dp un gd cn cs L a ccd cl outer) (call (.ref 70) [.int x tx, .int y ty]) Q E s := by
  w_top off
  have hh : (Mine.hd.heap_39 w.params).In h₀ → PySem.Challenge.rw_nn0247_01 = PySem.Challenge.rw_nn0247_01 := by k_fill; exact fun _ => rfl
  clear hh
  k_with_none
  refine wpAny_call ?_
  k_dflt ktr_enter
  k_with "root_call 0" => (intro bd tbd hb9 tkb9 Fb9 Nb9 hb1 hb2 hb3; have hN9 := nof_root hb1 hb2 hb3; (try dsimp only); (try with_reducible refine Mine.ml_strip ?_); (try k_fold))
  k_with "gcd_call 0" => (intro tg9 hg9 tkg9 Fg9 Ng9; (try dsimp only); (try with_reducible refine Mine.ml_strip ?_); (try k_fold))
  k_with "binaryOp FloorDiv int int" => (with_reducible refine floordiv_int (by omega) ?_ (Or.inl (PyProof.noPylong_small (by omega))))
  k_with "exec While Compare cons nil" => (k_here; (rename Fr _ _ _ _ => lF'); (rename News _ _ _ _ => lN'); (with_unfolding_all refine' m_while (σ := RatS) (fun c => (c.a1, tup2 c.r0 c.t0 c.k1 c.k2) :: (c.a2, tup2 c.r1 c.t1 c.k3 c.k4) :: news) (fun c => [("one", .ref c.a1), ("other", .ref c.a2)]) ["times"] (fun c => RatI x y bd c.r0 c.t0 c.r1 c.t1 ∧ (∀ p ∈ news, p.1 < c.a1) ∧ (∀ p ∈ news, p.1 < c.a2)) (fun c => c.r1.toNat) ⟨_, _, y, 0, x.fmod y, 1, _, _, _, _⟩ lF' ?kn ?kk ?kp ?_); (case kk => kst_all); (case kp => exact ⟨rat_start hy hy1 hN9, by (first | assumption | exact ktn_ltOf (by assumption) | exact ktn_ltOf (And.right (by assumption)) | exact ktn_ltOf (And.right (And.right (by assumption))) | exact ktn_ltOf (And.right (And.right (And.right (by assumption)))) | exact ktn_ltOf (And.right (And.right (And.right (And.right (by assumption))))) | exact ktn_ltOf (And.right (And.right (And.right (And.right (And.right (by assumption))))))), by (first | assumption | exact ktn_ltOf (by assumption) | exact ktn_ltOf (And.right (by assumption)) | exact ktn_ltOf (And.right (And.right (by assumption))) | exact ktn_ltOf (And.right (And.right (And.right (by assumption)))) | exact ktn_ltOf (And.right (And.right (And.right (And.right (by assumption))))) | exact ktn_ltOf (And.right (And.right (And.right (And.right (And.right (by assumption)))))))⟩); (case kn => exact kst_newsOf lN' (by kst_inAny)); clear lF' lN'; intro c u h9 tk9 hI9 F9 N9; (obtain ⟨a1, a2, r0, t0, r1, t1, k1, k2, k3, k4⟩ := c); (dsimp only [kstB] at hI9 F9 N9); (obtain ⟨hI9, hF8, hF7⟩ := hI9); have hb9 := RatI.b hI9; have n19 := RatI.n1 hI9; have lt9 := RatI.lt hI9; have le9 := RatI.le hI9; (obtain ⟨_, _, _, _⟩ := hb9); (try k_fold))
  k_steps
  · (rename News _ _ _ _ => nE'); (rename Fr _ _ _ _ => fE')
    (refine' m_end ⟨a2, _, r1, t1, r0 - r0.fdiv r1 * r1, t0 - r0.fdiv r1 * t1, _, _, _, _⟩ fE' nE' ?hn ?hk ?hr ?hp ?hm)
    (case hk => kst_all)
    (case hp => refine ⟨rat_turn hy1 hb1 hI9 (by assumption), by (first | assumption | exact ktn_ltOf (by assumption) | exact ktn_ltOf (And.right (by assumption)) | exact ktn_ltOf (And.right (And.right (by assumption))) | exact ktn_ltOf (And.right (And.right (And.right (by assumption)))) | exact ktn_ltOf (And.right (And.right (And.right (And.right (by assumption))))) | exact ktn_ltOf (And.right (And.right (And.right (And.right (And.right (by assumption))))))), by (first | assumption | exact ktn_ltOf (by assumption) | exact ktn_ltOf (And.right (by assumption)) | exact ktn_ltOf (And.right (And.right (by assumption))) | exact ktn_ltOf (And.right (And.right (And.right (by assumption)))) | exact ktn_ltOf (And.right (And.right (And.right (And.right (by assumption))))) | exact ktn_ltOf (And.right (And.right (And.right (And.right (And.right (by assumption)))))))⟩)
    (case hn => kst_in)
    (case hm => exact rat_meas (by omega))
    (case hr => ksw_same)
  · (rename News h₀ L _ _ => nE9); (rename Fr h₀ L _ _ => fE9); exact hret2 _ _ fE9 (cb_drop nE9 (by first | exact (fun p hp => by first | exact hp | exact .tail _ (hp) | exact .tail _ (.tail _ (hp)) | exact .tail _ (.tail _ (.tail _ (hp))) | exact .tail _ (.tail _ (.tail _ (.tail _ (hp)))) | exact .tail _ (.tail _ (.tail _ (.tail _ (.tail _ (hp)))))) | exact (List.forall_mem_cons.mpr ⟨by first | exact .head _ | exact .tail _ (.head _) | exact .tail _ (.tail _ (.head _)) | exact .tail _ (.tail _ (.tail _ (.head _))) | exact .tail _ (.tail _ (.tail _ (.tail _ (.head _)))) | exact .tail _ (.tail _ (.tail _ (.tail _ (.tail _ (.head _))))), (fun p hp => by first | exact hp | exact .tail _ (hp) | exact .tail _ (.tail _ (hp)) | exact .tail _ (.tail _ (.tail _ (hp))) | exact .tail _ (.tail _ (.tail _ (.tail _ (hp)))) | exact .tail _ (.tail _ (.tail _ (.tail _ (.tail _ (hp))))))⟩))) bd hN9 (rat_no1 (rat_last_pos hy hN9 hI9 (by assumption) (by assumption)) (by assumption))
  · have hp9 := RatF.p (rat_last_pos hy hN9 hI9 (by assumption) (by assumption))
    exfalso; omega
  · (rename News h₀ L _ _ => nE9); (rename Fr h₀ L _ _ => fE9); exact hret2 _ _ fE9 (cb_drop nE9 (by first | exact (fun p hp => by first | exact hp | exact .tail _ (hp) | exact .tail _ (.tail _ (hp)) | exact .tail _ (.tail _ (.tail _ (hp))) | exact .tail _ (.tail _ (.tail _ (.tail _ (hp)))) | exact .tail _ (.tail _ (.tail _ (.tail _ (.tail _ (hp)))))) | exact (List.forall_mem_cons.mpr ⟨by first | exact .head _ | exact .tail _ (.head _) | exact .tail _ (.tail _ (.head _)) | exact .tail _ (.tail _ (.tail _ (.head _))) | exact .tail _ (.tail _ (.tail _ (.tail _ (.head _)))) | exact .tail _ (.tail _ (.tail _ (.tail _ (.tail _ (.head _))))), (fun p hp => by first | exact hp | exact .tail _ (hp) | exact .tail _ (.tail _ (hp)) | exact .tail _ (.tail _ (.tail _ (hp))) | exact .tail _ (.tail _ (.tail _ (.tail _ (hp)))) | exact .tail _ (.tail _ (.tail _ (.tail _ (.tail _ (hp))))))⟩))) bd hN9 (rat_no2 (rat_last_pos hy hN9 hI9 (by assumption) (by assumption)) (by assumption))
  · (rename News h₀ L _ _ => nE9); (rename Fr h₀ L _ _ => fE9); exact hret2 _ _ fE9 (cb_drop nE9 (by first | exact (fun p hp => by first | exact hp | exact .tail _ (hp) | exact .tail _ (.tail _ (hp)) | exact .tail _ (.tail _ (.tail _ (hp))) | exact .tail _ (.tail _ (.tail _ (.tail _ (hp)))) | exact .tail _ (.tail _ (.tail _ (.tail _ (.tail _ (hp)))))) | exact (List.forall_mem_cons.mpr ⟨by first | exact .head _ | exact .tail _ (.head _) | exact .tail _ (.tail _ (.head _)) | exact .tail _ (.tail _ (.tail _ (.head _))) | exact .tail _ (.tail _ (.tail _ (.tail _ (.head _)))) | exact .tail _ (.tail _ (.tail _ (.tail _ (.tail _ (.head _))))), (fun p hp => by first | exact hp | exact .tail _ (hp) | exact .tail _ (.tail _ (hp)) | exact .tail _ (.tail _ (.tail _ (hp))) | exact .tail _ (.tail _ (.tail _ (.tail _ (hp)))) | exact .tail _ (.tail _ (.tail _ (.tail _ (.tail _ (hp))))))⟩))) bd hN9 (rat_no3 (rat_last_pos hy hN9 hI9 (by assumption) (by assumption)) (by assumption))
  · (rename News h₀ L _ _ => nE9); (rename Fr h₀ L _ _ => fE9); exact hret _ _ _ _ _ _ _ fE9 (cb_drop nE9 (by first | exact (fun p hp => by first | exact hp | exact .tail _ (hp) | exact .tail _ (.tail _ (hp)) | exact .tail _ (.tail _ (.tail _ (hp))) | exact .tail _ (.tail _ (.tail _ (.tail _ (hp)))) | exact .tail _ (.tail _ (.tail _ (.tail _ (.tail _ (hp)))))) | exact (List.forall_mem_cons.mpr ⟨by first | exact .head _ | exact .tail _ (.head _) | exact .tail _ (.tail _ (.head _)) | exact .tail _ (.tail _ (.tail _ (.head _))) | exact .tail _ (.tail _ (.tail _ (.tail _ (.head _)))) | exact .tail _ (.tail _ (.tail _ (.tail _ (.tail _ (.head _))))), (fun p hp => by first | exact hp | exact .tail _ (hp) | exact .tail _ (.tail _ (hp)) | exact .tail _ (.tail _ (.tail _ (hp))) | exact .tail _ (.tail _ (.tail _ (.tail _ (hp)))) | exact .tail _ (.tail _ (.tail _ (.tail _ (.tail _ (hp))))))⟩))) (by (first | assumption | exact ktn_ltOf (by assumption) | exact ktn_ltOf (And.right (by assumption)) | exact ktn_ltOf (And.right (And.right (by assumption))) | exact ktn_ltOf (And.right (And.right (And.right (by assumption)))) | exact ktn_ltOf (And.right (And.right (And.right (And.right (by assumption))))) | exact ktn_ltOf (And.right (And.right (And.right (And.right (And.right (by assumption)))))))) bd hN9 (rat_some (rat_last_pos hy hN9 hI9 (by assumption) (by assumption)) (by assumption) (by assumption) (by assumption))
  · (rename News h₀ L _ _ => nE9); (rename Fr h₀ L _ _ => fE9); exact hret2 _ _ fE9 (cb_drop nE9 (by first | exact (fun p hp => by first | exact hp | exact .tail _ (hp) | exact .tail _ (.tail _ (hp)) | exact .tail _ (.tail _ (.tail _ (hp))) | exact .tail _ (.tail _ (.tail _ (.tail _ (hp)))) | exact .tail _ (.tail _ (.tail _ (.tail _ (.tail _ (hp)))))) | exact (List.forall_mem_cons.mpr ⟨by first | exact .head _ | exact .tail _ (.head _) | exact .tail _ (.tail _ (.head _)) | exact .tail _ (.tail _ (.tail _ (.head _))) | exact .tail _ (.tail _ (.tail _ (.tail _ (.head _)))) | exact .tail _ (.tail _ (.tail _ (.tail _ (.tail _ (.head _))))), (fun p hp => by first | exact hp | exact .tail _ (hp) | exact .tail _ (.tail _ (hp)) | exact .tail _ (.tail _ (.tail _ (hp))) | exact .tail _ (.tail _ (.tail _ (.tail _ (hp)))) | exact .tail _ (.tail _ (.tail _ (.tail _ (.tail _ (hp))))))⟩))) bd hN9 (rat_no1 (rat_last_neg hy hN9 hI9 (by assumption) (by assumption)) (by assumption))
  · have hp9 := RatF.p (rat_last_neg hy hN9 hI9 (by assumption) (by assumption))
    exfalso; omega
  · (rename News h₀ L _ _ => nE9); (rename Fr h₀ L _ _ => fE9); exact hret2 _ _ fE9 (cb_drop nE9 (by first | exact (fun p hp => by first | exact hp | exact .tail _ (hp) | exact .tail _ (.tail _ (hp)) | exact .tail _ (.tail _ (.tail _ (hp))) | exact .tail _ (.tail _ (.tail _ (.tail _ (hp)))) | exact .tail _ (.tail _ (.tail _ (.tail _ (.tail _ (hp)))))) | exact (List.forall_mem_cons.mpr ⟨by first | exact .head _ | exact .tail _ (.head _) | exact .tail _ (.tail _ (.head _)) | exact .tail _ (.tail _ (.tail _ (.head _))) | exact .tail _ (.tail _ (.tail _ (.tail _ (.head _)))) | exact .tail _ (.tail _ (.tail _ (.tail _ (.tail _ (.head _))))), (fun p hp => by first | exact hp | exact .tail _ (hp) | exact .tail _ (.tail _ (hp)) | exact .tail _ (.tail _ (.tail _ (hp))) | exact .tail _ (.tail _ (.tail _ (.tail _ (hp)))) | exact .tail _ (.tail _ (.tail _ (.tail _ (.tail _ (hp))))))⟩))) bd hN9 (rat_no2 (rat_last_neg hy hN9 hI9 (by assumption) (by assumption)) (by assumption))
  · (rename News h₀ L _ _ => nE9); (rename Fr h₀ L _ _ => fE9); exact hret2 _ _ fE9 (cb_drop nE9 (by first | exact (fun p hp => by first | exact hp | exact .tail _ (hp) | exact .tail _ (.tail _ (hp)) | exact .tail _ (.tail _ (.tail _ (hp))) | exact .tail _ (.tail _ (.tail _ (.tail _ (hp)))) | exact .tail _ (.tail _ (.tail _ (.tail _ (.tail _ (hp)))))) | exact (List.forall_mem_cons.mpr ⟨by first | exact .head _ | exact .tail _ (.head _) | exact .tail _ (.tail _ (.head _)) | exact .tail _ (.tail _ (.tail _ (.head _))) | exact .tail _ (.tail _ (.tail _ (.tail _ (.head _)))) | exact .tail _ (.tail _ (.tail _ (.tail _ (.tail _ (.head _))))), (fun p hp => by first | exact hp | exact .tail _ (hp) | exact .tail _ (.tail _ (hp)) | exact .tail _ (.tail _ (.tail _ (hp))) | exact .tail _ (.tail _ (.tail _ (.tail _ (hp)))) | exact .tail _ (.tail _ (.tail _ (.tail _ (.tail _ (hp))))))⟩))) bd hN9 (rat_no3 (rat_last_neg hy hN9 hI9 (by assumption) (by assumption)) (by assumption))
  · (rename News h₀ L _ _ => nE9); (rename Fr h₀ L _ _ => fE9); exact hret _ _ _ _ _ _ _ fE9 (cb_drop nE9 (by first | exact (fun p hp => by first | exact hp | exact .tail _ (hp) | exact .tail _ (.tail _ (hp)) | exact .tail _ (.tail _ (.tail _ (hp))) | exact .tail _ (.tail _ (.tail _ (.tail _ (hp)))) | exact .tail _ (.tail _ (.tail _ (.tail _ (.tail _ (hp)))))) | exact (List.forall_mem_cons.mpr ⟨by first | exact .head _ | exact .tail _ (.head _) | exact .tail _ (.tail _ (.head _)) | exact .tail _ (.tail _ (.tail _ (.head _))) | exact .tail _ (.tail _ (.tail _ (.tail _ (.head _)))) | exact .tail _ (.tail _ (.tail _ (.tail _ (.tail _ (.head _))))), (fun p hp => by first | exact hp | exact .tail _ (hp) | exact .tail _ (.tail _ (hp)) | exact .tail _ (.tail _ (.tail _ (hp))) | exact .tail _ (.tail _ (.tail _ (.tail _ (hp)))) | exact .tail _ (.tail _ (.tail _ (.tail _ (.tail _ (hp))))))⟩))) (by (first | assumption | exact ktn_ltOf (by assumption) | exact ktn_ltOf (And.right (by assumption)) | exact ktn_ltOf (And.right (And.right (by assumption))) | exact ktn_ltOf (And.right (And.right (And.right (by assumption)))) | exact ktn_ltOf (And.right (And.right (And.right (And.right (by assumption))))) | exact ktn_ltOf (And.right (And.right (And.right (And.right (And.right (by assumption)))))))) bd hN9 (rat_some (rat_last_neg hy hN9 hI9 (by assumption) (by assumption)) (by assumption) (by assumption) (by assumption))

end Mine
end
section
open PySem PySem.W PyProof.Rows
namespace Mine
local macro_rules | `(tactic| walk_at "pad") => `(tactic| fail "pad")
local macro_rules | `(tactic| walk_at "pad") => `(tactic| fail "pad")
local macro_rules | `(tactic| walk_at "pad") => `(tactic| fail "pad")
local macro_rules | `(tactic| walk_at "pad") => `(tactic| fail "pad")
local macro_rules | `(tactic| walk_at "pad") => `(tactic| fail "pad")
local macro_rules | `(tactic| walk_at "pad") => `(tactic| fail "pad")
local macro_rules | `(tactic| walk_at "pad") => `(tactic| fail "pad")
local macro_rules | `(tactic| walk_at "pad") => `(tactic| fail "pad")
local macro_rules | `(tactic| walk_at "pad") => `(tactic| fail "pad")
local macro_rules | `(tactic| walk_at "pad") => `(tactic| fail "pad")
local macro_rules | `(tactic| walk_at "pad") => `(tactic| fail "pad")
local macro_rules | `(tactic| walk_at "pad") => `(tactic| fail "pad")
local macro_rules | `(tactic| walk_at "pad") => `(tactic| fail "pad")
local macro_rules | `(tactic| walk_at "pad") => `(tactic| fail "pad")
local macro_rules | `(tactic| walk_at "pad") => `(tactic| fail "pad")
local macro_rules | `(tactic| walk_at "pad") => `(tactic| fail "pad")
local macro_rules | `(tactic| walk_at "pad") => `(tactic| fail "pad")
local macro_rules | `(tactic| walk_at "pad") => `(tactic| fail "pad")
local macro_rules | `(tactic| walk_at "pad") => `(tactic| fail "pad")
local macro_rules | `(tactic| walk_at "pad") => `(tactic| fail "pad")
local macro_rules | `(tactic| walk_at "pad") => `(tactic| fail "pad")
local macro_rules | `(tactic| walk_at "pad") => `(tactic| fail "pad")
local macro_rules | `(tactic| walk_at "pad") => `(tactic| fail "pad")
local macro_rules | `(tactic| walk_at "pad") => `(tactic| fail "pad")
local macro_rules | `(tactic| walk_at "pad") => `(tactic| fail "pad")
local macro_rules | `(tactic| walk_at "pad") => `(tactic| fail "pad")
local macro_rules | `(tactic| walk_at "pad") => `(tactic| fail "pad")
local macro_rules | `(tactic| walk_at "pad") => `(tactic| fail "pad")
local macro_rules | `(tactic| walk_at "pad") => `(tactic| fail "pad")
local macro_rules | `(tactic| walk_at "pad") => `(tactic| fail "pad")
local macro_rules | `(tactic| walk_at "pad") => `(tactic| fail "pad")
local macro_rules | `(tactic| walk_at "pad") => `(tactic| fail "pad")
local macro_rules | `(tactic| walk_at "pad") => `(tactic| fail "pad")
local macro_rules | `(tactic| walk_at "pad") => `(tactic| fail "pad")
local macro_rules | `(tactic| walk_at "pad") => `(tactic| fail "pad")
local macro_rules | `(tactic| walk_at "pad") => `(tactic| fail "pad")
local macro_rules | `(tactic| walk_at "pad") => `(tactic| fail "pad")
local macro_rules | `(tactic| walk_at "pad") => `(tactic| fail "pad")
local macro_rules | `(tactic| walk_at "pad") => `(tactic| fail "pad")
local macro_rules | `(tactic| walk_at "pad") => `(tactic| fail "pad")
local macro_rules | `(tactic| walk_at "pad") => `(tactic| fail "pad")
local macro_rules | `(tactic| walk_at "pad") => `(tactic| fail "pad")
local macro_rules | `(tactic| walk_at "pad") => `(tactic| fail "pad")
local macro_rules | `(tactic| walk_at "pad") => `(tactic| fail "pad")
local macro_rules | `(tactic| walk_at "pad") => `(tactic| fail "pad")
local macro_rules | `(tactic| walk_at "MPost") => `(tactic| (dsimp only [Mine.MPost]))
local macro_rules | `(tactic| walk_at "MLPost") => `(tactic| (dsimp only [Mine.MLPost]; (try with_reducible refine Mine.ml_ret ?_)))
local macro_rules | `(tactic| k_mem) => `(tactic| assumption)
local macro_rules | `(tactic| walk_at "call ref") => `(tactic| k_extra "call ref")
local macro_rules | `(tactic| walk_at "pyIter ref") => `(tactic| k_extra "pyIter ref")
local macro_rules | `(tactic| walk_at "CompSrcT") => `(tactic| k_extra "CompSrcT")
local macro_rules | `(tactic| walk_at "KCiEl") => `(tactic| k_extra "KCiEl")
local macro_rules | `(tactic| walk_at "KCiNo") => `(tactic| k_extra "KCiNo")
local macro_rules | `(tactic| walk_at "KPfGrows") => `(tactic| k_extra "KPfGrows")
local macro_rules | `(tactic| walk_at "CompEnd") => `(tactic| k_extra "CompEnd")
local macro_rules | `(tactic| walk_at "compareOp NotEq ref ref") => `(tactic| k_extra "compareOp NotEq ref ref")
local macro_rules | `(tactic| walk_at "compareOp Eq ref ref") => `(tactic| k_extra "compareOp Eq ref ref")
local macro_rules | `(tactic| k_all) => `(tactic| assumption)

set_option maxRecDepth 100000 in
set_option maxHeartbeats 8000000 in
theorem shares_call {w : World} {loose : List Str} {mean : ExcName → Option Value} {mg mb : Str → Option Value}
    {dp un : Nat} {gd : Option (List Code)} {cn : Str} {cs : Scope} {a : Addr} {ccd : Value} {cl : List (Str × Addr)} {outer : List Env} {A₀ : Around} {base h₀ : Heap} {L : Addr} {m : Str → Option Value} {news : List (Addr × Obj)} {s : Shared}
    {Q E : Value → Shared → Prop}
    {x y : Int} {tx ty : Tok}
    (B : Below A₀ base outer h₀) (F : Fr h₀ L s.heap m) (X : (Mine.hd.heap_39 w.params).In h₀) (N : News h₀ L s.heap news) (T : Top Mine.hd.view_39 loose mean mg mb h₀) (hk : cs.kind = .function)
    (hd : dp + 1 < recursionLimit) (hu : un + 200 < cLine) (hx : -1000 ≤ x) (hx1 : x ≤ 1000) (hy : 1 ≤ y) (hy1 : y ≤ 1000)
    (hret : ∀ v h' tk', Fr h₀ L h' m → News h₀ L h' news → (v = true ↔ Int.gcd x y ≠ 1) → Q (.bool v) { s with heap := h', toks := tk' }) :
    wpAny (model PySem.Challenge.rw_nn0247_01.row.prog w) (ktrTop dp un gd cn cs L a ccd cl outer) (call (.ref 97) [.int x tx, .int y ty]) Q E s := by
  w_top off
  have hh : (Mine.hd.heap_39 w.params).In h₀ → PySem.Challenge.rw_nn0247_01 = PySem.Challenge.rw_nn0247_01 := by k_fill; exact fun _ => rfl
  clear hh
  k_with_none
  refine wpAny_call ?_
  k_dflt (refine' code_defC ?k1 ?k2 ?k3 ?k4 ?k5 ?kA ?kF ?kK ?k6 ?k7 ?k8 ?k9 ?kB ?kD ?_ ?c2 ?c3 ?c4; (case kA => exact rfl); (case kF => exact rfl); (case kK => assumption); (case k1 => k_asm); (case k2 => k_asm); (case k3 => k_asm); (case k4 => k_asm); (case k5 => k_asm); (case k6 => k_is); (case k7 => k_is); (case k8 => ktr_room); (case k9 => exact BindsTo.of_eq rfl); (case kB => exact rfl); (case kD => decide +kernel); (case c2 => exact rfl); (case c3 => exact rfl); (case c4 => exact rfl); k_whole; intro g' L' h' tk' cells' FG' F' N' Y' B' X' T' l1; (try k_lt l1); k_cells Y'; (try simp only [List.cons_append, List.nil_append] at N'); (try dsimp only); (try k_fold))
  k_with "CompSrcT" => (k_here; k_dflt ((refine LCt.CompSrcT.range (by rfl) (by k_asm) (by k_asm) (by assumption) (by first | decide | exact small_one (by l_bnd) (by l_bnd) (by l_bnd) (by l_bnd)) (by first | exact rangeSize_nat _ _ | rfl) (by first | exact Nat.le_of_ble_eq_true rfl | (rw [PySem.sizeLine_eq]; omega) | size_fits) ?_); intro g9; (refine' kci_range (fun l k => if x.fmod k = 0 ∧ y.fmod k = 0 then l ++ [k] else l) (fun k9 t9 I9 oI9 C9 oC9 D9 m9 ys9 l9 h9 tk9 E9 hlo9 hhi9 hI9 hC9 hx9 F9 N9 off9 ne9 => ?_) ?_ ?_); (all_goals (try ((show KPfMark → _); intro hMark9))); (all_goals (try k_fold))))
  k_with "KCiEl" => exact kci_el (if_pos (by first | assumption | exact ⟨by assumption, by assumption⟩)).symm.symm (by with_unfolding_all rfl) (by with_unfolding_all rfl)
  k_with "KCiNo" => exact kci_no (if_neg (by first | assumption | (intro hc9; first | exact absurd hc9.1 (by assumption) | exact absurd hc9.2 (by assumption)))) (by with_unfolding_all rfl)
  k_with "KPfGrows" => exact grows_if _
  k_with "CompEnd" => ((with_unfolding_all refine LCg.CompEnd.intro (by assumption) (by assumption) _ (fun p hp => hp) off9 True.intro ?_); (try dsimp only))
  k_with "compareOp NotEq ref ref" => (with_unfolding_all refine' ne_intsK ?kc1 ?kc2 ?kc3 ?kc4 ?kc5 ?_; (case kc1 => is_list); (case kc2 => (first | assumption | exact IntsAre.nil)); (case kc3 => is_list); (case kc4 => (first | assumption | exact IntsAre.nil)); (case kc5 => ktr_units))
  k_with "compareOp Eq ref ref" => (with_unfolding_all refine' eq_intsK ?kc1 ?kc2 ?kc3 ?kc4 ?kc5 ?_; (case kc1 => is_list); (case kc2 => (first | assumption | exact IntsAre.nil)); (case kc3 => is_list); (case kc4 => (first | assumption | exact IntsAre.nil)); (case kc5 => ktr_units))
  k_steps
  · (rename News h₀ L _ _ => nE9); (rename Fr h₀ L _ _ => fE9); exact hret _ _ _ fE9 (cb_drop nE9 (by first | exact (fun p hp => by first | exact hp | exact .tail _ (hp) | exact .tail _ (.tail _ (hp)) | exact .tail _ (.tail _ (.tail _ (hp))) | exact .tail _ (.tail _ (.tail _ (.tail _ (hp)))) | exact .tail _ (.tail _ (.tail _ (.tail _ (.tail _ (hp)))))) | exact (List.forall_mem_cons.mpr ⟨by first | exact .head _ | exact .tail _ (.head _) | exact .tail _ (.tail _ (.head _)) | exact .tail _ (.tail _ (.tail _ (.head _))) | exact .tail _ (.tail _ (.tail _ (.tail _ (.head _)))) | exact .tail _ (.tail _ (.tail _ (.tail _ (.tail _ (.head _))))), (fun p hp => by first | exact hp | exact .tail _ (hp) | exact .tail _ (.tail _ (hp)) | exact .tail _ (.tail _ (.tail _ (hp))) | exact .tail _ (.tail _ (.tail _ (.tail _ (hp)))) | exact .tail _ (.tail _ (.tail _ (.tail _ (.tail _ (hp))))))⟩))) (shares_zero hy (by assumption))
  · (rename News h₀ L _ _ => nE9); (rename Fr h₀ L _ _ => fE9); exact hret _ _ _ fE9 (cb_drop nE9 (by first | exact (fun p hp => by first | exact hp | exact .tail _ (hp) | exact .tail _ (.tail _ (hp)) | exact .tail _ (.tail _ (.tail _ (hp))) | exact .tail _ (.tail _ (.tail _ (.tail _ (hp)))) | exact .tail _ (.tail _ (.tail _ (.tail _ (.tail _ (hp)))))) | exact (List.forall_mem_cons.mpr ⟨by first | exact .head _ | exact .tail _ (.head _) | exact .tail _ (.tail _ (.head _)) | exact .tail _ (.tail _ (.tail _ (.head _))) | exact .tail _ (.tail _ (.tail _ (.tail _ (.head _)))) | exact .tail _ (.tail _ (.tail _ (.tail _ (.tail _ (.head _))))), (fun p hp => by first | exact hp | exact .tail _ (hp) | exact .tail _ (.tail _ (hp)) | exact .tail _ (.tail _ (.tail _ (hp))) | exact .tail _ (.tail _ (.tail _ (.tail _ (hp)))) | exact .tail _ (.tail _ (.tail _ (.tail _ (.tail _ (hp))))))⟩))) (shares_one hy (by assumption) (by assumption))
  · (rename News h₀ L _ _ => nE9); (rename Fr h₀ L _ _ => fE9); exact hret _ _ _ fE9 (cb_drop nE9 (by first | exact (fun p hp => by first | exact hp | exact .tail _ (hp) | exact .tail _ (.tail _ (hp)) | exact .tail _ (.tail _ (.tail _ (hp))) | exact .tail _ (.tail _ (.tail _ (.tail _ (hp)))) | exact .tail _ (.tail _ (.tail _ (.tail _ (.tail _ (hp)))))) | exact (List.forall_mem_cons.mpr ⟨by first | exact .head _ | exact .tail _ (.head _) | exact .tail _ (.tail _ (.head _)) | exact .tail _ (.tail _ (.tail _ (.head _))) | exact .tail _ (.tail _ (.tail _ (.tail _ (.head _)))) | exact .tail _ (.tail _ (.tail _ (.tail _ (.tail _ (.head _))))), (fun p hp => by first | exact hp | exact .tail _ (hp) | exact .tail _ (.tail _ (hp)) | exact .tail _ (.tail _ (.tail _ (hp))) | exact .tail _ (.tail _ (.tail _ (.tail _ (hp)))) | exact .tail _ (.tail _ (.tail _ (.tail _ (.tail _ (hp))))))⟩))) (shares_two hy (by assumption))

end Mine
end
section
open PySem PySem.W PyProof.Rows
namespace Mine
local macro_rules | `(tactic| walk_at "pad") => `(tactic| fail "pad")
local macro_rules | `(tactic| walk_at "pad") => `(tactic| fail "pad")
local macro_rules | `(tactic| walk_at "pad") => `(tactic| fail "pad")
local macro_rules | `(tactic| walk_at "pad") => `(tactic| fail "pad")
local macro_rules | `(tactic| walk_at "pad") => `(tactic| fail "pad")
local macro_rules | `(tactic| walk_at "pad") => `(tactic| fail "pad")
local macro_rules | `(tactic| walk_at "pad") => `(tactic| fail "pad")
local macro_rules | `(tactic| walk_at "pad") => `(tactic| fail "pad")
local macro_rules | `(tactic| walk_at "pad") => `(tactic| fail "pad")
local macro_rules | `(tactic| walk_at "pad") => `(tactic| fail "pad")
local macro_rules | `(tactic| walk_at "pad") => `(tactic| fail "pad")
local macro_rules | `(tactic| walk_at "pad") => `(tactic| fail "pad")
local macro_rules | `(tactic| walk_at "pad") => `(tactic| fail "pad")
local macro_rules | `(tactic| walk_at "pad") => `(tactic| fail "pad")
local macro_rules | `(tactic| walk_at "pad") => `(tactic| fail "pad")
local macro_rules | `(tactic| walk_at "pad") => `(tactic| fail "pad")
local macro_rules | `(tactic| walk_at "pad") => `(tactic| fail "pad")
local macro_rules | `(tactic| walk_at "pad") => `(tactic| fail "pad")
local macro_rules | `(tactic| walk_at "pad") => `(tactic| fail "pad")
local macro_rules | `(tactic| walk_at "pad") => `(tactic| fail "pad")
local macro_rules | `(tactic| walk_at "pad") => `(tactic| fail "pad")
local macro_rules | `(tactic| walk_at "pad") => `(tactic| fail "pad")
local macro_rules | `(tactic| walk_at "pad") => `(tactic| fail "pad")
local macro_rules | `(tactic| walk_at "pad") => `(tactic| fail "pad")
local macro_rules | `(tactic| walk_at "pad") => `(tactic| fail "pad")
local macro_rules | `(tactic| walk_at "pad") => `(tactic| fail "pad")
local macro_rules | `(tactic| walk_at "pad") => `(tactic| fail "pad")
local macro_rules | `(tactic| walk_at "pad") => `(tactic| fail "pad")
local macro_rules | `(tactic| walk_at "pad") => `(tactic| fail "pad")
local macro_rules | `(tactic| walk_at "pad") => `(tactic| fail "pad")
local macro_rules | `(tactic| walk_at "pad") => `(tactic| fail "pad")
local macro_rules | `(tactic| walk_at "pad") => `(tactic| fail "pad")
local macro_rules | `(tactic| walk_at "pad") => `(tactic| fail "pad")
local macro_rules | `(tactic| walk_at "pad") => `(tactic| fail "pad")
local macro_rules | `(tactic| walk_at "pad") => `(tactic| fail "pad")
local macro_rules | `(tactic| walk_at "pad") => `(tactic| fail "pad")
local macro_rules | `(tactic| walk_at "pad") => `(tactic| fail "pad")
local macro_rules | `(tactic| walk_at "pad") => `(tactic| fail "pad")
local macro_rules | `(tactic| walk_at "pad") => `(tactic| fail "pad")
local macro_rules | `(tactic| walk_at "pad") => `(tactic| fail "pad")
local macro_rules | `(tactic| walk_at "pad") => `(tactic| fail "pad")
local macro_rules | `(tactic| walk_at "pad") => `(tactic| fail "pad")
local macro_rules | `(tactic| walk_at "pad") => `(tactic| fail "pad")
local macro_rules | `(tactic| walk_at "pad") => `(tactic| fail "pad")
local macro_rules | `(tactic| walk_at "pad") => `(tactic| fail "pad")
local macro_rules | `(tactic| walk_at "pad") => `(tactic| fail "pad")
local macro_rules | `(tactic| walk_at "MPost") => `(tactic| (dsimp only [Mine.MPost]))
local macro_rules | `(tactic| walk_at "MLPost") => `(tactic| (dsimp only [Mine.MLPost]; (try with_reducible refine Mine.ml_ret ?_)))
local macro_rules | `(tactic| k_mem) => `(tactic| assumption)
local macro_rules | `(tactic| walk_at "call ref") => `(tactic| k_extra "call ref")
local macro_rules | `(tactic| walk_at "pyIter ref") => `(tactic| k_extra "pyIter ref")
local macro_rules | `(tactic| walk_at "CompSrcT") => `(tactic| k_extra "CompSrcT")
local macro_rules | `(tactic| walk_at "KCiEl") => `(tactic| k_extra "KCiEl")
local macro_rules | `(tactic| walk_at "KCiNo") => `(tactic| k_extra "KCiNo")
local macro_rules | `(tactic| walk_at "KPfGrows") => `(tactic| k_extra "KPfGrows")
local macro_rules | `(tactic| walk_at "CompEnd") => `(tactic| k_extra "CompEnd")
local macro_rules | `(tactic| walk_at "compareOp NotEq ref ref") => `(tactic| k_extra "compareOp NotEq ref ref")
local macro_rules | `(tactic| walk_at "compareOp Eq ref ref") => `(tactic| k_extra "compareOp Eq ref ref")
local macro_rules | `(tactic| k_all) => `(tactic| assumption)

abbrev boxO (nl : Addr) (k c : Int) (tk tc : Tok) (e : Nat) : Obj := listOf [Value.ref nl, Value.int k tk, Value.int c tc].toArray e

set_option maxRecDepth 100000 in
set_option maxHeartbeats 8000000 in
theorem take_call {w : World} {loose : List Str} {mean : ExcName → Option Value} {mg mb : Str → Option Value}
    {dp un : Nat} {gd : Option (List Code)} {cn : Str} {cs : Scope} {a : Addr} {ccd : Value} {cl : List (Str × Addr)} {outer : List Env} {A₀ : Around} {base h₀ : Heap} {L : Addr} {m : Str → Option Value} {news : List (Addr × Obj)} {s : Shared}
    {Q E : Value → Shared → Prop}
    {b nl : Addr} {vs : List Value} {ns : List Int} {k c y : Int} {tk tc ty : Tok} {e1 e2 : Nat}
    (B : Below A₀ base outer h₀) (F : Fr h₀ L s.heap m) (X : (Mine.hd.heap_39 w.params).In h₀) (N : News h₀ L s.heap ((b, boxO nl k c tk tc e1) :: (nl, listOf vs.toArray e2) :: news)) (hob : ∀ p ∈ news, p.1 ≠ b) (hon : @Ne Nat nl b) (T : Top Mine.hd.view_39 loose mean mg mb h₀) (hk : cs.kind = .function)
    (hd : dp + 1 < recursionLimit) (hu : un + 8 < cLine) (hi : IntsAre vs ns) (hk0 : 0 ≤ k) (hk1 : k ≤ 100) (hc : 0 ≤ c) (hc1 : c < 89) (hy : 1 ≤ y) (hy1 : y ≤ 600) (hl : ns.length ≤ 24)
    (hret : ∀ v t tk1 tc1 h' tk', Fr h₀ L h' m → News h₀ L h' ((b, boxO nl (k + 1) c tk1 tc1 e1) :: (nl, listOf vs.toArray e2) :: news) → 0 ≤ v → v < y → Q (.int v t) { s with heap := h', toks := tk' }) :
    wpAny (model PySem.Challenge.rw_nn0247_01.row.prog w) (ktrTop dp un gd cn cs L a ccd cl outer) (call (.ref 82) [.ref b, .int y ty]) Q E s := by
  w_top off
  have hh : (Mine.hd.heap_39 w.params).In h₀ → PySem.Challenge.rw_nn0247_01 = PySem.Challenge.rw_nn0247_01 := by k_fill; exact fun _ => rfl
  clear hh
  k_with_none
  refine wpAny_call ?_
  k_dflt ktr_enter
  k_steps
  all_goals ((rename News h₀ L _ _ => nE9); (rename Fr h₀ L _ _ => fE9); exact hret _ _ _ _ _ _ fE9 nE9 (Int.fmod_nonneg_of_pos _ (by omega)) (Int.fmod_lt_of_pos _ (by omega)))

end Mine
end
section
open PySem PySem.W PyProof.Rows
namespace Mine
local macro_rules | `(tactic| walk_at "pad") => `(tactic| fail "pad")
local macro_rules | `(tactic| walk_at "pad") => `(tactic| fail "pad")
local macro_rules | `(tactic| walk_at "pad") => `(tactic| fail "pad")
local macro_rules | `(tactic| walk_at "pad") => `(tactic| fail "pad")
local macro_rules | `(tactic| walk_at "pad") => `(tactic| fail "pad")
local macro_rules | `(tactic| walk_at "pad") => `(tactic| fail "pad")
local macro_rules | `(tactic| walk_at "pad") => `(tactic| fail "pad")
local macro_rules | `(tactic| walk_at "pad") => `(tactic| fail "pad")
local macro_rules | `(tactic| walk_at "pad") => `(tactic| fail "pad")
local macro_rules | `(tactic| walk_at "pad") => `(tactic| fail "pad")
local macro_rules | `(tactic| walk_at "pad") => `(tactic| fail "pad")
local macro_rules | `(tactic| walk_at "pad") => `(tactic| fail "pad")
local macro_rules | `(tactic| walk_at "pad") => `(tactic| fail "pad")
local macro_rules | `(tactic| walk_at "pad") => `(tactic| fail "pad")
local macro_rules | `(tactic| walk_at "pad") => `(tactic| fail "pad")
local macro_rules | `(tactic| walk_at "pad") => `(tactic| fail "pad")
local macro_rules | `(tactic| walk_at "pad") => `(tactic| fail "pad")
local macro_rules | `(tactic| walk_at "pad") => `(tactic| fail "pad")
local macro_rules | `(tactic| walk_at "pad") => `(tactic| fail "pad")
local macro_rules | `(tactic| walk_at "pad") => `(tactic| fail "pad")
local macro_rules | `(tactic| walk_at "pad") => `(tactic| fail "pad")
local macro_rules | `(tactic| walk_at "pad") => `(tactic| fail "pad")
local macro_rules | `(tactic| walk_at "pad") => `(tactic| fail "pad")
local macro_rules | `(tactic| walk_at "pad") => `(tactic| fail "pad")
local macro_rules | `(tactic| walk_at "pad") => `(tactic| fail "pad")
local macro_rules | `(tactic| walk_at "pad") => `(tactic| fail "pad")
local macro_rules | `(tactic| walk_at "pad") => `(tactic| fail "pad")
local macro_rules | `(tactic| walk_at "pad") => `(tactic| fail "pad")
local macro_rules | `(tactic| walk_at "pad") => `(tactic| fail "pad")
local macro_rules | `(tactic| walk_at "pad") => `(tactic| fail "pad")
local macro_rules | `(tactic| walk_at "pad") => `(tactic| fail "pad")
local macro_rules | `(tactic| walk_at "pad") => `(tactic| fail "pad")
local macro_rules | `(tactic| walk_at "pad") => `(tactic| fail "pad")
local macro_rules | `(tactic| walk_at "pad") => `(tactic| fail "pad")
local macro_rules | `(tactic| walk_at "pad") => `(tactic| fail "pad")
local macro_rules | `(tactic| walk_at "pad") => `(tactic| fail "pad")
local macro_rules | `(tactic| walk_at "pad") => `(tactic| fail "pad")
local macro_rules | `(tactic| walk_at "pad") => `(tactic| fail "pad")
local macro_rules | `(tactic| walk_at "pad") => `(tactic| fail "pad")
local macro_rules | `(tactic| walk_at "pad") => `(tactic| fail "pad")
local macro_rules | `(tactic| walk_at "pad") => `(tactic| fail "pad")
local macro_rules | `(tactic| walk_at "pad") => `(tactic| fail "pad")
local macro_rules | `(tactic| walk_at "pad") => `(tactic| fail "pad")
local macro_rules | `(tactic| walk_at "pad") => `(tactic| fail "pad")
local macro_rules | `(tactic| walk_at "pad") => `(tactic| fail "pad")
local macro_rules | `(tactic| walk_at "MPost") => `(tactic| (dsimp only [Mine.MPost]))
local macro_rules | `(tactic| walk_at "MLPost") => `(tactic| (dsimp only [Mine.MLPost]; (try with_reducible refine Mine.ml_ret ?_)))
local macro_rules | `(tactic| k_mem) => `(tactic| assumption)
local macro_rules | `(tactic| walk_at "call ref") => `(tactic| k_extra "call ref")
local macro_rules | `(tactic| walk_at "pyIter ref") => `(tactic| k_extra "pyIter ref")
local macro_rules | `(tactic| walk_at "CompSrcT") => `(tactic| k_extra "CompSrcT")
local macro_rules | `(tactic| walk_at "KCiEl") => `(tactic| k_extra "KCiEl")
local macro_rules | `(tactic| walk_at "KCiNo") => `(tactic| k_extra "KCiNo")
local macro_rules | `(tactic| walk_at "KPfGrows") => `(tactic| k_extra "KPfGrows")
local macro_rules | `(tactic| walk_at "CompEnd") => `(tactic| k_extra "CompEnd")
local macro_rules | `(tactic| walk_at "compareOp NotEq ref ref") => `(tactic| k_extra "compareOp NotEq ref ref")
local macro_rules | `(tactic| walk_at "compareOp Eq ref ref") => `(tactic| k_extra "compareOp Eq ref ref")
local macro_rules | `(tactic| k_all) => `(tactic| assumption)
local macro_rules | `(tactic| walk_at "exec For Name Call cons nil") => `(tactic| k_extra "exec For Name Call cons nil")
local macro_rules | `(tactic| walk_at "call ref") => `(tactic| (k_here; k_dflt (refine' shares_call ?k1 ?k2 ?k3 ?k4 ?k5 ?kK ?kd ?ku ?h0 ?h1 ?h2 ?h3 ?_; (case k1 => k_asm); (case k2 => k_asm); (case k3 => k_asm); (case k4 => k_asm); (case k5 => k_asm); (case kK => first | exact rfl | assumption); (case kd => ktr_room); (case ku => ktr_units); (case h0 => (first | assumption | omega)); (case h1 => (first | assumption | omega)); (case h2 => (first | assumption | omega)); (case h3 => (first | assumption | omega)); k_extra "shares_call 0")))

set_option maxRecDepth 100000 in
set_option maxHeartbeats 8000000 in
theorem ratio_call {w : World} {loose : List Str} {mean : ExcName → Option Value} {mg mb : Str → Option Value}
    {dp un : Nat} {gd : Option (List Code)} {cn : Str} {cs : Scope} {a : Addr} {ccd : Value} {cl : List (Str × Addr)} {outer : List Env} {A₀ : Around} {base h₀ : Heap} {L : Addr} {m : Str → Option Value} {news : List (Addr × Obj)} {s : Shared}
    {Q E : Value → Shared → Prop}
    {x y : Int} {tx ty : Tok}
    (B : Below A₀ base outer h₀) (F : Fr h₀ L s.heap m) (X : (Mine.hd.heap_39 w.params).In h₀) (N : News h₀ L s.heap news) (T : Top Mine.hd.view_39 loose mean mg mb h₀) (hk : cs.kind = .function)
    (hd : dp + 3 < recursionLimit) (hu : un + 300 < cLine) (hx : -1000 ≤ x) (hx1 : x ≤ 1000) (hy : 3 ≤ y) (hy1 : y ≤ 300)
    (hret2 : ∀ h' tk', Fr h₀ L h' m → News h₀ L h' news → ∀ N, NOf y N → NoRat x y N → Q .none { s with heap := h', toks := tk' })
    (hret : ∀ r t b k l h' tk', Fr h₀ L h' m → News h₀ L h' ((r, tup2 t b k l) :: news) → (∀ p ∈ news, p.1 < r) → ∀ N, NOf y N → RatOk x y N t b → Q (.ref r) { s with heap := h', toks := tk' }) :
    wpAny (model PySem.Challenge.rw_nn0247_01.row.prog w) (ktrTop dp un gd cn cs L a ccd cl outer) (call (.ref 104) [.int x tx, .int y ty]) Q E s := by
  w_top off
  have hh : (Mine.hd.heap_39 w.params).In h₀ → PySem.Challenge.rw_nn0247_01 = PySem.Challenge.rw_nn0247_01 := by k_fill; exact fun _ => rfl
  clear hh
  k_with_none
  refine wpAny_call ?_
  k_dflt ktr_enter
  k_with "shares_call 0" => (intro v9 h9 tk9 F9 N9 hv9; (rcases v9 with _ | _); all_goals ((simp only [Bool.false_eq_true, false_iff, ne_eq, Decidable.not_not, true_iff] at hv9)); all_goals (try dsimp only); (try with_reducible refine Mine.ml_strip ?_); (try k_fold))
  k_with "exec For Name Call cons nil" => (k_here; (rename Fr _ _ _ _ => lF'); (with_unfolding_all refine' For_invVF lF' ?k1 ?k2 ?_; (case k1 => exact rfl); (case k2 => exact rfl); k_whole))
  k_with "exec While Compare cons nil" => (k_while (fun (_ : List Int) size => 0 ≤ size ∧ size ≤ 20 ∧ 2 * (size * size) ≤ y) (fun (_ : List Int) size => (20 - size).toNat) "size")
  k_with "state" => exact size_start hy
  k_with "state" => exact size_turn hy1 (by assumption) (by assumption) (by assumption)
  k_with "measure" => exact size_meas hy1 (by assumption) (by assumption) (by assumption)
  k_with "binaryOp Pow int int" => ((with_reducible refine pow_int_small ?_ ?_ ?_ ?_); (all_goals first | omega | skip))
  k_with "pyIter ref" => (k_of "bottom" => (k_here; (rename Fr _ _ _ _ => lF'); (rename News _ _ _ _ => lN'); (rename IsRange _ _ _ _ _ _ _ _ => rgX); (obtain ⟨N9, eN9, hN9, hN90, hN91⟩ := size_name (by assumption) (by assumption) (by assumption) (by assumption)); subst eN9; (with_unfolding_all refine' m_range (σ := Unit) (fun _ => news) (fun _ => []) ["bottom", "top", "is_here"] (fun i _ => OutP x y N9 i) () (by rfl) (by first | exact rgX | assumption) (by first | exact small_one (by omega) (by omega) (by omega) (by omega) | exact small_one (by l_bnd) (by l_bnd) (by l_bnd) (by l_bnd) | decide) (by first | exact rangeSize_nat _ _ | rfl) lF' ?kn ?kk ?kp ?_ ?_); (case kk => kst_all); (case kp => exact out_start); (case kn => with_unfolding_all exact kst_newsOf lN' (by kst_inAny)); (all_goals (clear lF' lN'; try clear rgX)); (all_goals first | (intro i8 t8 c8 u8 it8 I8 h8 tk8 hi8 hP8 hcls8 hoff8 F8 N8; (dsimp only [kstB] at hP8 hoff8 F8 N8); (try k_fold)) | (intro c8 u8 h8 tk8 hP8 F8 N8; (dsimp only [kstB] at hP8 F8 N8); (try k_fold)))))
  k_with "pyIter ref" => (k_of "top" => (k_here; (rename Fr _ _ _ _ => lF'); (rename News _ _ _ _ => lN'); (rename IsRange _ _ _ _ _ _ _ _ => rgX); (with_unfolding_all refine' m_range (σ := Unit) (fun _ => ((I8, it8) :: news)) (fun _ => []) ["top", "is_here"] (fun j _ => InP x y N9 (1 + (i8 : Int)) j) () (by rfl) (by first | exact rgX | assumption) (by first | exact small_one (by omega) (by omega) (by omega) (by omega) | exact small_one (by l_bnd) (by l_bnd) (by l_bnd) (by l_bnd) | decide) (by first | exact rangeSize_nat _ _ | rfl) lF' ?kn ?kk ?kp ?_ ?_); (case kk => kst_all); (case kp => exact in_start); (case kn => with_unfolding_all exact kst_newsOf lN' (by kst_inAny)); (all_goals (clear lF' lN'; try clear rgX)); (all_goals first | (intro i9 t9 c9 u9 it9 I9 h9 tk9 hi9 hP9 hcls9 hoff9 F9 N9; (dsimp only [kstB] at hP9 hoff9 F9 N9); (try k_fold)) | (intro c9 u9 h9 tk9 hP9 F9 N9; (dsimp only [kstB] at hP9 F9 N9); (try k_fold)))))
  k_steps
  · (rename News h₀ L _ _ => nE9); (rename Fr h₀ L _ _ => fE9); exact hret _ _ _ _ _ _ _ fE9 (cb_drop nE9 (by first | exact (fun p hp => by first | exact hp | exact .tail _ (hp) | exact .tail _ (.tail _ (hp)) | exact .tail _ (.tail _ (.tail _ (hp))) | exact .tail _ (.tail _ (.tail _ (.tail _ (hp)))) | exact .tail _ (.tail _ (.tail _ (.tail _ (.tail _ (hp)))))) | exact (List.forall_mem_cons.mpr ⟨by first | exact .head _ | exact .tail _ (.head _) | exact .tail _ (.tail _ (.head _)) | exact .tail _ (.tail _ (.tail _ (.head _))) | exact .tail _ (.tail _ (.tail _ (.tail _ (.head _)))) | exact .tail _ (.tail _ (.tail _ (.tail _ (.tail _ (.head _))))), (fun p hp => by first | exact hp | exact .tail _ (hp) | exact .tail _ (.tail _ (hp)) | exact .tail _ (.tail _ (.tail _ (hp))) | exact .tail _ (.tail _ (.tail _ (.tail _ (hp)))) | exact .tail _ (.tail _ (.tail _ (.tail _ (.tail _ (hp))))))⟩))) (by (first | assumption | exact ktn_ltOf (by assumption) | exact ktn_ltOf (And.right (by assumption)) | exact ktn_ltOf (And.right (And.right (by assumption))) | exact ktn_ltOf (And.right (And.right (And.right (by assumption)))) | exact ktn_ltOf (And.right (And.right (And.right (And.right (by assumption))))) | exact ktn_ltOf (And.right (And.right (And.right (And.right (And.right (by assumption)))))))) _ hN9 (in_yes hN90 (by omega) hi8 hi9 (by assumption) (by assumption) (by assumption))
  · ((rename News _ _ _ _ => nE'); (rename Fr _ _ _ _ => fE'); (refine ml_end () fE' nE' (by (first | exact List.Mem.head _ | exact List.Mem.tail _ (List.Mem.head _) | exact List.Mem.tail _ (List.Mem.tail _ (List.Mem.head _)) | exact List.Mem.tail _ (List.Mem.tail _ (List.Mem.tail _ (List.Mem.head _))) | exact List.Mem.tail _ (List.Mem.tail _ (List.Mem.tail _ (List.Mem.tail _ (List.Mem.head _)))) | exact List.Mem.tail _ (List.Mem.tail _ (List.Mem.tail _ (List.Mem.tail _ (List.Mem.tail _ (List.Mem.head _))))) | exact List.Mem.tail _ (List.Mem.tail _ (List.Mem.tail _ (List.Mem.tail _ (List.Mem.tail _ (List.Mem.tail _ (List.Mem.head _)))))) | exact List.Mem.tail _ (List.Mem.tail _ (List.Mem.tail _ (List.Mem.tail _ (List.Mem.tail _ (List.Mem.tail _ (List.Mem.tail _ (List.Mem.head _))))))) | exact List.Mem.tail _ (List.Mem.tail _ (List.Mem.tail _ (List.Mem.tail _ (List.Mem.tail _ (List.Mem.tail _ (List.Mem.tail _ (List.Mem.tail _ (List.Mem.head _)))))))) | exact List.Mem.tail _ (List.Mem.tail _ (List.Mem.tail _ (List.Mem.tail _ (List.Mem.tail _ (List.Mem.tail _ (List.Mem.tail _ (List.Mem.tail _ (List.Mem.tail _ (List.Mem.head _))))))))) | exact List.Mem.tail _ (List.Mem.tail _ (List.Mem.tail _ (List.Mem.tail _ (List.Mem.tail _ (List.Mem.tail _ (List.Mem.tail _ (List.Mem.tail _ (List.Mem.tail _ (List.Mem.tail _ (List.Mem.head _)))))))))) | exact List.Mem.tail _ (List.Mem.tail _ (List.Mem.tail _ (List.Mem.tail _ (List.Mem.tail _ (List.Mem.tail _ (List.Mem.tail _ (List.Mem.tail _ (List.Mem.tail _ (List.Mem.tail _ (List.Mem.tail _ (List.Mem.head _))))))))))) | exact List.Mem.tail _ (List.Mem.tail _ (List.Mem.tail _ (List.Mem.tail _ (List.Mem.tail _ (List.Mem.tail _ (List.Mem.tail _ (List.Mem.tail _ (List.Mem.tail _ (List.Mem.tail _ (List.Mem.tail _ (List.Mem.tail _ (List.Mem.head _)))))))))))) | exact List.Mem.tail _ (List.Mem.tail _ (List.Mem.tail _ (List.Mem.tail _ (List.Mem.tail _ (List.Mem.tail _ (List.Mem.tail _ (List.Mem.tail _ (List.Mem.tail _ (List.Mem.tail _ (List.Mem.tail _ (List.Mem.tail _ (List.Mem.tail _ (List.Mem.head _))))))))))))) | exact List.Mem.tail _ (List.Mem.tail _ (List.Mem.tail _ (List.Mem.tail _ (List.Mem.tail _ (List.Mem.tail _ (List.Mem.tail _ (List.Mem.tail _ (List.Mem.tail _ (List.Mem.tail _ (List.Mem.tail _ (List.Mem.tail _ (List.Mem.tail _ (List.Mem.tail _ (List.Mem.head _)))))))))))))))) ?_ ?_ ?_ ?_ ?_); (focus (kst_in)); (focus (exact hoff9)); (focus kst_all); (focus ksw_same); (focus (exact in_no3 hP9 (by assumption))))
  · ((rename News _ _ _ _ => nE'); (rename Fr _ _ _ _ => fE'); (refine ml_end () fE' nE' (by (first | exact List.Mem.head _ | exact List.Mem.tail _ (List.Mem.head _) | exact List.Mem.tail _ (List.Mem.tail _ (List.Mem.head _)) | exact List.Mem.tail _ (List.Mem.tail _ (List.Mem.tail _ (List.Mem.head _))) | exact List.Mem.tail _ (List.Mem.tail _ (List.Mem.tail _ (List.Mem.tail _ (List.Mem.head _)))) | exact List.Mem.tail _ (List.Mem.tail _ (List.Mem.tail _ (List.Mem.tail _ (List.Mem.tail _ (List.Mem.head _))))) | exact List.Mem.tail _ (List.Mem.tail _ (List.Mem.tail _ (List.Mem.tail _ (List.Mem.tail _ (List.Mem.tail _ (List.Mem.head _)))))) | exact List.Mem.tail _ (List.Mem.tail _ (List.Mem.tail _ (List.Mem.tail _ (List.Mem.tail _ (List.Mem.tail _ (List.Mem.tail _ (List.Mem.head _))))))) | exact List.Mem.tail _ (List.Mem.tail _ (List.Mem.tail _ (List.Mem.tail _ (List.Mem.tail _ (List.Mem.tail _ (List.Mem.tail _ (List.Mem.tail _ (List.Mem.head _)))))))) | exact List.Mem.tail _ (List.Mem.tail _ (List.Mem.tail _ (List.Mem.tail _ (List.Mem.tail _ (List.Mem.tail _ (List.Mem.tail _ (List.Mem.tail _ (List.Mem.tail _ (List.Mem.head _))))))))) | exact List.Mem.tail _ (List.Mem.tail _ (List.Mem.tail _ (List.Mem.tail _ (List.Mem.tail _ (List.Mem.tail _ (List.Mem.tail _ (List.Mem.tail _ (List.Mem.tail _ (List.Mem.tail _ (List.Mem.head _)))))))))) | exact List.Mem.tail _ (List.Mem.tail _ (List.Mem.tail _ (List.Mem.tail _ (List.Mem.tail _ (List.Mem.tail _ (List.Mem.tail _ (List.Mem.tail _ (List.Mem.tail _ (List.Mem.tail _ (List.Mem.tail _ (List.Mem.head _))))))))))) | exact List.Mem.tail _ (List.Mem.tail _ (List.Mem.tail _ (List.Mem.tail _ (List.Mem.tail _ (List.Mem.tail _ (List.Mem.tail _ (List.Mem.tail _ (List.Mem.tail _ (List.Mem.tail _ (List.Mem.tail _ (List.Mem.tail _ (List.Mem.head _)))))))))))) | exact List.Mem.tail _ (List.Mem.tail _ (List.Mem.tail _ (List.Mem.tail _ (List.Mem.tail _ (List.Mem.tail _ (List.Mem.tail _ (List.Mem.tail _ (List.Mem.tail _ (List.Mem.tail _ (List.Mem.tail _ (List.Mem.tail _ (List.Mem.tail _ (List.Mem.head _))))))))))))) | exact List.Mem.tail _ (List.Mem.tail _ (List.Mem.tail _ (List.Mem.tail _ (List.Mem.tail _ (List.Mem.tail _ (List.Mem.tail _ (List.Mem.tail _ (List.Mem.tail _ (List.Mem.tail _ (List.Mem.tail _ (List.Mem.tail _ (List.Mem.tail _ (List.Mem.tail _ (List.Mem.head _)))))))))))))))) ?_ ?_ ?_ ?_ ?_); (focus (kst_in)); (focus (exact hoff9)); (focus kst_all); (focus ksw_same); (focus (exact in_no2 hP9 (by assumption))))
  · ((rename News _ _ _ _ => nE'); (rename Fr _ _ _ _ => fE'); (refine ml_end () fE' nE' (by (first | exact List.Mem.head _ | exact List.Mem.tail _ (List.Mem.head _) | exact List.Mem.tail _ (List.Mem.tail _ (List.Mem.head _)) | exact List.Mem.tail _ (List.Mem.tail _ (List.Mem.tail _ (List.Mem.head _))) | exact List.Mem.tail _ (List.Mem.tail _ (List.Mem.tail _ (List.Mem.tail _ (List.Mem.head _)))) | exact List.Mem.tail _ (List.Mem.tail _ (List.Mem.tail _ (List.Mem.tail _ (List.Mem.tail _ (List.Mem.head _))))) | exact List.Mem.tail _ (List.Mem.tail _ (List.Mem.tail _ (List.Mem.tail _ (List.Mem.tail _ (List.Mem.tail _ (List.Mem.head _)))))) | exact List.Mem.tail _ (List.Mem.tail _ (List.Mem.tail _ (List.Mem.tail _ (List.Mem.tail _ (List.Mem.tail _ (List.Mem.tail _ (List.Mem.head _))))))) | exact List.Mem.tail _ (List.Mem.tail _ (List.Mem.tail _ (List.Mem.tail _ (List.Mem.tail _ (List.Mem.tail _ (List.Mem.tail _ (List.Mem.tail _ (List.Mem.head _)))))))) | exact List.Mem.tail _ (List.Mem.tail _ (List.Mem.tail _ (List.Mem.tail _ (List.Mem.tail _ (List.Mem.tail _ (List.Mem.tail _ (List.Mem.tail _ (List.Mem.tail _ (List.Mem.head _))))))))) | exact List.Mem.tail _ (List.Mem.tail _ (List.Mem.tail _ (List.Mem.tail _ (List.Mem.tail _ (List.Mem.tail _ (List.Mem.tail _ (List.Mem.tail _ (List.Mem.tail _ (List.Mem.tail _ (List.Mem.head _)))))))))) | exact List.Mem.tail _ (List.Mem.tail _ (List.Mem.tail _ (List.Mem.tail _ (List.Mem.tail _ (List.Mem.tail _ (List.Mem.tail _ (List.Mem.tail _ (List.Mem.tail _ (List.Mem.tail _ (List.Mem.tail _ (List.Mem.head _))))))))))) | exact List.Mem.tail _ (List.Mem.tail _ (List.Mem.tail _ (List.Mem.tail _ (List.Mem.tail _ (List.Mem.tail _ (List.Mem.tail _ (List.Mem.tail _ (List.Mem.tail _ (List.Mem.tail _ (List.Mem.tail _ (List.Mem.tail _ (List.Mem.head _)))))))))))) | exact List.Mem.tail _ (List.Mem.tail _ (List.Mem.tail _ (List.Mem.tail _ (List.Mem.tail _ (List.Mem.tail _ (List.Mem.tail _ (List.Mem.tail _ (List.Mem.tail _ (List.Mem.tail _ (List.Mem.tail _ (List.Mem.tail _ (List.Mem.tail _ (List.Mem.head _))))))))))))) | exact List.Mem.tail _ (List.Mem.tail _ (List.Mem.tail _ (List.Mem.tail _ (List.Mem.tail _ (List.Mem.tail _ (List.Mem.tail _ (List.Mem.tail _ (List.Mem.tail _ (List.Mem.tail _ (List.Mem.tail _ (List.Mem.tail _ (List.Mem.tail _ (List.Mem.tail _ (List.Mem.head _)))))))))))))))) ?_ ?_ ?_ ?_ ?_); (focus (kst_in)); (focus (exact hoff9)); (focus kst_all); (focus ksw_same); (focus (exact in_no1 (by omega) hP9 (by assumption))))
  · ((rename News _ _ _ _ => nE'); (rename Fr _ _ _ _ => fE'); (refine ml_end () fE' nE' (by (first | exact List.Mem.head _ | exact List.Mem.tail _ (List.Mem.head _) | exact List.Mem.tail _ (List.Mem.tail _ (List.Mem.head _)) | exact List.Mem.tail _ (List.Mem.tail _ (List.Mem.tail _ (List.Mem.head _))) | exact List.Mem.tail _ (List.Mem.tail _ (List.Mem.tail _ (List.Mem.tail _ (List.Mem.head _)))) | exact List.Mem.tail _ (List.Mem.tail _ (List.Mem.tail _ (List.Mem.tail _ (List.Mem.tail _ (List.Mem.head _))))) | exact List.Mem.tail _ (List.Mem.tail _ (List.Mem.tail _ (List.Mem.tail _ (List.Mem.tail _ (List.Mem.tail _ (List.Mem.head _)))))) | exact List.Mem.tail _ (List.Mem.tail _ (List.Mem.tail _ (List.Mem.tail _ (List.Mem.tail _ (List.Mem.tail _ (List.Mem.tail _ (List.Mem.head _))))))) | exact List.Mem.tail _ (List.Mem.tail _ (List.Mem.tail _ (List.Mem.tail _ (List.Mem.tail _ (List.Mem.tail _ (List.Mem.tail _ (List.Mem.tail _ (List.Mem.head _)))))))) | exact List.Mem.tail _ (List.Mem.tail _ (List.Mem.tail _ (List.Mem.tail _ (List.Mem.tail _ (List.Mem.tail _ (List.Mem.tail _ (List.Mem.tail _ (List.Mem.tail _ (List.Mem.head _))))))))) | exact List.Mem.tail _ (List.Mem.tail _ (List.Mem.tail _ (List.Mem.tail _ (List.Mem.tail _ (List.Mem.tail _ (List.Mem.tail _ (List.Mem.tail _ (List.Mem.tail _ (List.Mem.tail _ (List.Mem.head _)))))))))) | exact List.Mem.tail _ (List.Mem.tail _ (List.Mem.tail _ (List.Mem.tail _ (List.Mem.tail _ (List.Mem.tail _ (List.Mem.tail _ (List.Mem.tail _ (List.Mem.tail _ (List.Mem.tail _ (List.Mem.tail _ (List.Mem.head _))))))))))) | exact List.Mem.tail _ (List.Mem.tail _ (List.Mem.tail _ (List.Mem.tail _ (List.Mem.tail _ (List.Mem.tail _ (List.Mem.tail _ (List.Mem.tail _ (List.Mem.tail _ (List.Mem.tail _ (List.Mem.tail _ (List.Mem.tail _ (List.Mem.head _)))))))))))) | exact List.Mem.tail _ (List.Mem.tail _ (List.Mem.tail _ (List.Mem.tail _ (List.Mem.tail _ (List.Mem.tail _ (List.Mem.tail _ (List.Mem.tail _ (List.Mem.tail _ (List.Mem.tail _ (List.Mem.tail _ (List.Mem.tail _ (List.Mem.tail _ (List.Mem.head _))))))))))))) | exact List.Mem.tail _ (List.Mem.tail _ (List.Mem.tail _ (List.Mem.tail _ (List.Mem.tail _ (List.Mem.tail _ (List.Mem.tail _ (List.Mem.tail _ (List.Mem.tail _ (List.Mem.tail _ (List.Mem.tail _ (List.Mem.tail _ (List.Mem.tail _ (List.Mem.tail _ (List.Mem.head _)))))))))))))))) ?_ ?_ ?_ ?_ ?_); (focus (kst_in)); (focus (exact hoff8)); (focus kst_all); (focus ksw_same); (focus (exact in_done hN90 hP8 hP9)))
  · (rename News h₀ L _ _ => nE9); (rename Fr h₀ L _ _ => fE9); exact hret2 _ _ fE9 nE9 _ hN9 (out_done hN90 hP8)

end Mine
end
section
open PySem PySem.W PyProof.Rows
namespace Mine
local macro_rules | `(tactic| walk_at "pad") => `(tactic| fail "pad")
local macro_rules | `(tactic| walk_at "pad") => `(tactic| fail "pad")
local macro_rules | `(tactic| walk_at "pad") => `(tactic| fail "pad")
local macro_rules | `(tactic| walk_at "pad") => `(tactic| fail "pad")
local macro_rules | `(tactic| walk_at "pad") => `(tactic| fail "pad")
local macro_rules | `(tactic| walk_at "pad") => `(tactic| fail "pad")
local macro_rules | `(tactic| walk_at "pad") => `(tactic| fail "pad")
local macro_rules | `(tactic| walk_at "pad") => `(tactic| fail "pad")
local macro_rules | `(tactic| walk_at "pad") => `(tactic| fail "pad")
local macro_rules | `(tactic| walk_at "pad") => `(tactic| fail "pad")
local macro_rules | `(tactic| walk_at "pad") => `(tactic| fail "pad")
local macro_rules | `(tactic| walk_at "pad") => `(tactic| fail "pad")
local macro_rules | `(tactic| walk_at "pad") => `(tactic| fail "pad")
local macro_rules | `(tactic| walk_at "pad") => `(tactic| fail "pad")
local macro_rules | `(tactic| walk_at "pad") => `(tactic| fail "pad")
local macro_rules | `(tactic| walk_at "pad") => `(tactic| fail "pad")
local macro_rules | `(tactic| walk_at "pad") => `(tactic| fail "pad")
local macro_rules | `(tactic| walk_at "pad") => `(tactic| fail "pad")
local macro_rules | `(tactic| walk_at "pad") => `(tactic| fail "pad")
local macro_rules | `(tactic| walk_at "pad") => `(tactic| fail "pad")
local macro_rules | `(tactic| walk_at "pad") => `(tactic| fail "pad")
local macro_rules | `(tactic| walk_at "pad") => `(tactic| fail "pad")
local macro_rules | `(tactic| walk_at "pad") => `(tactic| fail "pad")
local macro_rules | `(tactic| walk_at "pad") => `(tactic| fail "pad")
local macro_rules | `(tactic| walk_at "pad") => `(tactic| fail "pad")
local macro_rules | `(tactic| walk_at "pad") => `(tactic| fail "pad")
local macro_rules | `(tactic| walk_at "pad") => `(tactic| fail "pad")
local macro_rules | `(tactic| walk_at "pad") => `(tactic| fail "pad")
local macro_rules | `(tactic| walk_at "pad") => `(tactic| fail "pad")
local macro_rules | `(tactic| walk_at "pad") => `(tactic| fail "pad")
local macro_rules | `(tactic| walk_at "pad") => `(tactic| fail "pad")
local macro_rules | `(tactic| walk_at "pad") => `(tactic| fail "pad")
local macro_rules | `(tactic| walk_at "pad") => `(tactic| fail "pad")
local macro_rules | `(tactic| walk_at "pad") => `(tactic| fail "pad")
local macro_rules | `(tactic| walk_at "pad") => `(tactic| fail "pad")
local macro_rules | `(tactic| walk_at "pad") => `(tactic| fail "pad")
local macro_rules | `(tactic| walk_at "pad") => `(tactic| fail "pad")
local macro_rules | `(tactic| walk_at "pad") => `(tactic| fail "pad")
local macro_rules | `(tactic| walk_at "pad") => `(tactic| fail "pad")
local macro_rules | `(tactic| walk_at "pad") => `(tactic| fail "pad")
local macro_rules | `(tactic| walk_at "pad") => `(tactic| fail "pad")
local macro_rules | `(tactic| walk_at "pad") => `(tactic| fail "pad")
local macro_rules | `(tactic| walk_at "pad") => `(tactic| fail "pad")
local macro_rules | `(tactic| walk_at "pad") => `(tactic| fail "pad")
local macro_rules | `(tactic| walk_at "MPost") => `(tactic| (dsimp only [Mine.MPost]))
local macro_rules | `(tactic| walk_at "MLPost") => `(tactic| (dsimp only [Mine.MLPost]; (try with_reducible refine Mine.ml_ret ?_)))
local macro_rules | `(tactic| k_mem) => `(tactic| assumption)
local macro_rules | `(tactic| walk_at "call ref") => `(tactic| k_extra "call ref")
local macro_rules | `(tactic| walk_at "pyIter ref") => `(tactic| k_extra "pyIter ref")
local macro_rules | `(tactic| walk_at "CompSrcT") => `(tactic| k_extra "CompSrcT")
local macro_rules | `(tactic| walk_at "KCiEl") => `(tactic| k_extra "KCiEl")
local macro_rules | `(tactic| walk_at "KCiNo") => `(tactic| k_extra "KCiNo")
local macro_rules | `(tactic| walk_at "KPfGrows") => `(tactic| k_extra "KPfGrows")
local macro_rules | `(tactic| walk_at "CompEnd") => `(tactic| k_extra "CompEnd")
local macro_rules | `(tactic| walk_at "compareOp NotEq ref ref") => `(tactic| k_extra "compareOp NotEq ref ref")
local macro_rules | `(tactic| walk_at "compareOp Eq ref ref") => `(tactic| k_extra "compareOp Eq ref ref")
local macro_rules | `(tactic| k_all) => `(tactic| assumption)
local macro_rules | `(tactic| walk_at "CompSrc") => `(tactic| (k_here; k_dflt (refine LCg.CompSrc.ledger (by rfl) (by k_asm) (by k_asm) (by with_unfolding_all first | assumption | exact List.Mem.tail _ (by assumption)) (by first | size_fits | exact Nat.le_of_ble_eq_true rfl) ?_; intro g'; lcg_lit)))
local macro_rules | `(tactic| walk_at "CompRest") => `(tactic| k_extra "CompRest")
local macro_rules | `(tactic| walk_at "compareOp In none ref") => `(tactic| k_extra "compareOp In none ref")
local macro_rules | `(tactic| walk_at "call ref") => `(tactic| (k_here; k_dflt (refine' rat_call ?k1 ?k2 ?k3 ?k4 ?k5 ?kK ?kd ?ku ?h0 ?h1 ?_ ?_; (case k1 => k_asm); (case k2 => k_asm); (case k3 => k_asm); (case k4 => k_asm); (case k5 => k_asm); (case kK => first | exact rfl | assumption); (case kd => ktr_room); (case ku => ktr_units); (case h0 => (first | assumption | omega)); (case h1 => (first | assumption | omega)); (all_goals first | k_extra "rat_call 1" | k_extra "rat_call 0"))))

section
variable {prog : Program} {w : World} {A : Around} {E Q : Value → Shared → Prop} {s : Shared} {h₀ : Heap} {L a r1 r2 : Addr} {p q t b : Int} {k1 k2 k3 k4 : Nat} {news : List (Addr × Obj)}
theorem tup_dat (m1 : (r1, tup2 p q k1 k2) ∈ news) : DatIn news (.ref r1) (.tuple [.int p, .int q]) := .tuple (vs := [.int p k1, .int q k2]) m1 (.cons (.int _ _) (.cons (.int _ _) .nil))
open Classical in
theorem none_in_no (N : News h₀ L s.heap news) (ml : (a, LCg.lst [.ref r1, .ref r2]) ∈ news) (m1 : (r1, tup2 p q k1 k2) ∈ news) (m2 : (r2, tup2 t b k3 k4) ∈ news) (hu : A.units + 64 < cLine) (h : Q (.bool false) s) :
    wpAny (model prog w) A (compareOp .In .none (.ref a)) Q E s :=
  kqd_isIn (xs := [.ref r1, .ref r2]) (ds := [.tuple [.int p, .int q], .tuple [.int t, .int b]]) (n₂ := news) N ml rfl rfl (.cons (tup_dat m1) (.cons (tup_dat m2) .nil)) (fun _ h => h) .none (fun _ h => h) (fun d hd => by
    rcases List.mem_cons.mp hd with rfl | hd
    · rfl
    · rw [List.mem_singleton.mp hd]; rfl) rfl hu (by
    rw [decide_eq_false (by intro hc; rcases List.mem_cons.mp hc with hc | hc; · cases hc
                            · cases List.mem_singleton.mp hc)]
    exact h)
open Classical in
theorem none_in_yes (N : News h₀ L s.heap news) (ml : (a, LCg.lst [.ref r1, .none]) ∈ news) (m1 : (r1, tup2 p q k1 k2) ∈ news) (hu : A.units + 64 < cLine) (h : Q (.bool true) s) :
    wpAny (model prog w) A (compareOp .In .none (.ref a)) Q E s :=
  kqd_isIn (xs := [.ref r1, .none]) (ds := [.tuple [.int p, .int q], .none]) (n₂ := news) N ml rfl rfl (.cons (tup_dat m1) (.cons .none .nil)) (fun _ h => h) .none (fun _ h => h) (fun d hd => by
    rcases List.mem_cons.mp hd with rfl | hd
    · rfl
    · rw [List.mem_singleton.mp hd]; rfl) rfl hu (by
    rw [decide_eq_true (List.mem_cons_of_mem _ List.mem_cons_self)]
    exact h)
end
section
variable {h₀ : Heap} {L I C D : Addr} {m : Str → Option Value} {s₁ : Shared} {oI oC oD : Obj} {S : List (Addr × Obj) → Prop} {rest : Value → List (Addr × Obj) → Prop} {y : Value} {h' : Heap} {tk : Nat} {p : Addr × Obj} {news : List (Addr × Obj)}
theorem cmp_new (F : Fr h₀ L h' m) (N : News h₀ L h' (p :: (I, oI) :: (C, oC) :: (D, oD) :: news)) (hp : @LT.lt Nat _ I p.1 ∧ @LT.lt Nat _ C p.1 ∧ @LT.lt Nat _ D p.1) (off : LCg.Off3 I C D news) (hS : S (p :: news)) (r : rest y (p :: news)) :
    LCg.CompEnd h₀ L m s₁ I oI C oC D oD S rest y { s₁ with heap := h', toks := tk } :=
  LCg.CompEnd.intro F N (p :: news) (fun q hq => by
    rcases List.mem_cons.mp hq with rfl | hq
    · exact .tail _ (.head _)
    rcases List.mem_cons.mp hq with rfl | hq
    · exact .tail _ (.tail _ (.head _))
    rcases List.mem_cons.mp hq with rfl | hq
    · exact .tail _ (.tail _ (.tail _ (.head _)))
    rcases List.mem_cons.mp hq with rfl | hq
    · exact .head _
    · exact .tail _ (.tail _ (.tail _ (.tail _ hq)))) ⟨⟨Nat.ne_of_gt hp.1, Nat.ne_of_gt hp.2.1, Nat.ne_of_gt hp.2.2⟩, off⟩ hS r
theorem cmp_same (F : Fr h₀ L h' m) (N : News h₀ L h' ((I, oI) :: (C, oC) :: (D, oD) :: news)) (off : LCg.Off3 I C D news) (hS : S news) (r : rest y news) :
    LCg.CompEnd h₀ L m s₁ I oI C oC D oD S rest y { s₁ with heap := h', toks := tk } := LCg.CompEnd.intro F N news (fun _ h => h) off hS r
end

set_option maxRecDepth 100000 in
set_option maxHeartbeats 8000000 in
theorem rats_call {w : World} {loose : List Str} {mean : ExcName → Option Value} {mg mb : Str → Option Value}
    {dp un : Nat} {gd : Option (List Code)} {cn : Str} {cs : Scope} {a : Addr} {ccd : Value} {cl : List (Str × Addr)} {outer : List Env} {A₀ : Around} {base h₀ : Heap} {L : Addr} {m : Str → Option Value} {news : List (Addr × Obj)} {s : Shared}
    {Q E : Value → Shared → Prop}
    {x y : Int} {tx t1 ty : Tok} {pl : Addr} {e : Nat}
    (B : Below A₀ base outer h₀) (F : Fr h₀ L s.heap m) (X : (Mine.hd.heap_39 w.params).In h₀) (N : News h₀ L s.heap news) (T : Top Mine.hd.view_39 loose mean mg mb h₀) (hk : cs.kind = .function)
    (hd : dp + 4 < recursionLimit) (hu : un + 300 < cLine) (hl : (pl, listOf [Value.int 1 t1, Value.int x tx].toArray e) ∈ news) (hx : -1000 ≤ x) (hx1 : x ≤ 1000) (hy : 3 ≤ y) (hy1 : y ≤ 300)
    (hret2 : ∀ h' tk', Fr h₀ L h' m → News h₀ L h' news → ∀ N, NOf y N → NoRat x y N → Q .none { s with heap := h', toks := tk' })
    (hret : ∀ r r1 r2 t b k l k1 l1 e' h' tk', Fr h₀ L h' m → News h₀ L h' ((r, listOf [.ref r1, .ref r2].toArray e') :: (r1, tup2 1 1 k1 l1) :: (r2, tup2 t b k l) :: news) → LCg.Off1 r news → (∀ p ∈ news, p.1 < r1) → (∀ p ∈ news, p.1 < r2) → ∀ N, NOf y N → RatOk x y N t b → Q (.ref r) { s with heap := h', toks := tk' }) :
    wpAny (model PySem.Challenge.rw_nn0247_01.row.prog w) (ktrTop dp un gd cn cs L a ccd cl outer) (call (.ref 75) [.ref pl, .int y ty]) Q E s := by
  w_top off
  have hh : (Mine.hd.heap_39 w.params).In h₀ → PySem.Challenge.rw_nn0247_01 = PySem.Challenge.rw_nn0247_01 := by k_fill; exact fun _ => rfl
  clear hh
  k_with_none
  refine wpAny_call ?_
  k_dflt (refine' code_defC ?k1 ?k2 ?k3 ?k4 ?k5 ?kA ?kF ?kK ?k6 ?k7 ?k8 ?k9 ?kB ?kD ?_ ?c2 ?c3 ?c4; (case kA => exact rfl); (case kF => exact rfl); (case kK => assumption); (case k1 => k_asm); (case k2 => k_asm); (case k3 => k_asm); (case k4 => k_asm); (case k5 => k_asm); (case k6 => k_is); (case k7 => k_is); (case k8 => ktr_room); (case k9 => exact BindsTo.of_eq rfl); (case kB => exact rfl); (case kD => decide +kernel); (case c2 => exact rfl); (case c3 => exact rfl); (case c4 => exact rfl); k_whole; intro g' L' h' tk' cells' FG' F' N' Y' B' X' T' l1; (try k_lt l1); k_cells Y'; (try simp only [List.cons_append, List.nil_append] at N'); (try dsimp only); (try k_fold))
  k_with "rat_call 0" => (intro h9 tk9 F9 N9 nN9 hN9 hno9; (try exact absurd (rat_first (by assumption) hN9) (hno9 _ _)); (try dsimp only); (try with_reducible refine Mine.ml_strip ?_); (try k_fold))
  k_with "rat_call 1" => (intro r9 t9 b9 k19 k29 h9 tk9 F9 N9 l19 nN9 hN9 hr9; (have hrp9 := RatOk.p hr9); (try k_lt l19); (try (obtain ⟨e19, e29⟩ := rat_uniq (by assumption) hN9 hr9 (rat_first (by assumption) hN9); subst e19; subst e29)); (try dsimp only); (try with_reducible refine Mine.ml_strip ?_); (try k_fold))
  k_with "CompRest" => (with_unfolding_all (refine LCg.CompRest.succ ?_; intro v7 I7 oI7 C7 oC7 D7 m7 h7 tk7 E7 hv7 hC7 hx7 F7 N7 off7 ne7; lcg_open hv7))
  k_with "CompEnd" => (first | (with_unfolding_all refine cmp_new F9 N9 ⟨by omega, by omega, by omega⟩ off7 (by with_unfolding_all first | exact Or.inr ⟨_, .tail _ hl, rfl, _, rfl⟩ | exact Or.inr ⟨_, .tail _ (.tail _ hl), rfl, _, rfl⟩ | exact Or.inr ⟨_, .tail _ (.tail _ (.tail _ hl)), rfl, _, rfl⟩) ?_) | (with_unfolding_all refine cmp_same F9 N9 off7 (by with_unfolding_all first | exact Or.inr ⟨_, .tail _ hl, rfl, _, rfl⟩ | exact Or.inr ⟨_, .tail _ (.tail _ hl), rfl, _, rfl⟩ | exact Or.inr ⟨_, .tail _ (.tail _ (.tail _ hl)), rfl, _, rfl⟩) ?_))
  k_with "compareOp In none ref" => (first | (with_unfolding_all refine none_in_no (news := _) (by k_asm) (by (first | exact List.Mem.head _ | exact List.Mem.tail _ (List.Mem.head _) | exact List.Mem.tail _ (List.Mem.tail _ (List.Mem.head _)) | exact List.Mem.tail _ (List.Mem.tail _ (List.Mem.tail _ (List.Mem.head _))) | exact List.Mem.tail _ (List.Mem.tail _ (List.Mem.tail _ (List.Mem.tail _ (List.Mem.head _)))) | exact List.Mem.tail _ (List.Mem.tail _ (List.Mem.tail _ (List.Mem.tail _ (List.Mem.tail _ (List.Mem.head _))))) | exact List.Mem.tail _ (List.Mem.tail _ (List.Mem.tail _ (List.Mem.tail _ (List.Mem.tail _ (List.Mem.tail _ (List.Mem.head _)))))) | exact List.Mem.tail _ (List.Mem.tail _ (List.Mem.tail _ (List.Mem.tail _ (List.Mem.tail _ (List.Mem.tail _ (List.Mem.tail _ (List.Mem.head _))))))) | exact List.Mem.tail _ (List.Mem.tail _ (List.Mem.tail _ (List.Mem.tail _ (List.Mem.tail _ (List.Mem.tail _ (List.Mem.tail _ (List.Mem.tail _ (List.Mem.head _)))))))) | exact List.Mem.tail _ (List.Mem.tail _ (List.Mem.tail _ (List.Mem.tail _ (List.Mem.tail _ (List.Mem.tail _ (List.Mem.tail _ (List.Mem.tail _ (List.Mem.tail _ (List.Mem.head _))))))))) | exact List.Mem.tail _ (List.Mem.tail _ (List.Mem.tail _ (List.Mem.tail _ (List.Mem.tail _ (List.Mem.tail _ (List.Mem.tail _ (List.Mem.tail _ (List.Mem.tail _ (List.Mem.tail _ (List.Mem.head _)))))))))) | exact List.Mem.tail _ (List.Mem.tail _ (List.Mem.tail _ (List.Mem.tail _ (List.Mem.tail _ (List.Mem.tail _ (List.Mem.tail _ (List.Mem.tail _ (List.Mem.tail _ (List.Mem.tail _ (List.Mem.tail _ (List.Mem.head _))))))))))) | exact List.Mem.tail _ (List.Mem.tail _ (List.Mem.tail _ (List.Mem.tail _ (List.Mem.tail _ (List.Mem.tail _ (List.Mem.tail _ (List.Mem.tail _ (List.Mem.tail _ (List.Mem.tail _ (List.Mem.tail _ (List.Mem.tail _ (List.Mem.head _)))))))))))) | exact List.Mem.tail _ (List.Mem.tail _ (List.Mem.tail _ (List.Mem.tail _ (List.Mem.tail _ (List.Mem.tail _ (List.Mem.tail _ (List.Mem.tail _ (List.Mem.tail _ (List.Mem.tail _ (List.Mem.tail _ (List.Mem.tail _ (List.Mem.tail _ (List.Mem.head _))))))))))))) | exact List.Mem.tail _ (List.Mem.tail _ (List.Mem.tail _ (List.Mem.tail _ (List.Mem.tail _ (List.Mem.tail _ (List.Mem.tail _ (List.Mem.tail _ (List.Mem.tail _ (List.Mem.tail _ (List.Mem.tail _ (List.Mem.tail _ (List.Mem.tail _ (List.Mem.tail _ (List.Mem.head _)))))))))))))))) (by (first | exact List.Mem.head _ | exact List.Mem.tail _ (List.Mem.head _) | exact List.Mem.tail _ (List.Mem.tail _ (List.Mem.head _)) | exact List.Mem.tail _ (List.Mem.tail _ (List.Mem.tail _ (List.Mem.head _))) | exact List.Mem.tail _ (List.Mem.tail _ (List.Mem.tail _ (List.Mem.tail _ (List.Mem.head _)))) | exact List.Mem.tail _ (List.Mem.tail _ (List.Mem.tail _ (List.Mem.tail _ (List.Mem.tail _ (List.Mem.head _))))) | exact List.Mem.tail _ (List.Mem.tail _ (List.Mem.tail _ (List.Mem.tail _ (List.Mem.tail _ (List.Mem.tail _ (List.Mem.head _)))))) | exact List.Mem.tail _ (List.Mem.tail _ (List.Mem.tail _ (List.Mem.tail _ (List.Mem.tail _ (List.Mem.tail _ (List.Mem.tail _ (List.Mem.head _))))))) | exact List.Mem.tail _ (List.Mem.tail _ (List.Mem.tail _ (List.Mem.tail _ (List.Mem.tail _ (List.Mem.tail _ (List.Mem.tail _ (List.Mem.tail _ (List.Mem.head _)))))))) | exact List.Mem.tail _ (List.Mem.tail _ (List.Mem.tail _ (List.Mem.tail _ (List.Mem.tail _ (List.Mem.tail _ (List.Mem.tail _ (List.Mem.tail _ (List.Mem.tail _ (List.Mem.head _))))))))) | exact List.Mem.tail _ (List.Mem.tail _ (List.Mem.tail _ (List.Mem.tail _ (List.Mem.tail _ (List.Mem.tail _ (List.Mem.tail _ (List.Mem.tail _ (List.Mem.tail _ (List.Mem.tail _ (List.Mem.head _)))))))))) | exact List.Mem.tail _ (List.Mem.tail _ (List.Mem.tail _ (List.Mem.tail _ (List.Mem.tail _ (List.Mem.tail _ (List.Mem.tail _ (List.Mem.tail _ (List.Mem.tail _ (List.Mem.tail _ (List.Mem.tail _ (List.Mem.head _))))))))))) | exact List.Mem.tail _ (List.Mem.tail _ (List.Mem.tail _ (List.Mem.tail _ (List.Mem.tail _ (List.Mem.tail _ (List.Mem.tail _ (List.Mem.tail _ (List.Mem.tail _ (List.Mem.tail _ (List.Mem.tail _ (List.Mem.tail _ (List.Mem.head _)))))))))))) | exact List.Mem.tail _ (List.Mem.tail _ (List.Mem.tail _ (List.Mem.tail _ (List.Mem.tail _ (List.Mem.tail _ (List.Mem.tail _ (List.Mem.tail _ (List.Mem.tail _ (List.Mem.tail _ (List.Mem.tail _ (List.Mem.tail _ (List.Mem.tail _ (List.Mem.head _))))))))))))) | exact List.Mem.tail _ (List.Mem.tail _ (List.Mem.tail _ (List.Mem.tail _ (List.Mem.tail _ (List.Mem.tail _ (List.Mem.tail _ (List.Mem.tail _ (List.Mem.tail _ (List.Mem.tail _ (List.Mem.tail _ (List.Mem.tail _ (List.Mem.tail _ (List.Mem.tail _ (List.Mem.head _)))))))))))))))) (by (first | exact List.Mem.head _ | exact List.Mem.tail _ (List.Mem.head _) | exact List.Mem.tail _ (List.Mem.tail _ (List.Mem.head _)) | exact List.Mem.tail _ (List.Mem.tail _ (List.Mem.tail _ (List.Mem.head _))) | exact List.Mem.tail _ (List.Mem.tail _ (List.Mem.tail _ (List.Mem.tail _ (List.Mem.head _)))) | exact List.Mem.tail _ (List.Mem.tail _ (List.Mem.tail _ (List.Mem.tail _ (List.Mem.tail _ (List.Mem.head _))))) | exact List.Mem.tail _ (List.Mem.tail _ (List.Mem.tail _ (List.Mem.tail _ (List.Mem.tail _ (List.Mem.tail _ (List.Mem.head _)))))) | exact List.Mem.tail _ (List.Mem.tail _ (List.Mem.tail _ (List.Mem.tail _ (List.Mem.tail _ (List.Mem.tail _ (List.Mem.tail _ (List.Mem.head _))))))) | exact List.Mem.tail _ (List.Mem.tail _ (List.Mem.tail _ (List.Mem.tail _ (List.Mem.tail _ (List.Mem.tail _ (List.Mem.tail _ (List.Mem.tail _ (List.Mem.head _)))))))) | exact List.Mem.tail _ (List.Mem.tail _ (List.Mem.tail _ (List.Mem.tail _ (List.Mem.tail _ (List.Mem.tail _ (List.Mem.tail _ (List.Mem.tail _ (List.Mem.tail _ (List.Mem.head _))))))))) | exact List.Mem.tail _ (List.Mem.tail _ (List.Mem.tail _ (List.Mem.tail _ (List.Mem.tail _ (List.Mem.tail _ (List.Mem.tail _ (List.Mem.tail _ (List.Mem.tail _ (List.Mem.tail _ (List.Mem.head _)))))))))) | exact List.Mem.tail _ (List.Mem.tail _ (List.Mem.tail _ (List.Mem.tail _ (List.Mem.tail _ (List.Mem.tail _ (List.Mem.tail _ (List.Mem.tail _ (List.Mem.tail _ (List.Mem.tail _ (List.Mem.tail _ (List.Mem.head _))))))))))) | exact List.Mem.tail _ (List.Mem.tail _ (List.Mem.tail _ (List.Mem.tail _ (List.Mem.tail _ (List.Mem.tail _ (List.Mem.tail _ (List.Mem.tail _ (List.Mem.tail _ (List.Mem.tail _ (List.Mem.tail _ (List.Mem.tail _ (List.Mem.head _)))))))))))) | exact List.Mem.tail _ (List.Mem.tail _ (List.Mem.tail _ (List.Mem.tail _ (List.Mem.tail _ (List.Mem.tail _ (List.Mem.tail _ (List.Mem.tail _ (List.Mem.tail _ (List.Mem.tail _ (List.Mem.tail _ (List.Mem.tail _ (List.Mem.tail _ (List.Mem.head _))))))))))))) | exact List.Mem.tail _ (List.Mem.tail _ (List.Mem.tail _ (List.Mem.tail _ (List.Mem.tail _ (List.Mem.tail _ (List.Mem.tail _ (List.Mem.tail _ (List.Mem.tail _ (List.Mem.tail _ (List.Mem.tail _ (List.Mem.tail _ (List.Mem.tail _ (List.Mem.tail _ (List.Mem.head _)))))))))))))))) (by ke_room) ?_) | (with_unfolding_all refine none_in_yes (by k_asm) (by (first | exact List.Mem.head _ | exact List.Mem.tail _ (List.Mem.head _) | exact List.Mem.tail _ (List.Mem.tail _ (List.Mem.head _)) | exact List.Mem.tail _ (List.Mem.tail _ (List.Mem.tail _ (List.Mem.head _))) | exact List.Mem.tail _ (List.Mem.tail _ (List.Mem.tail _ (List.Mem.tail _ (List.Mem.head _)))) | exact List.Mem.tail _ (List.Mem.tail _ (List.Mem.tail _ (List.Mem.tail _ (List.Mem.tail _ (List.Mem.head _))))) | exact List.Mem.tail _ (List.Mem.tail _ (List.Mem.tail _ (List.Mem.tail _ (List.Mem.tail _ (List.Mem.tail _ (List.Mem.head _)))))) | exact List.Mem.tail _ (List.Mem.tail _ (List.Mem.tail _ (List.Mem.tail _ (List.Mem.tail _ (List.Mem.tail _ (List.Mem.tail _ (List.Mem.head _))))))) | exact List.Mem.tail _ (List.Mem.tail _ (List.Mem.tail _ (List.Mem.tail _ (List.Mem.tail _ (List.Mem.tail _ (List.Mem.tail _ (List.Mem.tail _ (List.Mem.head _)))))))) | exact List.Mem.tail _ (List.Mem.tail _ (List.Mem.tail _ (List.Mem.tail _ (List.Mem.tail _ (List.Mem.tail _ (List.Mem.tail _ (List.Mem.tail _ (List.Mem.tail _ (List.Mem.head _))))))))) | exact List.Mem.tail _ (List.Mem.tail _ (List.Mem.tail _ (List.Mem.tail _ (List.Mem.tail _ (List.Mem.tail _ (List.Mem.tail _ (List.Mem.tail _ (List.Mem.tail _ (List.Mem.tail _ (List.Mem.head _)))))))))) | exact List.Mem.tail _ (List.Mem.tail _ (List.Mem.tail _ (List.Mem.tail _ (List.Mem.tail _ (List.Mem.tail _ (List.Mem.tail _ (List.Mem.tail _ (List.Mem.tail _ (List.Mem.tail _ (List.Mem.tail _ (List.Mem.head _))))))))))) | exact List.Mem.tail _ (List.Mem.tail _ (List.Mem.tail _ (List.Mem.tail _ (List.Mem.tail _ (List.Mem.tail _ (List.Mem.tail _ (List.Mem.tail _ (List.Mem.tail _ (List.Mem.tail _ (List.Mem.tail _ (List.Mem.tail _ (List.Mem.head _)))))))))))) | exact List.Mem.tail _ (List.Mem.tail _ (List.Mem.tail _ (List.Mem.tail _ (List.Mem.tail _ (List.Mem.tail _ (List.Mem.tail _ (List.Mem.tail _ (List.Mem.tail _ (List.Mem.tail _ (List.Mem.tail _ (List.Mem.tail _ (List.Mem.tail _ (List.Mem.head _))))))))))))) | exact List.Mem.tail _ (List.Mem.tail _ (List.Mem.tail _ (List.Mem.tail _ (List.Mem.tail _ (List.Mem.tail _ (List.Mem.tail _ (List.Mem.tail _ (List.Mem.tail _ (List.Mem.tail _ (List.Mem.tail _ (List.Mem.tail _ (List.Mem.tail _ (List.Mem.tail _ (List.Mem.head _)))))))))))))))) (by (first | exact List.Mem.head _ | exact List.Mem.tail _ (List.Mem.head _) | exact List.Mem.tail _ (List.Mem.tail _ (List.Mem.head _)) | exact List.Mem.tail _ (List.Mem.tail _ (List.Mem.tail _ (List.Mem.head _))) | exact List.Mem.tail _ (List.Mem.tail _ (List.Mem.tail _ (List.Mem.tail _ (List.Mem.head _)))) | exact List.Mem.tail _ (List.Mem.tail _ (List.Mem.tail _ (List.Mem.tail _ (List.Mem.tail _ (List.Mem.head _))))) | exact List.Mem.tail _ (List.Mem.tail _ (List.Mem.tail _ (List.Mem.tail _ (List.Mem.tail _ (List.Mem.tail _ (List.Mem.head _)))))) | exact List.Mem.tail _ (List.Mem.tail _ (List.Mem.tail _ (List.Mem.tail _ (List.Mem.tail _ (List.Mem.tail _ (List.Mem.tail _ (List.Mem.head _))))))) | exact List.Mem.tail _ (List.Mem.tail _ (List.Mem.tail _ (List.Mem.tail _ (List.Mem.tail _ (List.Mem.tail _ (List.Mem.tail _ (List.Mem.tail _ (List.Mem.head _)))))))) | exact List.Mem.tail _ (List.Mem.tail _ (List.Mem.tail _ (List.Mem.tail _ (List.Mem.tail _ (List.Mem.tail _ (List.Mem.tail _ (List.Mem.tail _ (List.Mem.tail _ (List.Mem.head _))))))))) | exact List.Mem.tail _ (List.Mem.tail _ (List.Mem.tail _ (List.Mem.tail _ (List.Mem.tail _ (List.Mem.tail _ (List.Mem.tail _ (List.Mem.tail _ (List.Mem.tail _ (List.Mem.tail _ (List.Mem.head _)))))))))) | exact List.Mem.tail _ (List.Mem.tail _ (List.Mem.tail _ (List.Mem.tail _ (List.Mem.tail _ (List.Mem.tail _ (List.Mem.tail _ (List.Mem.tail _ (List.Mem.tail _ (List.Mem.tail _ (List.Mem.tail _ (List.Mem.head _))))))))))) | exact List.Mem.tail _ (List.Mem.tail _ (List.Mem.tail _ (List.Mem.tail _ (List.Mem.tail _ (List.Mem.tail _ (List.Mem.tail _ (List.Mem.tail _ (List.Mem.tail _ (List.Mem.tail _ (List.Mem.tail _ (List.Mem.tail _ (List.Mem.head _)))))))))))) | exact List.Mem.tail _ (List.Mem.tail _ (List.Mem.tail _ (List.Mem.tail _ (List.Mem.tail _ (List.Mem.tail _ (List.Mem.tail _ (List.Mem.tail _ (List.Mem.tail _ (List.Mem.tail _ (List.Mem.tail _ (List.Mem.tail _ (List.Mem.tail _ (List.Mem.head _))))))))))))) | exact List.Mem.tail _ (List.Mem.tail _ (List.Mem.tail _ (List.Mem.tail _ (List.Mem.tail _ (List.Mem.tail _ (List.Mem.tail _ (List.Mem.tail _ (List.Mem.tail _ (List.Mem.tail _ (List.Mem.tail _ (List.Mem.tail _ (List.Mem.tail _ (List.Mem.tail _ (List.Mem.head _)))))))))))))))) (by ke_room) ?_))
  k_steps
  · (rename News h₀ L _ _ => nE9); (rename Fr h₀ L _ _ => fE9); exact hret2 _ _ fE9 (cb_drop nE9 (fun p hp => by first | exact hp | exact .tail _ (hp) | exact .tail _ (.tail _ (hp)) | exact .tail _ (.tail _ (.tail _ (hp))) | exact .tail _ (.tail _ (.tail _ (.tail _ (hp)))) | exact .tail _ (.tail _ (.tail _ (.tail _ (.tail _ (hp))))))) _ hN9 hno9
  · (rename News h₀ L _ _ => nE9); (rename Fr h₀ L _ _ => fE9); exact hret _ _ _ _ _ _ _ _ _ _ _ _ fE9 (cb_drop nE9 (List.forall_mem_cons.mpr ⟨by with_unfolding_all (first | exact List.Mem.head _ | exact List.Mem.tail _ (List.Mem.head _) | exact List.Mem.tail _ (List.Mem.tail _ (List.Mem.head _)) | exact List.Mem.tail _ (List.Mem.tail _ (List.Mem.tail _ (List.Mem.head _))) | exact List.Mem.tail _ (List.Mem.tail _ (List.Mem.tail _ (List.Mem.tail _ (List.Mem.head _)))) | exact List.Mem.tail _ (List.Mem.tail _ (List.Mem.tail _ (List.Mem.tail _ (List.Mem.tail _ (List.Mem.head _))))) | exact List.Mem.tail _ (List.Mem.tail _ (List.Mem.tail _ (List.Mem.tail _ (List.Mem.tail _ (List.Mem.tail _ (List.Mem.head _)))))) | exact List.Mem.tail _ (List.Mem.tail _ (List.Mem.tail _ (List.Mem.tail _ (List.Mem.tail _ (List.Mem.tail _ (List.Mem.tail _ (List.Mem.head _))))))) | exact List.Mem.tail _ (List.Mem.tail _ (List.Mem.tail _ (List.Mem.tail _ (List.Mem.tail _ (List.Mem.tail _ (List.Mem.tail _ (List.Mem.tail _ (List.Mem.head _)))))))) | exact List.Mem.tail _ (List.Mem.tail _ (List.Mem.tail _ (List.Mem.tail _ (List.Mem.tail _ (List.Mem.tail _ (List.Mem.tail _ (List.Mem.tail _ (List.Mem.tail _ (List.Mem.head _))))))))) | exact List.Mem.tail _ (List.Mem.tail _ (List.Mem.tail _ (List.Mem.tail _ (List.Mem.tail _ (List.Mem.tail _ (List.Mem.tail _ (List.Mem.tail _ (List.Mem.tail _ (List.Mem.tail _ (List.Mem.head _)))))))))) | exact List.Mem.tail _ (List.Mem.tail _ (List.Mem.tail _ (List.Mem.tail _ (List.Mem.tail _ (List.Mem.tail _ (List.Mem.tail _ (List.Mem.tail _ (List.Mem.tail _ (List.Mem.tail _ (List.Mem.tail _ (List.Mem.head _))))))))))) | exact List.Mem.tail _ (List.Mem.tail _ (List.Mem.tail _ (List.Mem.tail _ (List.Mem.tail _ (List.Mem.tail _ (List.Mem.tail _ (List.Mem.tail _ (List.Mem.tail _ (List.Mem.tail _ (List.Mem.tail _ (List.Mem.tail _ (List.Mem.head _)))))))))))) | exact List.Mem.tail _ (List.Mem.tail _ (List.Mem.tail _ (List.Mem.tail _ (List.Mem.tail _ (List.Mem.tail _ (List.Mem.tail _ (List.Mem.tail _ (List.Mem.tail _ (List.Mem.tail _ (List.Mem.tail _ (List.Mem.tail _ (List.Mem.tail _ (List.Mem.head _))))))))))))) | exact List.Mem.tail _ (List.Mem.tail _ (List.Mem.tail _ (List.Mem.tail _ (List.Mem.tail _ (List.Mem.tail _ (List.Mem.tail _ (List.Mem.tail _ (List.Mem.tail _ (List.Mem.tail _ (List.Mem.tail _ (List.Mem.tail _ (List.Mem.tail _ (List.Mem.tail _ (List.Mem.head _))))))))))))))), List.forall_mem_cons.mpr ⟨by (first | exact List.Mem.head _ | exact List.Mem.tail _ (List.Mem.head _) | exact List.Mem.tail _ (List.Mem.tail _ (List.Mem.head _)) | exact List.Mem.tail _ (List.Mem.tail _ (List.Mem.tail _ (List.Mem.head _))) | exact List.Mem.tail _ (List.Mem.tail _ (List.Mem.tail _ (List.Mem.tail _ (List.Mem.head _)))) | exact List.Mem.tail _ (List.Mem.tail _ (List.Mem.tail _ (List.Mem.tail _ (List.Mem.tail _ (List.Mem.head _))))) | exact List.Mem.tail _ (List.Mem.tail _ (List.Mem.tail _ (List.Mem.tail _ (List.Mem.tail _ (List.Mem.tail _ (List.Mem.head _)))))) | exact List.Mem.tail _ (List.Mem.tail _ (List.Mem.tail _ (List.Mem.tail _ (List.Mem.tail _ (List.Mem.tail _ (List.Mem.tail _ (List.Mem.head _))))))) | exact List.Mem.tail _ (List.Mem.tail _ (List.Mem.tail _ (List.Mem.tail _ (List.Mem.tail _ (List.Mem.tail _ (List.Mem.tail _ (List.Mem.tail _ (List.Mem.head _)))))))) | exact List.Mem.tail _ (List.Mem.tail _ (List.Mem.tail _ (List.Mem.tail _ (List.Mem.tail _ (List.Mem.tail _ (List.Mem.tail _ (List.Mem.tail _ (List.Mem.tail _ (List.Mem.head _))))))))) | exact List.Mem.tail _ (List.Mem.tail _ (List.Mem.tail _ (List.Mem.tail _ (List.Mem.tail _ (List.Mem.tail _ (List.Mem.tail _ (List.Mem.tail _ (List.Mem.tail _ (List.Mem.tail _ (List.Mem.head _)))))))))) | exact List.Mem.tail _ (List.Mem.tail _ (List.Mem.tail _ (List.Mem.tail _ (List.Mem.tail _ (List.Mem.tail _ (List.Mem.tail _ (List.Mem.tail _ (List.Mem.tail _ (List.Mem.tail _ (List.Mem.tail _ (List.Mem.head _))))))))))) | exact List.Mem.tail _ (List.Mem.tail _ (List.Mem.tail _ (List.Mem.tail _ (List.Mem.tail _ (List.Mem.tail _ (List.Mem.tail _ (List.Mem.tail _ (List.Mem.tail _ (List.Mem.tail _ (List.Mem.tail _ (List.Mem.tail _ (List.Mem.head _)))))))))))) | exact List.Mem.tail _ (List.Mem.tail _ (List.Mem.tail _ (List.Mem.tail _ (List.Mem.tail _ (List.Mem.tail _ (List.Mem.tail _ (List.Mem.tail _ (List.Mem.tail _ (List.Mem.tail _ (List.Mem.tail _ (List.Mem.tail _ (List.Mem.tail _ (List.Mem.head _))))))))))))) | exact List.Mem.tail _ (List.Mem.tail _ (List.Mem.tail _ (List.Mem.tail _ (List.Mem.tail _ (List.Mem.tail _ (List.Mem.tail _ (List.Mem.tail _ (List.Mem.tail _ (List.Mem.tail _ (List.Mem.tail _ (List.Mem.tail _ (List.Mem.tail _ (List.Mem.tail _ (List.Mem.head _))))))))))))))), List.forall_mem_cons.mpr ⟨by (first | exact List.Mem.head _ | exact List.Mem.tail _ (List.Mem.head _) | exact List.Mem.tail _ (List.Mem.tail _ (List.Mem.head _)) | exact List.Mem.tail _ (List.Mem.tail _ (List.Mem.tail _ (List.Mem.head _))) | exact List.Mem.tail _ (List.Mem.tail _ (List.Mem.tail _ (List.Mem.tail _ (List.Mem.head _)))) | exact List.Mem.tail _ (List.Mem.tail _ (List.Mem.tail _ (List.Mem.tail _ (List.Mem.tail _ (List.Mem.head _))))) | exact List.Mem.tail _ (List.Mem.tail _ (List.Mem.tail _ (List.Mem.tail _ (List.Mem.tail _ (List.Mem.tail _ (List.Mem.head _)))))) | exact List.Mem.tail _ (List.Mem.tail _ (List.Mem.tail _ (List.Mem.tail _ (List.Mem.tail _ (List.Mem.tail _ (List.Mem.tail _ (List.Mem.head _))))))) | exact List.Mem.tail _ (List.Mem.tail _ (List.Mem.tail _ (List.Mem.tail _ (List.Mem.tail _ (List.Mem.tail _ (List.Mem.tail _ (List.Mem.tail _ (List.Mem.head _)))))))) | exact List.Mem.tail _ (List.Mem.tail _ (List.Mem.tail _ (List.Mem.tail _ (List.Mem.tail _ (List.Mem.tail _ (List.Mem.tail _ (List.Mem.tail _ (List.Mem.tail _ (List.Mem.head _))))))))) | exact List.Mem.tail _ (List.Mem.tail _ (List.Mem.tail _ (List.Mem.tail _ (List.Mem.tail _ (List.Mem.tail _ (List.Mem.tail _ (List.Mem.tail _ (List.Mem.tail _ (List.Mem.tail _ (List.Mem.head _)))))))))) | exact List.Mem.tail _ (List.Mem.tail _ (List.Mem.tail _ (List.Mem.tail _ (List.Mem.tail _ (List.Mem.tail _ (List.Mem.tail _ (List.Mem.tail _ (List.Mem.tail _ (List.Mem.tail _ (List.Mem.tail _ (List.Mem.head _))))))))))) | exact List.Mem.tail _ (List.Mem.tail _ (List.Mem.tail _ (List.Mem.tail _ (List.Mem.tail _ (List.Mem.tail _ (List.Mem.tail _ (List.Mem.tail _ (List.Mem.tail _ (List.Mem.tail _ (List.Mem.tail _ (List.Mem.tail _ (List.Mem.head _)))))))))))) | exact List.Mem.tail _ (List.Mem.tail _ (List.Mem.tail _ (List.Mem.tail _ (List.Mem.tail _ (List.Mem.tail _ (List.Mem.tail _ (List.Mem.tail _ (List.Mem.tail _ (List.Mem.tail _ (List.Mem.tail _ (List.Mem.tail _ (List.Mem.tail _ (List.Mem.head _))))))))))))) | exact List.Mem.tail _ (List.Mem.tail _ (List.Mem.tail _ (List.Mem.tail _ (List.Mem.tail _ (List.Mem.tail _ (List.Mem.tail _ (List.Mem.tail _ (List.Mem.tail _ (List.Mem.tail _ (List.Mem.tail _ (List.Mem.tail _ (List.Mem.tail _ (List.Mem.tail _ (List.Mem.head _))))))))))))))), (fun p hp => by first | exact hp | exact .tail _ (hp) | exact .tail _ (.tail _ (hp)) | exact .tail _ (.tail _ (.tail _ (hp))) | exact .tail _ (.tail _ (.tail _ (.tail _ (hp)))) | exact .tail _ (.tail _ (.tail _ (.tail _ (.tail _ (hp))))))⟩⟩⟩)) (by first | assumption | exact And.right (by assumption) | exact And.right (And.right (by assumption)) | exact And.right (And.right (And.right (by assumption)))) (by (first | assumption | exact ktn_ltOf (by assumption) | exact ktn_ltOf (And.right (by assumption)) | exact ktn_ltOf (And.right (And.right (by assumption))) | exact ktn_ltOf (And.right (And.right (And.right (by assumption)))) | exact ktn_ltOf (And.right (And.right (And.right (And.right (by assumption))))) | exact ktn_ltOf (And.right (And.right (And.right (And.right (And.right (by assumption)))))))) (by (first | assumption | exact ktn_ltOf (by assumption) | exact ktn_ltOf (And.right (by assumption)) | exact ktn_ltOf (And.right (And.right (by assumption))) | exact ktn_ltOf (And.right (And.right (And.right (by assumption)))) | exact ktn_ltOf (And.right (And.right (And.right (And.right (by assumption))))) | exact ktn_ltOf (And.right (And.right (And.right (And.right (And.right (by assumption)))))))) _ hN9 hr9

end Mine
end
section
open PySem PySem.W PyProof.Rows
namespace Mine
section
variable {prog : Program} {w : World} {A : Around} {E Q : Value → Shared → Prop} {s : Shared} {h₀ : Heap} {L a r1 r2 : Addr} {m : Str → Option Value} {p q t b : Int} {k1 k2 k3 k4 : Nat} {news : List (Addr × Obj)}
abbrev shTup (t b : Int) : Str := PyData.shown (.tuple [.int t, .int b])
abbrev shTwo (p q t b : Int) : Str := PyData.shown (.list [.tuple [.int p, .int q], .tuple [.int t, .int b]])
theorem short_int {t : Int} (h1 : -1000 ≤ t) (h2 : t ≤ 1000) : (PyData.shown (.int t)).length ≤ 13 := PyData.shown_int_le2 (by omega) (by omega)
theorem lg_int {t : Int} (h1 : -1000 ≤ t) (h2 : t ≤ 1000) : t.natAbs.log2 < 1920 := by
  have := Nat.log2_le_self t.natAbs
  omega
theorem short_tup {t b : Int} (h1 : -1000 ≤ t) (h2 : t ≤ 1000) (h3 : -1000 ≤ b) (h4 : b ≤ 1000) : PyData.leavesShort 13 (.tuple [.int t, .int b]) = true := by
  simp only [PyData.leavesShort, PyData.leavesShortAll, short_int h1 h2, short_int h3 h4, decide_true, Bool.and_true]
theorem repr_tup (F : Fr h₀ L s.heap m) (N : News h₀ L s.heap news) (m1 : (r1, tup2 t b k1 k2) ∈ news) (h1 : -1000 ≤ t) (h2 : t ≤ 1000) (h3 : -1000 ≤ b) (h4 : b ≤ 1000) (hg : A.guards = some []) (hu : A.units + 64 < cLine)
    (h : ∀ z h' u tk, z = shTup t b → Fr h₀ L h' m → News h₀ L h' news → Q (.str z u) { s with heap := h', toks := tk }) : wpAny (model prog w) A (call (.builtin "repr") [.ref r1]) Q E s := by
  obtain ⟨as, r⟩ := kqd_in N 8 (tup_dat m1) rfl
  exact repr_HN F N r (by simp [kqdP, kqdPs, PyData.hasDict, PyData.hasDictAll]) (by simp [kqdP, kqdPs, PyData.showable, PyData.showableAll, lg_int h1 h2, lg_int h3 h4]) hg (Nat.lt_of_le_of_lt (Nat.add_le_add_left (by simp only [kqdP, kqdPs, PyData.depth, PyData.depthAll]; decide) _) hu) (fun h' u tk => h _ h' u tk rfl) (PyData.shown_fits_bulk (B := 13) (by decide) (by decide) (short_tup h1 h2 h3 h4) (by simp [kqdP, kqdPs, PyData.bulk, PyData.bulkAll]))
theorem repr_two {l : Addr} {n : Nat} (F : Fr h₀ L s.heap m) (N : News h₀ L s.heap news) (ml : (l, listOf [.ref r1, .ref r2].toArray n) ∈ news) (m1 : (r1, tup2 p q k1 k2) ∈ news) (m2 : (r2, tup2 t b k3 k4) ∈ news) (hp : -1000 ≤ p) (hp' : p ≤ 1000) (hq : -1000 ≤ q) (hq' : q ≤ 1000) (h1 : -1000 ≤ t) (h2 : t ≤ 1000) (h3 : -1000 ≤ b) (h4 : b ≤ 1000) (hg : A.guards = some []) (hu : A.units + 64 < cLine)
    (h : ∀ z h' u tk, z = shTwo p q t b → Fr h₀ L h' m → News h₀ L h' news → Q (.str z u) { s with heap := h', toks := tk }) : wpAny (model prog w) A (call (.builtin "repr") [.ref l]) Q E s := by
  obtain ⟨as, r⟩ := kqd_in N 8 (DatIn.list ml (.cons (tup_dat m1) (.cons (tup_dat m2) .nil))) rfl
  refine repr_HN F N r (by simp [kqdP, kqdPs, PyData.hasDict, PyData.hasDictAll]) (by simp [kqdP, kqdPs, PyData.showable, PyData.showableAll, lg_int hp hp', lg_int hq hq', lg_int h1 h2, lg_int h3 h4]) hg (Nat.lt_of_le_of_lt (Nat.add_le_add_left (by simp only [kqdP, kqdPs, PyData.depth, PyData.depthAll]; decide) _) hu) (fun h' u tk => h _ h' u tk rfl) (PyData.shown_fits_bulk (B := 13) (by decide) (by decide) ?_ (by simp [kqdP, kqdPs, PyData.bulk, PyData.bulkAll]))
  show PyData.leavesShort 13 (.list [.tuple [.int p, .int q], .tuple [.int t, .int b]]) = true
  rw [PyData.leavesShort, PyData.leavesShortAll, PyData.leavesShortAll, PyData.leavesShortAll, short_tup hp hp' hq hq', short_tup h1 h2 h3 h4]
  rfl
end
end Mine
end
section
open PySem PySem.W PyProof.Rows
namespace Mine
abbrev invL (r m : Int) : List Int := List.foldl (fun l k => if (r * k).fmod m = 1 then l ++ [k] else l) [] (rangeKs 0 (m - 0).toNat)
theorem mem_invL {r m k : Int} (_hm : 2 ≤ m) : k ∈ invL r m ↔ 0 ≤ k ∧ k < m ∧ (r * k).fmod m = 1 := by
  unfold invL
  rw [fold_filter, List.nil_append, List.mem_filter, decide_eq_true_eq]
  constructor
  · rintro ⟨h1, h2⟩
    obtain ⟨a, b⟩ := mem_rangeKs h1
    exact ⟨a, by omega, h2⟩
  · rintro ⟨h1, h2, h3⟩
    refine ⟨?_, h3⟩
    unfold rangeKs
    exact List.mem_map.mpr ⟨k.toNat, List.mem_range.mpr (by omega), by omega⟩
theorem fmod_one {a m : Int} (hm : 2 ≤ m) : a.fmod m = 1 ↔ m ∣ a - 1 := by
  constructor
  · intro h
    exact ⟨a.fdiv m, by have := Int.fmod_def a m; omega⟩
  · rintro ⟨c, hc⟩
    have e : a = m * c + 1 := by omega
    rw [e, Int.fmod_eq_emod_of_nonneg _ (by omega), Int.add_comm, Int.add_mul_emod_self_left]
    exact Int.emod_eq_of_lt (by omega) (by omega)
theorem inv_none {r m : Int} (hm : 2 ≤ m) (h : Int.gcd (r.fmod m) m ≠ 1) (hd : decide (invL r m = []) = false) : False := by
  rw [decide_eq_false_iff_not] at hd
  obtain ⟨k, hk⟩ := List.exists_mem_of_ne_nil _ hd
  obtain ⟨_, _, h3⟩ := (mem_invL hm).mp hk
  obtain ⟨c, hc⟩ := (fmod_one hm).mp h3
  have g1 : (Int.gcd (r.fmod m) m : Int) ∣ r.fmod m := Int.gcd_dvd_left ..
  have g2 : (Int.gcd (r.fmod m) m : Int) ∣ m := Int.gcd_dvd_right ..
  have g3 : (Int.gcd (r.fmod m) m : Int) ∣ r := by
    have e : r = r.fmod m + m * r.fdiv m := by have := Int.fmod_def r m; omega
    have := Int.dvd_add g1 (Int.dvd_trans g2 (Int.dvd_mul_right m (r.fdiv m)))
    rwa [← e] at this
  have g4 : (Int.gcd (r.fmod m) m : Int) ∣ 1 := by
    have := Int.dvd_sub (Int.dvd_trans g3 (Int.dvd_mul_right r k)) (Int.dvd_trans g2 (Int.dvd_mul_right m c))
    have e : r * k - m * c = 1 := by omega
    rwa [e] at this
  have := Int.le_of_dvd (by decide) g4
  have hp : 0 < Int.gcd (r.fmod m) m := Int.gcd_pos_iff.mpr (Or.inr (by omega))
  omega
theorem inv_mul {r m g p q : Int} (R : ExtR (r.fmod m) m g p q) (hg : g = 1) : m ∣ r * p.fmod m - 1 := by
  have e := R.e
  rw [hg] at e
  have e1 := Int.fmod_def r m
  have e2 := Int.fmod_def p m
  refine ⟨-(q + p * -(r.fdiv m)) + r * -(p.fdiv m), ?_⟩
  rw [e2]
  rw [e1] at e
  grind
theorem inv_mem {r m g p q : Int} (hm : 2 ≤ m) (R : ExtR (r.fmod m) m g p q) (hg : g = 1) : p.fmod m ∈ invL r m :=
  (mem_invL hm).mpr ⟨Int.fmod_nonneg_of_pos _ (by omega), Int.fmod_lt_of_pos _ (by omega), (fmod_one hm).mpr (inv_mul R hg)⟩
theorem inv_some {r m g p q : Int} (hm : 2 ≤ m) (R : ExtR (r.fmod m) m g p q) (hg : g = 1) (hd : decide (invL r m = []) = true) : False := by
  rw [decide_eq_true_eq] at hd
  have := inv_mem hm R hg
  rw [hd] at this
  cases this
theorem inv_uniq {r m g p q k : Int} (hm : 2 ≤ m) (R : ExtR (r.fmod m) m g p q) (hg : g = 1) (hk : k ∈ invL r m) : k = p.fmod m := by
  obtain ⟨k1, k2, k3⟩ := (mem_invL hm).mp hk
  have a := (fmod_one hm).mp k3
  have b := inv_mul R hg
  have p1 := Int.fmod_nonneg_of_pos p (show 0 < m by omega)
  have p2 := Int.fmod_lt_of_pos p (show 0 < m by omega)
  generalize p.fmod m = z at *
  obtain ⟨c, hc⟩ := a
  obtain ⟨d, hd⟩ := b
  have hdv : m ∣ k - z := ⟨k * -d + z * c + 0, by
    have e1 : k = k * (r * z) - k * (m * d) := by grind
    have e2 : z = z * (r * k) - z * (m * c) := by grind
    grind⟩
  obtain ⟨f, hf⟩ := hdv
  rcases Int.lt_trichotomy f 0 with h | h | h
  · exfalso
    have : m * f ≤ m * -1 := Int.mul_le_mul_of_nonneg_left (by omega) (by omega)
    omega
  · rw [h, Int.mul_zero] at hf; omega
  · exfalso
    have : m * 1 ≤ m * f := Int.mul_le_mul_of_nonneg_left (by omega) (by omega)
    omega
theorem inv_head {r m g p q : Int} (hm : 2 ≤ m) (R : ExtR (r.fmod m) m g p q) (hg : g = 1) : (invL r m)[(0 : Int).toNat]? = some (p.fmod m) := by
  have h := inv_mem hm R hg
  cases e : invL r m with
  | nil => rw [e] at h; cases h
  | cons a l =>
    have := inv_uniq hm R hg (show a ∈ invL r m by rw [e]; exact .head _)
    rw [this]; rfl
theorem sym_zero {v r m : Int} (hm : 2 ≤ m) (hv : v = if m < 2 * r.fmod m then r.fmod m - m else r.fmod m) : (v - r).fmod m = 0 := by
  rw [fmod_dvd (by omega), hv]
  have e := Int.fmod_def r m
  split
  · exact ⟨-(r.fdiv m) - 1, by rw [e, Int.mul_sub, Int.mul_neg]; omega⟩
  · exact ⟨-(r.fdiv m), by rw [e, Int.mul_neg]; omega⟩
end Mine
namespace Mine
theorem small_ok (x : Int) : 2 ≤ 2 + x.fmod 29 := by
  have := Int.fmod_nonneg_of_pos x (show (0 : Int) < 29 by decide)
  omega
theorem inv_bnd {r x g p q : Int} (_R : ExtR r (2 + x.fmod 29) g p q) : 0 ≤ p.fmod (2 + x.fmod 29) ∧ p.fmod (2 + x.fmod 29) ≤ 30 := by
  have h1 := Int.fmod_nonneg_of_pos x (show (0 : Int) < 29 by decide)
  have h2 := Int.fmod_lt_of_pos x (show (0 : Int) < 29 by decide)
  have h3 := Int.fmod_nonneg_of_pos p (show 0 < 2 + x.fmod 29 by omega)
  have h4 := Int.fmod_lt_of_pos p (show 0 < 2 + x.fmod 29 by omega)
  omega
section
open PySem.Calls
variable {prog : Program} {w : World} {A : Around} {E Q : Value → Shared → Prop} {s : Shared} {h₀ : Heap} {L : Addr} {m : Str → Option Value} {news : List (Addr × Obj)}
theorem item_at {value slice : PySem.Expr} {l : Addr} {ys : List Value} {ns : List Int} {e : Nat} {k z : Int} {u : Tok} (N : News h₀ L s.heap news) (hm : (l, listOf ys.toArray e) ∈ news) (hi : IntsAre ys ns) (h0 : 0 ≤ k) (hk : k < 100) (hx : ns[k.toNat]? = some z) (h : ∀ t, Q (.int z t) s)
    (hs : subscripted slice false (.ref l) (.int k u) = operate [.ref l, .int k u] (getItem (.ref l) (.int k u)) := by with_unfolding_all rfl) :
    wpAny (model prog w) A (subscriptTail value slice (.ref l) (.int k u)) Q E s := by
  have hl : s.heap.IsList l ys.toArray := ⟨_, (N _ hm).1, rfl, e, rfl⟩
  obtain ⟨t, ht⟩ := hi.get k.toNat z hx
  exact tail_any hl.typeIs slot_list_getitem.lookup (wpAny_getItem_list hl h0 (by omega) (by simpa using ht) (h t)) hs
abbrev shInt (i : Int) : Str := PyData.shown (.int i)
theorem repr_int1 {i : Int} {t : Tok} (h1 : -1000 ≤ i) (h2 : i ≤ 1000) (h : ∀ z u tk, z = shInt i → Q (.str z u) { s with toks := tk }) : wpAny (model prog w) A (call (.builtin "repr") [.int i t]) Q E s :=
  P.repr_of_int (by have := Nat.log2_le_self i.natAbs; omega) (h _ _ _ rfl)
end
end Mine
end
section
open PySem PySem.W PyProof.Rows PyProof.V PySem.Spec PySem.Calls PyProof.Rows.LCg
namespace Mine
section
variable {prog : Program} {w : World} {A : Around} {E : Value → Shared → Prop} {s : Shared} {h₀ : Heap} {L : Addr} {m : Str → Option Value} {env : Env}
theorem fresh_of {h : Heap} (F : Fr h₀ L h m) {a : Addr} (ha : h.objs.size ≤ a) : h₀.get? a = none := by
  cases e : h₀.get? a with
  | none => rfl
  | some o => exact absurd (Heap.lt_size (F.keep a o e)) (Nat.not_lt.mpr ha)
theorem fr_same {h h' : Heap} {a : Addr} (F : Fr h₀ L h m) (k : Heap.SameBut a h h') (h1 : a ≠ L) (h2 : h₀.get? a = none) : Fr h₀ L h' m := F.change k h1 h2
theorem news_same {h h' : Heap} {a : Addr} {news : List (Addr × Obj)} (N : News h₀ L h news) (k : Heap.SameBut a h h') (off : ∀ p ∈ news, p.1 ≠ a) : News h₀ L h' news :=
  fun p hp => ⟨k.extBut _ _ (off p hp) (N p hp).1, (N p hp).2⟩
/-- a block [c for a, b in pairs if t], its pairs ints, its element the number 1 -/
theorem pairs_comp {elt ct iter : PySem.Expr} {a b : Str} {pa pb tp : Pos} {kk : Nat} {scope : Scope} {cl : List (Str × Addr)} {pos : Pos} {Q : Value → Shared → Prop} {qs : List Pr} {pl : Addr} {e : Nat} {news : List (Addr × Obj)} (T : Pr → Bool)
    (hh : A.handled = none) (F : Fr h₀ L s.heap m) (N : News h₀ L s.heap news)
    (hclos : closureFor scope env = pure cl) (hcell : ∀ y ∈ scope.names, y.2 ≠ .cell) (hkind : scope.kind = .function)
    (hnames : ∀ y ∈ scope.names, y.2 = .local → scope.names.lookup y.1 = some .local) (hxa : scope.names.lookup a = some .local) (hxb : scope.names.lookup b = some .local) (hab : ¬ a = b)
    (hl : (pl, prObj qs e) ∈ news) (hps : PrsIn qs news) (hsz : qs.length ≤ sizeLine)
    (hiter : ∀ (Q' : Value → Shared → Prop), Q' (.ref pl) s → wpAny (model prog w) A (eval iter env) Q' E s)
    (turn : ∀ q ∈ qs, ∀ I oI C oC D oD m₂ h tk E' (Q' : Bool → Shared → Prop), NsObj oC m₂ → m₂ a = some (.int q.r q.k) → m₂ b = some (.int q.m q.l) → Fr h₀ L h m → News h₀ L h ((I, oI) :: (C, oC) :: (D, oD) :: news) →
      (∀ h' tk', Fr h₀ L h' m → News h₀ L h' ((I, oI) :: (C, oC) :: (D, oD) :: news) → Q' (T q) { s with heap := h', toks := tk' }) →
      wpAny (model prog w) A (isTrue ct (compEnvC scope cl C env) (eval ct (compEnvC scope cl C env))) Q' E' { s with heap := h, toks := tk })
    (helt : ∀ C h tk E' (Q' : Value → Shared → Prop), (∀ t tk', Q' (.int 1 t) { s with heap := h, toks := tk' }) → wpAny (model prog w) A (eval elt (compEnvC scope cl C env)) Q' E' { s with heap := h, toks := tk })
    (done : ∀ D h tk ys, Fr h₀ L h m → News h₀ L h ((D, lst ys) :: news) → (∀ p ∈ news, p.1 < D) → ys.length ≤ qs.length → IntsAre ys ((qs.filter T).map fun _ => 1) → Q (.ref D) { s with heap := h, toks := tk })
    (hs : ∀ x, foldedSetIterable iter env x = pure x) :
    wpAny (model prog w) A (eval (.ListComp elt [⟨.Tuple [.Name a pa, .Name b pb] kk tp, iter, [ct], 0⟩] scope pos) env) Q E s := by
  rw [eval_ListComp]
  refine wpAny_comprehension_free (use := none) rfl hs hclos hkind hnames (hiter _ ?_)
  have hol : s.heap.get? pl = some (prObj qs e) := (N _ hl).1
  have hls : s.heap.IsList pl (qs.map fun p => Value.ref p.a).toArray := ⟨_, hol, rfl, e, rfl⟩
  refine wpAny_pyIter_list hls ?_
  refine wpAny_newObj_type (wpAny_newFunctionEnv hcell (by intro y hy; simp at hy) (fun h₁ hns₁ hsb₁ => ?_) hkind)
  dsimp only at hns₁ hsb₁ ⊢
  generalize hI : s.heap.objs.size = I at *
  generalize hH1 : s.heap.push { cls := .type "list_iterator", data := .fields #[.ref pl, .int 0 0] } = H1 at *
  have hs1 : H1.objs.size = I + 1 := by rw [← hH1, Heap.size_push, hI]
  have k1 : ∀ b o, s.heap.get? b = some o → H1.get? b = some o := fun b o e => by rw [← hH1]; exact Heap.get?_push_of_some _ e
  have gI : H1.get? I = some { cls := .type "list_iterator", data := .fields #[.ref pl, .int 0 0] } := by rw [← hH1, ← hI]; exact Heap.get?_push_size _ rfl
  generalize hH2 : H1.push { cls := .type "list", dict := none, data := .seq ([] : List Value).toArray } = H2 at *
  have hs2 : H2.objs.size = I + 2 := by rw [← hH2, Heap.size_push, hs1]
  rw [hs1]
  have k2 : ∀ b o, H1.get? b = some o → H2.get? b = some o := fun b o e => by rw [← hH2]; exact Heap.get?_push_of_some _ e
  have gD : H2.get? (I + 1) = some (lst []) := by
    have z : (H1.push (lst [])).get? H1.objs.size = some (lst []) := Heap.get?_push_size _ rfl
    rw [hs1] at z
    rw [← hH2]
    exact z
  rw [hs2] at hns₁ hsb₁ ⊢
  have k3 : ∀ b o, H2.get? b = some o → h₁.get? b = some o := fun b o e => hsb₁.extBut b o (by have := Heap.lt_size e; rw [hs2] at this; exact Nat.ne_of_lt this) (Heap.get?_push_of_some _ e)
  have k : ∀ b o, s.heap.get? b = some o → h₁.get? b = some o := fun b o e => k3 _ _ (k2 _ _ (k1 _ _ e))
  have lo : ∀ p ∈ news, p.1 < I := fun p hp => by rw [← hI]; exact Heap.lt_size (N p hp).1
  have hLI : L < I := by rw [← hI]; exact F.ns.lt
  have fI : h₀.get? I = none := fresh_of F (by rw [hI]; exact Nat.le_refl _)
  have fD : h₀.get? (I + 1) = none := fresh_of F (by rw [hI]; exact Nat.le_succ _)
  have fC : h₀.get? (I + 2) = none := fresh_of F (by rw [hI]; exact Nat.le_add_right _ _)
  have hIC : I ≠ I + 2 := Nat.ne_of_lt (Nat.lt_add_of_pos_right (by decide))
  have hID : I ≠ I + 1 := Nat.ne_of_lt (Nat.lt_succ_self _)
  have hDC : I + 1 ≠ I + 2 := Nat.ne_of_lt (Nat.lt_succ_self _)
  have hLI' : L ≠ I := Nat.ne_of_lt hLI
  have hLD' : L ≠ I + 1 := Nat.ne_of_lt (Nat.lt_succ_of_lt hLI)
  have hLC' : L ≠ I + 2 := Nat.ne_of_lt (Nat.lt_succ_of_lt (Nat.lt_succ_of_lt hLI))
  have offI : ∀ p ∈ news, p.1 ≠ I := fun p hp => Nat.ne_of_lt (lo p hp)
  have offD : ∀ p ∈ news, p.1 ≠ I + 1 := fun p hp => Nat.ne_of_lt (Nat.lt_succ_of_lt (lo p hp))
  have offC : ∀ p ∈ news, p.1 ≠ I + 2 := fun p hp => Nat.ne_of_lt (Nat.lt_succ_of_lt (Nat.lt_succ_of_lt (lo p hp)))
  have hplI : pl ≠ I := offI _ hl
  have W := Walks.list (prog := prog) (w := w) hh I pl hplI (qs.map fun p => Value.ref p.a).toArray
  have hlen : (qs.map fun p => Value.ref p.a).toArray.size = qs.length := by simp
  rw [hlen] at W
  have loop : codeAny (model prog w) A (.compLoop (.ListComp elt [⟨.Tuple [.Name a pa, .Name b pb] kk tp, iter, [ct], 0⟩] scope pos) 0 (.ref I) (.ref (I + 1)) (compEnvC scope cl (I + 2) env))
      (compPost (model prog w) A E none Q (.ref (I + 1)) (I + 2)) { s with heap := h₁, toks := s.toks + ([] : List (Str × Value)).length } := by
    refine kct_loop (fun c s' => ∃ h' tk i ys m', s' = { s with heap := h', toks := tk } ∧ i ≤ qs.length ∧ c = qs.length + 1 - i ∧ ys.length ≤ i ∧ (h'.IsListIter I pl i ∧ h'.IsList pl (qs.map fun p => Value.ref p.a).toArray) ∧ Fr h₀ L h' m ∧ h'.Ns (I + 2) m' ∧
      News h₀ L h' ((I + 1, lst ys) :: news) ∧ IntsAre ys (((qs.take i).filter T).map fun _ => 1)) ?_ (qs.length + 1)
      ⟨h₁, _, 0, [], _, rfl, Nat.zero_le _, rfl, Nat.le_refl _, ⟨⟨_, k3 _ _ (k2 _ _ gI), rfl, rfl⟩, hls.at fun o e => k _ o e⟩, F.keeps k, hns₁, ?_, .nil⟩
    · rintro c s' ⟨h', tk, i, ys, m', rfl, hi, rfl, hyl, hst, F', hn', N', hys⟩
      by_cases hlt : i < qs.length
      · refine W.item i _ _ _ hlt hst fun v h₂ tk₂ hPv hst₂ hk₂ => ?_
        obtain ⟨q, hq, hqv⟩ : ∃ q, qs[i]? = some q ∧ v = .ref q.a := by
          simp only [List.getElem?_toArray, List.getElem?_map] at hPv
          obtain ⟨q, hq, hv⟩ := Option.map_eq_some_iff.mp hPv
          exact ⟨q, hq, hv.symm⟩
        subst hqv
        have hqm := List.mem_of_getElem? hq
        have up : ∀ c o, c ≠ I → h'.get? c = some o → h₂.get? c = some o := fun c o hc e => hk₂ c o (by simpa using hc) e
        have F₂ : Fr h₀ L h₂ m := fr_but F' hk₂ hLI' fI
        have N₂ : News h₀ L h₂ ((I + 1, lst ys) :: news) := news_but N' hk₂ fun p hp => by
          rcases List.mem_cons.mp hp with rfl | hp
          · exact Ne.symm hID
          · exact offI p hp
        obtain ⟨oq, hoq⟩ : ∃ o, o = tup2 q.r q.m q.k q.l := ⟨_, rfl⟩
        have ht : h₂.IsTuple q.a #[.int q.r q.k, .int q.m q.l] := ⟨_, (N₂ _ (.tail _ (hps q hqm).1)).1, rfl, _, rfl⟩
        refine wpAny_letOwnedTupleGo_listiter hst₂.1 ?_
        refine kcp_assign (env := compEnvC scope cl (I + 2) env) hh ht (lookup_relabel_local hxa) (lookup_relabel_local hxb) (by simp [compEnvC, relabel, hkind]) (hn'.at' fun o e => up _ o (Ne.symm hIC) e) fun h₃ tk₃ hn₃ hs₃ => ?_
        have F₃ : Fr h₀ L h₃ m := ⟨F₂.ns.at' fun o e => hs₃ _ o hLC' e, fun b o e => hs₃ b o (fun q => by rw [q] at e; have e' : h₀.get? (I + 2) = some o := e; rw [fC] at e'; cases e') (F₂.keep b o e), F₂.above⟩
        obtain ⟨oI, heI, hoI⟩ := hst₂.1
        obtain ⟨oC, heC, hoC⟩ := ns_obj hn₃
        have N₃ : News h₀ L h₃ ((I, oI) :: (I + 2, oC) :: (I + 1, lst ys) :: news) := fun p hp => by
          rcases List.mem_cons.mp hp with rfl | hp
          · exact ⟨hs₃ _ _ hIC heI, Ne.symm hLI', fI⟩
          rcases List.mem_cons.mp hp with rfl | hp
          · exact ⟨heC, Ne.symm hLC', fC⟩
          · refine ⟨hs₃ _ _ ?_ (N₂ p hp).1, (N₂ p hp).2⟩
            rcases List.mem_cons.mp hp with rfl | hp
            · exact hDC
            · exact offC p hp
        have hs' : ((qs.take (i + 1)).filter T) = ((qs.take i).filter T) ++ if T q then [q] else [] := by
          rw [List.take_add_one, hq, List.filter_append]
          cases hTq : T q <;> simp [hTq]
        refine turn q hqm I oI (I + 2) oC (I + 1) (lst ys) _ h₃ tk₃ _ _ hoC (by simp [hab]) (by simp) F₃ N₃ fun h₄ tk₄ F₄ N₄ => ?_
        have zI := (N₄ (I, oI) (.head _)).1
        have zC := (N₄ (I + 2, oC) (.tail _ (.head _))).1
        have zD := (N₄ (I + 1, lst ys) (.tail _ (.tail _ (.head _)))).1
        have N₄' : News h₀ L h₄ ((I + 1, lst ys) :: news) := fun p hp => N₄ p (.tail _ (.tail _ hp))
        have hl₄ : h₄.IsList pl (qs.map fun p => Value.ref p.a).toArray := ⟨_, (N₄' _ (.tail _ hl)).1, rfl, e, rfl⟩
        cases hTq : T q with
        | false =>
          rw [hTq] at hs'
          refine ⟨qs.length + 1 - (i + 1), by omega, h₄, tk₄, i + 1, ys, _, rfl, hlt, rfl, Nat.le_succ_of_le hyl, ⟨⟨oI, zI, hoI⟩, hl₄⟩, F₄, hoC.ns zC, N₄', ?_⟩
          rw [hs']; simpa using hys
        | true =>
          rw [hTq] at hs'
          simp only [if_true]
          refine helt _ _ _ _ _ fun t tk₅ => ?_
          refine append_at (hsz := by show ys.toArray.size ≤ sizeLine; rw [List.size_toArray]; omega) zD fun h₅ hs₅ hD₅ => ?_
          refine ⟨qs.length + 1 - (i + 1), by omega, h₅, tk₅, i + 1, ys ++ [.int 1 t], _, rfl, hlt, rfl, by rw [List.length_append, List.length_singleton]; exact Nat.succ_le_succ hyl,
            ⟨⟨oI, hs₅.extBut _ _ hID zI, hoI⟩, hl₄.extBut hs₅.extBut (offD _ hl)⟩, fr_same F₄ hs₅ (Ne.symm hLD') fD, (hoC.ns zC).sameBut hs₅ (Ne.symm hDC), fun p hp => ?_, ?_⟩
          · rcases List.mem_cons.mp hp with rfl | hp
            · exact ⟨hD₅.trans (congrArg some (lst_snoc ys _)), Ne.symm hLD', fD⟩
            · exact ⟨hs₅.extBut _ _ (offD p hp) (N₄ p (.tail _ (.tail _ (.tail _ hp)))).1, (N p hp).2⟩
          · rw [hs', if_pos rfl, List.map_append]
            exact IntsAre.append hys (.cons 1 t .nil)
      · have hin : i = qs.length := Nat.le_antisymm hi (Nat.not_lt.mp hlt)
        subst hin
        rw [List.take_length] at hys
        refine W.done _ _ _ hst fun h₂ tk₂ hk₂ => ?_
        refine ⟨m', hn'.at' fun o e => hk₂ _ o (by simpa using Ne.symm hIC) e, fun h'' hs'' => ?_⟩
        have F₂ : Fr h₀ L h₂ m := fr_but F' hk₂ hLI' fI
        have N₂ : News h₀ L h₂ ((I + 1, lst ys) :: news) := news_but N' hk₂ fun p hp => by
          rcases List.mem_cons.mp hp with rfl | hp
          · exact Ne.symm hID
          · exact offI p hp
        refine done (I + 1) h'' tk₂ ys (fr_same F₂ hs'' (Ne.symm hLC') fC) (news_same N₂ hs'' fun p hp => ?_) (fun p hp => Nat.lt_succ_of_lt (lo p hp)) hyl hys
        rcases List.mem_cons.mp hp with rfl | hp
        · exact hDC
        · exact offC p hp
    · intro p hp
      rcases List.mem_cons.mp hp with rfl | hp
      · exact ⟨k3 _ _ gD, Ne.symm hLD', fD⟩
      · exact ⟨k _ _ (N p hp).1, (N p hp).2⟩
  exact codeAny_compStart_list loop (W.self 0 _ _ _ ⟨⟨_, k3 _ _ (k2 _ _ gI), rfl, rfl⟩, hls.at fun o e => k _ o e⟩ loop)
end
end Mine
namespace Mine
section
variable {prog : Program} {w : World} {A : Around} {E : Value → Shared → Prop} {s : Shared} {h₀ : Heap} {L : Addr} {m : Str → Option Value} {env : Env}
theorem newEnv_cell {M : Model} {scope : Scope} {globals : Addr} {cl : List (Str × Addr)} {qual : Str} {n0 x n1 : Str} (hsc : scope.names = [(n0, .local), (x, .cell), (n1, .free)]) {Q : Env → Shared → Prop}
    (hQ : Q { scope, locals := s.heap.objs.size, globals, cells := (x, s.heap.objs.size + 1) :: cl, qual, func := none, code := env.code, frame := env.frame, builtins := env.builtins }
      { s with heap := (s.heap.push { cls := .type "dict", data := .dict #[] }).push { cls := .type "cell", data := .cell none } }) :
    wpAny M A (newFunctionEnv scope globals cl [] qual none .none (some env)) Q E s := by
  unfold newFunctionEnv
  refine wpAny_bind (wpAny_alloc ?_)
  rw [hsc]
  simp only [List.forIn_cons, List.forIn_nil, show (NameKind.local == NameKind.cell) = false from rfl, show (NameKind.cell == NameKind.cell) = true from rfl, show (NameKind.free == NameKind.cell) = false from rfl, if_true, if_false, Bool.false_eq_true]
  repeat (first | refine wpAny_bind ?_ | refine wpAny_pure ?_ | refine wpAny_alloc ?_)
  simp only [Heap.size_push]
  exact hQ
end
end Mine
namespace Mine
section
variable {prog : Program} {w : World} {A : Around} {E : Value → Shared → Prop} {s : Shared} {h₀ : Heap} {L : Addr} {m : Str → Option Value} {env : Env}
/-- y = [x for x in range(b) if t], its x a cell -/
theorem cell_comp {ct iter : PySem.Expr} {x y n0 n1 : Str} {px py pe : Pos} {scope : Scope} {cl : List (Str × Addr)} {pos spos : Pos} {Q : Flow → Shared → Prop} {news : List (Addr × Obj)} {n : Nat} (T : Int → Bool) (hLe : env.locals = L)
    (hh : A.handled = none) (F : Fr h₀ L s.heap m) (_N : News h₀ L s.heap news)
    (hsw : swapsWith (.ListComp (.Name x pe) [⟨.Name x px, iter, [ct], 0⟩] scope pos) (some (.Name y py)) spos.line env = pure true)
    (hclos : closureFor scope env = pure cl) (hsc : scope.names = [(n0, .local), (x, .cell), (n1, .free)]) (hkind : scope.kind = .function)
    (hnames : ∀ z ∈ scope.names, z.2 = .local → scope.names.lookup z.1 = some .local) (hx : (relabel scope env).names.lookup x = some .cell) (hdbg : (x == ("__debug__" : Str)) = false)
    (hy : env.kindOf y = some .local) (hp : (env.scope.kind == .class || (env.scope.kind == .module && env.locals != env.globals)) = false) (hsz : n ≤ sizeLine)
    (hiter : ∀ (Q' : Value → Shared → Prop), (∀ r t u v g tk, IsRange g r 0 n 1 t u v → Fr h₀ L g m → News h₀ L g news → Q' (.ref r) { s with heap := g, toks := tk }) → wpAny (model prog w) A (eval iter env) Q' E s)
    (hsm : Builtin.Range.small 0 n 1 = true) (hn : Builtin.Range.rangeSize 0 n 1 = ((n : Nat) : Int))
    (turn : ∀ (k : Int) t I oI C oC D oD CL oL h tk E' (Q' : Bool → Shared → Prop), 0 ≤ k → k < n → oL.data = .cell (some (.int k t)) → Fr h₀ L h m → News h₀ L h ((CL, oL) :: (I, oI) :: (C, oC) :: (D, oD) :: news) → (∀ p ∈ news, p.1 < CL) →
      (∀ h' tk', Fr h₀ L h' m → News h₀ L h' ((CL, oL) :: (I, oI) :: (C, oC) :: (D, oD) :: news) → Q' (T k) { s with heap := h', toks := tk' }) →
      wpAny (model prog w) A (isTrue ct (compEnvC scope ((x, CL) :: cl) C env) (eval ct (compEnvC scope ((x, CL) :: cl) C env))) Q' E' { s with heap := h, toks := tk })
    (done : ∀ D h tk ys, Fr h₀ L h (fun z => if z = y then some (.ref D) else m z) → News h₀ L h ((D, lst ys) :: news) → (∀ p ∈ news, p.1 < D) → IntsAre ys ((rangeKs 0 n).filter T) → Q .next { s with heap := h, toks := tk })
    (hs : ∀ x, foldedSetIterable iter env x = pure x) :
    wpAny (model prog w) A (exec (.Assign [.Name y py] (.ListComp (.Name x pe) [⟨.Name x px, iter, [ct], 0⟩] scope pos) spos) env) Q E s := by
  subst hLe
  rw [exec_Assign_Name_used _ _ _ _ hsw]
  refine wpAny_bind (wpAny_standAt (wpAny_bind ?_))
  show wpAny _ A (do let _ ← comprehension (.ListComp (.Name x pe) [⟨.Name x px, iter, [ct], 0⟩] scope pos) scope env _ (newList []) false (eval iter env) (some (assign (.Name y py) env))) _ _ s
  refine wpAny_bind (wpAny_mono (wpAny_comprehension_free (use := some (assign (.Name y py) env)) (Q := fun _ s' => Q .next s') rfl hs hclos hkind hnames (hiter _ fun r t₀ u₀ v₀ g tk hr F₀ N₀ => ?_)) (fun _ s' hq => wpAny_pure (wpAny_pure hq)) fun _ _ e => e)
  clear hiter F
  refine wpAny_pyIter_range hr hsm ?_
  refine wpAny_newObj_type (newEnv_cell hsc ?_)
  dsimp only
  rw [hn]
  generalize hI : g.objs.size = I at *
  generalize hH1 : g.push { cls := .type "range_iterator", data := .fields #[rawInt 0, rawInt (n : Int), rawInt 1] } = H1 at *
  have hs1 : H1.objs.size = I + 1 := by rw [← hH1, Heap.size_push, hI]
  have k1 : ∀ b o, g.get? b = some o → H1.get? b = some o := fun b o e => by rw [← hH1]; exact Heap.get?_push_of_some _ e
  have gI : IsRangeIter H1 I 0 (n : Int) 1 := by
    show H1.get? I = _
    rw [← hH1, ← hI]; exact Heap.get?_push_size _ rfl
  generalize hH2 : H1.push { cls := .type "list", dict := none, data := .seq ([] : List Value).toArray } = H2 at *
  have hs2 : H2.objs.size = I + 2 := by rw [← hH2, Heap.size_push, hs1]
  have k2 : ∀ b o, H1.get? b = some o → H2.get? b = some o := fun b o e => by rw [← hH2]; exact Heap.get?_push_of_some _ e
  have gD : H2.get? (I + 1) = some (lst []) := by
    have z : (H1.push (lst [])).get? H1.objs.size = some (lst []) := Heap.get?_push_size _ rfl
    rw [hs1] at z
    rw [← hH2]
    exact z
  have nsC := Heap.Ns.new H2 (.type "dict")
  generalize hH3 : H2.push { cls := .type "dict", data := .dict #[] } = H3 at *
  have hs3 : H3.objs.size = I + 3 := by rw [← hH3, Heap.size_push, hs2]
  have k3 : ∀ b o, H2.get? b = some o → H3.get? b = some o := fun b o e => by rw [← hH3]; exact Heap.get?_push_of_some _ e
  have gL : (H3.push { cls := .type "cell", data := .cell none }).get? H3.objs.size = some { cls := .type "cell", data := .cell none } := Heap.get?_push_size _ rfl
  generalize hH4 : H3.push { cls := .type "cell", data := .cell none } = H4 at *
  have k4 : ∀ b o, H3.get? b = some o → H4.get? b = some o := fun b o e => by rw [← hH4]; exact Heap.get?_push_of_some _ e
  rw [hs1, hs2]
  rw [hs2] at nsC
  rw [hs3] at gL
  have k : ∀ b o, g.get? b = some o → H4.get? b = some o := fun b o e => k4 _ _ (k3 _ _ (k2 _ _ (k1 _ _ e)))
  have lo : ∀ p ∈ news, p.1 < I := fun p hp => by rw [← hI]; exact Heap.lt_size (N₀ p hp).1
  have hLI : env.locals < I := by rw [← hI]; exact F₀.ns.lt
  have fr : ∀ j, h₀.get? (I + j) = none := fun j => fresh_of F₀ (by rw [hI]; exact Nat.le_add_right _ _)
  have fI : h₀.get? I = none := fr 0
  have fD : h₀.get? (I + 1) = none := fr 1
  have fC : h₀.get? (I + 2) = none := fr 2
  have fL : h₀.get? (I + 3) = none := fr 3
  have lt_ne : ∀ {a b : Nat}, a < b → a ≠ b := fun h => Nat.ne_of_lt h
  have hID : I ≠ I + 1 := lt_ne (Nat.lt_add_of_pos_right (by decide))
  have hIC : I ≠ I + 2 := lt_ne (Nat.lt_add_of_pos_right (by decide))
  have hIL : I ≠ I + 3 := lt_ne (Nat.lt_add_of_pos_right (by decide))
  have hDC : I + 1 ≠ I + 2 := lt_ne (Nat.lt_succ_self _)
  have hDL : I + 1 ≠ I + 3 := lt_ne (Nat.add_lt_add_left (by decide) _)
  have hCL : I + 2 ≠ I + 3 := lt_ne (Nat.lt_succ_self _)
  have up : ∀ {a : Nat} j, a < I → a ≠ I + j := fun j h => Nat.ne_of_lt (Nat.lt_of_lt_of_le h (Nat.le_add_right _ _))
  have eLI : env.locals ≠ I := up 0 hLI
  have eLD : env.locals ≠ I + 1 := up 1 hLI
  have eLC : env.locals ≠ I + 2 := up 2 hLI
  have eLL : env.locals ≠ I + 3 := up 3 hLI
  have offI : ∀ p ∈ news, p.1 ≠ I := fun p hp => up 0 (lo p hp)
  have offD : ∀ p ∈ news, p.1 ≠ I + 1 := fun p hp => up 1 (lo p hp)
  have offC : ∀ p ∈ news, p.1 ≠ I + 2 := fun p hp => up 2 (lo p hp)
  have offL : ∀ p ∈ news, p.1 ≠ I + 3 := fun p hp => up 3 (lo p hp)
  have W := range_walks (prog := prog) (w := w) (I := I) hh 0 n
  have st0 : IsRangeIter H4 I (0 + ((0 : Nat) : Int) * 1) ((n : Int) - ((0 : Nat) : Int)) 1 := by
    have z : IsRangeIter H4 I 0 (n : Int) 1 := k4 _ _ (k3 _ _ (k2 _ _ gI))
    simpa using z
  have loop : codeAny (model prog w) A (.compLoop (.ListComp (.Name x pe) [⟨.Name x px, iter, [ct], 0⟩] scope pos) 0 (.ref I) (.ref (I + 1)) (compEnvC scope ((x, I + 3) :: cl) (I + 2) env))
      (compPost (model prog w) A E (some (assign (.Name y py) env)) (fun _ s' => Q .next s') (.ref (I + 1)) (I + 2)) { s with heap := H4, toks := tk } := by
    refine kct_loop (fun c s' => ∃ h' tk i ys m' vc, s' = { s with heap := h', toks := tk } ∧ i ≤ n ∧ c = n + 1 - i ∧ ys.length ≤ i ∧ IsRangeIter h' I (0 + (i : Int) * 1) ((n : Int) - (i : Int)) 1 ∧ Fr h₀ env.locals h' m ∧ h'.Ns (I + 2) m' ∧ h'.IsCell (I + 3) vc ∧
      News h₀ env.locals h' ((I + 1, lst ys) :: news) ∧ IntsAre ys (((rangeKs 0 n).take i).filter T)) ?_ (n + 1)
      ⟨H4, _, 0, [], _, none, rfl, Nat.zero_le _, rfl, Nat.le_refl _, st0, F₀.keeps k, nsC.at' fun o e => k4 _ _ e, ⟨_, gL, rfl⟩, ?_, .nil⟩
    · rintro c s' ⟨h', tk', i, ys, m', vc, rfl, hi, rfl, hyl, hst, F', hn', hcl, N', hys⟩
      by_cases hlt : i < n
      · refine W.item i _ _ _ hlt hst fun v h₂ tk₂ hPv hst₂ hk₂ => ?_
        obtain ⟨t, rfl⟩ := hPv
        have up₂ : ∀ c o, c ≠ I → h'.get? c = some o → h₂.get? c = some o := fun c o hc e => hk₂ c o (by simpa using hc) e
        have F₂ : Fr h₀ env.locals h₂ m := fr_but F' hk₂ eLI fI
        have N₂ : News h₀ env.locals h₂ ((I + 1, lst ys) :: news) := news_but N' hk₂ fun p hp => by
          rcases List.mem_cons.mp hp with rfl | hp
          · exact Ne.symm hID
          · exact offI p hp
        refine wpAny_pure ?_
        have hcl₂ : h₂.IsCell (I + 3) vc := by obtain ⟨o, e, d⟩ := hcl; exact ⟨o, up₂ _ _ (Ne.symm hIL) e, d⟩
        refine wpAny_assign_Name (wpAny_storeName_cell (c := I + 3) hkind hx (by simp [compEnvC]) hcl₂ fun h₃ hc₃ hs₃ => ?_)
        have F₃ : Fr h₀ env.locals h₃ m := fr_same F₂ hs₃ (Ne.symm eLL) fL
        have hst₃ : IsRangeIter h₃ I (0 + ((i + 1 : Nat) : Int) * 1) ((n : Int) - ((i + 1 : Nat) : Int)) 1 := W.frame _ _ _ hst₂ fun b hb o e => hs₃.extBut b o (by rw [List.mem_singleton.mp hb]; exact hIL) e
        obtain ⟨oL, heL, hdL⟩ := hc₃
        obtain ⟨oC, heC, hoC⟩ := ns_obj (hn'.at' fun o e => hs₃.extBut _ o hCL (up₂ _ o (Ne.symm hIC) e))
        obtain ⟨oI, heI⟩ : ∃ oI, h₃.get? I = some oI := ⟨_, hst₃⟩
        have N₃ : News h₀ env.locals h₃ ((I + 3, oL) :: (I, oI) :: (I + 2, oC) :: (I + 1, lst ys) :: news) := fun p hp => by
          rcases List.mem_cons.mp hp with rfl | hp
          · exact ⟨heL, Ne.symm eLL, fL⟩
          rcases List.mem_cons.mp hp with rfl | hp
          · exact ⟨heI, Ne.symm eLI, fI⟩
          rcases List.mem_cons.mp hp with rfl | hp
          · exact ⟨heC, Ne.symm eLC, fC⟩
          · refine ⟨hs₃.extBut _ _ ?_ (N₂ p hp).1, (N₂ p hp).2⟩
            rcases List.mem_cons.mp hp with rfl | hp
            · exact hDL
            · exact offL p hp
        have hk' : (rangeKs 0 n)[i]? = some (0 + (i : Int)) := by simp [rangeKs, hlt]
        have hs' : (((rangeKs 0 n).take (i + 1)).filter T) = (((rangeKs 0 n).take i).filter T) ++ if T (0 + (i : Int)) then [0 + (i : Int)] else [] := by
          rw [List.take_add_one, hk', List.filter_append]
          generalize (0 + (i : Int)) = z
          cases hTq : T z <;> simp [hTq]
        refine turn (0 + (i : Int)) t I oI (I + 2) oC (I + 1) (lst ys) (I + 3) oL h₃ _ _ _ (by omega) (by omega) hdL F₃ N₃ (fun p hp => Nat.lt_of_lt_of_le (lo p hp) (Nat.le_add_right _ _)) fun h₄ tk₄ F₄ N₄ => ?_
        have zL := (N₄ (I + 3, oL) (.head _)).1
        have zI := (N₄ (I, oI) (.tail _ (.head _))).1
        have zC := (N₄ (I + 2, oC) (.tail _ (.tail _ (.head _)))).1
        have zD := (N₄ (I + 1, lst ys) (.tail _ (.tail _ (.tail _ (.head _))))).1
        have N₄' : News h₀ env.locals h₄ ((I + 1, lst ys) :: news) := fun p hp => N₄ p (.tail _ (.tail _ (.tail _ hp)))
        have st4 : IsRangeIter h₄ I (0 + ((i + 1 : Nat) : Int) * 1) ((n : Int) - ((i + 1 : Nat) : Int)) 1 := by
          have e1 : h₃.get? I = _ := hst₃
          show h₄.get? I = _
          rw [zI, ← heI]; exact e1
        cases hTq : T (0 + (i : Int)) with
        | false =>
          rw [hTq] at hs'
          refine ⟨n + 1 - (i + 1), by omega, h₄, tk₄, i + 1, ys, _, _, rfl, hlt, rfl, Nat.le_succ_of_le hyl, st4, F₄, hoC.ns zC, ⟨oL, zL, hdL⟩, N₄', ?_⟩
          rw [hs']; simpa using hys
        | true =>
          rw [hTq] at hs'
          simp only [if_true]
          refine lcf_cell (c := I + 3) (o := oL) N₄ (by simp) (.head _) hdL ?_ hkind hx hdbg
          refine append_at (hsz := by show ys.toArray.size ≤ sizeLine; rw [List.size_toArray]; omega) zD fun h₅ hs₅ hD₅ => ?_
          refine ⟨n + 1 - (i + 1), by omega, h₅, tk₄, i + 1, ys ++ [.int (0 + (i : Int)) t], _, _, rfl, hlt, rfl, by rw [List.length_append, List.length_singleton]; exact Nat.succ_le_succ hyl,
            W.frame _ _ _ st4 fun b hb o e => hs₅.extBut b o (by rw [List.mem_singleton.mp hb]; exact hID) e, fr_same F₄ hs₅ (Ne.symm eLD) fD, (hoC.ns zC).sameBut hs₅ (Ne.symm hDC), ⟨oL, hs₅.extBut _ _ (Ne.symm hDL) zL, hdL⟩, fun p hp => ?_, ?_⟩
          · rcases List.mem_cons.mp hp with rfl | hp
            · exact ⟨hD₅.trans (congrArg some (lst_snoc ys _)), Ne.symm eLD, fD⟩
            · exact ⟨hs₅.extBut _ _ (offD p hp) (N₄' p (.tail _ hp)).1, (N₀ p hp).2⟩
          · rw [hs', if_pos rfl]
            exact IntsAre.append hys (.cons _ t .nil)
      · have hin : i = n := Nat.le_antisymm hi (Nat.not_lt.mp hlt)
        subst hin
        have hfull : (rangeKs 0 i).take i = rangeKs 0 i := List.take_of_length_le (Nat.le_of_eq (rangeKs_length _ _))
        rw [hfull] at hys
        refine W.done _ _ _ hst fun h₂ tk₂ hk₂ => ?_
        have F₂ : Fr h₀ env.locals h₂ m := fr_but F' hk₂ eLI fI
        have N₂ : News h₀ env.locals h₂ ((I + 1, lst ys) :: news) := news_but N' hk₂ fun p hp => by
          rcases List.mem_cons.mp hp with rfl | hp
          · exact Ne.symm hID
          · exact offI p hp
        show wpAny _ A (assign (.Name y py) env (.ref (I + 1))) _ _ _
        refine wpAny_assign_Name (wpAny_storeName_local hy F₂.ns (fun h₃ hn₃ hs₃ => ?_) hp)
        have hL₀ : h₀.get? env.locals = none := Heap.get?_none_of_le F₂.above
        have F₃ : Fr h₀ env.locals h₃ (fun z => if z = y then some (.ref (I + 1)) else m z) := ⟨hn₃, fun b o e => hs₃.extBut b o (fun q => by rw [q, hL₀] at e; cases e) (F₂.keep b o e), F₂.above⟩
        refine ⟨m', (hn'.at' fun o e => hk₂ _ o (by simpa using Ne.symm hIC) e).sameBut hs₃ (Ne.symm eLC), fun h'' hs'' => done (I + 1) h'' _ ys (fr_same F₃ hs'' (Ne.symm eLC) fC) (fun p hp => ?_) (fun p hp => Nat.lt_succ_of_lt (lo p hp)) hys⟩
        have z : h₃.get? p.1 = some p.2 := hs₃.extBut _ _ (N₂ p hp).2.1 (N₂ p hp).1
        refine ⟨hs''.extBut _ _ ?_ z, (N₂ p hp).2⟩
        rcases List.mem_cons.mp hp with rfl | hp
        · exact hDC
        · exact offC p hp
    · intro p hp
      rcases List.mem_cons.mp hp with rfl | hp
      · exact ⟨k4 _ _ (k3 _ _ gD), Ne.symm eLD, fD⟩
      · exact ⟨k _ _ (N₀ p hp).1, (N₀ p hp).2⟩
  exact codeAny_compStart_list loop (W.self 0 _ _ _ st0 loop)
end
end Mine
end
section
open PySem PySem.W PyProof.Rows PyProof.V PySem.Spec PySem.Calls PyProof.Rows.LCg
namespace Mine
section
variable {prog : Program} {w : World} {A : Around} {E : Value → Shared → Prop} {s : Shared} {h₀ : Heap} {env : Env}
def FPEnd (h₀ : Heap) (L : Addr) (s : Shared) (news : List (Addr × Obj)) (a b y : Str) (m₀ : Str → Option Value) (c : Int) (s₂ : Shared) : Prop :=
  ∃ h' tk m', s₂ = { s with heap := h', toks := tk } ∧ Fr h₀ L h' m' ∧ News h₀ L h' news ∧ (∃ t, m' y = some (.int c t)) ∧ ∀ z, z ≠ a → z ≠ b → z ≠ y → m' z = m₀ z
def FPPost (h₀ : Heap) (L : Addr) (s : Shared) (news : List (Addr × Obj)) (a b y : Str) (m₀ : Str → Option Value) (c : Int) (f : Flow) (s₂ : Shared) : Prop :=
  match f with
  | .next => FPEnd h₀ L s news a b y m₀ c s₂
  | _ => False
theorem fp_end {L : Addr} {news : List (Addr × Obj)} {a b y : Str} {m₀ m' : Str → Option Value} {c : Int} {h' : Heap} {tk : Nat} {t : Tok} (F : Fr h₀ L h' m') (N : News h₀ L h' news) (hy : m' y = some (.int c t)) (ho : ∀ z, z ≠ a → z ≠ b → z ≠ y → m' z = m₀ z) :
    FPEnd h₀ L s news a b y m₀ c { s with heap := h', toks := tk } := ⟨h', tk, m', rfl, F, N, ⟨t, hy⟩, ho⟩
theorem for_pairs {Q : Flow → Shared → Prop} {a b y : Str} {pa pb tp pos : Pos} {kk : Nat} {iter : PySem.Expr} {body : List Stmt} {m₀ : Str → Option Value} {qs : List Pr} {pl : Addr} {e : Nat} {news : List (Addr × Obj)} {c₀ : Int} {t₀ : Tok} (G : Int → Pr → Int)
    (hh : A.handled = none) (F : Fr h₀ env.locals s.heap m₀) (N : News h₀ env.locals s.heap news) (hl : (pl, prObj qs e) ∈ news) (hps : PrsIn qs news)
    (hxa : env.kindOf a = some .local) (hxb : env.kindOf b = some .local) (hp : (env.scope.kind == .class || (env.scope.kind == .module && env.locals != env.globals)) = false) (hay : y ≠ a) (hby : y ≠ b) (hy : m₀ y = some (.int c₀ t₀))
    (hiter : ∀ (Q' : Value → Shared → Prop), Q' (.ref pl) s → wpAny (model prog w) A (eval iter env) Q' E s)
    (turn : ∀ i q I oI t (s₁ : Shared) h tk, qs[i]? = some q → q ∈ qs → (∀ p ∈ news, p.1 ≠ I) →
      Fr h₀ env.locals h (fun z => if z = b then some (.int q.m q.l) else if z = a then some (.int q.r q.k) else if z = y then some (.int ((qs.take i).foldl G c₀) t) else m₀ z) → News h₀ env.locals h ((I, oI) :: news) →
      wpAny (model prog w) A (execs body env) (FPPost h₀ env.locals s₁ ((I, oI) :: news) a b y m₀ (G ((qs.take i).foldl G c₀) q)) E { s₁ with heap := h, toks := tk })
    (done : ∀ (ua ub : Option Value) t h tk, Fr h₀ env.locals h (fun z => if z = b then ub else if z = a then ua else if z = y then some (.int (qs.foldl G c₀) t) else m₀ z) → News h₀ env.locals h news → Q .next { s with heap := h, toks := tk })
    (hs : ∀ x, foldedSetIterable iter env x = pure x) (hE : PassesOwn (model prog w) A env E) :
    wpAny (model prog w) A (exec (.For (.Tuple [.Name a pa, .Name b pb] kk tp) iter body [] pos) env) Q E s := by
  refine For_invTF F (hiter _ ?_) hs hE
  have hol : s.heap.get? pl = some (prObj qs e) := (N _ hl).1
  have hls : s.heap.IsList pl (qs.map fun p => Value.ref p.a).toArray := ⟨_, hol, rfl, e, rfl⟩
  have hne : pl ≠ s.heap.objs.size := Nat.ne_of_lt (Heap.lt_size hol)
  refine wpAny_pyIter_list hls ?_
  have W := Walks.list (prog := prog) (w := w) hh s.heap.objs.size pl hne (qs.map fun p => Value.ref p.a).toArray
  have hlen : (qs.map fun p => Value.ref p.a).toArray.size = qs.length := by simp
  rw [hlen] at W
  have offI : ∀ p ∈ news, p.1 ≠ s.heap.objs.size := fun p hp => Nat.ne_of_lt (Heap.lt_size (N p hp).1)
  refine ⟨s.heap.objs.size, _, _, qs.length, _, _, m₀, news, (fun i m nx => nx = news ∧ (∃ t, m y = some (.int ((qs.take i).foldl G c₀) t)) ∧ ∀ z, z ≠ a → z ≠ b → z ≠ y → m z = m₀ z), rfl, W, ?_, ?_, ?_,
    ⟨⟨_, Heap.get?_push_size _ rfl, rfl, rfl⟩, hls.at fun o e => Heap.get?_push_of_some _ e⟩, F.push _, (fun p hp => ⟨Heap.get?_push_of_some _ (N p hp).1, (N p hp).2⟩), ?_, ⟨rfl, ⟨t₀, hy⟩, fun _ _ _ _ => rfl⟩, ?_, ?_⟩
  · intro hm
    rcases List.mem_cons.mp hm with e | hm
    · exact absurd F.ns.lt (e ▸ Nat.lt_irrefl _)
    · exact (N _ hl).2.1 ((List.mem_singleton.mp hm).symm)
  · intro b hb
    rw [List.mem_singleton.mp hb]
    exact next_is_new F
  · intro p hp hI
    exact offI p hp (List.mem_singleton.mp hI)
  · intro i s' v Q' hst hQ
    cases v with
    | ref T => exact wpAny_letOwnedTupleGo_listiter hst.1 hQ
    | _ => exact wpAny_of_eq (rfl : letOwnedTupleGo _ _ _ = pure ()) hQ
  · rintro i v m₁ news₁ s₁ own hin hP ⟨rfl, ⟨t, hm⟩, ho⟩ hoff hown hgets hfps hst F₁ N₁
    obtain ⟨q, hq, hqv⟩ : ∃ q, qs[i]? = some q ∧ v = .ref q.a := by
      simp only [List.getElem?_toArray, List.getElem?_map] at hP
      obtain ⟨q, hq, hv⟩ := Option.map_eq_some_iff.mp hP
      exact ⟨q, hq, hv.symm⟩
    subst hqv
    have hqm := List.mem_of_getElem? hq
    have ht : s₁.heap.IsTuple q.a #[.int q.r q.k, .int q.m q.l] := ⟨_, (N₁ _ (List.mem_append.mpr (.inr (hps q hqm).1))).1, rfl, _, rfl⟩
    obtain ⟨oI, heI, hoI⟩ := hst.1
    have hI0 := next_is_new F
    have hIown : (s.heap.objs.size, oI) ∈ own := hfps _ (.head _) hI0 _ heI
    have hLI : env.locals ≠ s.heap.objs.size := Nat.ne_of_lt F.ns.lt
    have hL₀ : h₀.get? env.locals = none := Heap.get?_none_of_le F₁.above
    refine kcp_assign (env := env) hh ht hxa hxb hp F₁.ns fun h₂ tk₂ hn₂ hs₂ => ?_
    have F₂ : Fr h₀ env.locals h₂ (fun z => if z = b then some (.int q.m q.l) else if z = a then some (.int q.r q.k) else m₁ z) :=
      ⟨hn₂, fun c o e => hs₂ c o (fun q => by rw [q, hL₀] at e; cases e) (F₁.keep c o e), F₁.above⟩
    have em : (fun z => if z = b then some (Value.int q.m q.l) else if z = a then some (.int q.r q.k) else m₁ z) = fun z => if z = b then some (.int q.m q.l) else if z = a then some (.int q.r q.k) else if z = y then some (.int ((qs.take i).foldl G c₀) t) else m₀ z := by
      funext z
      by_cases h1 : z = b
      · rw [if_pos h1, if_pos h1]
      · rw [if_neg h1, if_neg h1]
        by_cases h2 : z = a
        · rw [if_pos h2, if_pos h2]
        · rw [if_neg h2, if_neg h2]
          by_cases h3 : z = y
          · rw [if_pos h3, h3]; exact hm
          · rw [if_neg h3]; exact ho z h2 h1 h3
    rw [em] at F₂
    have N₂ : News h₀ env.locals h₂ ((s.heap.objs.size, oI) :: news₁) := fun p hp => by
      rcases List.mem_cons.mp hp with rfl | hp
      · exact ⟨hs₂ _ _ (Ne.symm hLI) heI, Ne.symm hLI, hI0⟩
      · have z := N₁ p (List.mem_append.mpr (.inr hp))
        exact ⟨hs₂ _ _ z.2.1 z.1, z.2⟩
    refine wpAny_mono (turn i q s.heap.objs.size oI t s₁ h₂ tk₂ hq hqm offI F₂ N₂) (fun f s₂ h => ?_) fun _ _ e => e
    cases f with
    | next =>
      obtain ⟨h', tk', m', rfl, F', N', hy', ho'⟩ := h
      have hs' : (qs.take (i + 1)).foldl G c₀ = G ((qs.take i).foldl G c₀) q := by
        rw [List.take_add_one, hq]; simp
      refine ⟨rfl, h', tk', m', news₁, rfl, F', fun p hp => ?_, fun p hp hI => offI p hp (List.mem_singleton.mp hI), rfl, by rw [hs']; exact hy', ho'⟩
      rcases List.mem_append.mp hp with hp | hp
      · rcases List.mem_cons.mp (hown p hp) with e1 | e1
        · have h3 := hgets p hp
          rw [e1, heI] at h3
          have : p = (s.heap.objs.size, oI) := Prod.ext e1 (Option.some.inj h3).symm
          rw [this]; exact N' _ (.head _)
        · have e2 := List.mem_singleton.mp e1
          have h3 := hgets p hp
          have h4 := (N₁ _ (List.mem_append.mpr (.inr hl))).1
          rw [e2] at h3
          have h5 : p.2 = prObj qs e := by
            have h6 : some p.2 = some (prObj qs e) := h3.symm.trans h4
            exact Option.some.inj h6
          have : p = (pl, prObj qs e) := Prod.ext e2 h5
          rw [this]; exact N' _ (.tail _ hl)
      · exact N' p (.tail _ hp)
    | _ => exact h.elim
  · rintro h' tk m' news' F' N' _ ⟨rfl, ⟨t, hm⟩, ho⟩
    rw [List.take_length] at hm
    refine done (m' a) (m' b) t h' tk ?_ N'
    have em : (fun z => if z = b then m' b else if z = a then m' a else if z = y then some (Value.int (qs.foldl G c₀) t) else m₀ z) = m' := by
      funext z
      by_cases h1 : z = b
      · rw [if_pos h1, h1]
      · rw [if_neg h1]
        by_cases h2 : z = a
        · rw [if_pos h2, h2]
        · rw [if_neg h2]
          by_cases h3 : z = y
          · rw [if_pos h3, h3]; exact hm.symm
          · rw [if_neg h3]; exact (ho z h2 h1 h3).symm
    rw [em]; exact F'
end
end Mine
end
section
open PySem PySem.W PyProof.Rows
namespace Mine
abbrev mostF (qs : List Pr) : Int := qs.foldl (fun (x : Int) (q : Pr) => x * q.m) 1
abbrev fitT (qs : List Pr) (x : Int) : Bool := decide (∀ q ∈ qs, (x - q.r).fmod q.m = 0)
def Mods (qs : List Pr) : Prop := ∀ q ∈ qs, 2 ≤ q.m ∧ q.m ≤ 9
theorem fit_iff {qs : List Pr} (h : Mods qs) {x : Int} : fitT qs x = true ↔ Fits (prs qs) x := by
  unfold Fits prs
  rw [decide_eq_true_eq]
  constructor
  · intro k p hp
    obtain ⟨q, hq, rfl⟩ := List.mem_map.mp hp
    exact (fmod_dvd (by have := h q hq; omega)).mp (k q hq)
  · intro k q hq
    exact (fmod_dvd (by have := h q hq; omega)).mpr (k (q.r, q.m) (List.mem_map.mpr ⟨q, hq, rfl⟩))
theorem fold_mul (qs : List Pr) (c : Int) : qs.foldl (fun (x : Int) (q : Pr) => x * q.m) c = c * mostF qs := by
  induction qs generalizing c with
  | nil => simp [mostF]
  | cons q r ih =>
    show r.foldl _ (c * q.m) = c * r.foldl _ (1 * q.m)
    rw [ih, ih (1 * q.m), Int.one_mul, Int.mul_assoc]
theorem most_cons (q : Pr) (r : List Pr) : mostF (q :: r) = q.m * mostF r := by
  show r.foldl _ (1 * q.m) = _
  rw [fold_mul, Int.one_mul]
theorem most_pos {qs : List Pr} (h : Mods qs) : 1 ≤ mostF qs := by
  induction qs with
  | nil => decide
  | cons q r ih =>
    rw [most_cons]
    have h1 := h q (.head _)
    have h2 := ih fun p hp => h p (.tail _ hp)
    have h3 : 1 * 1 ≤ q.m * mostF r := Int.mul_le_mul (by omega) h2 (by omega) (by omega)
    omega
theorem most_le {qs : List Pr} (h : Mods qs) : mostF qs ≤ 9 ^ qs.length := by
  induction qs with
  | nil => decide
  | cons q r ih =>
    rw [most_cons, List.length_cons, Int.pow_succ, Int.mul_comm]
    have h1 := h q (.head _)
    have h2 := ih fun p hp => h p (.tail _ hp)
    have h4 := most_pos (qs := r) fun p hp => h p (.tail _ hp)
    exact Int.mul_le_mul h2 (by omega) (by omega) (by omega)
theorem mods_take {qs : List Pr} (h : Mods qs) (i : Nat) : Mods (qs.take i) := fun q hq => h q (List.mem_of_mem_take hq)
theorem most_take {qs : List Pr} (h : Mods qs) (hl : qs.length ≤ 3) (i : Nat) : 1 ≤ mostF (qs.take i) ∧ mostF (qs.take i) ≤ 729 := by
  refine ⟨most_pos (mods_take h i), ?_⟩
  have h1 := most_le (mods_take h i)
  have h2 : (qs.take i).length ≤ 3 := by rw [List.length_take]; omega
  have h3 : (9 : Int) ^ (qs.take i).length ≤ 729 := by
    generalize (qs.take i).length = n at h2
    have : n = 0 ∨ n = 1 ∨ n = 2 ∨ n = 3 := by omega
    rcases this with rfl | rfl | rfl | rfl <;> decide
  omega
theorem most_nat {qs : List Pr} (h : Mods qs) (hl : qs.length ≤ 3) : ∃ n : Nat, (n : Int) = mostF qs ∧ 1 ≤ n ∧ n ≤ 729 := by
  have h1 := most_take h hl qs.length
  rw [List.take_length] at h1
  exact ⟨(mostF qs).toNat, by omega, by omega, by omega⟩
theorem dvd_most {qs : List Pr} {q : Pr} (hq : q ∈ qs) : q.m ∣ mostF qs := by
  induction qs with
  | nil => cases hq
  | cons p r ih =>
    rw [most_cons]
    rcases List.mem_cons.mp hq with rfl | hq
    · exact Int.dvd_mul_right _ _
    · exact Int.dvd_trans (ih hq) (Int.dvd_mul_left _ _)
theorem step_dvd {qs : List Pr} {v j : Int} (C : ChR (prs qs) v j) : j ∣ mostF qs := by
  have h1 : Fits (prs qs) v := (C.iff v).mpr ⟨0, by omega⟩
  have h2 : Fits (prs qs) (v + mostF qs) := fun p hp => by
    obtain ⟨q, hq, rfl⟩ := List.mem_map.mp hp
    have a := h1 _ hp
    have b := Int.dvd_add a (dvd_most hq)
    have e : v - (q.r, q.m).1 + mostF qs = v + mostF qs - (q.r, q.m).1 := by show v - q.r + mostF qs = v + mostF qs - q.r; omega
    rwa [e] at b
  have h3 := (C.iff _).mp h2
  have e : v + mostF qs - v = mostF qs := by omega
  rwa [e] at h3
theorem range_add (a : Int) (n k : Nat) : rangeKs a (n + k) = rangeKs a n ++ rangeKs (a + (n : Int)) k := by
  unfold rangeKs
  rw [List.range_add, List.map_append, List.map_map]
  congr 1
  apply List.map_congr_left
  intro i _
  show a + ((n + i : Nat) : Int) = a + (n : Int) + (i : Int)
  omega
theorem range_one (a : Int) : rangeKs a 1 = [a] := by
  show [a + ((0 : Nat) : Int)] = [a]
  congr 1; omega
theorem filter_none {T : Int → Bool} {a : Int} {n : Nat} (h : ∀ x, a ≤ x → x < a + (n : Int) → T x = false) : (rangeKs a n).filter T = [] := by
  rw [List.filter_eq_nil_iff]
  intro x hx
  obtain ⟨h1, h2⟩ := mem_rangeKs hx
  rw [h x h1 h2]; decide
/-- the first of the fitting ones -/
theorem fit_split {T : Int → Bool} {n : Nat} {v : Int} (h0 : 0 ≤ v) (hv : v < n) (hT : T v = true) (hn : ∀ x, 0 ≤ x → x < v → T x = false) : (rangeKs 0 n).filter T = v :: (rangeKs (v + 1) (n - 1 - v.toNat)).filter T := by
  have e : n = v.toNat + (1 + (n - 1 - v.toNat)) := by omega
  have hz : rangeKs 0 n = rangeKs 0 v.toNat ++ (rangeKs v 1 ++ rangeKs (v + 1) (n - 1 - v.toNat)) := by
    have ev : (0 : Int) + (v.toNat : Int) = v := by omega
    have e1 : rangeKs 0 n = rangeKs 0 (v.toNat + (1 + (n - 1 - v.toNat))) := by rw [← e]
    rw [e1, range_add, range_add, ev]
    rfl
  rw [hz, List.filter_append, filter_none (fun x h1 h2 => hn x h1 (by omega)), List.nil_append, range_one, List.filter_append]
  simp [hT]
theorem fit_split2 {T : Int → Bool} {n : Nat} {a v : Int} (h0 : a ≤ v) (hv : v < a + n) (hT : T v = true) (hn : ∀ x, a ≤ x → x < v → T x = false) : ∃ r, (rangeKs a n).filter T = v :: r := by
  have e : n = (v - a).toNat + (1 + (n - 1 - (v - a).toNat)) := by omega
  rw [e, range_add, range_add, List.filter_append, filter_none (fun x h1 h2 => hn x h1 (by omega)), List.nil_append]
  have ev : a + ((v - a).toNat : Int) = v := by omega
  rw [ev, range_one, List.filter_append]
  exact ⟨(rangeKs (v + ((1 : Nat) : Int)) (n - 1 - (v - a).toNat)).filter T, by simp [hT]⟩
section
variable {qs : List Pr} {n : Nat} {v j : Int}
theorem ch_T (h : Mods qs) (C : ChR (prs qs) v j) {x : Int} : fitT qs x = true ↔ j ∣ x - v := by rw [fit_iff h, C.iff]
theorem ch_lt (h : Mods qs) (hn : (n : Int) = mostF qs) (C : ChR (prs qs) v j) : j ≤ n ∧ v < n := by
  have h1 := Int.le_of_dvd (by have := most_pos h; omega) (step_dvd C)
  have := C.u
  omega
theorem ch_low (h : Mods qs) (C : ChR (prs qs) v j) {x : Int} (h0 : v - j < x) (hx : x < v + j) (hne : x ≠ v) : fitT qs x = false := by
  cases e : fitT qs x with
  | false => rfl
  | true =>
    exfalso
    obtain ⟨c, hc⟩ := (ch_T h C).mp e
    have hp := C.p
    rcases Int.lt_trichotomy c 0 with h1 | h1 | h1
    · have : j * c ≤ j * -1 := Int.mul_le_mul_of_nonneg_left (by omega) (by omega)
      omega
    · rw [h1, Int.mul_zero] at hc; omega
    · have : j * 1 ≤ j * c := Int.mul_le_mul_of_nonneg_left (by omega) (by omega)
      omega
theorem ch_list (h : Mods qs) (hn : (n : Int) = mostF qs) (C : ChR (prs qs) v j) : (rangeKs 0 n).filter (fitT qs) = v :: (rangeKs (v + 1) (n - 1 - v.toNat)).filter (fitT qs) := by
  obtain ⟨h1, h2⟩ := ch_lt h hn C
  have hu := C.u
  exact fit_split C.l h2 ((ch_T h C).mpr ⟨0, by omega⟩) fun x h0 hx => ch_low h C (by omega) (by omega) (by omega)
theorem ch_at0 (h : Mods qs) (hn : (n : Int) = mostF qs) (C : ChR (prs qs) v j) : ((rangeKs 0 n).filter (fitT qs))[(0 : Int).toNat]? = some v := by
  rw [ch_list h hn C]; rfl
theorem ch_ne (h : Mods qs) (hn : (n : Int) = mostF qs) (C : ChR (prs qs) v j) (hd : decide ((rangeKs 0 n).filter (fitT qs) = []) = true) : False := by
  rw [decide_eq_true_eq, ch_list h hn C] at hd
  cases hd
theorem ch_no (h : Mods qs) (C : ChN (prs qs)) (hd : decide ((rangeKs 0 n).filter (fitT qs) = []) = false) : False := by
  rw [decide_eq_false_iff_not] at hd
  obtain ⟨k, hk⟩ := List.exists_mem_of_ne_nil _ hd
  exact C k ((fit_iff h).mp (List.mem_filter.mp hk).2)
theorem ch_next (h : Mods qs) (C : ChR (prs qs) v j) (hlt : v + j < n) : ∃ r, (rangeKs (v + 1) (n - 1 - v.toNat)).filter (fitT qs) = (v + j) :: r := by
  have hp := C.p
  have hl := C.l
  exact fit_split2 (by omega) (by omega) ((ch_T h C).mpr ⟨1, by omega⟩) fun x h0 hx => ch_low h C (by omega) (by omega) (by omega)
theorem ch_rest (h : Mods qs) (C : ChR (prs qs) v j) (hlt : ¬ v + j < n) : (rangeKs (v + 1) (n - 1 - v.toNat)).filter (fitT qs) = [] := by
  have hp := C.p
  have hl := C.l
  exact filter_none fun x h0 hx => ch_low h C (by omega) (by omega) (by omega)
theorem ch_at1 (h : Mods qs) (hn : (n : Int) = mostF qs) (C : ChR (prs qs) v j) (hlen : 1 < ((rangeKs 0 n).filter (fitT qs)).length) : ((rangeKs 0 n).filter (fitT qs))[(1 : Int).toNat]? = some (v + j) := by
  rw [ch_list h hn C] at hlen ⊢
  by_cases hlt : v + j < n
  · obtain ⟨r, hr⟩ := ch_next h C hlt
    rw [hr]; rfl
  · rw [ch_rest h C hlt] at hlen
    exact absurd hlen (by simp)
theorem ch_one (h : Mods qs) (hn : (n : Int) = mostF qs) (C : ChR (prs qs) v j) (hlen : ¬ 1 < ((rangeKs 0 n).filter (fitT qs)).length) : j = n := by
  rw [ch_list h hn C] at hlen
  have hlt : ¬ v + j < n := fun hlt => by
    obtain ⟨r, hr⟩ := ch_next h C hlt
    rw [hr] at hlen
    exact hlen (by simp)
  obtain ⟨h1, h2⟩ := ch_lt h hn C
  obtain ⟨c, hc⟩ := step_dvd C
  rw [← hn] at hc
  have hp := C.p
  have hl := C.l
  have hu := C.u
  have hc1 : 1 ≤ c := by
    rcases Int.lt_or_le c 1 with h | h
    · exfalso
      have : j * c ≤ j * 0 := Int.mul_le_mul_of_nonneg_left (by omega) (by omega)
      omega
    · exact h
  rcases Int.lt_or_le c 2 with h3 | h3
  · have : c = 1 := by omega
    rw [this] at hc; omega
  · exfalso
    have : j * 2 ≤ j * c := Int.mul_le_mul_of_nonneg_left h3 (by omega)
    omega
end
theorem inner_eq {qs : List Pr} {x : Int} : decide (((qs.filter fun q => decide ((x - q.r).fmod q.m ≠ 0)).map fun _ => (1 : Int)) = []) = fitT qs x := by
  unfold fitT
  congr 1
  rw [List.map_eq_nil_iff, List.filter_eq_nil_iff]
  apply propext
  constructor
  · intro h q hq
    have := h q hq
    simpa using this
  · intro h q hq
    simpa using h q hq
theorem rsz (n : Nat) : Builtin.Range.rangeSize 0 (n : Int) 1 = (n : Int) := by
  rw [rangeSize_nat]; omega
end Mine
end
section
open PySem PySem.W PyProof.Rows
namespace Mine
local macro_rules | `(tactic| walk_at "pad") => `(tactic| fail "pad")
local macro_rules | `(tactic| walk_at "pad") => `(tactic| fail "pad")
local macro_rules | `(tactic| walk_at "pad") => `(tactic| fail "pad")
local macro_rules | `(tactic| walk_at "pad") => `(tactic| fail "pad")
local macro_rules | `(tactic| walk_at "pad") => `(tactic| fail "pad")
local macro_rules | `(tactic| walk_at "pad") => `(tactic| fail "pad")
local macro_rules | `(tactic| walk_at "pad") => `(tactic| fail "pad")
local macro_rules | `(tactic| walk_at "pad") => `(tactic| fail "pad")
local macro_rules | `(tactic| walk_at "pad") => `(tactic| fail "pad")
local macro_rules | `(tactic| walk_at "pad") => `(tactic| fail "pad")
local macro_rules | `(tactic| walk_at "pad") => `(tactic| fail "pad")
local macro_rules | `(tactic| walk_at "pad") => `(tactic| fail "pad")
local macro_rules | `(tactic| walk_at "pad") => `(tactic| fail "pad")
local macro_rules | `(tactic| walk_at "pad") => `(tactic| fail "pad")
local macro_rules | `(tactic| walk_at "pad") => `(tactic| fail "pad")
local macro_rules | `(tactic| walk_at "pad") => `(tactic| fail "pad")
local macro_rules | `(tactic| walk_at "pad") => `(tactic| fail "pad")
local macro_rules | `(tactic| walk_at "pad") => `(tactic| fail "pad")
local macro_rules | `(tactic| walk_at "pad") => `(tactic| fail "pad")
local macro_rules | `(tactic| walk_at "pad") => `(tactic| fail "pad")
local macro_rules | `(tactic| walk_at "pad") => `(tactic| fail "pad")
local macro_rules | `(tactic| walk_at "pad") => `(tactic| fail "pad")
local macro_rules | `(tactic| walk_at "pad") => `(tactic| fail "pad")
local macro_rules | `(tactic| walk_at "pad") => `(tactic| fail "pad")
local macro_rules | `(tactic| walk_at "pad") => `(tactic| fail "pad")
local macro_rules | `(tactic| walk_at "pad") => `(tactic| fail "pad")
local macro_rules | `(tactic| walk_at "pad") => `(tactic| fail "pad")
local macro_rules | `(tactic| walk_at "pad") => `(tactic| fail "pad")
local macro_rules | `(tactic| walk_at "pad") => `(tactic| fail "pad")
local macro_rules | `(tactic| walk_at "pad") => `(tactic| fail "pad")
local macro_rules | `(tactic| walk_at "pad") => `(tactic| fail "pad")
local macro_rules | `(tactic| walk_at "pad") => `(tactic| fail "pad")
local macro_rules | `(tactic| walk_at "pad") => `(tactic| fail "pad")
local macro_rules | `(tactic| walk_at "pad") => `(tactic| fail "pad")
local macro_rules | `(tactic| walk_at "pad") => `(tactic| fail "pad")
local macro_rules | `(tactic| walk_at "pad") => `(tactic| fail "pad")
local macro_rules | `(tactic| walk_at "pad") => `(tactic| fail "pad")
local macro_rules | `(tactic| walk_at "pad") => `(tactic| fail "pad")
local macro_rules | `(tactic| walk_at "pad") => `(tactic| fail "pad")
local macro_rules | `(tactic| walk_at "pad") => `(tactic| fail "pad")
local macro_rules | `(tactic| walk_at "MPost") => `(tactic| (dsimp only [Mine.MPost]))
local macro_rules | `(tactic| walk_at "MLPost") => `(tactic| (dsimp only [Mine.MLPost]; (try with_reducible refine Mine.ml_ret ?_)))
local macro_rules | `(tactic| k_mem) => `(tactic| assumption)
local macro_rules | `(tactic| walk_at "call ref") => `(tactic| k_extra "call ref")
local macro_rules | `(tactic| walk_at "pyIter ref") => `(tactic| k_extra "pyIter ref")
local macro_rules | `(tactic| walk_at "CompSrcT") => `(tactic| k_extra "CompSrcT")
local macro_rules | `(tactic| walk_at "KCiEl") => `(tactic| k_extra "KCiEl")
local macro_rules | `(tactic| walk_at "KCiNo") => `(tactic| k_extra "KCiNo")
local macro_rules | `(tactic| walk_at "KPfGrows") => `(tactic| k_extra "KPfGrows")
local macro_rules | `(tactic| walk_at "CompEnd") => `(tactic| k_extra "CompEnd")
local macro_rules | `(tactic| walk_at "compareOp NotEq ref ref") => `(tactic| k_extra "compareOp NotEq ref ref")
local macro_rules | `(tactic| walk_at "compareOp Eq ref ref") => `(tactic| k_extra "compareOp Eq ref ref")
local macro_rules | `(tactic| k_all) => `(tactic| assumption)
local macro_rules | `(tactic| walk_at "exec For Name Call cons nil") => `(tactic| k_extra "exec For Name Call cons nil")
local macro_rules | `(tactic| walk_at "exec Assign cons ListComp") => `(tactic| k_extra "exec Assign cons ListComp")
local macro_rules | `(tactic| walk_at "exec For Tuple") => `(tactic| k_extra "exec For Tuple")
local macro_rules | `(tactic| walk_at "FPPost") => `(tactic| (dsimp only [Mine.FPPost]))
local macro_rules | `(tactic| walk_at "call builtin:len") => `(tactic| k_extra "call builtin:len")
local macro_rules | `(tactic| walk_at "eval ListComp") => `(tactic| k_extra "eval ListComp")
local macro_rules | `(tactic| walk_at "subscriptTail") => `(tactic| k_extra "subscriptTail")

def MLt (a b : Int) : Prop := a < b
theorem mlt_of {a b : Int} (h : a < b) : MLt a b := h
theorem name3 {h₀ h : Heap} {L a : Addr} {x y : Addr × Obj} {o : Obj} {r : List (Addr × Obj)} (_N : News h₀ L h (x :: y :: (a, o) :: r)) : ∃ a' : Addr, a' = a := ⟨a, rfl⟩
structure ReS where
  (k : Int)
  (tk tc : Tok)
  (qs : List Pr)
  (vs : List Value)
  (e : Nat)
  (tups : List (Addr × Obj))
def PrsT (qs : List Pr) (tups : List (Addr × Obj)) : Prop := ∀ p ∈ qs, (p.a, tup2 p.r p.m p.k p.l) ∈ tups ∧ 2 ≤ p.m ∧ p.m ≤ 9
structure ReP (k1 : Int) (l : Nat) (i : Nat) (c : ReS) : Prop where
  k : c.k = k1 + 2 * (i : Int)
  n : c.qs.length = i
  v : c.vs = c.qs.map fun p => Value.ref p.a
  p : PrsT c.qs c.tups
  lt : ∀ p ∈ c.tups, @LT.lt Nat _ l p.1
theorem rep_len {k1 : Int} {l i : Nat} {c : ReS} (P : ReP k1 l i c) : c.vs.length = i := by rw [P.v, List.length_map, P.n]
theorem rep_nil {k1 : Int} {l : Nat} {tk tc : Tok} {e : Nat} : ReP k1 l 0 ⟨k1, tk, tc, [], [], e, []⟩ := ⟨by show k1 = k1 + 2 * (((0 : Nat)) : Int); omega, rfl, rfl, (fun _ h => nomatch h), (fun _ h => nomatch h)⟩
theorem rep_snoc {k1 : Int} {l i : Nat} {c : ReS} {tk tc : Tok} {e kr km : Nat} {r m : Int} {D : Addr} (P : ReP k1 l i c) (hm : 2 ≤ m) (hm' : m ≤ 9) (hD : @LT.lt Nat _ l D) :
    ReP k1 l (i + 1) ⟨c.k + 1 + 1, tk, tc, c.qs ++ [⟨D, r, m, kr, km⟩], c.vs ++ [.ref D], e, (D, tup2 r m kr km) :: c.tups⟩ := by
  refine ⟨?_, ?_, ?_, ?_, ?_⟩
  · show c.k + 1 + 1 = k1 + 2 * ((i + 1 : Nat) : Int)
    have := P.k; omega
  · show (c.qs ++ [_]).length = i + 1
    rw [List.length_append, P.n]; rfl
  · show c.vs ++ [_] = (c.qs ++ [_]).map _
    rw [P.v, List.map_append]; rfl
  · intro p hp
    rcases List.mem_append.mp hp with hp | hp
    · obtain ⟨a, b⟩ := P.p p hp
      exact ⟨.tail _ a, b⟩
    · rw [List.mem_singleton.mp hp]
      exact ⟨.head _, hm, hm'⟩
  · intro p hp
    rcases List.mem_cons.mp hp with rfl | hp
    · exact hD
    · exact P.lt p hp
theorem news_rot {h₀ h : Heap} {L : Addr} {x y z : Addr × Obj} {r : List (Addr × Obj)} (N : News h₀ L h (x :: y :: z :: r)) : News h₀ L h (y :: z :: x :: r) := fun p hp => by
  rcases List.mem_cons.mp hp with rfl | hp
  · exact N _ (.tail _ (.head _))
  rcases List.mem_cons.mp hp with rfl | hp
  · exact N _ (.tail _ (.tail _ (.head _)))
  rcases List.mem_cons.mp hp with rfl | hp
  · exact N _ (.head _)
  · exact N _ (.tail _ (.tail _ (.tail _ hp)))
theorem news_rot2 {h₀ h : Heap} {L : Addr} {x x' y z : Addr × Obj} {r : List (Addr × Obj)} (N : News h₀ L h (x :: x' :: y :: z :: r)) : News h₀ L h (y :: z :: x :: x' :: r) := fun p hp => by
  rcases List.mem_cons.mp hp with rfl | hp
  · exact N _ (.tail _ (.tail _ (.head _)))
  rcases List.mem_cons.mp hp with rfl | hp
  · exact N _ (.tail _ (.tail _ (.tail _ (.head _))))
  rcases List.mem_cons.mp hp with rfl | hp
  · exact N _ (.head _)
  rcases List.mem_cons.mp hp with rfl | hp
  · exact N _ (.tail _ (.head _))
  · exact N _ (.tail _ (.tail _ (.tail _ (.tail _ hp))))
theorem ne_head {a I : Addr} {o : Obj} {r : List (Addr × Obj)} (h : ∀ q ∈ (a, o) :: r, q.1 ≠ I) : @Ne Nat I a := fun e => h (a, o) (List.mem_cons_self ..) e.symm
theorem ne_second {a I : Addr} {o : Obj} {x : Addr × Obj} {r : List (Addr × Obj)} (h : ∀ q ∈ x :: (a, o) :: r, q.1 ≠ I) : @Ne Nat I a := fun e => h (a, o) (List.mem_cons_of_mem _ (List.mem_cons_self ..)) e.symm
theorem ne_fourth {a I : Addr} {o : Obj} {x y z : Addr × Obj} {r : List (Addr × Obj)} (h : ∀ q ∈ x :: y :: z :: (a, o) :: r, q.1 ≠ I) : @Ne Nat I a := fun e => h (a, o) (List.mem_cons_of_mem _ (List.mem_cons_of_mem _ (List.mem_cons_of_mem _ (List.mem_cons_self ..)))) e.symm
theorem ne_third {a I : Addr} {o : Obj} {x y : Addr × Obj} {r : List (Addr × Obj)} (h : ∀ q ∈ x :: y :: (a, o) :: r, q.1 ≠ I) : @Ne Nat I a := fun e => h (a, o) (List.mem_cons_of_mem _ (List.mem_cons_of_mem _ (List.mem_cons_self ..))) e.symm
theorem mlt8 {v : Int} (h : MLt v 8) : 2 + v ≤ 9 := by unfold MLt at h; omega
theorem flt_len {T : Int → Bool} {n : Nat} : ((rangeKs 0 n).filter T).length ≤ n := Nat.le_trans (List.length_filter_le ..) (Nat.le_of_eq (rangeKs_length _ _))
theorem len_ints {prog : Program} {w : World} {A : Around} {E Q : Value → Shared → Prop} {s : Shared} {h₀ : Heap} {L l : Addr} {news : List (Addr × Obj)} {ys : List Value} {ns : List Int} {e : Nat} (N : News h₀ L s.heap news) (hm : (l, listOf ys.toArray e) ∈ news) (hi : IntsAre ys ns) (hb : ns.length ≤ 1000) (h : ∀ t tk, Q (.int ((ns.length : Nat) : Int) t) { s with toks := tk }) :
    wpAny (model prog w) A (call (.builtin "len") [.ref l]) Q E s := by
  have hl : s.heap.IsList l ys.toArray := ⟨_, (N _ hm).1, rfl, e, rfl⟩
  have e1 : ys.toArray.size = ns.length := by rw [List.size_toArray]; exact hi.length
  refine Calls.call_len_list hl (by omega) ?_
  rw [e1]
  exact h _ _
theorem rep_bnd {k1 v : Int} {l : Nat} {c : ReS} (P : ReP k1 l (v - 0).toNat c) (h : MLt v 4) (h0 : 0 ≤ k1) (h1 : k1 ≤ 11) : 0 ≤ c.k ∧ c.k ≤ 20 := by
  have := P.k
  unfold MLt at h
  omega
theorem inner_eq2 {qs : List Pr} {x : Int} {b : Bool} (h : b = true ↔ (((qs.filter fun q => decide ((x - q.r).fmod q.m ≠ 0)).map fun _ => (1 : Int)) = [])) : b = fitT qs x := by
  rw [← inner_eq, Bool.eq_iff_iff, h, decide_eq_true_iff]
theorem q_cast {Q : Bool → Shared → Prop} {b b' : Bool} {s : Shared} (e : b = b') (h : Q b' s) : Q b s := e ▸ h
theorem v_cast {Q : Value → Shared → Prop} {b b' : Bool} {s : Shared} (e : b = b') (h : Q (.bool b') s) : Q (.bool b) s := e ▸ h
theorem bne_dec (a : Int) : (a != 0) = decide (a ≠ 0) := by
  by_cases h : a = 0
  · subst h; rfl
  · rw [decide_eq_true h, bne_iff_ne]; exact h
theorem two_at {qs : List Pr} {n : Nat} {v j : Int} (h : Mods qs) (hn : (n : Int) = mostF qs) (C : ChR (prs qs) v j) (hlen : 1 < ((rangeKs 0 n).filter (fitT qs)).length) : (j == ((rangeKs 0 n).filter (fitT qs)).getD (Int.toNat 1) 0 - v) = true := by
  rw [List.getD_eq_getElem?_getD, ch_at1 h hn C hlen, Option.getD_some, beq_iff_eq]
  omega
theorem two_at2 {qs : List Pr} {n : Nat} {v j : Int} (h : Mods qs) (hn : (n : Int) = mostF qs) (C : ChR (prs qs) v j) (hlen : 1 < ((rangeKs 0 n).filter (fitT qs)).length) : (j == ((rangeKs 0 n).filter (fitT qs)).getD (Int.toNat 1) 0 - ((rangeKs 0 n).filter (fitT qs)).getD (Int.toNat 0) 0) = true := by
  have e0 : ((rangeKs 0 n).filter (fitT qs)).getD (Int.toNat 0) 0 = v := by rw [List.getD_eq_getElem?_getD, ch_at0 h hn C]; rfl
  rw [e0]; exact two_at h hn C hlen
theorem one_at {qs : List Pr} {n : Nat} {v j : Int} (h : Mods qs) (hn : (n : Int) = mostF qs) (C : ChR (prs qs) v j) (hlen : ¬ 1 < ((rangeKs 0 n).filter (fitT qs)).length) : (j == (n : Int)) = true := by
  rw [beq_iff_eq]; exact ch_one h hn C hlen
theorem mlt_nat {v : Int} {i : Nat} (h : MLt v 4) (hi : i < (v - 0).toNat) : i < 3 := by unfold MLt at h; omega
theorem mlt_len {v : Int} {n : Nat} (h : MLt v 4) (e : n = (v - 0).toNat) : n ≤ 3 := by unfold MLt at h; omega
theorem mods_get {qs : List Pr} {q : Pr} (h : Mods qs) (hq : q ∈ qs) : 2 ≤ q.m ∧ q.m ≤ 9 := h q hq
theorem mods_of {qs : List Pr} {tups : List (Addr × Obj)} (h : PrsT qs tups) : Mods qs := fun q hq => (h q hq).2
theorem prsIn_of {qs : List Pr} {tups news : List (Addr × Obj)} (h : PrsT qs tups) (hs : ∀ p ∈ tups, p ∈ news) : PrsIn qs news := fun q hq => ⟨hs _ (h q hq).1, by have := (h q hq).2; omega, (h q hq).2.2⟩
theorem off_app {l b : Nat} {tups news : List (Addr × Obj)} (h1 : ∀ p ∈ tups, @LT.lt Nat _ l p.1) (h2 : ∀ p ∈ news, p.1 ≠ b) (h : @LE.le Nat _ b l) : ∀ p ∈ tups ++ news, p.1 ≠ b := fun p hp => by
  rcases List.mem_append.mp hp with hp | hp
  · exact Nat.ne_of_gt (Nat.lt_of_le_of_lt h (h1 p hp))
  · exact h2 p hp
theorem off_lt {l : Nat} {news : List (Addr × Obj)} (h : AllLt l news) {b : Nat} (hb : l ≤ b) : ∀ p ∈ news, p.1 ≠ b := fun p hp => Nat.ne_of_lt (Nat.lt_of_lt_of_le (ktn_ltOf h p hp) hb)
local macro_rules | `(tactic| walk_at "call ref") => `(tactic| (k_here; k_dflt (refine' take_call ?k1 ?k2 ?k3 ?k4 ?hob ?hon ?k5 ?kK ?kd ?ku ?h0 ?h1 ?h2 ?h3 ?h4 ?h5 ?h6 ?h7 ?_; (case k1 => k_asm); (case k2 => k_asm); (case k3 => k_asm); (case k4 => first | k_asm | exact news_rot (by k_asm) | exact news_rot2 (by k_asm)); (case hob => k_all); (case hon => first | k_ne | omega); (case k5 => k_asm); (case kK => first | exact rfl | assumption); (case kd => ktr_room); (case ku => ktr_units); (case h0 => assumption); (case h1 => (first | assumption | omega)); (case h2 => (first | assumption | omega)); (case h3 => assumption); (case h4 => assumption); (case h5 => (first | assumption | omega)); (case h6 => (first | assumption | omega)); (case h7 => assumption); k_extra "take_call 0")))
local macro_rules | `(tactic| walk_at "call ref") => `(tactic| (k_here; k_dflt (refine' chin_call ?k1 ?k2 ?k3 ?k4 ?k5 ?kK ?kd ?ku ?h0 ?h1 ?h2 ?_ ?_; (case k1 => k_asm); (case k2 => k_asm); (case k3 => k_asm); (case k4 => k_asm); (case k5 => k_asm); (case kK => first | exact rfl | assumption); (case kd => ktr_room); (case ku => ktr_units); (case h0 => (k_dflt ((first | exact List.Mem.head _ | exact List.Mem.tail _ (List.Mem.head _) | exact List.Mem.tail _ (List.Mem.tail _ (List.Mem.head _)) | exact List.Mem.tail _ (List.Mem.tail _ (List.Mem.tail _ (List.Mem.head _))) | exact List.Mem.tail _ (List.Mem.tail _ (List.Mem.tail _ (List.Mem.tail _ (List.Mem.head _)))) | exact List.Mem.tail _ (List.Mem.tail _ (List.Mem.tail _ (List.Mem.tail _ (List.Mem.tail _ (List.Mem.head _))))) | exact List.Mem.tail _ (List.Mem.tail _ (List.Mem.tail _ (List.Mem.tail _ (List.Mem.tail _ (List.Mem.tail _ (List.Mem.head _)))))) | exact List.Mem.tail _ (List.Mem.tail _ (List.Mem.tail _ (List.Mem.tail _ (List.Mem.tail _ (List.Mem.tail _ (List.Mem.tail _ (List.Mem.head _))))))) | exact List.Mem.tail _ (List.Mem.tail _ (List.Mem.tail _ (List.Mem.tail _ (List.Mem.tail _ (List.Mem.tail _ (List.Mem.tail _ (List.Mem.tail _ (List.Mem.head _)))))))) | exact List.Mem.tail _ (List.Mem.tail _ (List.Mem.tail _ (List.Mem.tail _ (List.Mem.tail _ (List.Mem.tail _ (List.Mem.tail _ (List.Mem.tail _ (List.Mem.tail _ (List.Mem.head _))))))))) | exact List.Mem.tail _ (List.Mem.tail _ (List.Mem.tail _ (List.Mem.tail _ (List.Mem.tail _ (List.Mem.tail _ (List.Mem.tail _ (List.Mem.tail _ (List.Mem.tail _ (List.Mem.tail _ (List.Mem.head _)))))))))) | exact List.Mem.tail _ (List.Mem.tail _ (List.Mem.tail _ (List.Mem.tail _ (List.Mem.tail _ (List.Mem.tail _ (List.Mem.tail _ (List.Mem.tail _ (List.Mem.tail _ (List.Mem.tail _ (List.Mem.tail _ (List.Mem.head _))))))))))) | exact List.Mem.tail _ (List.Mem.tail _ (List.Mem.tail _ (List.Mem.tail _ (List.Mem.tail _ (List.Mem.tail _ (List.Mem.tail _ (List.Mem.tail _ (List.Mem.tail _ (List.Mem.tail _ (List.Mem.tail _ (List.Mem.tail _ (List.Mem.head _)))))))))))) | exact List.Mem.tail _ (List.Mem.tail _ (List.Mem.tail _ (List.Mem.tail _ (List.Mem.tail _ (List.Mem.tail _ (List.Mem.tail _ (List.Mem.tail _ (List.Mem.tail _ (List.Mem.tail _ (List.Mem.tail _ (List.Mem.tail _ (List.Mem.tail _ (List.Mem.head _))))))))))))) | exact List.Mem.tail _ (List.Mem.tail _ (List.Mem.tail _ (List.Mem.tail _ (List.Mem.tail _ (List.Mem.tail _ (List.Mem.tail _ (List.Mem.tail _ (List.Mem.tail _ (List.Mem.tail _ (List.Mem.tail _ (List.Mem.tail _ (List.Mem.tail _ (List.Mem.tail _ (List.Mem.head _)))))))))))))))))); (case h1 => k_extra "prsin"); (case h2 => k_extra "chlen"); (all_goals first | k_extra "chin_call 1" | k_extra "chin_call 0"))))

set_option maxRecDepth 100000 in
set_option maxHeartbeats 8000000 in
theorem rests_call {w : World} {loose : List Str} {mean : ExcName → Option Value} {mg mb : Str → Option Value}
    {dp un : Nat} {gd : Option (List Code)} {cn : Str} {cs : Scope} {a : Addr} {ccd : Value} {cl : List (Str × Addr)} {outer : List Env} {A₀ : Around} {base h₀ : Heap} {L : Addr} {m : Str → Option Value} {news : List (Addr × Obj)} {s : Shared}
    {Q E : Value → Shared → Prop}
    {b nl : Addr} {vs : List Value} {ns : List Int} {k c : Int} {tk tc : Tok} {e1 e2 : Nat}
    (B : Below A₀ base outer h₀) (F : Fr h₀ L s.heap m) (X : (Mine.hd.heap_39 w.params).In h₀) (N : News h₀ L s.heap ((b, boxO nl k c tk tc e1) :: (nl, listOf vs.toArray e2) :: news)) (hob : ∀ p ∈ news, p.1 ≠ b) (hon : @Ne Nat nl b) (T : Top Mine.hd.view_39 loose mean mg mb h₀) (hk : cs.kind = .function)
    (hd : dp + 4 < recursionLimit) (hu : un + 400 < cLine) (hi : IntsAre vs ns) (hk0 : 0 ≤ k) (hk1 : k ≤ 10) (hc : 0 ≤ c) (hc1 : c < 89) (hl : ns.length ≤ 24)
    (hret : ∀ k1 tk1 tc1 h' tk', Fr h₀ L h' m → News h₀ L h' ((b, boxO nl k1 c tk1 tc1 e1) :: (nl, listOf vs.toArray e2) :: news) → 0 ≤ k1 → k1 ≤ 20 → Q (.bool true) { s with heap := h', toks := tk' }) :
    wpAny (model PySem.Challenge.rw_nn0247_01.row.prog w) (ktrTop dp un gd cn cs L a ccd cl outer) (call (.ref 92) [.ref b]) Q E s := by
  w_top off
  have hh : (Mine.hd.heap_39 w.params).In h₀ → PySem.Challenge.rw_nn0247_01 = PySem.Challenge.rw_nn0247_01 := by k_fill; exact fun _ => rfl
  clear hh
  k_with_none
  refine wpAny_call ?_
  k_dflt (refine' code_defC ?k1 ?k2 ?k3 ?k4 ?k5 ?kA ?kF ?kK ?k6 ?k7 ?k8 ?k9 ?kB ?kD ?_ ?c2 ?c3 ?c4; (case kA => exact rfl); (case kF => exact rfl); (case kK => assumption); (case k1 => k_asm); (case k2 => k_asm); (case k3 => k_asm); (case k4 => k_asm); (case k5 => k_asm); (case k6 => k_is); (case k7 => k_is); (case k8 => ktr_room); (case k9 => exact BindsTo.of_eq rfl); (case kB => exact rfl); (case kD => decide +kernel); (case c2 => exact rfl); (case c3 => exact rfl); (case c4 => exact rfl); k_whole; intro g' L' h' tk' cells' FG' F' N' Y' B' X' T' l1; (try k_lt l1); k_cells Y'; (try simp only [List.cons_append, List.nil_append] at N'); (try dsimp only); (try k_fold))
  have hoc := off_lt l1.2.2 (Nat.le_succ L')
  k_with "take_call 0" => (intro v9 tv9 tkk9 tkc9 h9 tk9 F9 N9 hv90 hv91; (have hv9w : v9 < 700 := by omega); (have hmb9 := mlt_of hv91); clear hv91; (try dsimp only); (try with_reducible refine Mine.ml_strip ?_); (try k_fold))
  k_with "exec For Name Call cons nil" => (k_here; (rename Fr _ _ _ _ => lF'); (with_unfolding_all refine' For_invVF lF' ?k1 ?k2 ?_; (case k1 => exact rfl); (case k2 => exact rfl); k_whole))
  k_with "pyIter ref" => (k_of "turn" =>  (k_here; (rename Fr _ _ _ _ => lF'); (rename News _ _ _ _ => lN'); (rename IsRange _ _ _ _ _ _ _ _ => rgX); (obtain ⟨lp, elp⟩ := name3 lN'); subst elp; (with_unfolding_all refine' m_range (σ := ReS) (fun z => (b, boxO nl z.k c z.tk z.tc e1) :: (nl, listOf vs.toArray e2) :: (lp, listOf z.vs.toArray z.e) :: (L' + 1, _) :: (z.tups ++ news)) (fun _ => []) ["turn", "modulus"] (ReP (k + 1) lp) ⟨k + 1, _, _, [], [], _, []⟩ (by rfl) (by first | exact rgX | assumption) (by first | exact small_one (by omega) (by omega) (by omega) (by omega) | exact small_one (by l_bnd) (by l_bnd) (by l_bnd) (by l_bnd) | decide) (by first | exact rangeSize_nat _ _ | rfl) lF' ?kn ?kk ?kp ?fta ?fda); (case kk => kst_all); (case kp => exact rep_nil); (case kn => with_unfolding_all exact kst_newsOf lN' (by kst_inAny)); (case' fta => (clear lF' lN' rgX; intro i9 t9 c9 u9 it9 I9 h9 tk9 hi9 hP9 hcls9 hoff9 F9 N9; (have hk9 := ReP.k hP9); (have hi3 := mlt_nat hmb9 hi9); (have hvl9 := rep_len hP9); (have hI9b := ne_head hoff9); (have hI9l := ne_third hoff9); (have hI9n := ne_second hoff9); (have hI9c := ne_fourth hoff9); (have hobT := off_app hP9.lt hob (by omega)); (have holT := off_app hP9.lt (off_lt (l := lp) (by first | assumption | exact And.right (And.right (And.right (by assumption)))) (Nat.le_refl _)) (Nat.le_refl _)); (dsimp only [kstB] at F9 N9); (try k_fold))); (case' fda => (clear lF' lN' rgX; intro c9 u9 h9 tk9 hP9 F9 N9; (have hM9 := mods_of hP9.p); (have hn9 := mlt_len hmb9 hP9.n); (have hv9 := hP9.v); (have hbp9 := most_take hM9 hn9); (have hkb9 := rep_bnd hP9 hmb9 (by omega) (by omega)); (obtain ⟨n9, hnn9, hn91, hn92⟩ := most_nat hM9 hn9); (dsimp only [kstB] at F9 N9); (rw [hv9] at N9); (try k_fold)))))
  k_with "exec For Tuple" => ( (k_here; (rename Fr _ _ _ _ => lF'); (rename News _ _ _ _ => lN'); (with_unfolding_all refine' for_pairs (y := "most") (qs := c9.qs) (pl := lp) (e := c9.e) (c₀ := 1) (fun x q => x * q.m) (by rfl) lF' lN' ?fl ?fp (by rfl) (by rfl) (by rfl) (by decide) (by decide) (by rfl) ?fi ?ft ?fd (by intro _; rfl) (by passes_own)); (case fl => (k_dflt ((first | exact List.Mem.head _ | exact List.Mem.tail _ (List.Mem.head _) | exact List.Mem.tail _ (List.Mem.tail _ (List.Mem.head _)) | exact List.Mem.tail _ (List.Mem.tail _ (List.Mem.tail _ (List.Mem.head _))) | exact List.Mem.tail _ (List.Mem.tail _ (List.Mem.tail _ (List.Mem.tail _ (List.Mem.head _)))) | exact List.Mem.tail _ (List.Mem.tail _ (List.Mem.tail _ (List.Mem.tail _ (List.Mem.tail _ (List.Mem.head _))))) | exact List.Mem.tail _ (List.Mem.tail _ (List.Mem.tail _ (List.Mem.tail _ (List.Mem.tail _ (List.Mem.tail _ (List.Mem.head _)))))) | exact List.Mem.tail _ (List.Mem.tail _ (List.Mem.tail _ (List.Mem.tail _ (List.Mem.tail _ (List.Mem.tail _ (List.Mem.tail _ (List.Mem.head _))))))) | exact List.Mem.tail _ (List.Mem.tail _ (List.Mem.tail _ (List.Mem.tail _ (List.Mem.tail _ (List.Mem.tail _ (List.Mem.tail _ (List.Mem.tail _ (List.Mem.head _)))))))) | exact List.Mem.tail _ (List.Mem.tail _ (List.Mem.tail _ (List.Mem.tail _ (List.Mem.tail _ (List.Mem.tail _ (List.Mem.tail _ (List.Mem.tail _ (List.Mem.tail _ (List.Mem.head _))))))))) | exact List.Mem.tail _ (List.Mem.tail _ (List.Mem.tail _ (List.Mem.tail _ (List.Mem.tail _ (List.Mem.tail _ (List.Mem.tail _ (List.Mem.tail _ (List.Mem.tail _ (List.Mem.tail _ (List.Mem.head _)))))))))) | exact List.Mem.tail _ (List.Mem.tail _ (List.Mem.tail _ (List.Mem.tail _ (List.Mem.tail _ (List.Mem.tail _ (List.Mem.tail _ (List.Mem.tail _ (List.Mem.tail _ (List.Mem.tail _ (List.Mem.tail _ (List.Mem.head _))))))))))) | exact List.Mem.tail _ (List.Mem.tail _ (List.Mem.tail _ (List.Mem.tail _ (List.Mem.tail _ (List.Mem.tail _ (List.Mem.tail _ (List.Mem.tail _ (List.Mem.tail _ (List.Mem.tail _ (List.Mem.tail _ (List.Mem.tail _ (List.Mem.head _)))))))))))) | exact List.Mem.tail _ (List.Mem.tail _ (List.Mem.tail _ (List.Mem.tail _ (List.Mem.tail _ (List.Mem.tail _ (List.Mem.tail _ (List.Mem.tail _ (List.Mem.tail _ (List.Mem.tail _ (List.Mem.tail _ (List.Mem.tail _ (List.Mem.tail _ (List.Mem.head _))))))))))))) | exact List.Mem.tail _ (List.Mem.tail _ (List.Mem.tail _ (List.Mem.tail _ (List.Mem.tail _ (List.Mem.tail _ (List.Mem.tail _ (List.Mem.tail _ (List.Mem.tail _ (List.Mem.tail _ (List.Mem.tail _ (List.Mem.tail _ (List.Mem.tail _ (List.Mem.tail _ (List.Mem.head _)))))))))))))))))); (case fp => (k_dflt (exact (prsIn_of hP9.p (fun p hp => by first | exact List.Mem.tail _ (List.mem_append.mpr (.inl hp)) | exact List.Mem.tail _ (List.Mem.tail _ (List.mem_append.mpr (.inl hp))) | exact List.Mem.tail _ (List.Mem.tail _ (List.Mem.tail _ (List.mem_append.mpr (.inl hp)))) | exact List.Mem.tail _ (List.Mem.tail _ (List.Mem.tail _ (List.Mem.tail _ (List.mem_append.mpr (.inl hp))))) | exact List.Mem.tail _ (List.Mem.tail _ (List.Mem.tail _ (List.Mem.tail _ (List.Mem.tail _ (List.mem_append.mpr (.inl hp)))))) | exact List.Mem.tail _ (List.Mem.tail _ (List.Mem.tail _ (List.Mem.tail _ (List.Mem.tail _ (List.Mem.tail _ (List.mem_append.mpr (.inl hp))))))) | exact List.Mem.tail _ (List.Mem.tail _ (List.Mem.tail _ (List.Mem.tail _ (List.Mem.tail _ (List.Mem.tail _ (List.Mem.tail _ (List.mem_append.mpr (.inl hp)))))))) | exact List.Mem.tail _ (List.Mem.tail _ (List.Mem.tail _ (List.Mem.tail _ (List.Mem.tail _ (List.Mem.tail _ (List.Mem.tail _ (List.Mem.tail _ (List.mem_append.mpr (.inl hp))))))))) | exact List.Mem.tail _ (List.Mem.tail _ (List.Mem.tail _ (List.Mem.tail _ (List.Mem.tail _ (List.Mem.tail _ (List.Mem.tail _ (List.Mem.tail _ (List.Mem.tail _ (List.mem_append.mpr (.inl hp)))))))))) | exact List.Mem.tail _ (List.Mem.tail _ (List.Mem.tail _ (List.Mem.tail _ (List.Mem.tail _ (List.Mem.tail _ (List.Mem.tail _ (List.Mem.tail _ (List.Mem.tail _ (List.Mem.tail _ (List.mem_append.mpr (.inl hp))))))))))) | exact List.Mem.tail _ (List.Mem.tail _ (List.Mem.tail _ (List.Mem.tail _ (List.Mem.tail _ (List.Mem.tail _ (List.Mem.tail _ (List.Mem.tail _ (List.Mem.tail _ (List.Mem.tail _ (List.Mem.tail _ (List.mem_append.mpr (.inl hp))))))))))))))))); (case fi => (intro q7 hq7; walk1; exact hq7)); (case' ft => (clear lF' lN'; intro i8 q8 I8 oI8 t8 s8 h8 tk8 hq8 hm8 hoff8 F8 N8; (have hbq8 := hbp9 i8); (have hmq8 := mods_get hM9 hm8); (try k_fold))); (case' fd => (clear lF' lN'; intro ua8 ub8 t8 h8 tk8 F8 N8; (rw [show (List.foldl (fun (x : Int) (q : Pr) => x * q.m) 1 c9.qs) = (n9 : Int) from hnn9.symm] at F8); (try k_fold)))))
  k_with "exec Assign cons ListComp" => ( (k_here; (rename Fr _ _ _ _ => lF'); (rename News _ _ _ _ => lN'); (with_unfolding_all refine' cell_comp (n := n9) (fitT c9.qs) (by rfl) (by rfl) lF' lN' (by with_unfolding_all rfl) (by with_unfolding_all rfl) (by rfl) (by rfl) (by decide) (by rfl) (by decide) (by rfl) (by rfl) ?cz ?ci ?cm (rsz n9) ?ct ?cd (by intro _; rfl)); (case cz => (rw [PySem.sizeLine_eq]; omega)); (case cm => exact small_one (by omega) (by omega) (by omega) (by omega)); (case' ci => (intro q7 hq7; (try k_fold))); (case' ct => (clear lF' lN'; intro k8 t8 I8 oI8 C8 oC8 D8 oD8 CL8 oL8 h8 tk8 E8 q8 hk80 hk81 hd8 F8 N8 hlt8 hq8)); (case' cd => (clear lF' lN'; intro D8 h8 tk8 ys8 F8 N8 hlt8 hI8; (try k_fold)))))
  k_with "compareOp NotEq ref ref" => (with_unfolding_all refine' ne_intsK ?kc1 ?kc2 ?kc3 ?kc4 ?kc5 ?_; (case kc1 => is_list); (case kc2 => (first | assumption | exact IntsAre.nil)); (case kc3 => is_list); (case kc4 => (first | assumption | exact IntsAre.nil)); (case kc5 => ktr_units))
  k_with "compareOp Eq ref ref" => (with_unfolding_all refine' eq_intsK ?kc1 ?kc2 ?kc3 ?kc4 ?kc5 ?_; (case kc1 => is_list); (case kc2 => (first | assumption | exact IntsAre.nil)); (case kc3 => is_list); (case kc4 => (first | assumption | exact IntsAre.nil)); (case kc5 => ktr_units))
  k_with "eval ListComp" => ( (k_here; (rename Fr _ _ _ _ => lF'); (rename News _ _ _ _ => lN'); (with_unfolding_all refine' pairs_comp (qs := c9.qs) (pl := lp) (e := c9.e) (fun q => decide ((k8 - q.r).fmod q.m ≠ 0)) (by rfl) lF' lN' (by with_unfolding_all rfl) (by decide) (by rfl) (by decide) (by rfl) (by rfl) (by decide) ?pl ?pp ?pz ?pi ?pt ?pe ?pd (by intro _; rfl)); (case pl => (k_dflt ((first | exact List.Mem.head _ | exact List.Mem.tail _ (List.Mem.head _) | exact List.Mem.tail _ (List.Mem.tail _ (List.Mem.head _)) | exact List.Mem.tail _ (List.Mem.tail _ (List.Mem.tail _ (List.Mem.head _))) | exact List.Mem.tail _ (List.Mem.tail _ (List.Mem.tail _ (List.Mem.tail _ (List.Mem.head _)))) | exact List.Mem.tail _ (List.Mem.tail _ (List.Mem.tail _ (List.Mem.tail _ (List.Mem.tail _ (List.Mem.head _))))) | exact List.Mem.tail _ (List.Mem.tail _ (List.Mem.tail _ (List.Mem.tail _ (List.Mem.tail _ (List.Mem.tail _ (List.Mem.head _)))))) | exact List.Mem.tail _ (List.Mem.tail _ (List.Mem.tail _ (List.Mem.tail _ (List.Mem.tail _ (List.Mem.tail _ (List.Mem.tail _ (List.Mem.head _))))))) | exact List.Mem.tail _ (List.Mem.tail _ (List.Mem.tail _ (List.Mem.tail _ (List.Mem.tail _ (List.Mem.tail _ (List.Mem.tail _ (List.Mem.tail _ (List.Mem.head _)))))))) | exact List.Mem.tail _ (List.Mem.tail _ (List.Mem.tail _ (List.Mem.tail _ (List.Mem.tail _ (List.Mem.tail _ (List.Mem.tail _ (List.Mem.tail _ (List.Mem.tail _ (List.Mem.head _))))))))) | exact List.Mem.tail _ (List.Mem.tail _ (List.Mem.tail _ (List.Mem.tail _ (List.Mem.tail _ (List.Mem.tail _ (List.Mem.tail _ (List.Mem.tail _ (List.Mem.tail _ (List.Mem.tail _ (List.Mem.head _)))))))))) | exact List.Mem.tail _ (List.Mem.tail _ (List.Mem.tail _ (List.Mem.tail _ (List.Mem.tail _ (List.Mem.tail _ (List.Mem.tail _ (List.Mem.tail _ (List.Mem.tail _ (List.Mem.tail _ (List.Mem.tail _ (List.Mem.head _))))))))))) | exact List.Mem.tail _ (List.Mem.tail _ (List.Mem.tail _ (List.Mem.tail _ (List.Mem.tail _ (List.Mem.tail _ (List.Mem.tail _ (List.Mem.tail _ (List.Mem.tail _ (List.Mem.tail _ (List.Mem.tail _ (List.Mem.tail _ (List.Mem.head _)))))))))))) | exact List.Mem.tail _ (List.Mem.tail _ (List.Mem.tail _ (List.Mem.tail _ (List.Mem.tail _ (List.Mem.tail _ (List.Mem.tail _ (List.Mem.tail _ (List.Mem.tail _ (List.Mem.tail _ (List.Mem.tail _ (List.Mem.tail _ (List.Mem.tail _ (List.Mem.head _))))))))))))) | exact List.Mem.tail _ (List.Mem.tail _ (List.Mem.tail _ (List.Mem.tail _ (List.Mem.tail _ (List.Mem.tail _ (List.Mem.tail _ (List.Mem.tail _ (List.Mem.tail _ (List.Mem.tail _ (List.Mem.tail _ (List.Mem.tail _ (List.Mem.tail _ (List.Mem.tail _ (List.Mem.head _)))))))))))))))))); (case pp => (k_dflt (exact (prsIn_of hP9.p (fun p hp => by first | exact List.Mem.tail _ (List.mem_append.mpr (.inl hp)) | exact List.Mem.tail _ (List.Mem.tail _ (List.mem_append.mpr (.inl hp))) | exact List.Mem.tail _ (List.Mem.tail _ (List.Mem.tail _ (List.mem_append.mpr (.inl hp)))) | exact List.Mem.tail _ (List.Mem.tail _ (List.Mem.tail _ (List.Mem.tail _ (List.mem_append.mpr (.inl hp))))) | exact List.Mem.tail _ (List.Mem.tail _ (List.Mem.tail _ (List.Mem.tail _ (List.Mem.tail _ (List.mem_append.mpr (.inl hp)))))) | exact List.Mem.tail _ (List.Mem.tail _ (List.Mem.tail _ (List.Mem.tail _ (List.Mem.tail _ (List.Mem.tail _ (List.mem_append.mpr (.inl hp))))))) | exact List.Mem.tail _ (List.Mem.tail _ (List.Mem.tail _ (List.Mem.tail _ (List.Mem.tail _ (List.Mem.tail _ (List.Mem.tail _ (List.mem_append.mpr (.inl hp)))))))) | exact List.Mem.tail _ (List.Mem.tail _ (List.Mem.tail _ (List.Mem.tail _ (List.Mem.tail _ (List.Mem.tail _ (List.Mem.tail _ (List.Mem.tail _ (List.mem_append.mpr (.inl hp))))))))) | exact List.Mem.tail _ (List.Mem.tail _ (List.Mem.tail _ (List.Mem.tail _ (List.Mem.tail _ (List.Mem.tail _ (List.Mem.tail _ (List.Mem.tail _ (List.Mem.tail _ (List.mem_append.mpr (.inl hp)))))))))) | exact List.Mem.tail _ (List.Mem.tail _ (List.Mem.tail _ (List.Mem.tail _ (List.Mem.tail _ (List.Mem.tail _ (List.Mem.tail _ (List.Mem.tail _ (List.Mem.tail _ (List.Mem.tail _ (List.mem_append.mpr (.inl hp))))))))))) | exact List.Mem.tail _ (List.Mem.tail _ (List.Mem.tail _ (List.Mem.tail _ (List.Mem.tail _ (List.Mem.tail _ (List.Mem.tail _ (List.Mem.tail _ (List.Mem.tail _ (List.Mem.tail _ (List.Mem.tail _ (List.mem_append.mpr (.inl hp))))))))))))))))); (case pz => (rw [PySem.sizeLine_eq]; omega)); (case' pi => (intro q6 hq6; (try k_fold))); (case' pt => (clear lF' lN'; intro q5 hq5 I5 oI5 C5 oC5 D5 oD5 m5 h5 tk5 E5 z5 hC5 ha5 hb5 F5 N5 hz5; (have hmq5 := mods_get hM9 hq5); (try k_fold))); (case' pe => (clear lF' lN'; intro C5 h5 tk5 E5 z5 hz5; (try k_fold))); (case' pd => (clear lF' lN'; intro D5 h5 tk5 ys5 F5 N5 hlt5 hlen5 hI5; (try k_fold)))))
  k_with "chin_call 0" => (intro h7 tk7 F7 N7 hch7; (try (exfalso; exact ch_no hM9 hch7 (by with_reducible assumption))); (try dsimp only); (try with_reducible refine Mine.ml_strip ?_); (try k_fold))
  k_with "chin_call 1" => (intro r7 v7 j7 k17 k27 h7 tk7 F7 N7 l17 hch7; (have hcp7 := ChR.p hch7); (try k_lt l17); (try (exfalso; exact ch_ne hM9 hnn9 hch7 (by with_reducible assumption))); (try dsimp only); (try with_reducible refine Mine.ml_strip ?_); (try k_fold))
  k_with "call builtin:len" => ( (k_here; (k_dflt (refine' len_ints ?zN ?zm ?zi ?zb ?_; (case zN => k_asm); (case zm => (first | exact List.Mem.head _ | exact List.Mem.tail _ (List.Mem.head _) | exact List.Mem.tail _ (List.Mem.tail _ (List.Mem.head _)) | exact List.Mem.tail _ (List.Mem.tail _ (List.Mem.tail _ (List.Mem.head _))) | exact List.Mem.tail _ (List.Mem.tail _ (List.Mem.tail _ (List.Mem.tail _ (List.Mem.head _)))) | exact List.Mem.tail _ (List.Mem.tail _ (List.Mem.tail _ (List.Mem.tail _ (List.Mem.tail _ (List.Mem.head _))))) | exact List.Mem.tail _ (List.Mem.tail _ (List.Mem.tail _ (List.Mem.tail _ (List.Mem.tail _ (List.Mem.tail _ (List.Mem.head _)))))) | exact List.Mem.tail _ (List.Mem.tail _ (List.Mem.tail _ (List.Mem.tail _ (List.Mem.tail _ (List.Mem.tail _ (List.Mem.tail _ (List.Mem.head _))))))) | exact List.Mem.tail _ (List.Mem.tail _ (List.Mem.tail _ (List.Mem.tail _ (List.Mem.tail _ (List.Mem.tail _ (List.Mem.tail _ (List.Mem.tail _ (List.Mem.head _)))))))) | exact List.Mem.tail _ (List.Mem.tail _ (List.Mem.tail _ (List.Mem.tail _ (List.Mem.tail _ (List.Mem.tail _ (List.Mem.tail _ (List.Mem.tail _ (List.Mem.tail _ (List.Mem.head _))))))))) | exact List.Mem.tail _ (List.Mem.tail _ (List.Mem.tail _ (List.Mem.tail _ (List.Mem.tail _ (List.Mem.tail _ (List.Mem.tail _ (List.Mem.tail _ (List.Mem.tail _ (List.Mem.tail _ (List.Mem.head _)))))))))) | exact List.Mem.tail _ (List.Mem.tail _ (List.Mem.tail _ (List.Mem.tail _ (List.Mem.tail _ (List.Mem.tail _ (List.Mem.tail _ (List.Mem.tail _ (List.Mem.tail _ (List.Mem.tail _ (List.Mem.tail _ (List.Mem.head _))))))))))) | exact List.Mem.tail _ (List.Mem.tail _ (List.Mem.tail _ (List.Mem.tail _ (List.Mem.tail _ (List.Mem.tail _ (List.Mem.tail _ (List.Mem.tail _ (List.Mem.tail _ (List.Mem.tail _ (List.Mem.tail _ (List.Mem.tail _ (List.Mem.head _)))))))))))) | exact List.Mem.tail _ (List.Mem.tail _ (List.Mem.tail _ (List.Mem.tail _ (List.Mem.tail _ (List.Mem.tail _ (List.Mem.tail _ (List.Mem.tail _ (List.Mem.tail _ (List.Mem.tail _ (List.Mem.tail _ (List.Mem.tail _ (List.Mem.tail _ (List.Mem.head _))))))))))))) | exact List.Mem.tail _ (List.Mem.tail _ (List.Mem.tail _ (List.Mem.tail _ (List.Mem.tail _ (List.Mem.tail _ (List.Mem.tail _ (List.Mem.tail _ (List.Mem.tail _ (List.Mem.tail _ (List.Mem.tail _ (List.Mem.tail _ (List.Mem.tail _ (List.Mem.tail _ (List.Mem.head _)))))))))))))))); (case zi => with_reducible assumption); (case zb => exact Nat.le_trans flt_len (by omega)); intro t6 tk6; (try dsimp only); (try k_fold)))))
  k_with "prsin" => (k_dflt (exact (prsIn_of hP9.p (fun p hp => by first | exact List.Mem.tail _ (List.mem_append.mpr (.inl hp)) | exact List.Mem.tail _ (List.Mem.tail _ (List.mem_append.mpr (.inl hp))) | exact List.Mem.tail _ (List.Mem.tail _ (List.Mem.tail _ (List.mem_append.mpr (.inl hp)))) | exact List.Mem.tail _ (List.Mem.tail _ (List.Mem.tail _ (List.Mem.tail _ (List.mem_append.mpr (.inl hp))))) | exact List.Mem.tail _ (List.Mem.tail _ (List.Mem.tail _ (List.Mem.tail _ (List.Mem.tail _ (List.mem_append.mpr (.inl hp)))))) | exact List.Mem.tail _ (List.Mem.tail _ (List.Mem.tail _ (List.Mem.tail _ (List.Mem.tail _ (List.Mem.tail _ (List.mem_append.mpr (.inl hp))))))) | exact List.Mem.tail _ (List.Mem.tail _ (List.Mem.tail _ (List.Mem.tail _ (List.Mem.tail _ (List.Mem.tail _ (List.Mem.tail _ (List.mem_append.mpr (.inl hp)))))))) | exact List.Mem.tail _ (List.Mem.tail _ (List.Mem.tail _ (List.Mem.tail _ (List.Mem.tail _ (List.Mem.tail _ (List.Mem.tail _ (List.Mem.tail _ (List.mem_append.mpr (.inl hp))))))))) | exact List.Mem.tail _ (List.Mem.tail _ (List.Mem.tail _ (List.Mem.tail _ (List.Mem.tail _ (List.Mem.tail _ (List.Mem.tail _ (List.Mem.tail _ (List.Mem.tail _ (List.mem_append.mpr (.inl hp)))))))))) | exact List.Mem.tail _ (List.Mem.tail _ (List.Mem.tail _ (List.Mem.tail _ (List.Mem.tail _ (List.Mem.tail _ (List.Mem.tail _ (List.Mem.tail _ (List.Mem.tail _ (List.Mem.tail _ (List.mem_append.mpr (.inl hp))))))))))) | exact List.Mem.tail _ (List.Mem.tail _ (List.Mem.tail _ (List.Mem.tail _ (List.Mem.tail _ (List.Mem.tail _ (List.Mem.tail _ (List.Mem.tail _ (List.Mem.tail _ (List.Mem.tail _ (List.Mem.tail _ (List.mem_append.mpr (.inl hp))))))))))))))))
  k_with "chlen" => exact hn9
  k_with "subscriptTail" => ( (k_here; (k_dflt (refine' item_at ?zN ?zm ?zi ?z0 ?zk ?zx ?_ ?zs; (case zN => k_asm); (case zm => (first | exact List.Mem.head _ | exact List.Mem.tail _ (List.Mem.head _) | exact List.Mem.tail _ (List.Mem.tail _ (List.Mem.head _)) | exact List.Mem.tail _ (List.Mem.tail _ (List.Mem.tail _ (List.Mem.head _))) | exact List.Mem.tail _ (List.Mem.tail _ (List.Mem.tail _ (List.Mem.tail _ (List.Mem.head _)))) | exact List.Mem.tail _ (List.Mem.tail _ (List.Mem.tail _ (List.Mem.tail _ (List.Mem.tail _ (List.Mem.head _))))) | exact List.Mem.tail _ (List.Mem.tail _ (List.Mem.tail _ (List.Mem.tail _ (List.Mem.tail _ (List.Mem.tail _ (List.Mem.head _)))))) | exact List.Mem.tail _ (List.Mem.tail _ (List.Mem.tail _ (List.Mem.tail _ (List.Mem.tail _ (List.Mem.tail _ (List.Mem.tail _ (List.Mem.head _))))))) | exact List.Mem.tail _ (List.Mem.tail _ (List.Mem.tail _ (List.Mem.tail _ (List.Mem.tail _ (List.Mem.tail _ (List.Mem.tail _ (List.Mem.tail _ (List.Mem.head _)))))))) | exact List.Mem.tail _ (List.Mem.tail _ (List.Mem.tail _ (List.Mem.tail _ (List.Mem.tail _ (List.Mem.tail _ (List.Mem.tail _ (List.Mem.tail _ (List.Mem.tail _ (List.Mem.head _))))))))) | exact List.Mem.tail _ (List.Mem.tail _ (List.Mem.tail _ (List.Mem.tail _ (List.Mem.tail _ (List.Mem.tail _ (List.Mem.tail _ (List.Mem.tail _ (List.Mem.tail _ (List.Mem.tail _ (List.Mem.head _)))))))))) | exact List.Mem.tail _ (List.Mem.tail _ (List.Mem.tail _ (List.Mem.tail _ (List.Mem.tail _ (List.Mem.tail _ (List.Mem.tail _ (List.Mem.tail _ (List.Mem.tail _ (List.Mem.tail _ (List.Mem.tail _ (List.Mem.head _))))))))))) | exact List.Mem.tail _ (List.Mem.tail _ (List.Mem.tail _ (List.Mem.tail _ (List.Mem.tail _ (List.Mem.tail _ (List.Mem.tail _ (List.Mem.tail _ (List.Mem.tail _ (List.Mem.tail _ (List.Mem.tail _ (List.Mem.tail _ (List.Mem.head _)))))))))))) | exact List.Mem.tail _ (List.Mem.tail _ (List.Mem.tail _ (List.Mem.tail _ (List.Mem.tail _ (List.Mem.tail _ (List.Mem.tail _ (List.Mem.tail _ (List.Mem.tail _ (List.Mem.tail _ (List.Mem.tail _ (List.Mem.tail _ (List.Mem.tail _ (List.Mem.head _))))))))))))) | exact List.Mem.tail _ (List.Mem.tail _ (List.Mem.tail _ (List.Mem.tail _ (List.Mem.tail _ (List.Mem.tail _ (List.Mem.tail _ (List.Mem.tail _ (List.Mem.tail _ (List.Mem.tail _ (List.Mem.tail _ (List.Mem.tail _ (List.Mem.tail _ (List.Mem.tail _ (List.Mem.head _)))))))))))))))); (case zi => with_reducible assumption); (case z0 => decide); (case zk => decide); (case zs => with_unfolding_all rfl); (case zx => first | exact ch_at0 hM9 hnn9 hch7 | exact ch_at1 hM9 hnn9 hch7 (by omega)); intro t6; (try dsimp only); (try k_fold)))))
  k_steps
  · (rename News h₀ L _ _ => nE9); (rename Fr h₀ L _ _ => fE9); exact (hret c9.k _ _ _ _ fE9 (cb_drop nE9 (List.forall_mem_cons.mpr ⟨by with_unfolding_all (first | exact List.Mem.head _ | exact List.Mem.tail _ (List.Mem.head _) | exact List.Mem.tail _ (List.Mem.tail _ (List.Mem.head _)) | exact List.Mem.tail _ (List.Mem.tail _ (List.Mem.tail _ (List.Mem.head _))) | exact List.Mem.tail _ (List.Mem.tail _ (List.Mem.tail _ (List.Mem.tail _ (List.Mem.head _)))) | exact List.Mem.tail _ (List.Mem.tail _ (List.Mem.tail _ (List.Mem.tail _ (List.Mem.tail _ (List.Mem.head _))))) | exact List.Mem.tail _ (List.Mem.tail _ (List.Mem.tail _ (List.Mem.tail _ (List.Mem.tail _ (List.Mem.tail _ (List.Mem.head _)))))) | exact List.Mem.tail _ (List.Mem.tail _ (List.Mem.tail _ (List.Mem.tail _ (List.Mem.tail _ (List.Mem.tail _ (List.Mem.tail _ (List.Mem.head _))))))) | exact List.Mem.tail _ (List.Mem.tail _ (List.Mem.tail _ (List.Mem.tail _ (List.Mem.tail _ (List.Mem.tail _ (List.Mem.tail _ (List.Mem.tail _ (List.Mem.head _)))))))) | exact List.Mem.tail _ (List.Mem.tail _ (List.Mem.tail _ (List.Mem.tail _ (List.Mem.tail _ (List.Mem.tail _ (List.Mem.tail _ (List.Mem.tail _ (List.Mem.tail _ (List.Mem.head _))))))))) | exact List.Mem.tail _ (List.Mem.tail _ (List.Mem.tail _ (List.Mem.tail _ (List.Mem.tail _ (List.Mem.tail _ (List.Mem.tail _ (List.Mem.tail _ (List.Mem.tail _ (List.Mem.tail _ (List.Mem.head _)))))))))) | exact List.Mem.tail _ (List.Mem.tail _ (List.Mem.tail _ (List.Mem.tail _ (List.Mem.tail _ (List.Mem.tail _ (List.Mem.tail _ (List.Mem.tail _ (List.Mem.tail _ (List.Mem.tail _ (List.Mem.tail _ (List.Mem.head _))))))))))) | exact List.Mem.tail _ (List.Mem.tail _ (List.Mem.tail _ (List.Mem.tail _ (List.Mem.tail _ (List.Mem.tail _ (List.Mem.tail _ (List.Mem.tail _ (List.Mem.tail _ (List.Mem.tail _ (List.Mem.tail _ (List.Mem.tail _ (List.Mem.head _)))))))))))) | exact List.Mem.tail _ (List.Mem.tail _ (List.Mem.tail _ (List.Mem.tail _ (List.Mem.tail _ (List.Mem.tail _ (List.Mem.tail _ (List.Mem.tail _ (List.Mem.tail _ (List.Mem.tail _ (List.Mem.tail _ (List.Mem.tail _ (List.Mem.tail _ (List.Mem.head _))))))))))))) | exact List.Mem.tail _ (List.Mem.tail _ (List.Mem.tail _ (List.Mem.tail _ (List.Mem.tail _ (List.Mem.tail _ (List.Mem.tail _ (List.Mem.tail _ (List.Mem.tail _ (List.Mem.tail _ (List.Mem.tail _ (List.Mem.tail _ (List.Mem.tail _ (List.Mem.tail _ (List.Mem.head _))))))))))))))), List.forall_mem_cons.mpr ⟨by with_unfolding_all (first | exact List.Mem.head _ | exact List.Mem.tail _ (List.Mem.head _) | exact List.Mem.tail _ (List.Mem.tail _ (List.Mem.head _)) | exact List.Mem.tail _ (List.Mem.tail _ (List.Mem.tail _ (List.Mem.head _))) | exact List.Mem.tail _ (List.Mem.tail _ (List.Mem.tail _ (List.Mem.tail _ (List.Mem.head _)))) | exact List.Mem.tail _ (List.Mem.tail _ (List.Mem.tail _ (List.Mem.tail _ (List.Mem.tail _ (List.Mem.head _))))) | exact List.Mem.tail _ (List.Mem.tail _ (List.Mem.tail _ (List.Mem.tail _ (List.Mem.tail _ (List.Mem.tail _ (List.Mem.head _)))))) | exact List.Mem.tail _ (List.Mem.tail _ (List.Mem.tail _ (List.Mem.tail _ (List.Mem.tail _ (List.Mem.tail _ (List.Mem.tail _ (List.Mem.head _))))))) | exact List.Mem.tail _ (List.Mem.tail _ (List.Mem.tail _ (List.Mem.tail _ (List.Mem.tail _ (List.Mem.tail _ (List.Mem.tail _ (List.Mem.tail _ (List.Mem.head _)))))))) | exact List.Mem.tail _ (List.Mem.tail _ (List.Mem.tail _ (List.Mem.tail _ (List.Mem.tail _ (List.Mem.tail _ (List.Mem.tail _ (List.Mem.tail _ (List.Mem.tail _ (List.Mem.head _))))))))) | exact List.Mem.tail _ (List.Mem.tail _ (List.Mem.tail _ (List.Mem.tail _ (List.Mem.tail _ (List.Mem.tail _ (List.Mem.tail _ (List.Mem.tail _ (List.Mem.tail _ (List.Mem.tail _ (List.Mem.head _)))))))))) | exact List.Mem.tail _ (List.Mem.tail _ (List.Mem.tail _ (List.Mem.tail _ (List.Mem.tail _ (List.Mem.tail _ (List.Mem.tail _ (List.Mem.tail _ (List.Mem.tail _ (List.Mem.tail _ (List.Mem.tail _ (List.Mem.head _))))))))))) | exact List.Mem.tail _ (List.Mem.tail _ (List.Mem.tail _ (List.Mem.tail _ (List.Mem.tail _ (List.Mem.tail _ (List.Mem.tail _ (List.Mem.tail _ (List.Mem.tail _ (List.Mem.tail _ (List.Mem.tail _ (List.Mem.tail _ (List.Mem.head _)))))))))))) | exact List.Mem.tail _ (List.Mem.tail _ (List.Mem.tail _ (List.Mem.tail _ (List.Mem.tail _ (List.Mem.tail _ (List.Mem.tail _ (List.Mem.tail _ (List.Mem.tail _ (List.Mem.tail _ (List.Mem.tail _ (List.Mem.tail _ (List.Mem.tail _ (List.Mem.head _))))))))))))) | exact List.Mem.tail _ (List.Mem.tail _ (List.Mem.tail _ (List.Mem.tail _ (List.Mem.tail _ (List.Mem.tail _ (List.Mem.tail _ (List.Mem.tail _ (List.Mem.tail _ (List.Mem.tail _ (List.Mem.tail _ (List.Mem.tail _ (List.Mem.tail _ (List.Mem.tail _ (List.Mem.head _))))))))))))))), (fun p hp => by first | exact List.Mem.tail _ (List.mem_append.mpr (.inr hp)) | exact List.Mem.tail _ (List.Mem.tail _ (List.mem_append.mpr (.inr hp))) | exact List.Mem.tail _ (List.Mem.tail _ (List.Mem.tail _ (List.mem_append.mpr (.inr hp)))) | exact List.Mem.tail _ (List.Mem.tail _ (List.Mem.tail _ (List.Mem.tail _ (List.mem_append.mpr (.inr hp))))) | exact List.Mem.tail _ (List.Mem.tail _ (List.Mem.tail _ (List.Mem.tail _ (List.Mem.tail _ (List.mem_append.mpr (.inr hp)))))) | exact List.Mem.tail _ (List.Mem.tail _ (List.Mem.tail _ (List.Mem.tail _ (List.Mem.tail _ (List.Mem.tail _ (List.mem_append.mpr (.inr hp))))))) | exact List.Mem.tail _ (List.Mem.tail _ (List.Mem.tail _ (List.Mem.tail _ (List.Mem.tail _ (List.Mem.tail _ (List.Mem.tail _ (List.mem_append.mpr (.inr hp)))))))) | exact List.Mem.tail _ (List.Mem.tail _ (List.Mem.tail _ (List.Mem.tail _ (List.Mem.tail _ (List.Mem.tail _ (List.Mem.tail _ (List.Mem.tail _ (List.mem_append.mpr (.inr hp))))))))) | exact List.Mem.tail _ (List.Mem.tail _ (List.Mem.tail _ (List.Mem.tail _ (List.Mem.tail _ (List.Mem.tail _ (List.Mem.tail _ (List.Mem.tail _ (List.Mem.tail _ (List.mem_append.mpr (.inr hp)))))))))) | exact List.Mem.tail _ (List.Mem.tail _ (List.Mem.tail _ (List.Mem.tail _ (List.Mem.tail _ (List.Mem.tail _ (List.Mem.tail _ (List.Mem.tail _ (List.Mem.tail _ (List.Mem.tail _ (List.mem_append.mpr (.inr hp))))))))))) | exact List.Mem.tail _ (List.Mem.tail _ (List.Mem.tail _ (List.Mem.tail _ (List.Mem.tail _ (List.Mem.tail _ (List.Mem.tail _ (List.Mem.tail _ (List.Mem.tail _ (List.Mem.tail _ (List.Mem.tail _ (List.mem_append.mpr (.inr hp)))))))))))))⟩⟩)) hkb9.1 hkb9.2)
  · (rename News h₀ L _ _ => nE9); (rename Fr h₀ L _ _ => fE9); exact v_cast (by first | exact two_at hM9 hnn9 hch7 (by omega) | exact two_at2 hM9 hnn9 hch7 (by omega)) (hret c9.k _ _ _ _ fE9 (cb_drop nE9 (List.forall_mem_cons.mpr ⟨by with_unfolding_all (first | exact List.Mem.head _ | exact List.Mem.tail _ (List.Mem.head _) | exact List.Mem.tail _ (List.Mem.tail _ (List.Mem.head _)) | exact List.Mem.tail _ (List.Mem.tail _ (List.Mem.tail _ (List.Mem.head _))) | exact List.Mem.tail _ (List.Mem.tail _ (List.Mem.tail _ (List.Mem.tail _ (List.Mem.head _)))) | exact List.Mem.tail _ (List.Mem.tail _ (List.Mem.tail _ (List.Mem.tail _ (List.Mem.tail _ (List.Mem.head _))))) | exact List.Mem.tail _ (List.Mem.tail _ (List.Mem.tail _ (List.Mem.tail _ (List.Mem.tail _ (List.Mem.tail _ (List.Mem.head _)))))) | exact List.Mem.tail _ (List.Mem.tail _ (List.Mem.tail _ (List.Mem.tail _ (List.Mem.tail _ (List.Mem.tail _ (List.Mem.tail _ (List.Mem.head _))))))) | exact List.Mem.tail _ (List.Mem.tail _ (List.Mem.tail _ (List.Mem.tail _ (List.Mem.tail _ (List.Mem.tail _ (List.Mem.tail _ (List.Mem.tail _ (List.Mem.head _)))))))) | exact List.Mem.tail _ (List.Mem.tail _ (List.Mem.tail _ (List.Mem.tail _ (List.Mem.tail _ (List.Mem.tail _ (List.Mem.tail _ (List.Mem.tail _ (List.Mem.tail _ (List.Mem.head _))))))))) | exact List.Mem.tail _ (List.Mem.tail _ (List.Mem.tail _ (List.Mem.tail _ (List.Mem.tail _ (List.Mem.tail _ (List.Mem.tail _ (List.Mem.tail _ (List.Mem.tail _ (List.Mem.tail _ (List.Mem.head _)))))))))) | exact List.Mem.tail _ (List.Mem.tail _ (List.Mem.tail _ (List.Mem.tail _ (List.Mem.tail _ (List.Mem.tail _ (List.Mem.tail _ (List.Mem.tail _ (List.Mem.tail _ (List.Mem.tail _ (List.Mem.tail _ (List.Mem.head _))))))))))) | exact List.Mem.tail _ (List.Mem.tail _ (List.Mem.tail _ (List.Mem.tail _ (List.Mem.tail _ (List.Mem.tail _ (List.Mem.tail _ (List.Mem.tail _ (List.Mem.tail _ (List.Mem.tail _ (List.Mem.tail _ (List.Mem.tail _ (List.Mem.head _)))))))))))) | exact List.Mem.tail _ (List.Mem.tail _ (List.Mem.tail _ (List.Mem.tail _ (List.Mem.tail _ (List.Mem.tail _ (List.Mem.tail _ (List.Mem.tail _ (List.Mem.tail _ (List.Mem.tail _ (List.Mem.tail _ (List.Mem.tail _ (List.Mem.tail _ (List.Mem.head _))))))))))))) | exact List.Mem.tail _ (List.Mem.tail _ (List.Mem.tail _ (List.Mem.tail _ (List.Mem.tail _ (List.Mem.tail _ (List.Mem.tail _ (List.Mem.tail _ (List.Mem.tail _ (List.Mem.tail _ (List.Mem.tail _ (List.Mem.tail _ (List.Mem.tail _ (List.Mem.tail _ (List.Mem.head _))))))))))))))), List.forall_mem_cons.mpr ⟨by with_unfolding_all (first | exact List.Mem.head _ | exact List.Mem.tail _ (List.Mem.head _) | exact List.Mem.tail _ (List.Mem.tail _ (List.Mem.head _)) | exact List.Mem.tail _ (List.Mem.tail _ (List.Mem.tail _ (List.Mem.head _))) | exact List.Mem.tail _ (List.Mem.tail _ (List.Mem.tail _ (List.Mem.tail _ (List.Mem.head _)))) | exact List.Mem.tail _ (List.Mem.tail _ (List.Mem.tail _ (List.Mem.tail _ (List.Mem.tail _ (List.Mem.head _))))) | exact List.Mem.tail _ (List.Mem.tail _ (List.Mem.tail _ (List.Mem.tail _ (List.Mem.tail _ (List.Mem.tail _ (List.Mem.head _)))))) | exact List.Mem.tail _ (List.Mem.tail _ (List.Mem.tail _ (List.Mem.tail _ (List.Mem.tail _ (List.Mem.tail _ (List.Mem.tail _ (List.Mem.head _))))))) | exact List.Mem.tail _ (List.Mem.tail _ (List.Mem.tail _ (List.Mem.tail _ (List.Mem.tail _ (List.Mem.tail _ (List.Mem.tail _ (List.Mem.tail _ (List.Mem.head _)))))))) | exact List.Mem.tail _ (List.Mem.tail _ (List.Mem.tail _ (List.Mem.tail _ (List.Mem.tail _ (List.Mem.tail _ (List.Mem.tail _ (List.Mem.tail _ (List.Mem.tail _ (List.Mem.head _))))))))) | exact List.Mem.tail _ (List.Mem.tail _ (List.Mem.tail _ (List.Mem.tail _ (List.Mem.tail _ (List.Mem.tail _ (List.Mem.tail _ (List.Mem.tail _ (List.Mem.tail _ (List.Mem.tail _ (List.Mem.head _)))))))))) | exact List.Mem.tail _ (List.Mem.tail _ (List.Mem.tail _ (List.Mem.tail _ (List.Mem.tail _ (List.Mem.tail _ (List.Mem.tail _ (List.Mem.tail _ (List.Mem.tail _ (List.Mem.tail _ (List.Mem.tail _ (List.Mem.head _))))))))))) | exact List.Mem.tail _ (List.Mem.tail _ (List.Mem.tail _ (List.Mem.tail _ (List.Mem.tail _ (List.Mem.tail _ (List.Mem.tail _ (List.Mem.tail _ (List.Mem.tail _ (List.Mem.tail _ (List.Mem.tail _ (List.Mem.tail _ (List.Mem.head _)))))))))))) | exact List.Mem.tail _ (List.Mem.tail _ (List.Mem.tail _ (List.Mem.tail _ (List.Mem.tail _ (List.Mem.tail _ (List.Mem.tail _ (List.Mem.tail _ (List.Mem.tail _ (List.Mem.tail _ (List.Mem.tail _ (List.Mem.tail _ (List.Mem.tail _ (List.Mem.head _))))))))))))) | exact List.Mem.tail _ (List.Mem.tail _ (List.Mem.tail _ (List.Mem.tail _ (List.Mem.tail _ (List.Mem.tail _ (List.Mem.tail _ (List.Mem.tail _ (List.Mem.tail _ (List.Mem.tail _ (List.Mem.tail _ (List.Mem.tail _ (List.Mem.tail _ (List.Mem.tail _ (List.Mem.head _))))))))))))))), (fun p hp => by first | exact List.Mem.tail _ (List.mem_append.mpr (.inr hp)) | exact List.Mem.tail _ (List.Mem.tail _ (List.mem_append.mpr (.inr hp))) | exact List.Mem.tail _ (List.Mem.tail _ (List.Mem.tail _ (List.mem_append.mpr (.inr hp)))) | exact List.Mem.tail _ (List.Mem.tail _ (List.Mem.tail _ (List.Mem.tail _ (List.mem_append.mpr (.inr hp))))) | exact List.Mem.tail _ (List.Mem.tail _ (List.Mem.tail _ (List.Mem.tail _ (List.Mem.tail _ (List.mem_append.mpr (.inr hp)))))) | exact List.Mem.tail _ (List.Mem.tail _ (List.Mem.tail _ (List.Mem.tail _ (List.Mem.tail _ (List.Mem.tail _ (List.mem_append.mpr (.inr hp))))))) | exact List.Mem.tail _ (List.Mem.tail _ (List.Mem.tail _ (List.Mem.tail _ (List.Mem.tail _ (List.Mem.tail _ (List.Mem.tail _ (List.mem_append.mpr (.inr hp)))))))) | exact List.Mem.tail _ (List.Mem.tail _ (List.Mem.tail _ (List.Mem.tail _ (List.Mem.tail _ (List.Mem.tail _ (List.Mem.tail _ (List.Mem.tail _ (List.mem_append.mpr (.inr hp))))))))) | exact List.Mem.tail _ (List.Mem.tail _ (List.Mem.tail _ (List.Mem.tail _ (List.Mem.tail _ (List.Mem.tail _ (List.Mem.tail _ (List.Mem.tail _ (List.Mem.tail _ (List.mem_append.mpr (.inr hp)))))))))) | exact List.Mem.tail _ (List.Mem.tail _ (List.Mem.tail _ (List.Mem.tail _ (List.Mem.tail _ (List.Mem.tail _ (List.Mem.tail _ (List.Mem.tail _ (List.Mem.tail _ (List.Mem.tail _ (List.mem_append.mpr (.inr hp))))))))))) | exact List.Mem.tail _ (List.Mem.tail _ (List.Mem.tail _ (List.Mem.tail _ (List.Mem.tail _ (List.Mem.tail _ (List.Mem.tail _ (List.Mem.tail _ (List.Mem.tail _ (List.Mem.tail _ (List.Mem.tail _ (List.mem_append.mpr (.inr hp)))))))))))))⟩⟩)) hkb9.1 hkb9.2)
  · (rename News h₀ L _ _ => nE9); (rename Fr h₀ L _ _ => fE9); exact v_cast (one_at hM9 hnn9 hch7 (by omega)) (hret c9.k _ _ _ _ fE9 (cb_drop nE9 (List.forall_mem_cons.mpr ⟨by with_unfolding_all (first | exact List.Mem.head _ | exact List.Mem.tail _ (List.Mem.head _) | exact List.Mem.tail _ (List.Mem.tail _ (List.Mem.head _)) | exact List.Mem.tail _ (List.Mem.tail _ (List.Mem.tail _ (List.Mem.head _))) | exact List.Mem.tail _ (List.Mem.tail _ (List.Mem.tail _ (List.Mem.tail _ (List.Mem.head _)))) | exact List.Mem.tail _ (List.Mem.tail _ (List.Mem.tail _ (List.Mem.tail _ (List.Mem.tail _ (List.Mem.head _))))) | exact List.Mem.tail _ (List.Mem.tail _ (List.Mem.tail _ (List.Mem.tail _ (List.Mem.tail _ (List.Mem.tail _ (List.Mem.head _)))))) | exact List.Mem.tail _ (List.Mem.tail _ (List.Mem.tail _ (List.Mem.tail _ (List.Mem.tail _ (List.Mem.tail _ (List.Mem.tail _ (List.Mem.head _))))))) | exact List.Mem.tail _ (List.Mem.tail _ (List.Mem.tail _ (List.Mem.tail _ (List.Mem.tail _ (List.Mem.tail _ (List.Mem.tail _ (List.Mem.tail _ (List.Mem.head _)))))))) | exact List.Mem.tail _ (List.Mem.tail _ (List.Mem.tail _ (List.Mem.tail _ (List.Mem.tail _ (List.Mem.tail _ (List.Mem.tail _ (List.Mem.tail _ (List.Mem.tail _ (List.Mem.head _))))))))) | exact List.Mem.tail _ (List.Mem.tail _ (List.Mem.tail _ (List.Mem.tail _ (List.Mem.tail _ (List.Mem.tail _ (List.Mem.tail _ (List.Mem.tail _ (List.Mem.tail _ (List.Mem.tail _ (List.Mem.head _)))))))))) | exact List.Mem.tail _ (List.Mem.tail _ (List.Mem.tail _ (List.Mem.tail _ (List.Mem.tail _ (List.Mem.tail _ (List.Mem.tail _ (List.Mem.tail _ (List.Mem.tail _ (List.Mem.tail _ (List.Mem.tail _ (List.Mem.head _))))))))))) | exact List.Mem.tail _ (List.Mem.tail _ (List.Mem.tail _ (List.Mem.tail _ (List.Mem.tail _ (List.Mem.tail _ (List.Mem.tail _ (List.Mem.tail _ (List.Mem.tail _ (List.Mem.tail _ (List.Mem.tail _ (List.Mem.tail _ (List.Mem.head _)))))))))))) | exact List.Mem.tail _ (List.Mem.tail _ (List.Mem.tail _ (List.Mem.tail _ (List.Mem.tail _ (List.Mem.tail _ (List.Mem.tail _ (List.Mem.tail _ (List.Mem.tail _ (List.Mem.tail _ (List.Mem.tail _ (List.Mem.tail _ (List.Mem.tail _ (List.Mem.head _))))))))))))) | exact List.Mem.tail _ (List.Mem.tail _ (List.Mem.tail _ (List.Mem.tail _ (List.Mem.tail _ (List.Mem.tail _ (List.Mem.tail _ (List.Mem.tail _ (List.Mem.tail _ (List.Mem.tail _ (List.Mem.tail _ (List.Mem.tail _ (List.Mem.tail _ (List.Mem.tail _ (List.Mem.head _))))))))))))))), List.forall_mem_cons.mpr ⟨by with_unfolding_all (first | exact List.Mem.head _ | exact List.Mem.tail _ (List.Mem.head _) | exact List.Mem.tail _ (List.Mem.tail _ (List.Mem.head _)) | exact List.Mem.tail _ (List.Mem.tail _ (List.Mem.tail _ (List.Mem.head _))) | exact List.Mem.tail _ (List.Mem.tail _ (List.Mem.tail _ (List.Mem.tail _ (List.Mem.head _)))) | exact List.Mem.tail _ (List.Mem.tail _ (List.Mem.tail _ (List.Mem.tail _ (List.Mem.tail _ (List.Mem.head _))))) | exact List.Mem.tail _ (List.Mem.tail _ (List.Mem.tail _ (List.Mem.tail _ (List.Mem.tail _ (List.Mem.tail _ (List.Mem.head _)))))) | exact List.Mem.tail _ (List.Mem.tail _ (List.Mem.tail _ (List.Mem.tail _ (List.Mem.tail _ (List.Mem.tail _ (List.Mem.tail _ (List.Mem.head _))))))) | exact List.Mem.tail _ (List.Mem.tail _ (List.Mem.tail _ (List.Mem.tail _ (List.Mem.tail _ (List.Mem.tail _ (List.Mem.tail _ (List.Mem.tail _ (List.Mem.head _)))))))) | exact List.Mem.tail _ (List.Mem.tail _ (List.Mem.tail _ (List.Mem.tail _ (List.Mem.tail _ (List.Mem.tail _ (List.Mem.tail _ (List.Mem.tail _ (List.Mem.tail _ (List.Mem.head _))))))))) | exact List.Mem.tail _ (List.Mem.tail _ (List.Mem.tail _ (List.Mem.tail _ (List.Mem.tail _ (List.Mem.tail _ (List.Mem.tail _ (List.Mem.tail _ (List.Mem.tail _ (List.Mem.tail _ (List.Mem.head _)))))))))) | exact List.Mem.tail _ (List.Mem.tail _ (List.Mem.tail _ (List.Mem.tail _ (List.Mem.tail _ (List.Mem.tail _ (List.Mem.tail _ (List.Mem.tail _ (List.Mem.tail _ (List.Mem.tail _ (List.Mem.tail _ (List.Mem.head _))))))))))) | exact List.Mem.tail _ (List.Mem.tail _ (List.Mem.tail _ (List.Mem.tail _ (List.Mem.tail _ (List.Mem.tail _ (List.Mem.tail _ (List.Mem.tail _ (List.Mem.tail _ (List.Mem.tail _ (List.Mem.tail _ (List.Mem.tail _ (List.Mem.head _)))))))))))) | exact List.Mem.tail _ (List.Mem.tail _ (List.Mem.tail _ (List.Mem.tail _ (List.Mem.tail _ (List.Mem.tail _ (List.Mem.tail _ (List.Mem.tail _ (List.Mem.tail _ (List.Mem.tail _ (List.Mem.tail _ (List.Mem.tail _ (List.Mem.tail _ (List.Mem.head _))))))))))))) | exact List.Mem.tail _ (List.Mem.tail _ (List.Mem.tail _ (List.Mem.tail _ (List.Mem.tail _ (List.Mem.tail _ (List.Mem.tail _ (List.Mem.tail _ (List.Mem.tail _ (List.Mem.tail _ (List.Mem.tail _ (List.Mem.tail _ (List.Mem.tail _ (List.Mem.tail _ (List.Mem.head _))))))))))))))), (fun p hp => by first | exact List.Mem.tail _ (List.mem_append.mpr (.inr hp)) | exact List.Mem.tail _ (List.Mem.tail _ (List.mem_append.mpr (.inr hp))) | exact List.Mem.tail _ (List.Mem.tail _ (List.Mem.tail _ (List.mem_append.mpr (.inr hp)))) | exact List.Mem.tail _ (List.Mem.tail _ (List.Mem.tail _ (List.Mem.tail _ (List.mem_append.mpr (.inr hp))))) | exact List.Mem.tail _ (List.Mem.tail _ (List.Mem.tail _ (List.Mem.tail _ (List.Mem.tail _ (List.mem_append.mpr (.inr hp)))))) | exact List.Mem.tail _ (List.Mem.tail _ (List.Mem.tail _ (List.Mem.tail _ (List.Mem.tail _ (List.Mem.tail _ (List.mem_append.mpr (.inr hp))))))) | exact List.Mem.tail _ (List.Mem.tail _ (List.Mem.tail _ (List.Mem.tail _ (List.Mem.tail _ (List.Mem.tail _ (List.Mem.tail _ (List.mem_append.mpr (.inr hp)))))))) | exact List.Mem.tail _ (List.Mem.tail _ (List.Mem.tail _ (List.Mem.tail _ (List.Mem.tail _ (List.Mem.tail _ (List.Mem.tail _ (List.Mem.tail _ (List.mem_append.mpr (.inr hp))))))))) | exact List.Mem.tail _ (List.Mem.tail _ (List.Mem.tail _ (List.Mem.tail _ (List.Mem.tail _ (List.Mem.tail _ (List.Mem.tail _ (List.Mem.tail _ (List.Mem.tail _ (List.mem_append.mpr (.inr hp)))))))))) | exact List.Mem.tail _ (List.Mem.tail _ (List.Mem.tail _ (List.Mem.tail _ (List.Mem.tail _ (List.Mem.tail _ (List.Mem.tail _ (List.Mem.tail _ (List.Mem.tail _ (List.Mem.tail _ (List.mem_append.mpr (.inr hp))))))))))) | exact List.Mem.tail _ (List.Mem.tail _ (List.Mem.tail _ (List.Mem.tail _ (List.Mem.tail _ (List.Mem.tail _ (List.Mem.tail _ (List.Mem.tail _ (List.Mem.tail _ (List.Mem.tail _ (List.Mem.tail _ (List.mem_append.mpr (.inr hp)))))))))))))⟩⟩)) hkb9.1 hkb9.2)
  · (rename News _ _ _ _ => nE9); (rename Fr _ _ _ _ => fE9); exact q_cast (inner_eq2 decide_eq_true_iff) (hq8 _ _ fE9 (cb_drop nE9 (fun p hp => by first | exact hp | exact .tail _ (hp) | exact .tail _ (.tail _ (hp)) | exact .tail _ (.tail _ (.tail _ (hp))) | exact .tail _ (.tail _ (.tail _ (.tail _ (hp)))) | exact .tail _ (.tail _ (.tail _ (.tail _ (.tail _ (hp))))))))
  · exact hz5 _ _
  · (rename News _ _ _ _ => nE9); (rename Fr _ _ _ _ => fE9); exact q_cast (bne_dec _) (hz5 _ _ fE9 nE9)
  · exact hq6
  · exact hq7 _ _ _ _ _ _ (by assumption) (by assumption) (by assumption)
  · (rename News _ _ _ _ => nE'); (rename Fr _ _ _ _ => fE'); exact fp_end fE' nE' (by with_unfolding_all rfl) (by intro z h1 h2 h3; simp [h1, h2, h3])
  · (rename News _ _ _ _ => nE'); (rename Fr _ _ _ _ => fE'); (try simp only [List.push_toArray] at nE')
    refine' ml_end ⟨c9.k + 1 + 1, _, _, c9.qs ++ [⟨_, _, _, _, _⟩], c9.vs ++ [.ref _], _, (_, tup2 _ _ _ _) :: c9.tups⟩ fE' nE' ?xI ?xn ?xo ?xk ?xr ?xp
    case' xp => refine' rep_snoc hP9 ?y1 ?y2 ?y3
    case xI => (first | exact List.Mem.head _ | exact List.Mem.tail _ (List.Mem.head _) | exact List.Mem.tail _ (List.Mem.tail _ (List.Mem.head _)) | exact List.Mem.tail _ (List.Mem.tail _ (List.Mem.tail _ (List.Mem.head _))) | exact List.Mem.tail _ (List.Mem.tail _ (List.Mem.tail _ (List.Mem.tail _ (List.Mem.head _)))) | exact List.Mem.tail _ (List.Mem.tail _ (List.Mem.tail _ (List.Mem.tail _ (List.Mem.tail _ (List.Mem.head _))))) | exact List.Mem.tail _ (List.Mem.tail _ (List.Mem.tail _ (List.Mem.tail _ (List.Mem.tail _ (List.Mem.tail _ (List.Mem.head _)))))) | exact List.Mem.tail _ (List.Mem.tail _ (List.Mem.tail _ (List.Mem.tail _ (List.Mem.tail _ (List.Mem.tail _ (List.Mem.tail _ (List.Mem.head _))))))) | exact List.Mem.tail _ (List.Mem.tail _ (List.Mem.tail _ (List.Mem.tail _ (List.Mem.tail _ (List.Mem.tail _ (List.Mem.tail _ (List.Mem.tail _ (List.Mem.head _)))))))) | exact List.Mem.tail _ (List.Mem.tail _ (List.Mem.tail _ (List.Mem.tail _ (List.Mem.tail _ (List.Mem.tail _ (List.Mem.tail _ (List.Mem.tail _ (List.Mem.tail _ (List.Mem.head _))))))))) | exact List.Mem.tail _ (List.Mem.tail _ (List.Mem.tail _ (List.Mem.tail _ (List.Mem.tail _ (List.Mem.tail _ (List.Mem.tail _ (List.Mem.tail _ (List.Mem.tail _ (List.Mem.tail _ (List.Mem.head _)))))))))) | exact List.Mem.tail _ (List.Mem.tail _ (List.Mem.tail _ (List.Mem.tail _ (List.Mem.tail _ (List.Mem.tail _ (List.Mem.tail _ (List.Mem.tail _ (List.Mem.tail _ (List.Mem.tail _ (List.Mem.tail _ (List.Mem.head _))))))))))) | exact List.Mem.tail _ (List.Mem.tail _ (List.Mem.tail _ (List.Mem.tail _ (List.Mem.tail _ (List.Mem.tail _ (List.Mem.tail _ (List.Mem.tail _ (List.Mem.tail _ (List.Mem.tail _ (List.Mem.tail _ (List.Mem.tail _ (List.Mem.head _)))))))))))) | exact List.Mem.tail _ (List.Mem.tail _ (List.Mem.tail _ (List.Mem.tail _ (List.Mem.tail _ (List.Mem.tail _ (List.Mem.tail _ (List.Mem.tail _ (List.Mem.tail _ (List.Mem.tail _ (List.Mem.tail _ (List.Mem.tail _ (List.Mem.tail _ (List.Mem.head _))))))))))))) | exact List.Mem.tail _ (List.Mem.tail _ (List.Mem.tail _ (List.Mem.tail _ (List.Mem.tail _ (List.Mem.tail _ (List.Mem.tail _ (List.Mem.tail _ (List.Mem.tail _ (List.Mem.tail _ (List.Mem.tail _ (List.Mem.tail _ (List.Mem.tail _ (List.Mem.tail _ (List.Mem.head _)))))))))))))))
    case xn => (dsimp only; exact List.forall_mem_cons.mpr ⟨by (first | exact List.Mem.head _ | exact List.Mem.tail _ (List.Mem.head _) | exact List.Mem.tail _ (List.Mem.tail _ (List.Mem.head _)) | exact List.Mem.tail _ (List.Mem.tail _ (List.Mem.tail _ (List.Mem.head _))) | exact List.Mem.tail _ (List.Mem.tail _ (List.Mem.tail _ (List.Mem.tail _ (List.Mem.head _)))) | exact List.Mem.tail _ (List.Mem.tail _ (List.Mem.tail _ (List.Mem.tail _ (List.Mem.tail _ (List.Mem.head _))))) | exact List.Mem.tail _ (List.Mem.tail _ (List.Mem.tail _ (List.Mem.tail _ (List.Mem.tail _ (List.Mem.tail _ (List.Mem.head _)))))) | exact List.Mem.tail _ (List.Mem.tail _ (List.Mem.tail _ (List.Mem.tail _ (List.Mem.tail _ (List.Mem.tail _ (List.Mem.tail _ (List.Mem.head _))))))) | exact List.Mem.tail _ (List.Mem.tail _ (List.Mem.tail _ (List.Mem.tail _ (List.Mem.tail _ (List.Mem.tail _ (List.Mem.tail _ (List.Mem.tail _ (List.Mem.head _)))))))) | exact List.Mem.tail _ (List.Mem.tail _ (List.Mem.tail _ (List.Mem.tail _ (List.Mem.tail _ (List.Mem.tail _ (List.Mem.tail _ (List.Mem.tail _ (List.Mem.tail _ (List.Mem.head _))))))))) | exact List.Mem.tail _ (List.Mem.tail _ (List.Mem.tail _ (List.Mem.tail _ (List.Mem.tail _ (List.Mem.tail _ (List.Mem.tail _ (List.Mem.tail _ (List.Mem.tail _ (List.Mem.tail _ (List.Mem.head _)))))))))) | exact List.Mem.tail _ (List.Mem.tail _ (List.Mem.tail _ (List.Mem.tail _ (List.Mem.tail _ (List.Mem.tail _ (List.Mem.tail _ (List.Mem.tail _ (List.Mem.tail _ (List.Mem.tail _ (List.Mem.tail _ (List.Mem.head _))))))))))) | exact List.Mem.tail _ (List.Mem.tail _ (List.Mem.tail _ (List.Mem.tail _ (List.Mem.tail _ (List.Mem.tail _ (List.Mem.tail _ (List.Mem.tail _ (List.Mem.tail _ (List.Mem.tail _ (List.Mem.tail _ (List.Mem.tail _ (List.Mem.head _)))))))))))) | exact List.Mem.tail _ (List.Mem.tail _ (List.Mem.tail _ (List.Mem.tail _ (List.Mem.tail _ (List.Mem.tail _ (List.Mem.tail _ (List.Mem.tail _ (List.Mem.tail _ (List.Mem.tail _ (List.Mem.tail _ (List.Mem.tail _ (List.Mem.tail _ (List.Mem.head _))))))))))))) | exact List.Mem.tail _ (List.Mem.tail _ (List.Mem.tail _ (List.Mem.tail _ (List.Mem.tail _ (List.Mem.tail _ (List.Mem.tail _ (List.Mem.tail _ (List.Mem.tail _ (List.Mem.tail _ (List.Mem.tail _ (List.Mem.tail _ (List.Mem.tail _ (List.Mem.tail _ (List.Mem.head _))))))))))))))), List.forall_mem_cons.mpr ⟨by (first | exact List.Mem.head _ | exact List.Mem.tail _ (List.Mem.head _) | exact List.Mem.tail _ (List.Mem.tail _ (List.Mem.head _)) | exact List.Mem.tail _ (List.Mem.tail _ (List.Mem.tail _ (List.Mem.head _))) | exact List.Mem.tail _ (List.Mem.tail _ (List.Mem.tail _ (List.Mem.tail _ (List.Mem.head _)))) | exact List.Mem.tail _ (List.Mem.tail _ (List.Mem.tail _ (List.Mem.tail _ (List.Mem.tail _ (List.Mem.head _))))) | exact List.Mem.tail _ (List.Mem.tail _ (List.Mem.tail _ (List.Mem.tail _ (List.Mem.tail _ (List.Mem.tail _ (List.Mem.head _)))))) | exact List.Mem.tail _ (List.Mem.tail _ (List.Mem.tail _ (List.Mem.tail _ (List.Mem.tail _ (List.Mem.tail _ (List.Mem.tail _ (List.Mem.head _))))))) | exact List.Mem.tail _ (List.Mem.tail _ (List.Mem.tail _ (List.Mem.tail _ (List.Mem.tail _ (List.Mem.tail _ (List.Mem.tail _ (List.Mem.tail _ (List.Mem.head _)))))))) | exact List.Mem.tail _ (List.Mem.tail _ (List.Mem.tail _ (List.Mem.tail _ (List.Mem.tail _ (List.Mem.tail _ (List.Mem.tail _ (List.Mem.tail _ (List.Mem.tail _ (List.Mem.head _))))))))) | exact List.Mem.tail _ (List.Mem.tail _ (List.Mem.tail _ (List.Mem.tail _ (List.Mem.tail _ (List.Mem.tail _ (List.Mem.tail _ (List.Mem.tail _ (List.Mem.tail _ (List.Mem.tail _ (List.Mem.head _)))))))))) | exact List.Mem.tail _ (List.Mem.tail _ (List.Mem.tail _ (List.Mem.tail _ (List.Mem.tail _ (List.Mem.tail _ (List.Mem.tail _ (List.Mem.tail _ (List.Mem.tail _ (List.Mem.tail _ (List.Mem.tail _ (List.Mem.head _))))))))))) | exact List.Mem.tail _ (List.Mem.tail _ (List.Mem.tail _ (List.Mem.tail _ (List.Mem.tail _ (List.Mem.tail _ (List.Mem.tail _ (List.Mem.tail _ (List.Mem.tail _ (List.Mem.tail _ (List.Mem.tail _ (List.Mem.tail _ (List.Mem.head _)))))))))))) | exact List.Mem.tail _ (List.Mem.tail _ (List.Mem.tail _ (List.Mem.tail _ (List.Mem.tail _ (List.Mem.tail _ (List.Mem.tail _ (List.Mem.tail _ (List.Mem.tail _ (List.Mem.tail _ (List.Mem.tail _ (List.Mem.tail _ (List.Mem.tail _ (List.Mem.head _))))))))))))) | exact List.Mem.tail _ (List.Mem.tail _ (List.Mem.tail _ (List.Mem.tail _ (List.Mem.tail _ (List.Mem.tail _ (List.Mem.tail _ (List.Mem.tail _ (List.Mem.tail _ (List.Mem.tail _ (List.Mem.tail _ (List.Mem.tail _ (List.Mem.tail _ (List.Mem.tail _ (List.Mem.head _))))))))))))))), List.forall_mem_cons.mpr ⟨by (first | exact List.Mem.head _ | exact List.Mem.tail _ (List.Mem.head _) | exact List.Mem.tail _ (List.Mem.tail _ (List.Mem.head _)) | exact List.Mem.tail _ (List.Mem.tail _ (List.Mem.tail _ (List.Mem.head _))) | exact List.Mem.tail _ (List.Mem.tail _ (List.Mem.tail _ (List.Mem.tail _ (List.Mem.head _)))) | exact List.Mem.tail _ (List.Mem.tail _ (List.Mem.tail _ (List.Mem.tail _ (List.Mem.tail _ (List.Mem.head _))))) | exact List.Mem.tail _ (List.Mem.tail _ (List.Mem.tail _ (List.Mem.tail _ (List.Mem.tail _ (List.Mem.tail _ (List.Mem.head _)))))) | exact List.Mem.tail _ (List.Mem.tail _ (List.Mem.tail _ (List.Mem.tail _ (List.Mem.tail _ (List.Mem.tail _ (List.Mem.tail _ (List.Mem.head _))))))) | exact List.Mem.tail _ (List.Mem.tail _ (List.Mem.tail _ (List.Mem.tail _ (List.Mem.tail _ (List.Mem.tail _ (List.Mem.tail _ (List.Mem.tail _ (List.Mem.head _)))))))) | exact List.Mem.tail _ (List.Mem.tail _ (List.Mem.tail _ (List.Mem.tail _ (List.Mem.tail _ (List.Mem.tail _ (List.Mem.tail _ (List.Mem.tail _ (List.Mem.tail _ (List.Mem.head _))))))))) | exact List.Mem.tail _ (List.Mem.tail _ (List.Mem.tail _ (List.Mem.tail _ (List.Mem.tail _ (List.Mem.tail _ (List.Mem.tail _ (List.Mem.tail _ (List.Mem.tail _ (List.Mem.tail _ (List.Mem.head _)))))))))) | exact List.Mem.tail _ (List.Mem.tail _ (List.Mem.tail _ (List.Mem.tail _ (List.Mem.tail _ (List.Mem.tail _ (List.Mem.tail _ (List.Mem.tail _ (List.Mem.tail _ (List.Mem.tail _ (List.Mem.tail _ (List.Mem.head _))))))))))) | exact List.Mem.tail _ (List.Mem.tail _ (List.Mem.tail _ (List.Mem.tail _ (List.Mem.tail _ (List.Mem.tail _ (List.Mem.tail _ (List.Mem.tail _ (List.Mem.tail _ (List.Mem.tail _ (List.Mem.tail _ (List.Mem.tail _ (List.Mem.head _)))))))))))) | exact List.Mem.tail _ (List.Mem.tail _ (List.Mem.tail _ (List.Mem.tail _ (List.Mem.tail _ (List.Mem.tail _ (List.Mem.tail _ (List.Mem.tail _ (List.Mem.tail _ (List.Mem.tail _ (List.Mem.tail _ (List.Mem.tail _ (List.Mem.tail _ (List.Mem.head _))))))))))))) | exact List.Mem.tail _ (List.Mem.tail _ (List.Mem.tail _ (List.Mem.tail _ (List.Mem.tail _ (List.Mem.tail _ (List.Mem.tail _ (List.Mem.tail _ (List.Mem.tail _ (List.Mem.tail _ (List.Mem.tail _ (List.Mem.tail _ (List.Mem.tail _ (List.Mem.tail _ (List.Mem.head _))))))))))))))), List.forall_mem_cons.mpr ⟨by (first | exact List.Mem.head _ | exact List.Mem.tail _ (List.Mem.head _) | exact List.Mem.tail _ (List.Mem.tail _ (List.Mem.head _)) | exact List.Mem.tail _ (List.Mem.tail _ (List.Mem.tail _ (List.Mem.head _))) | exact List.Mem.tail _ (List.Mem.tail _ (List.Mem.tail _ (List.Mem.tail _ (List.Mem.head _)))) | exact List.Mem.tail _ (List.Mem.tail _ (List.Mem.tail _ (List.Mem.tail _ (List.Mem.tail _ (List.Mem.head _))))) | exact List.Mem.tail _ (List.Mem.tail _ (List.Mem.tail _ (List.Mem.tail _ (List.Mem.tail _ (List.Mem.tail _ (List.Mem.head _)))))) | exact List.Mem.tail _ (List.Mem.tail _ (List.Mem.tail _ (List.Mem.tail _ (List.Mem.tail _ (List.Mem.tail _ (List.Mem.tail _ (List.Mem.head _))))))) | exact List.Mem.tail _ (List.Mem.tail _ (List.Mem.tail _ (List.Mem.tail _ (List.Mem.tail _ (List.Mem.tail _ (List.Mem.tail _ (List.Mem.tail _ (List.Mem.head _)))))))) | exact List.Mem.tail _ (List.Mem.tail _ (List.Mem.tail _ (List.Mem.tail _ (List.Mem.tail _ (List.Mem.tail _ (List.Mem.tail _ (List.Mem.tail _ (List.Mem.tail _ (List.Mem.head _))))))))) | exact List.Mem.tail _ (List.Mem.tail _ (List.Mem.tail _ (List.Mem.tail _ (List.Mem.tail _ (List.Mem.tail _ (List.Mem.tail _ (List.Mem.tail _ (List.Mem.tail _ (List.Mem.tail _ (List.Mem.head _)))))))))) | exact List.Mem.tail _ (List.Mem.tail _ (List.Mem.tail _ (List.Mem.tail _ (List.Mem.tail _ (List.Mem.tail _ (List.Mem.tail _ (List.Mem.tail _ (List.Mem.tail _ (List.Mem.tail _ (List.Mem.tail _ (List.Mem.head _))))))))))) | exact List.Mem.tail _ (List.Mem.tail _ (List.Mem.tail _ (List.Mem.tail _ (List.Mem.tail _ (List.Mem.tail _ (List.Mem.tail _ (List.Mem.tail _ (List.Mem.tail _ (List.Mem.tail _ (List.Mem.tail _ (List.Mem.tail _ (List.Mem.head _)))))))))))) | exact List.Mem.tail _ (List.Mem.tail _ (List.Mem.tail _ (List.Mem.tail _ (List.Mem.tail _ (List.Mem.tail _ (List.Mem.tail _ (List.Mem.tail _ (List.Mem.tail _ (List.Mem.tail _ (List.Mem.tail _ (List.Mem.tail _ (List.Mem.tail _ (List.Mem.head _))))))))))))) | exact List.Mem.tail _ (List.Mem.tail _ (List.Mem.tail _ (List.Mem.tail _ (List.Mem.tail _ (List.Mem.tail _ (List.Mem.tail _ (List.Mem.tail _ (List.Mem.tail _ (List.Mem.tail _ (List.Mem.tail _ (List.Mem.tail _ (List.Mem.tail _ (List.Mem.tail _ (List.Mem.head _))))))))))))))), List.forall_mem_cons.mpr ⟨by (first | exact List.Mem.head _ | exact List.Mem.tail _ (List.Mem.head _) | exact List.Mem.tail _ (List.Mem.tail _ (List.Mem.head _)) | exact List.Mem.tail _ (List.Mem.tail _ (List.Mem.tail _ (List.Mem.head _))) | exact List.Mem.tail _ (List.Mem.tail _ (List.Mem.tail _ (List.Mem.tail _ (List.Mem.head _)))) | exact List.Mem.tail _ (List.Mem.tail _ (List.Mem.tail _ (List.Mem.tail _ (List.Mem.tail _ (List.Mem.head _))))) | exact List.Mem.tail _ (List.Mem.tail _ (List.Mem.tail _ (List.Mem.tail _ (List.Mem.tail _ (List.Mem.tail _ (List.Mem.head _)))))) | exact List.Mem.tail _ (List.Mem.tail _ (List.Mem.tail _ (List.Mem.tail _ (List.Mem.tail _ (List.Mem.tail _ (List.Mem.tail _ (List.Mem.head _))))))) | exact List.Mem.tail _ (List.Mem.tail _ (List.Mem.tail _ (List.Mem.tail _ (List.Mem.tail _ (List.Mem.tail _ (List.Mem.tail _ (List.Mem.tail _ (List.Mem.head _)))))))) | exact List.Mem.tail _ (List.Mem.tail _ (List.Mem.tail _ (List.Mem.tail _ (List.Mem.tail _ (List.Mem.tail _ (List.Mem.tail _ (List.Mem.tail _ (List.Mem.tail _ (List.Mem.head _))))))))) | exact List.Mem.tail _ (List.Mem.tail _ (List.Mem.tail _ (List.Mem.tail _ (List.Mem.tail _ (List.Mem.tail _ (List.Mem.tail _ (List.Mem.tail _ (List.Mem.tail _ (List.Mem.tail _ (List.Mem.head _)))))))))) | exact List.Mem.tail _ (List.Mem.tail _ (List.Mem.tail _ (List.Mem.tail _ (List.Mem.tail _ (List.Mem.tail _ (List.Mem.tail _ (List.Mem.tail _ (List.Mem.tail _ (List.Mem.tail _ (List.Mem.tail _ (List.Mem.head _))))))))))) | exact List.Mem.tail _ (List.Mem.tail _ (List.Mem.tail _ (List.Mem.tail _ (List.Mem.tail _ (List.Mem.tail _ (List.Mem.tail _ (List.Mem.tail _ (List.Mem.tail _ (List.Mem.tail _ (List.Mem.tail _ (List.Mem.tail _ (List.Mem.head _)))))))))))) | exact List.Mem.tail _ (List.Mem.tail _ (List.Mem.tail _ (List.Mem.tail _ (List.Mem.tail _ (List.Mem.tail _ (List.Mem.tail _ (List.Mem.tail _ (List.Mem.tail _ (List.Mem.tail _ (List.Mem.tail _ (List.Mem.tail _ (List.Mem.tail _ (List.Mem.head _))))))))))))) | exact List.Mem.tail _ (List.Mem.tail _ (List.Mem.tail _ (List.Mem.tail _ (List.Mem.tail _ (List.Mem.tail _ (List.Mem.tail _ (List.Mem.tail _ (List.Mem.tail _ (List.Mem.tail _ (List.Mem.tail _ (List.Mem.tail _ (List.Mem.tail _ (List.Mem.tail _ (List.Mem.head _))))))))))))))), (fun p hp => by first | exact List.Mem.tail _ (List.Mem.tail _ (List.Mem.tail _ (hp))) | exact List.Mem.tail _ (List.Mem.tail _ (List.Mem.tail _ (List.Mem.tail _ (hp)))) | exact List.Mem.tail _ (List.Mem.tail _ (List.Mem.tail _ (List.Mem.tail _ (List.Mem.tail _ (hp))))) | exact List.Mem.tail _ (List.Mem.tail _ (List.Mem.tail _ (List.Mem.tail _ (List.Mem.tail _ (List.Mem.tail _ (hp)))))) | exact List.Mem.tail _ (List.Mem.tail _ (List.Mem.tail _ (List.Mem.tail _ (List.Mem.tail _ (List.Mem.tail _ (List.Mem.tail _ (hp))))))) | exact List.Mem.tail _ (List.Mem.tail _ (List.Mem.tail _ (List.Mem.tail _ (List.Mem.tail _ (List.Mem.tail _ (List.Mem.tail _ (List.Mem.tail _ (hp)))))))) | exact List.Mem.tail _ (List.Mem.tail _ (List.Mem.tail _ (List.Mem.tail _ (List.Mem.tail _ (List.Mem.tail _ (List.Mem.tail _ (List.Mem.tail _ (List.Mem.tail _ (hp))))))))) | exact List.Mem.tail _ (List.Mem.tail _ (List.Mem.tail _ (List.Mem.tail _ (List.Mem.tail _ (List.Mem.tail _ (List.Mem.tail _ (List.Mem.tail _ (List.Mem.tail _ (List.Mem.tail _ (hp)))))))))) | exact List.Mem.tail _ (List.Mem.tail _ (List.Mem.tail _ (List.Mem.tail _ (List.Mem.tail _ (List.Mem.tail _ (List.Mem.tail _ (List.Mem.tail _ (List.Mem.tail _ (List.Mem.tail _ (List.Mem.tail _ (hp))))))))))))⟩⟩⟩⟩⟩)
    case xo => (dsimp only; exact List.forall_mem_cons.mpr ⟨Ne.symm hI9b, List.forall_mem_cons.mpr ⟨Ne.symm hI9n, List.forall_mem_cons.mpr ⟨Ne.symm hI9l, List.forall_mem_cons.mpr ⟨Ne.symm hI9c, List.forall_mem_cons.mpr ⟨Nat.ne_of_gt (by dsimp only; omega), (fun p hp => hoff9 p (List.mem_cons_of_mem _ (List.mem_cons_of_mem _ (List.mem_cons_of_mem _ (List.mem_cons_of_mem _ hp)))))⟩⟩⟩⟩⟩)
    case xk => kst_all
    case xr => ksw_same
    case y1 => omega
    case y2 => exact mlt8 (by assumption)
    case y3 => omega

end Mine
end
section
open PySem PySem.W PyProof.Rows
namespace Mine
def CutEnd (h₀ : Heap) (L : Addr) (m : Str → Option Value) (s : Shared) (news : List (Addr × Obj)) (b : Bool) (s' : Shared) : Prop := b = false ∧ ∃ h' tk, s' = { s with heap := h', toks := tk } ∧ Fr h₀ L h' m ∧ News h₀ L h' news
section
variable {prog : Program} {w : World} {A : Around} {E : Value → Shared → Prop} {s : Shared} {h₀ : Heap} {env : Env} {L : Addr} {m : Str → Option Value} {news : List (Addr × Obj)}
theorem cut_end {b : Bool} {news' : List (Addr × Obj)} {h' : Heap} {tk : Nat} (hb : b = false) (F : Fr h₀ L h' m) (N : News h₀ L h' news') (hs : ∀ p ∈ news, p ∈ news') : CutEnd h₀ L m s news b { s with heap := h', toks := tk } :=
  ⟨hb, h', tk, rfl, F, fun p hp => N p (hs p hp)⟩
theorem news_tail {p : Addr × Obj} {h : Heap} (N : News h₀ L h (p :: news)) : News h₀ L h news := fun q hq => N q (List.mem_cons_of_mem _ hq)
theorem cut_if {c : PySem.Expr} {body : List Stmt} {pos : Pos} {Q : Flow → Shared → Prop} (_F : Fr h₀ L s.heap m) (_N : News h₀ L s.heap news)
    (hc : wpAny (model prog w) A (isTrue c env (eval c env)) (CutEnd h₀ L m s news) E s) (hn : ∀ h' tk, Fr h₀ L h' m → News h₀ L h' news → Q .next { s with heap := h', toks := tk }) :
    wpAny (model prog w) A (exec (.If c body [] pos) env) Q E s := by
  refine wpAny_If (wpAny_mono hc (fun b s₂ h => ?_) fun _ _ e => e)
  obtain ⟨rfl, h', tk, rfl, F, N⟩ := h
  simp only [Bool.false_eq_true, if_false]
  exact wpAny_execs_nil (hn h' tk F N)
end
/-- what _law_ratio gives: nothing, or the one ratio -/
def Due (x y : Int) (dv : Value) (r : Addr) (o : Obj) : Prop := ∃ N, NOf y N ∧ 3 ≤ y ∧ ((dv = .none ∧ NoRat x y N) ∨ ∃ t b k l, dv = .ref r ∧ o = tup2 t b k l ∧ RatOk x y N t b ∧ -1000 ≤ t ∧ t ≤ 1000 ∧ -1000 ≤ b ∧ b ≤ 1000)
theorem due_out {x y : Int} {dv : Value} {r : Addr} {o : Obj} (h : Due x y dv r o) : ∃ N, NOf y N ∧ 3 ≤ y ∧ ((dv = .none ∧ NoRat x y N) ∨ ∃ t b k l, dv = .ref r ∧ o = tup2 t b k l ∧ RatOk x y N t b ∧ -1000 ≤ t ∧ t ≤ 1000 ∧ -1000 ≤ b ∧ b ≤ 1000) := h
theorem ratio_due {w : World} {loose : List Str} {mean : ExcName → Option Value} {mg mb : Str → Option Value}
    {dp un : Nat} {gd : Option (List Code)} {cn : Str} {cs : Scope} {a : Addr} {ccd : Value} {cl : List (Str × Addr)} {outer : List Env} {A₀ : Around} {base h₀ : Heap} {L : Addr} {m : Str → Option Value} {p₀ : Addr × Obj} {news : List (Addr × Obj)} {s : Shared}
    {Q E : Value → Shared → Prop}
    {x y : Int} {tx ty : Tok}
    (B : Below A₀ base outer h₀) (F : Fr h₀ L s.heap m) (X : (Mine.hd.heap_39 w.params).In h₀) (N : News h₀ L s.heap (p₀ :: news)) (T : Top Mine.hd.view_39 loose mean mg mb h₀) (hk : cs.kind = .function)
    (hd : dp + 3 < recursionLimit) (hu : un + 300 < cLine) (hx : -1000 ≤ x) (hx1 : x ≤ 1000) (hy : 3 ≤ y) (hy1 : y ≤ 300)
    (hret : ∀ dv r o h' tk', Fr h₀ L h' m → News h₀ L h' ((r, o) :: p₀ :: news) → Due x y dv r o → Q dv { s with heap := h', toks := tk' }) :
    wpAny (model PySem.Challenge.rw_nn0247_01.row.prog w) (ktrTop dp un gd cn cs L a ccd cl outer) (call (.ref 104) [.int x tx, .int y ty]) Q E s :=
  ratio_call B F X N T hk hd hu hx hx1 hy hy1
    (fun h' tk' F' N' M hM hno => hret .none p₀.1 p₀.2 h' tk' F' (news_cons N' (List.mem_cons_self ..)) ⟨M, hM, hy, .inl ⟨rfl, hno⟩⟩)
    (fun r t b k l h' tk' F' N' _ M hM hr => hret (.ref r) r _ h' tk' F' N' ⟨M, hM, hy, .inr ⟨t, b, k, l, rfl, rfl, hr, rat_bnd hM hy1 hr⟩⟩)
end Mine
end
section
open PySem PySem.W PyProof.Rows
namespace Mine
local macro_rules | `(tactic| walk_at "pad") => `(tactic| fail "pad")
local macro_rules | `(tactic| walk_at "pad") => `(tactic| fail "pad")
local macro_rules | `(tactic| walk_at "pad") => `(tactic| fail "pad")
local macro_rules | `(tactic| walk_at "pad") => `(tactic| fail "pad")
local macro_rules | `(tactic| walk_at "pad") => `(tactic| fail "pad")
local macro_rules | `(tactic| walk_at "pad") => `(tactic| fail "pad")
local macro_rules | `(tactic| walk_at "pad") => `(tactic| fail "pad")
local macro_rules | `(tactic| walk_at "pad") => `(tactic| fail "pad")
local macro_rules | `(tactic| walk_at "pad") => `(tactic| fail "pad")
local macro_rules | `(tactic| walk_at "pad") => `(tactic| fail "pad")
local macro_rules | `(tactic| walk_at "pad") => `(tactic| fail "pad")
local macro_rules | `(tactic| walk_at "pad") => `(tactic| fail "pad")
local macro_rules | `(tactic| walk_at "pad") => `(tactic| fail "pad")
local macro_rules | `(tactic| walk_at "pad") => `(tactic| fail "pad")
local macro_rules | `(tactic| walk_at "pad") => `(tactic| fail "pad")
local macro_rules | `(tactic| walk_at "pad") => `(tactic| fail "pad")
local macro_rules | `(tactic| walk_at "pad") => `(tactic| fail "pad")
local macro_rules | `(tactic| walk_at "pad") => `(tactic| fail "pad")
local macro_rules | `(tactic| walk_at "pad") => `(tactic| fail "pad")
local macro_rules | `(tactic| walk_at "pad") => `(tactic| fail "pad")
local macro_rules | `(tactic| walk_at "pad") => `(tactic| fail "pad")
local macro_rules | `(tactic| walk_at "pad") => `(tactic| fail "pad")
local macro_rules | `(tactic| walk_at "pad") => `(tactic| fail "pad")
local macro_rules | `(tactic| walk_at "pad") => `(tactic| fail "pad")
local macro_rules | `(tactic| walk_at "pad") => `(tactic| fail "pad")
local macro_rules | `(tactic| walk_at "pad") => `(tactic| fail "pad")
local macro_rules | `(tactic| walk_at "pad") => `(tactic| fail "pad")
local macro_rules | `(tactic| walk_at "pad") => `(tactic| fail "pad")
local macro_rules | `(tactic| walk_at "pad") => `(tactic| fail "pad")
local macro_rules | `(tactic| walk_at "pad") => `(tactic| fail "pad")
local macro_rules | `(tactic| walk_at "pad") => `(tactic| fail "pad")
local macro_rules | `(tactic| walk_at "pad") => `(tactic| fail "pad")
local macro_rules | `(tactic| walk_at "pad") => `(tactic| fail "pad")
local macro_rules | `(tactic| walk_at "pad") => `(tactic| fail "pad")
local macro_rules | `(tactic| walk_at "pad") => `(tactic| fail "pad")
local macro_rules | `(tactic| walk_at "pad") => `(tactic| fail "pad")
local macro_rules | `(tactic| walk_at "pad") => `(tactic| fail "pad")
local macro_rules | `(tactic| walk_at "pad") => `(tactic| fail "pad")
local macro_rules | `(tactic| walk_at "pad") => `(tactic| fail "pad")
local macro_rules | `(tactic| walk_at "pad") => `(tactic| fail "pad")
local macro_rules | `(tactic| walk_at "MPost") => `(tactic| (dsimp only [Mine.MPost]))
local macro_rules | `(tactic| walk_at "MLPost") => `(tactic| (dsimp only [Mine.MLPost]; (try with_reducible refine Mine.ml_ret ?_)))
local macro_rules | `(tactic| k_mem) => `(tactic| assumption)
local macro_rules | `(tactic| walk_at "call ref") => `(tactic| k_extra "call ref")
local macro_rules | `(tactic| walk_at "pyIter ref") => `(tactic| k_extra "pyIter ref")
local macro_rules | `(tactic| walk_at "CompSrcT") => `(tactic| k_extra "CompSrcT")
local macro_rules | `(tactic| walk_at "KCiEl") => `(tactic| k_extra "KCiEl")
local macro_rules | `(tactic| walk_at "KCiNo") => `(tactic| k_extra "KCiNo")
local macro_rules | `(tactic| walk_at "KPfGrows") => `(tactic| k_extra "KPfGrows")
local macro_rules | `(tactic| walk_at "CompEnd") => `(tactic| k_extra "CompEnd")
local macro_rules | `(tactic| walk_at "compareOp NotEq ref ref") => `(tactic| k_extra "compareOp NotEq ref ref")
local macro_rules | `(tactic| walk_at "compareOp Eq ref ref") => `(tactic| k_extra "compareOp Eq ref ref")
local macro_rules | `(tactic| k_all) => `(tactic| assumption)
local macro_rules | `(tactic| walk_at "call builtin:repr") => `(tactic| k_extra "call builtin:repr")
local macro_rules | `(tactic| walk_at "subscriptTail") => `(tactic| k_extra "subscriptTail")
local macro_rules | `(tactic| walk_at "exec If") => `(tactic| k_extra "exec If")
local macro_rules | `(tactic| walk_at "call ref") => `(tactic| (k_here; k_dflt (refine' rests_call ?k1 ?k2 ?k3 ?k4 ?hob ?hon ?k5 ?kK ?kd ?ku ?h0 ?h1 ?h2 ?h3 ?h4 ?h5 ?_; (case k1 => k_asm); (case k2 => k_asm); (case k3 => k_asm); (case k4 => k_asm); (case hob => k_all); (case hon => first | k_ne | omega); (case k5 => k_asm); (case kK => first | exact rfl | assumption); (case kd => ktr_room); (case ku => ktr_units); (case h0 => assumption); (case h1 => (first | assumption | omega)); (case h2 => (first | assumption | omega)); (case h3 => (first | assumption | omega | exact Int.fmod_nonneg_of_pos _ (by decide))); (case h4 => (first | assumption | omega | exact Int.fmod_lt_of_pos _ (by decide))); (case h5 => (first | assumption | (simp only [List.length_map, List.length_take]; omega))); k_extra "rests_call 0")))
local macro_rules | `(tactic| walk_at "call ref") => `(tactic| (k_here; k_dflt (refine' take_call ?k1 ?k2 ?k3 ?k4 ?hob ?hon ?k5 ?kK ?kd ?ku ?h0 ?h1 ?h2 ?h3 ?h4 ?h5 ?h6 ?h7 ?_; (case k1 => k_asm); (case k2 => k_asm); (case k3 => k_asm); (case k4 => k_asm); (case hob => k_all); (case hon => first | k_ne | omega); (case k5 => k_asm); (case kK => first | exact rfl | assumption); (case kd => ktr_room); (case ku => ktr_units); (case h0 => assumption); (case h1 => (first | assumption | omega)); (case h2 => (first | assumption | omega)); (case h3 => (first | assumption | omega | exact Int.fmod_nonneg_of_pos _ (by decide))); (case h4 => (first | assumption | omega | exact Int.fmod_lt_of_pos _ (by decide))); (case h5 => (first | assumption | omega)); (case h6 => (first | assumption | omega)); (case h7 => (first | assumption | (simp only [List.length_map, List.length_take]; omega))); k_extra "take_call 0")))
local macro_rules | `(tactic| walk_at "call ref") => `(tactic| (k_here; k_dflt (refine' ratio_due ?k1 ?k2 ?k3 ?k4 ?k5 ?kK ?kd ?ku ?h0 ?h1 ?h2 ?h3 ?_; (case k1 => k_asm); (case k2 => k_asm); (case k3 => k_asm); (case k4 => k_asm); (case k5 => k_asm); (case kK => first | exact rfl | assumption); (case kd => ktr_room); (case ku => ktr_units); (case h0 => (first | assumption | omega)); (case h1 => (first | assumption | omega)); (case h2 => (first | assumption | omega)); (case h3 => (first | assumption | omega)); k_extra "ratio_due 0")))
local macro_rules | `(tactic| walk_at "call ref") => `(tactic| (k_here; k_dflt (refine' rat_call ?k1 ?k2 ?k3 ?k4 ?k5 ?kK ?kd ?ku ?h0 ?h1 ?_ ?_; (case k1 => k_asm); (case k2 => k_asm); (case k3 => k_asm); (case k4 => k_asm); (case k5 => k_asm); (case kK => first | exact rfl | assumption); (case kd => ktr_room); (case ku => ktr_units); (case h0 => (first | assumption | omega)); (case h1 => (first | assumption | omega)); (all_goals first | k_extra "rat_call 1" | k_extra "rat_call 0"))))
local macro_rules | `(tactic| walk_at "call ref") => `(tactic| (k_here; k_dflt (refine' rats_call ?k1 ?k2 ?k3 ?k4 ?k5 ?kK ?kd ?ku ?h0 ?h1 ?h2 ?h3 ?h4 ?_ ?_; (case k1 => k_asm); (case k2 => k_asm); (case k3 => k_asm); (case k4 => k_asm); (case k5 => k_asm); (case kK => first | exact rfl | assumption); (case kd => ktr_room); (case ku => ktr_units); (case h0 => (with_unfolding_all (first | exact List.Mem.head _ | exact List.Mem.tail _ (List.Mem.head _) | exact List.Mem.tail _ (List.Mem.tail _ (List.Mem.head _)) | exact List.Mem.tail _ (List.Mem.tail _ (List.Mem.tail _ (List.Mem.head _))) | exact List.Mem.tail _ (List.Mem.tail _ (List.Mem.tail _ (List.Mem.tail _ (List.Mem.head _)))) | exact List.Mem.tail _ (List.Mem.tail _ (List.Mem.tail _ (List.Mem.tail _ (List.Mem.tail _ (List.Mem.head _))))) | exact List.Mem.tail _ (List.Mem.tail _ (List.Mem.tail _ (List.Mem.tail _ (List.Mem.tail _ (List.Mem.tail _ (List.Mem.head _)))))) | exact List.Mem.tail _ (List.Mem.tail _ (List.Mem.tail _ (List.Mem.tail _ (List.Mem.tail _ (List.Mem.tail _ (List.Mem.tail _ (List.Mem.head _))))))) | exact List.Mem.tail _ (List.Mem.tail _ (List.Mem.tail _ (List.Mem.tail _ (List.Mem.tail _ (List.Mem.tail _ (List.Mem.tail _ (List.Mem.tail _ (List.Mem.head _)))))))) | exact List.Mem.tail _ (List.Mem.tail _ (List.Mem.tail _ (List.Mem.tail _ (List.Mem.tail _ (List.Mem.tail _ (List.Mem.tail _ (List.Mem.tail _ (List.Mem.tail _ (List.Mem.head _))))))))) | exact List.Mem.tail _ (List.Mem.tail _ (List.Mem.tail _ (List.Mem.tail _ (List.Mem.tail _ (List.Mem.tail _ (List.Mem.tail _ (List.Mem.tail _ (List.Mem.tail _ (List.Mem.tail _ (List.Mem.head _)))))))))) | exact List.Mem.tail _ (List.Mem.tail _ (List.Mem.tail _ (List.Mem.tail _ (List.Mem.tail _ (List.Mem.tail _ (List.Mem.tail _ (List.Mem.tail _ (List.Mem.tail _ (List.Mem.tail _ (List.Mem.tail _ (List.Mem.head _))))))))))) | exact List.Mem.tail _ (List.Mem.tail _ (List.Mem.tail _ (List.Mem.tail _ (List.Mem.tail _ (List.Mem.tail _ (List.Mem.tail _ (List.Mem.tail _ (List.Mem.tail _ (List.Mem.tail _ (List.Mem.tail _ (List.Mem.tail _ (List.Mem.head _)))))))))))) | exact List.Mem.tail _ (List.Mem.tail _ (List.Mem.tail _ (List.Mem.tail _ (List.Mem.tail _ (List.Mem.tail _ (List.Mem.tail _ (List.Mem.tail _ (List.Mem.tail _ (List.Mem.tail _ (List.Mem.tail _ (List.Mem.tail _ (List.Mem.tail _ (List.Mem.head _))))))))))))) | exact List.Mem.tail _ (List.Mem.tail _ (List.Mem.tail _ (List.Mem.tail _ (List.Mem.tail _ (List.Mem.tail _ (List.Mem.tail _ (List.Mem.tail _ (List.Mem.tail _ (List.Mem.tail _ (List.Mem.tail _ (List.Mem.tail _ (List.Mem.tail _ (List.Mem.tail _ (List.Mem.head _))))))))))))))))); (case h1 => (first | assumption | omega)); (case h2 => (first | assumption | omega)); (case h3 => (first | assumption | omega)); (case h4 => (first | assumption | omega)); (all_goals first | k_extra "rats_call 1" | k_extra "rats_call 0"))))
local macro_rules | `(tactic| walk_at "call ref") => `(tactic| (k_here; k_dflt (refine' inv_call ?k1 ?k2 ?k3 ?k4 ?k5 ?kK ?kd ?ku ?h0 ?h1 ?_ ?_; (case k1 => k_asm); (case k2 => k_asm); (case k3 => k_asm); (case k4 => k_asm); (case k5 => k_asm); (case kK => first | exact rfl | assumption); (case kd => ktr_room); (case ku => ktr_units); (case h0 => (first | assumption | omega)); (case h1 => (first | assumption | omega)); (all_goals first | k_extra "inv_call 1" | k_extra "inv_call 0"))))
local macro_rules | `(tactic| walk_at "call ref") => `(tactic| (k_here; k_dflt (refine' symm_call ?k1 ?k2 ?k3 ?k4 ?k5 ?kK ?kd ?ku ?h0 ?_; (case k1 => k_asm); (case k2 => k_asm); (case k3 => k_asm); (case k4 => k_asm); (case k5 => k_asm); (case kK => first | exact rfl | assumption); (case kd => ktr_room); (case ku => ktr_units); (case h0 => (first | assumption | omega)); k_extra "symm_call 0")))

set_option maxRecDepth 100000 in
set_option maxHeartbeats 8000000 in
theorem lawt : PySem.Challenge.rw_nn0247_01.Holds := by
  refine Mine.hd ?_
  k_with_none
  k_with "rests_call 0" => (intro kk9 tkk9 tkc9 h9 tk9 F9 N9 hk90 hk91; (try dsimp only); (try with_reducible refine Mine.ml_strip ?_); (try k_fold))
  k_with "take_call 0" => (intro v9 tv9 tkk9 tkc9 h9 tk9 F9 N9 hv90 hv91; (try dsimp only); (try with_reducible refine Mine.ml_strip ?_); (try k_fold))
  k_with "rat_call 0" => (intro h9 tk9 F9 N9 NN9 hNN9 hno9; (try (have eN8 := nof_uniq hNN9 hNN8; subst eN8)); (try exact absurd hr9 (hno8 _ _)); (try exact absurd hr8 (hno9 _ _)); (try (obtain ⟨e19, e29⟩ := rat_uniq hy38 hNN9 hr9 hr8; subst e19; subst e29)); (try dsimp only); (try with_reducible refine Mine.ml_strip ?_); (try k_fold))
  k_with "rat_call 1" => (intro r9 t9 b9 k19 k29 h9 tk9 F9 N9 l19 NN9 hNN9 hr9; (have hrp9 := RatOk.p hr9); (try k_lt l19); (try (have eN8 := nof_uniq hNN9 hNN8; subst eN8)); (try exact absurd hr9 (hno8 _ _)); (try exact absurd hr8 (hno9 _ _)); (try (obtain ⟨e19, e29⟩ := rat_uniq hy38 hNN9 hr9 hr8; subst e19; subst e29)); (try dsimp only); (try with_reducible refine Mine.ml_strip ?_); (try k_fold))
  k_with "rats_call 0" => (intro h7 tk7 F7 N7 NN7 hNN7 hno7; (try (have eN8 := nof_uniq hNN7 hNN8; subst eN8)); (try exact absurd hr7 (hno8 _ _)); (try exact absurd hr8 (hno7 _ _)); (try (obtain ⟨e19, e29⟩ := rat_uniq hy38 hNN7 hr7 hr8; subst e19; subst e29)); (try dsimp only); (try with_reducible refine Mine.ml_strip ?_); (try k_fold))
  k_with "rats_call 1" => (intro r7 ra7 rb7 t7 b7 k17 k27 k37 k47 e7 h7 tk7 F7 N7 o7 l17 l27 NN7 hNN7 hr7; (have hrp7 := RatOk.p hr7); (try simp only [LCg.Off1, and_true] at o7); (try k_lt l17); (try k_lt l27); (try (have eN8 := nof_uniq hNN7 hNN8; subst eN8)); (try exact absurd hr7 (hno8 _ _)); (try exact absurd hr8 (hno7 _ _)); (try (obtain ⟨e19, e29⟩ := rat_uniq hy38 hNN7 hr7 hr8; subst e19; subst e29)); (try dsimp only); (try with_reducible refine Mine.ml_strip ?_); (try k_fold))
  k_with "inv_call 0" => (intro h9 tk9 F9 N9 hiv9; (try dsimp only); (try with_reducible refine Mine.ml_strip ?_); (try k_fold))
  k_with "inv_call 1" => (intro g9 p9 q9 t9 h9 tk9 F9 N9 hiv9 hg9; (have hvb9 := ExtR.b hiv9); (obtain ⟨hpb91, hpb92⟩ := inv_bnd hiv9); (try dsimp only); (try with_reducible refine Mine.ml_strip ?_); (try k_fold))
  k_with "symm_call 0" => (intro v9 t9 h9 tk9 F9 N9 hv9; (try dsimp only); (try with_reducible refine Mine.ml_strip ?_); (try k_fold))
  k_with "ratio_due 0" => (intro dv8 r8 o8 h8 tk8 F8 N8 hD8; (try dsimp only); (try with_reducible refine Mine.ml_strip ?_); (try k_fold))
  k_with "call builtin:repr" => (k_here; first | (exfalso; exact inv_some (small_ok _) hiv9 hg9 (by with_reducible assumption)) | (k_dflt (refine' repr_int1 ?zi1 ?zi2 ?_; (case zi1 => omega); (case zi2 => omega); intro z7 u7 tk7 ez7; (first | (have e8 := ez7.trans ez6.symm; subst e8; clear ez7 ez6) | (have ez6 := ez7; clear ez7)); (try dsimp only); (try k_fold))) | (k_dflt (refine' repr_tup ?zF ?zN ?zm ?zb1 ?zb2 ?zb3 ?zb4 ?zg ?zu ?_; (case zF => k_asm); (case zN => k_asm); (case zg => first | exact rfl | with_unfolding_all rfl); (case zu => ke_room); (case zm => with_unfolding_all (first | exact List.Mem.head _ | exact List.Mem.tail _ (List.Mem.head _) | exact List.Mem.tail _ (List.Mem.tail _ (List.Mem.head _)) | exact List.Mem.tail _ (List.Mem.tail _ (List.Mem.tail _ (List.Mem.head _))) | exact List.Mem.tail _ (List.Mem.tail _ (List.Mem.tail _ (List.Mem.tail _ (List.Mem.head _)))) | exact List.Mem.tail _ (List.Mem.tail _ (List.Mem.tail _ (List.Mem.tail _ (List.Mem.tail _ (List.Mem.head _))))) | exact List.Mem.tail _ (List.Mem.tail _ (List.Mem.tail _ (List.Mem.tail _ (List.Mem.tail _ (List.Mem.tail _ (List.Mem.head _)))))) | exact List.Mem.tail _ (List.Mem.tail _ (List.Mem.tail _ (List.Mem.tail _ (List.Mem.tail _ (List.Mem.tail _ (List.Mem.tail _ (List.Mem.head _))))))) | exact List.Mem.tail _ (List.Mem.tail _ (List.Mem.tail _ (List.Mem.tail _ (List.Mem.tail _ (List.Mem.tail _ (List.Mem.tail _ (List.Mem.tail _ (List.Mem.head _)))))))) | exact List.Mem.tail _ (List.Mem.tail _ (List.Mem.tail _ (List.Mem.tail _ (List.Mem.tail _ (List.Mem.tail _ (List.Mem.tail _ (List.Mem.tail _ (List.Mem.tail _ (List.Mem.head _))))))))) | exact List.Mem.tail _ (List.Mem.tail _ (List.Mem.tail _ (List.Mem.tail _ (List.Mem.tail _ (List.Mem.tail _ (List.Mem.tail _ (List.Mem.tail _ (List.Mem.tail _ (List.Mem.tail _ (List.Mem.head _)))))))))) | exact List.Mem.tail _ (List.Mem.tail _ (List.Mem.tail _ (List.Mem.tail _ (List.Mem.tail _ (List.Mem.tail _ (List.Mem.tail _ (List.Mem.tail _ (List.Mem.tail _ (List.Mem.tail _ (List.Mem.tail _ (List.Mem.head _))))))))))) | exact List.Mem.tail _ (List.Mem.tail _ (List.Mem.tail _ (List.Mem.tail _ (List.Mem.tail _ (List.Mem.tail _ (List.Mem.tail _ (List.Mem.tail _ (List.Mem.tail _ (List.Mem.tail _ (List.Mem.tail _ (List.Mem.tail _ (List.Mem.head _)))))))))))) | exact List.Mem.tail _ (List.Mem.tail _ (List.Mem.tail _ (List.Mem.tail _ (List.Mem.tail _ (List.Mem.tail _ (List.Mem.tail _ (List.Mem.tail _ (List.Mem.tail _ (List.Mem.tail _ (List.Mem.tail _ (List.Mem.tail _ (List.Mem.tail _ (List.Mem.head _))))))))))))) | exact List.Mem.tail _ (List.Mem.tail _ (List.Mem.tail _ (List.Mem.tail _ (List.Mem.tail _ (List.Mem.tail _ (List.Mem.tail _ (List.Mem.tail _ (List.Mem.tail _ (List.Mem.tail _ (List.Mem.tail _ (List.Mem.tail _ (List.Mem.tail _ (List.Mem.tail _ (List.Mem.head _)))))))))))))))); (case zb1 => omega); (case zb2 => omega); (case zb3 => omega); (case zb4 => omega); intro z7 h7 u7 tk7 ez7 F7 N7; (first | (have e8 := ez7.trans ez6.symm; subst e8; clear ez7 ez6) | (have ez6 := ez7; clear ez7)); (try dsimp only); (try k_fold))) | (k_dflt (refine' repr_two ?zF ?zN ?zml ?zm1 ?zm2 ?zp1 ?zp2 ?zp3 ?zp4 ?zb1 ?zb2 ?zb3 ?zb4 ?zg ?zu ?_; (case zF => k_asm); (case zN => k_asm); (case zg => first | exact rfl | with_unfolding_all rfl); (case zu => ke_room); (case zml => with_unfolding_all (first | exact List.Mem.head _ | exact List.Mem.tail _ (List.Mem.head _) | exact List.Mem.tail _ (List.Mem.tail _ (List.Mem.head _)) | exact List.Mem.tail _ (List.Mem.tail _ (List.Mem.tail _ (List.Mem.head _))) | exact List.Mem.tail _ (List.Mem.tail _ (List.Mem.tail _ (List.Mem.tail _ (List.Mem.head _)))) | exact List.Mem.tail _ (List.Mem.tail _ (List.Mem.tail _ (List.Mem.tail _ (List.Mem.tail _ (List.Mem.head _))))) | exact List.Mem.tail _ (List.Mem.tail _ (List.Mem.tail _ (List.Mem.tail _ (List.Mem.tail _ (List.Mem.tail _ (List.Mem.head _)))))) | exact List.Mem.tail _ (List.Mem.tail _ (List.Mem.tail _ (List.Mem.tail _ (List.Mem.tail _ (List.Mem.tail _ (List.Mem.tail _ (List.Mem.head _))))))) | exact List.Mem.tail _ (List.Mem.tail _ (List.Mem.tail _ (List.Mem.tail _ (List.Mem.tail _ (List.Mem.tail _ (List.Mem.tail _ (List.Mem.tail _ (List.Mem.head _)))))))) | exact List.Mem.tail _ (List.Mem.tail _ (List.Mem.tail _ (List.Mem.tail _ (List.Mem.tail _ (List.Mem.tail _ (List.Mem.tail _ (List.Mem.tail _ (List.Mem.tail _ (List.Mem.head _))))))))) | exact List.Mem.tail _ (List.Mem.tail _ (List.Mem.tail _ (List.Mem.tail _ (List.Mem.tail _ (List.Mem.tail _ (List.Mem.tail _ (List.Mem.tail _ (List.Mem.tail _ (List.Mem.tail _ (List.Mem.head _)))))))))) | exact List.Mem.tail _ (List.Mem.tail _ (List.Mem.tail _ (List.Mem.tail _ (List.Mem.tail _ (List.Mem.tail _ (List.Mem.tail _ (List.Mem.tail _ (List.Mem.tail _ (List.Mem.tail _ (List.Mem.tail _ (List.Mem.head _))))))))))) | exact List.Mem.tail _ (List.Mem.tail _ (List.Mem.tail _ (List.Mem.tail _ (List.Mem.tail _ (List.Mem.tail _ (List.Mem.tail _ (List.Mem.tail _ (List.Mem.tail _ (List.Mem.tail _ (List.Mem.tail _ (List.Mem.tail _ (List.Mem.head _)))))))))))) | exact List.Mem.tail _ (List.Mem.tail _ (List.Mem.tail _ (List.Mem.tail _ (List.Mem.tail _ (List.Mem.tail _ (List.Mem.tail _ (List.Mem.tail _ (List.Mem.tail _ (List.Mem.tail _ (List.Mem.tail _ (List.Mem.tail _ (List.Mem.tail _ (List.Mem.head _))))))))))))) | exact List.Mem.tail _ (List.Mem.tail _ (List.Mem.tail _ (List.Mem.tail _ (List.Mem.tail _ (List.Mem.tail _ (List.Mem.tail _ (List.Mem.tail _ (List.Mem.tail _ (List.Mem.tail _ (List.Mem.tail _ (List.Mem.tail _ (List.Mem.tail _ (List.Mem.tail _ (List.Mem.head _)))))))))))))))); (case zm1 => with_unfolding_all (first | exact List.Mem.head _ | exact List.Mem.tail _ (List.Mem.head _) | exact List.Mem.tail _ (List.Mem.tail _ (List.Mem.head _)) | exact List.Mem.tail _ (List.Mem.tail _ (List.Mem.tail _ (List.Mem.head _))) | exact List.Mem.tail _ (List.Mem.tail _ (List.Mem.tail _ (List.Mem.tail _ (List.Mem.head _)))) | exact List.Mem.tail _ (List.Mem.tail _ (List.Mem.tail _ (List.Mem.tail _ (List.Mem.tail _ (List.Mem.head _))))) | exact List.Mem.tail _ (List.Mem.tail _ (List.Mem.tail _ (List.Mem.tail _ (List.Mem.tail _ (List.Mem.tail _ (List.Mem.head _)))))) | exact List.Mem.tail _ (List.Mem.tail _ (List.Mem.tail _ (List.Mem.tail _ (List.Mem.tail _ (List.Mem.tail _ (List.Mem.tail _ (List.Mem.head _))))))) | exact List.Mem.tail _ (List.Mem.tail _ (List.Mem.tail _ (List.Mem.tail _ (List.Mem.tail _ (List.Mem.tail _ (List.Mem.tail _ (List.Mem.tail _ (List.Mem.head _)))))))) | exact List.Mem.tail _ (List.Mem.tail _ (List.Mem.tail _ (List.Mem.tail _ (List.Mem.tail _ (List.Mem.tail _ (List.Mem.tail _ (List.Mem.tail _ (List.Mem.tail _ (List.Mem.head _))))))))) | exact List.Mem.tail _ (List.Mem.tail _ (List.Mem.tail _ (List.Mem.tail _ (List.Mem.tail _ (List.Mem.tail _ (List.Mem.tail _ (List.Mem.tail _ (List.Mem.tail _ (List.Mem.tail _ (List.Mem.head _)))))))))) | exact List.Mem.tail _ (List.Mem.tail _ (List.Mem.tail _ (List.Mem.tail _ (List.Mem.tail _ (List.Mem.tail _ (List.Mem.tail _ (List.Mem.tail _ (List.Mem.tail _ (List.Mem.tail _ (List.Mem.tail _ (List.Mem.head _))))))))))) | exact List.Mem.tail _ (List.Mem.tail _ (List.Mem.tail _ (List.Mem.tail _ (List.Mem.tail _ (List.Mem.tail _ (List.Mem.tail _ (List.Mem.tail _ (List.Mem.tail _ (List.Mem.tail _ (List.Mem.tail _ (List.Mem.tail _ (List.Mem.head _)))))))))))) | exact List.Mem.tail _ (List.Mem.tail _ (List.Mem.tail _ (List.Mem.tail _ (List.Mem.tail _ (List.Mem.tail _ (List.Mem.tail _ (List.Mem.tail _ (List.Mem.tail _ (List.Mem.tail _ (List.Mem.tail _ (List.Mem.tail _ (List.Mem.tail _ (List.Mem.head _))))))))))))) | exact List.Mem.tail _ (List.Mem.tail _ (List.Mem.tail _ (List.Mem.tail _ (List.Mem.tail _ (List.Mem.tail _ (List.Mem.tail _ (List.Mem.tail _ (List.Mem.tail _ (List.Mem.tail _ (List.Mem.tail _ (List.Mem.tail _ (List.Mem.tail _ (List.Mem.tail _ (List.Mem.head _)))))))))))))))); (case zm2 => with_unfolding_all (first | exact List.Mem.head _ | exact List.Mem.tail _ (List.Mem.head _) | exact List.Mem.tail _ (List.Mem.tail _ (List.Mem.head _)) | exact List.Mem.tail _ (List.Mem.tail _ (List.Mem.tail _ (List.Mem.head _))) | exact List.Mem.tail _ (List.Mem.tail _ (List.Mem.tail _ (List.Mem.tail _ (List.Mem.head _)))) | exact List.Mem.tail _ (List.Mem.tail _ (List.Mem.tail _ (List.Mem.tail _ (List.Mem.tail _ (List.Mem.head _))))) | exact List.Mem.tail _ (List.Mem.tail _ (List.Mem.tail _ (List.Mem.tail _ (List.Mem.tail _ (List.Mem.tail _ (List.Mem.head _)))))) | exact List.Mem.tail _ (List.Mem.tail _ (List.Mem.tail _ (List.Mem.tail _ (List.Mem.tail _ (List.Mem.tail _ (List.Mem.tail _ (List.Mem.head _))))))) | exact List.Mem.tail _ (List.Mem.tail _ (List.Mem.tail _ (List.Mem.tail _ (List.Mem.tail _ (List.Mem.tail _ (List.Mem.tail _ (List.Mem.tail _ (List.Mem.head _)))))))) | exact List.Mem.tail _ (List.Mem.tail _ (List.Mem.tail _ (List.Mem.tail _ (List.Mem.tail _ (List.Mem.tail _ (List.Mem.tail _ (List.Mem.tail _ (List.Mem.tail _ (List.Mem.head _))))))))) | exact List.Mem.tail _ (List.Mem.tail _ (List.Mem.tail _ (List.Mem.tail _ (List.Mem.tail _ (List.Mem.tail _ (List.Mem.tail _ (List.Mem.tail _ (List.Mem.tail _ (List.Mem.tail _ (List.Mem.head _)))))))))) | exact List.Mem.tail _ (List.Mem.tail _ (List.Mem.tail _ (List.Mem.tail _ (List.Mem.tail _ (List.Mem.tail _ (List.Mem.tail _ (List.Mem.tail _ (List.Mem.tail _ (List.Mem.tail _ (List.Mem.tail _ (List.Mem.head _))))))))))) | exact List.Mem.tail _ (List.Mem.tail _ (List.Mem.tail _ (List.Mem.tail _ (List.Mem.tail _ (List.Mem.tail _ (List.Mem.tail _ (List.Mem.tail _ (List.Mem.tail _ (List.Mem.tail _ (List.Mem.tail _ (List.Mem.tail _ (List.Mem.head _)))))))))))) | exact List.Mem.tail _ (List.Mem.tail _ (List.Mem.tail _ (List.Mem.tail _ (List.Mem.tail _ (List.Mem.tail _ (List.Mem.tail _ (List.Mem.tail _ (List.Mem.tail _ (List.Mem.tail _ (List.Mem.tail _ (List.Mem.tail _ (List.Mem.tail _ (List.Mem.head _))))))))))))) | exact List.Mem.tail _ (List.Mem.tail _ (List.Mem.tail _ (List.Mem.tail _ (List.Mem.tail _ (List.Mem.tail _ (List.Mem.tail _ (List.Mem.tail _ (List.Mem.tail _ (List.Mem.tail _ (List.Mem.tail _ (List.Mem.tail _ (List.Mem.tail _ (List.Mem.tail _ (List.Mem.head _)))))))))))))))); (case zb1 => omega); (case zb2 => omega); (case zb3 => omega); (case zb4 => omega); (case zp1 => omega); (case zp2 => omega); (case zp3 => omega); (case zp4 => omega); intro z7 h7 u7 tk7 ez7 F7 N7; (first | (have e8 := ez7.trans ez6.symm; subst e8; clear ez7 ez6) | (have ez6 := ez7; clear ez7)); (try dsimp only); (try k_fold))))
  k_with "subscriptTail" => (k_here; first | (exfalso; exact inv_none (small_ok _) hiv9 (by with_reducible assumption)) | (k_dflt (refine' item_at ?zN ?zm ?zi ?z0 ?zk ?zx ?_ ?zs; (case zN => k_asm); (case zm => (first | exact List.Mem.head _ | exact List.Mem.tail _ (List.Mem.head _) | exact List.Mem.tail _ (List.Mem.tail _ (List.Mem.head _)) | exact List.Mem.tail _ (List.Mem.tail _ (List.Mem.tail _ (List.Mem.head _))) | exact List.Mem.tail _ (List.Mem.tail _ (List.Mem.tail _ (List.Mem.tail _ (List.Mem.head _)))) | exact List.Mem.tail _ (List.Mem.tail _ (List.Mem.tail _ (List.Mem.tail _ (List.Mem.tail _ (List.Mem.head _))))) | exact List.Mem.tail _ (List.Mem.tail _ (List.Mem.tail _ (List.Mem.tail _ (List.Mem.tail _ (List.Mem.tail _ (List.Mem.head _)))))) | exact List.Mem.tail _ (List.Mem.tail _ (List.Mem.tail _ (List.Mem.tail _ (List.Mem.tail _ (List.Mem.tail _ (List.Mem.tail _ (List.Mem.head _))))))) | exact List.Mem.tail _ (List.Mem.tail _ (List.Mem.tail _ (List.Mem.tail _ (List.Mem.tail _ (List.Mem.tail _ (List.Mem.tail _ (List.Mem.tail _ (List.Mem.head _)))))))) | exact List.Mem.tail _ (List.Mem.tail _ (List.Mem.tail _ (List.Mem.tail _ (List.Mem.tail _ (List.Mem.tail _ (List.Mem.tail _ (List.Mem.tail _ (List.Mem.tail _ (List.Mem.head _))))))))) | exact List.Mem.tail _ (List.Mem.tail _ (List.Mem.tail _ (List.Mem.tail _ (List.Mem.tail _ (List.Mem.tail _ (List.Mem.tail _ (List.Mem.tail _ (List.Mem.tail _ (List.Mem.tail _ (List.Mem.head _)))))))))) | exact List.Mem.tail _ (List.Mem.tail _ (List.Mem.tail _ (List.Mem.tail _ (List.Mem.tail _ (List.Mem.tail _ (List.Mem.tail _ (List.Mem.tail _ (List.Mem.tail _ (List.Mem.tail _ (List.Mem.tail _ (List.Mem.head _))))))))))) | exact List.Mem.tail _ (List.Mem.tail _ (List.Mem.tail _ (List.Mem.tail _ (List.Mem.tail _ (List.Mem.tail _ (List.Mem.tail _ (List.Mem.tail _ (List.Mem.tail _ (List.Mem.tail _ (List.Mem.tail _ (List.Mem.tail _ (List.Mem.head _)))))))))))) | exact List.Mem.tail _ (List.Mem.tail _ (List.Mem.tail _ (List.Mem.tail _ (List.Mem.tail _ (List.Mem.tail _ (List.Mem.tail _ (List.Mem.tail _ (List.Mem.tail _ (List.Mem.tail _ (List.Mem.tail _ (List.Mem.tail _ (List.Mem.tail _ (List.Mem.head _))))))))))))) | exact List.Mem.tail _ (List.Mem.tail _ (List.Mem.tail _ (List.Mem.tail _ (List.Mem.tail _ (List.Mem.tail _ (List.Mem.tail _ (List.Mem.tail _ (List.Mem.tail _ (List.Mem.tail _ (List.Mem.tail _ (List.Mem.tail _ (List.Mem.tail _ (List.Mem.tail _ (List.Mem.head _)))))))))))))))); (case zi => with_reducible assumption); (case z0 => decide); (case zk => decide); (case zs => with_unfolding_all rfl); (case zx => exact inv_head (small_ok _) hiv9 hg9); intro t6; (try dsimp only); (try k_fold))))
  k_with "exec If" => ( (k_here; (with_reducible show wpAny _ _ (exec (Stmt.If (PySem.Expr.Compare _ _ _ _) _ _ _) _) _ _ _); (rename Fr _ _ _ _ => lF'); (rename News _ _ _ _ => lN'); (with_unfolding_all refine' cut_if lF' lN' ?_ ?_); rotate_left 1; (focus (clear lF' lN'; intro h6 tk6 F6 N6; (first | (have hD7 := hD8; clear hD8) | (clear hD7; (have N5 := news_tail N6); clear N6) | skip); (try k_fold))); rotate_right 1; (focus ((first | ((have hDq := due_out hD8); (obtain ⟨NN8, hNN8, hy38, (⟨hd8, hno8⟩ | ⟨t8, b8, k18, k28, hd8, ho8, hr8, _, _, _, _⟩)⟩ := hDq)) | ((have hDq := due_out hD7); (obtain ⟨NN8, hNN8, hy38, (⟨hd8, hno8⟩ | ⟨t8, b8, k18, k28, hd8, ho8, hr8, _, _, _, _⟩)⟩ := hDq)) | skip); all_goals (try subst hd8); all_goals (try subst ho8); all_goals (try k_fold)))))
  k_go0
  all_goals (try k_fold)
  k_steps
  all_goals first
    | ((rename News _ _ _ _ => nE9); (rename Fr _ _ _ _ => fE9); exact cut_end (by first | exact bne_self_eq_false _ | rfl | simp | decide) fE9 nE9 (fun p hp => by first | exact hp | exact List.Mem.tail _ (hp) | exact List.Mem.tail _ (List.Mem.tail _ (hp)) | exact List.Mem.tail _ (List.Mem.tail _ (List.Mem.tail _ (hp))) | exact List.Mem.tail _ (List.Mem.tail _ (List.Mem.tail _ (List.Mem.tail _ (hp)))) | exact List.Mem.tail _ (List.Mem.tail _ (List.Mem.tail _ (List.Mem.tail _ (List.Mem.tail _ (hp))))) | exact List.Mem.tail _ (List.Mem.tail _ (List.Mem.tail _ (List.Mem.tail _ (List.Mem.tail _ (List.Mem.tail _ (hp)))))) | exact List.Mem.tail _ (List.Mem.tail _ (List.Mem.tail _ (List.Mem.tail _ (List.Mem.tail _ (List.Mem.tail _ (List.Mem.tail _ (hp))))))) | exact List.Mem.tail _ (List.Mem.tail _ (List.Mem.tail _ (List.Mem.tail _ (List.Mem.tail _ (List.Mem.tail _ (List.Mem.tail _ (List.Mem.tail _ (hp)))))))) | exact List.Mem.tail _ (List.Mem.tail _ (List.Mem.tail _ (List.Mem.tail _ (List.Mem.tail _ (List.Mem.tail _ (List.Mem.tail _ (List.Mem.tail _ (List.Mem.tail _ (hp))))))))) | exact List.Mem.tail _ (List.Mem.tail _ (List.Mem.tail _ (List.Mem.tail _ (List.Mem.tail _ (List.Mem.tail _ (List.Mem.tail _ (List.Mem.tail _ (List.Mem.tail _ (List.Mem.tail _ (hp)))))))))) | exact List.Mem.tail _ (List.Mem.tail _ (List.Mem.tail _ (List.Mem.tail _ (List.Mem.tail _ (List.Mem.tail _ (List.Mem.tail _ (List.Mem.tail _ (List.Mem.tail _ (List.Mem.tail _ (List.Mem.tail _ (hp))))))))))) | exact List.Mem.tail _ (List.Mem.tail _ (List.Mem.tail _ (List.Mem.tail _ (List.Mem.tail _ (List.Mem.tail _ (List.Mem.tail _ (List.Mem.tail _ (List.Mem.tail _ (List.Mem.tail _ (List.Mem.tail _ (List.Mem.tail _ (hp))))))))))))))
    | (exfalso; exact absurd (sym_zero (small_ok _) hv9) (by with_reducible assumption))
end Mine
end
set_option maxRecDepth 100000 in
set_option maxHeartbeats 8000000 in
theorem PySem.Challenge.cw_nn0247_01_holds : PySem.Challenge.rw_nn0247_01.Holds := by
  exact Mine.lawt
