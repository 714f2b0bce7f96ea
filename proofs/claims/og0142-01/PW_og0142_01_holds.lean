import PyProof.Rows.All
import Wide.All
import OpenK.AllK
import Wide.FinOn
import PySem.Challenge.RW_og0142_01
open PySem PySem.W PyProof.Rows
set_option Elab.async false
/-! part P0 -/
namespace Mine
set_option maxRecDepth 100000 in
set_option maxHeartbeats 8000000 in
open_top tp for PySem.Challenge.rw_og0142_01

end Mine

set_option linter.all false
local macro_rules | `(tactic| walk_at $s:str) => `(tactic| k_extra $s)
local macro_rules | `(tactic| omega) => `(tactic| first | k_extra "om" | lia)
local macro_rules | `(tactic| k_mem) => `(tactic| k_extra "k_mem")
local macro_rules | `(tactic| news_mem) => `(tactic| k_extra "news_mem")
local macro_rules | `(tactic| k_memK) => `(tactic| k_extra "k_memK")
local macro_rules | `(tactic| ktr_room) => `(tactic| k_extra "ktr_room")
local macro_rules | `(tactic| ktr_units) => `(tactic| k_extra "ktr_units")
local macro_rules | `(tactic| k_room) => `(tactic| k_extra "ktr_room")
local macro_rules | `(tactic| k_all) => `(tactic| k_extra "k_all")
local macro_rules | `(tactic| ksa_idx) => `(tactic| k_extra "ksa_idx")
local macro_rules | `(tactic| k_upd) => `(tactic| k_extra "k_upd")
local macro_rules | `(tactic| walk_at "call ref") => `(tactic| (k_extra "cC"; intro D9 ws9 c9 h9 tk9 F9 N9 l9 i9; (try k_lt l9); (try dsimp only); (try k_sweep)))
local macro_rules | `(tactic| walk_at "call ref") => `(tactic| (k_extra "cD"; intro D9 ws9 xs9 c9 h9 tk9 F9 N9 l9 i9 e9; (try k_lt l9); (try dsimp only); (try k_sweep)))
local macro_rules | `(tactic| walk_at "call ref") => `(tactic| (k_extra "cF"; intro dI9 dD9 tL9 sL9 vT9 vS9 xs9 cT9 cS9 k9 k8 h9 tk9 F9 N9 l9 iT9 iS9 e9; (try dsimp only); (try k_sweep)))
local macro_rules | `(tactic| walk_at "call ref") => `(tactic| (k_extra "cG"; intro ib9 db9 k1 k2 k3 k4 t2 t3 t4 h9 tk9 F9 N9 ne9 l9; (try dsimp only); (try k_sweep)))

/-! part A0 -/
namespace Mine
namespace A0
theorem tn_one {g : Int} (h : 0 ≤ g) : (g + 1).toNat = g.toNat + 1 := Int.toNat_add h (by decide)
theorem tn_gk (g k : Nat) : ((g : Int) - 1 - (0 + (k : Int))).toNat = g - 1 - k := by rw [Int.zero_add, Int.sub_sub, Nat.sub_sub]; exact Int.toNat_sub g (1 + k)
theorem tn_succ {g x : Int} (h : x + 1 ≤ g) : (g - x).toNat = (g - (x + 1)).toNat + 1 := by
  rw [← Int.sub_sub, ← Int.toNat_one, ← Int.toNat_add (Int.sub_sub g x 1 ▸ Int.sub_nonneg.mpr h) (by decide), Int.sub_add_cancel]
theorem tn_dbl {g n : Int} (h : n ≤ g) : (g + 1 - n).toNat = (g - n).toNat + 1 := by
  rw [Int.add_comm g 1, Int.add_sub_assoc, Int.add_comm 1]; exact Int.toNat_add (Int.sub_nonneg.mpr h) (by decide)
theorem n_succ {g i : Nat} (h : i < g) : g - i = g - (i + 1) + 1 := by rw [← Nat.sub_sub, Nat.sub_add_cancel (Nat.sub_pos_of_lt h)]
theorem pos_nat {x : Int} (h : 0 < x) : x = ((x.toNat - 1 + 1 : Nat) : Int) := by rw [Nat.sub_add_cancel (Int.pos_iff_toNat_pos.mp h), Int.toNat_of_nonneg (Int.le_of_lt h)]
theorem n_split {j A : Nat} (h : j > A) : j = A + 1 + (j - A - 1) := by rw [Nat.sub_sub, Nat.add_sub_cancel' h]
theorem n_back {n i : Nat} (h : i < n) : n = n - i - 1 + 1 + i := by rw [Nat.sub_add_cancel (Nat.sub_pos_of_lt h), Nat.sub_add_cancel (Nat.le_of_lt h)]
theorem gap_eq {q f : Int} (h : f ≤ q) : q = f + (((q - f).toNat : Nat) : Int) := by rw [Int.toNat_of_nonneg (Int.sub_nonneg.mpr h), Int.add_comm, Int.sub_add_cancel]
theorem gap_lt {q f : Int} {c : Nat} (h : f ≤ q) (h2 : q < f + (c : Int)) : (q - f).toNat < c := by rw [Int.toNat_lt (Int.sub_nonneg.mpr h)]; exact Int.sub_left_lt_of_lt_add h2
theorem tn_p1 {n : Int} {p : Nat} (h : n = 1 + (p : Int)) : n.toNat = p + 1 := by rw [h, Int.add_comm]; rfl
theorem tn_p {n : Int} {p : Nat} (h : n = 1 + (p : Int)) : (n - 1).toNat = p := by rw [h, Int.add_comm, Int.add_sub_cancel, Int.toNat_natCast]
theorem tn_0 (x : Nat) : (0 + (x : Int)).toNat = x := by rw [Int.zero_add, Int.toNat_natCast]
theorem n_can (A d : Nat) : A + 1 + d - A = d + 1 := by rw [Nat.add_assoc, Nat.add_sub_cancel_left, Nat.add_comm]
theorem tn_lt1 {n g : Int} (h : n ≤ g) : n.toNat < g.toNat + 1 := Nat.lt_succ_of_le (Int.toNat_le_toNat h)
theorem idx {k g : Int} {l : Nat} (h : l = g.toNat + 1) (h2 : k ≤ g) : k < (l : Int) := by
  rw [h]; exact Int.lt_of_le_of_lt (Int.le_trans h2 (Int.self_le_toNat g)) (Int.ofNat_lt.mpr (Nat.lt_succ_self _))
theorem i_of {n : Int} {i : Nat} (h : 0 ≤ n) (e : n.toNat = i) : (i : Int) = n := by rw [← e, Int.toNat_of_nonneg h]
theorem tn_of {n : Int} {i : Nat} (e : (i : Int) = n) : n.toNat = i := by rw [← e, Int.toNat_natCast]
theorem c1 {a D : Nat} {R : Prop} (h : a < D ∧ R) : ¬ D = a := Nat.ne_of_gt h.1
theorem c2 {a D : Nat} {R P1 : Prop} (h : P1 ∧ a < D ∧ R) : ¬ D = a := Nat.ne_of_gt h.2.1
theorem c3 {a D : Nat} {R P1 P2 : Prop} (h : P1 ∧ P2 ∧ a < D ∧ R) : ¬ D = a := Nat.ne_of_gt h.2.2.1
theorem c4 {a D : Nat} {R P1 P2 P3 : Prop} (h : P1 ∧ P2 ∧ P3 ∧ a < D ∧ R) : ¬ D = a := Nat.ne_of_gt h.2.2.2.1
theorem c5 {a D : Nat} {R P1 P2 P3 P4 : Prop} (h : P1 ∧ P2 ∧ P3 ∧ P4 ∧ a < D ∧ R) : ¬ D = a := Nat.ne_of_gt h.2.2.2.2.1
theorem c6 {a D : Nat} {R P1 P2 P3 P4 P5 : Prop} (h : P1 ∧ P2 ∧ P3 ∧ P4 ∧ P5 ∧ a < D ∧ R) : ¬ D = a := Nat.ne_of_gt h.2.2.2.2.2.1
theorem c7 {a D : Nat} {R P1 P2 P3 P4 P5 P6 : Prop} (h : P1 ∧ P2 ∧ P3 ∧ P4 ∧ P5 ∧ P6 ∧ a < D ∧ R) : ¬ D = a := Nat.ne_of_gt h.2.2.2.2.2.2.1
theorem e2 {a D : Nat} {P1 : Prop} (h : P1 ∧ a < D) : ¬ D = a := Nat.ne_of_gt h.2
theorem e3 {a D : Nat} {P1 P2 : Prop} (h : P1 ∧ P2 ∧ a < D) : ¬ D = a := Nat.ne_of_gt h.2.2
theorem e4 {a D : Nat} {P1 P2 P3 : Prop} (h : P1 ∧ P2 ∧ P3 ∧ a < D) : ¬ D = a := Nat.ne_of_gt h.2.2.2
theorem e5 {a D : Nat} {P1 P2 P3 P4 : Prop} (h : P1 ∧ P2 ∧ P3 ∧ P4 ∧ a < D) : ¬ D = a := Nat.ne_of_gt h.2.2.2.2
theorem e6 {a D : Nat} {P1 P2 P3 P4 P5 : Prop} (h : P1 ∧ P2 ∧ P3 ∧ P4 ∧ P5 ∧ a < D) : ¬ D = a := Nat.ne_of_gt h.2.2.2.2.2
theorem e7 {a D : Nat} {P1 P2 P3 P4 P5 P6 : Prop} (h : P1 ∧ P2 ∧ P3 ∧ P4 ∧ P5 ∧ P6 ∧ a < D) : ¬ D = a := Nat.ne_of_gt h.2.2.2.2.2.2
section
variable {n : Int} {i : Nat}
theorem up1 (h : 0 < n ∧ n ≤ (i : Int)) : 0 < n ∧ n ≤ ((i + 1 : Nat) : Int) := ⟨h.1, Int.le_trans h.2 (Int.ofNat_le.mpr (Nat.le_succ i))⟩
theorem up2 (h : n = ((i + 1 : Nat) : Int)) : 0 < n ∧ n ≤ ((i + 1 : Nat) : Int) := ⟨h ▸ Int.natCast_pos.mpr (Nat.succ_pos i), h ▸ Int.le_refl _⟩
theorem up3 (h : ¬ (0 < n ∧ n ≤ (i : Int))) (h2 : ¬ n = ((i + 1 : Nat) : Int)) : ¬ (0 < n ∧ n ≤ ((i + 1 : Nat) : Int)) := fun q => h ⟨q.1, Int.le_of_lt_add_one (Int.lt_iff_le_and_ne.mpr ⟨q.2, h2⟩)⟩
theorem up4 (h : 0 < n ∧ n ≤ (i : Int)) : ¬ n = ((i + 1 : Nat) : Int) := fun e => absurd (e ▸ h.2) (Int.not_le.mpr (Int.ofNat_lt.mpr (Nat.lt_succ_self i)))
theorem nd {p : Prop} [Decidable p] (h : ¬ p) : ¬ decide p = true := fun q => h (of_decide_eq_true q)
end
end A0
end Mine

/-! part G6 -/
namespace Mine
set_option maxRecDepth 100000
set_option maxHeartbeats 4000000

section
variable {prog : Program} {w : World} {A : Around} {h₀ : Heap} {L : Addr} {m : Str → Option Value} {env : Env} {elt : PySem.Expr} {x : Str} {scope : Scope} {cl : List (Str × Addr)} {s : Shared} {S : List (Addr × Obj) → Prop} {P : Nat → Value → Prop} {Fin : List Value → List (Addr × Obj) → Prop} {news : List (Addr × Obj)}
/-- the turns of a comprehension by what holds of the items made and of the ledger -/
theorem comp_rest {n : Nat} (J : Nat → List Value → List (Addr × Obj) → Prop) (h0 : J 0 [] news)
    (turn : ∀ i v ys nw I oI C oC D m₂ h tk (E' : Value → Shared → Prop), i < n → P i v → J i ys nw → LCg.NsObj oC m₂ → m₂ x = some v → Fr h₀ L h m → News h₀ L h ((I, oI) :: (C, oC) :: (D, LCg.lst ys) :: nw) → LCg.Off3 I C D nw → ((@Ne Nat I C) ∧ (@Ne Nat I D) ∧ (@Ne Nat C D)) →
      ∀ P1 : Value → Shared → Prop, (∀ y s', LCg.CompEnd h₀ L m { s with heap := h, toks := tk } I oI C oC D (LCg.lst ys) S (fun y news' => J (i + 1) (ys ++ [y]) news') y s' → P1 y s') →
      wpAny (model prog w) A (eval elt (compEnvC scope cl C env)) P1 E' { s with heap := h, toks := tk })
    (fin : ∀ ys nw, J n ys nw → Fin ys nw) : LCg.CompRest prog w A h₀ L m env elt x scope cl s S P Fin n 0 [] news := by
  have key : ∀ (j i : Nat) (ys : List Value) (nw : List (Addr × Obj)), i + j = n → J i ys nw → LCg.CompRest prog w A h₀ L m env elt x scope cl s S P Fin j i ys nw := by
    intro j
    induction j with
    | zero =>
      intro i ys nw hi hj
      have e : i = n := by omega
      subst e
      exact LCg.CompRest.zero (fin ys nw hj)
    | succ j ih =>
      intro i ys nw hi hj
      refine LCg.CompRest.succ ?_
      intro v I oI C oC D m₂ h tk E' hv hC hx F N off ne
      refine wpAny_mono (turn i v ys nw I oI C oC D m₂ h tk E' (by omega) hv hj hC hx F N off ne _ fun _ _ x => x) (fun y s₂ hq => ?_) fun _ _ e => e
      obtain ⟨h', tk', nw', e, F', N', off', hS, hn⟩ := hq
      exact ⟨h', tk', nw', e, F', N', off', hS, ih (i + 1) _ nw' (by omega) hn⟩
  exact key n 0 [] news (by omega) h0
end

section
variable {prog : Program} {w : World} {A : Around} {h₀ : Heap} {L : Addr} {m : Str → Option Value} {env : Env} {ct elt : PySem.Expr} {x : Str} {scope : Scope} {cl : List (Str × Addr)} {s : Shared} {S : List (Addr × Obj) → Prop} {P : Nat → Value → Prop} {Fin : List Value → List (Addr × Obj) → Prop} {news : List (Addr × Obj)}
/-- the turns of a comprehension with one test by what holds of the items made and of the ledger -/
theorem comp_restT {n : Nat} (J : Nat → List Value → List (Addr × Obj) → Prop) (h0 : J 0 [] news)
    (turn : ∀ i v ys nw I oI C oC D m₂ h tk (E' : Value → Shared → Prop), i < n → P i v → J i ys nw → LCg.NsObj oC m₂ → m₂ x = some v → Fr h₀ L h m → News h₀ L h ((I, oI) :: (C, oC) :: (D, LCg.lst ys) :: nw) → LCg.Off3 I C D nw → ((@Ne Nat I C) ∧ (@Ne Nat I D) ∧ (@Ne Nat C D)) →
      ∀ (P1 : Value → Shared → Prop) (P2 : Shared → Prop), (∀ y s', LCg.CompEnd h₀ L m { s with heap := h, toks := tk } I oI C oC D (LCg.lst ys) S (fun y news' => J (i + 1) (ys ++ [y]) news') y s' → P1 y s') → (∀ s', LCg.CompEnd h₀ L m { s with heap := h, toks := tk } I oI C oC D (LCg.lst ys) S (fun _ news' => J (i + 1) ys news') Value.none s' → P2 s') →
      wpAny (model prog w) A (isTrue ct (compEnvC scope cl C env) (eval ct (compEnvC scope cl C env))) (fun ok s' => if ok = true then
        wpAny (model prog w) A (eval elt (compEnvC scope cl C env)) P1 E' s'
        else P2 s') E' { s with heap := h, toks := tk })
    (fin : ∀ ys nw, J n ys nw → Fin ys nw) : LCt.CompRestT prog w A h₀ L m env ct elt x scope cl s S P Fin n 0 [] news := by
  have key : ∀ (j i : Nat) (ys : List Value) (nw : List (Addr × Obj)), i + j = n → J i ys nw → LCt.CompRestT prog w A h₀ L m env ct elt x scope cl s S P Fin j i ys nw := by
    intro j
    induction j with
    | zero =>
      intro i ys nw hi hj
      have e : i = n := by omega
      subst e
      exact LCt.CompRestT.zero (fin ys nw hj)
    | succ j ih =>
      intro i ys nw hi hj
      refine LCt.CompRestT.succ ?_
      intro v I oI C oC D m₂ h tk E' hv hC hx F N off ne
      refine wpAny_mono (turn i v ys nw I oI C oC D m₂ h tk E' (by omega) hv hj hC hx F N off ne _ _ (fun _ _ x => x) (fun _ x => x)) (fun ok s₂ hq => ?_) fun _ _ e => e
      cases ok with
      | true =>
        simp only [if_true] at hq ⊢
        refine wpAny_mono hq (fun y s₃ hr => ?_) fun _ _ e => e
        obtain ⟨h', tk', nw', e, F', N', off', hS, hn⟩ := hr
        exact ⟨h', tk', nw', e, F', N', off', hS, ih (i + 1) _ nw' (by omega) hn⟩
      | false =>
        simp only [Bool.false_eq_true, if_false] at hq ⊢
        obtain ⟨h', tk', nw', e, F', N', off', hS, hn⟩ := hq
        exact ⟨h', tk', nw', e, F', N', off', hS, ih (i + 1) _ nw' (by omega) hn⟩
  exact key n 0 [] news (by omega) h0
end

section
variable {prog : Program} {w : World} {A : Around} {E : Value → Shared → Prop} {s : Shared} {env : Env} {h₀ : Heap} {x : Str} {body : List Stmt} {Q : Flow → Shared → Prop}
/-- a loop over a list of the call's own, whatever it holds, by what holds of the frame and of the ledger -/
theorem iter_vals {l : Addr} {vs : List Value} {nn : Nat} {m₀ : Str → Option Value} {news : List (Addr × Obj)} (J : Nat → (Str → Option Value) → List (Addr × Obj) → Prop)
    (hh : A.handled = none) (hl : (l, W.listOf vs.toArray nn) ∈ news) (F : Fr h₀ env.locals s.heap m₀) (N : News h₀ env.locals s.heap news) (hj : J 0 m₀ news)
    (turn : ∀ i v m₁ news₁ h tk own, vs[i]? = some v → news₁.map (·.1) = news.map (·.1) → OwnOff own (news.map (·.1)) → (l, W.listOf vs.toArray nn) ∈ news₁ → J i m₁ news₁ → Fr h₀ env.locals h (fun y => if y = x then some v else m₁ y) → News h₀ env.locals h (news₁ ++ own) →
      ∀ P : Flow → Shared → Prop, (∀ f s', InvPostN h₀ env.locals (fun m' nx => (l, W.listOf vs.toArray nn) ∈ nx ∧ J (i + 1) m' nx) own (news.map (·.1)) { s with heap := h, toks := tk } Q f s' → P f s') →
      wpAny (model prog w) A (execs body env) P E { s with heap := h, toks := tk })
    (done : ∀ m₁ news₁ h tk, (l, W.listOf vs.toArray nn) ∈ news₁ → J vs.length m₁ news₁ → Fr h₀ env.locals h m₁ → News h₀ env.locals h news₁ → Q .next { s with heap := h, toks := tk }) :
    wpAny (model prog w) A (pyIter (.ref l)) (fun it s₂ => LoopAtV prog w A h₀ env x body Q E it s₂) E s := by
  have hol : s.heap.get? l = some (W.listOf vs.toArray nn) := (N _ hl).1
  have hls : s.heap.IsList l vs.toArray := ⟨_, hol, rfl, nn, rfl⟩
  have hne : l ≠ s.heap.objs.size := Nat.ne_of_lt (Heap.lt_size hol)
  refine wpAny_pyIter_list hls ?_
  refine ⟨_, _, _, _, _, _, m₀, news, (fun i m nx => nx.map (·.1) = news.map (·.1) ∧ (l, W.listOf vs.toArray nn) ∈ nx ∧ J i m nx), rfl, Walks.list (prog := prog) (w := w) hh s.heap.objs.size l hne vs.toArray, ?_, ?_, ?_,
    ⟨⟨_, Heap.get?_push_size _ rfl, rfl, rfl⟩, hls.at fun o e => Heap.get?_push_of_some _ e⟩, F.push _, (fun p hp => ⟨Heap.get?_push_of_some _ (N p hp).1, (N p hp).2⟩), ⟨rfl, hl, hj⟩, ?_, ?_⟩
  · intro hm
    rcases List.mem_cons.mp hm with e | hm
    · exact absurd F.ns.lt (e ▸ Nat.lt_irrefl _)
    · exact (N _ hl).2.1 ((List.mem_singleton.mp hm).symm)
  · intro b hb
    rw [List.mem_singleton.mp hb]
    exact next_is_new F
  · intro p hp hI
    exact absurd (Heap.lt_size (N p hp).1) ((List.mem_singleton.mp hI) ▸ Nat.lt_irrefl _)
  · rintro i v m₁ news₁ s₁ own ⟨hh', tk', rfl⟩ hin hP ⟨hadr, hl₁, hJ⟩ hoff hown hget hfp _ F₁ N₁
    have hsep : OwnOff (own.filter fun p => decide (p.1 = s.heap.objs.size)) (news.map (·.1)) := by
      intro p hp b hb e
      obtain ⟨q, hq, rfl⟩ := List.mem_map.mp hb
      have h1 : p.1 = s.heap.objs.size := by simpa using (List.mem_filter.mp hp).2
      exact absurd (Heap.lt_size (N q hq).1) (by rw [← e, h1]; exact Nat.lt_irrefl _)
    have hlo : hh'.get? l = some (W.listOf vs.toArray nn) := (N₁ _ (List.mem_append.mpr (.inr hl₁))).1
    have N₂ : News h₀ env.locals hh' (news₁ ++ own.filter fun p => decide (p.1 = s.heap.objs.size)) := fun p hp =>
      N₁ p ((List.mem_append.mp hp).elim (fun h => List.mem_append.mpr (.inr h)) fun h => List.mem_append.mpr (.inl ((List.mem_filter.mp h).1)))
    refine wpAny_mono (turn i v m₁ news₁ hh' tk' _ (by simpa using hP) hadr hsep hl₁ hJ F₁ N₂ _ fun _ _ x => x) (fun f s₂ p => ?_) fun _ _ e => e
    have fin : InvEndN h₀ env.locals (fun m' nx => (l, W.listOf vs.toArray nn) ∈ nx ∧ J (i + 1) m' nx) (own.filter fun p => decide (p.1 = s.heap.objs.size)) (news.map (·.1)) { s with heap := hh', toks := tk' } s₂ →
        LoopStepU h₀ env.locals [s.heap.objs.size] own (fun m nx => nx.map (·.1) = news.map (·.1) ∧ (l, W.listOf vs.toArray nn) ∈ nx ∧ J (i + 1) m nx) { s with heap := hh', toks := tk' } .next s₂ := by
      rintro ⟨h', tk, m', news', nx, e, F', N', hn, ho, ha, hm⟩
      refine ⟨rfl, h', tk, m', nx, e, F', fun p hp => ?_, fun p hp hI => ?_, ha, hm⟩
      · rcases List.mem_append.mp hp with h | h
        · by_cases hI : p.1 = s.heap.objs.size
          · exact N' p (ho p (List.mem_filter.mpr ⟨h, by simpa using hI⟩))
          · have h1 : p.1 = l := by
              rcases List.mem_cons.mp (hown p h) with h2 | h2
              · exact absurd h2 hI
              · exact List.mem_singleton.mp h2
            have h2 : hh'.get? p.1 = some p.2 := hget p h
            rw [h1, hlo] at h2
            have h3 : p = (l, W.listOf vs.toArray nn) := Prod.ext h1 (Option.some.inj h2).symm
            rw [h3]
            exact N' _ (hn _ hm.1)
        · exact N' p (hn p h)
      · have h1 : p.1 ∈ nx.map (·.1) := List.mem_map.mpr ⟨p, hp, rfl⟩
        rw [ha] at h1
        obtain ⟨q, hq, e⟩ := List.mem_map.mp h1
        exact absurd (Heap.lt_size (N q hq).1) (by rw [e, List.mem_singleton.mp hI]; exact Nat.lt_irrefl _)
    cases f with
    | ret v => exact .ret p
    | brk => exact .brk p
    | next => exact .next (fin p)
    | cont => exact .cont (fin p)
  · rintro h' tk m' news' F' N' _ ⟨_, hl', hJ⟩
    exact done m' news' h' tk hl' (by simpa using hJ) F' N'
end

theorem fr_name {h₀ h : Heap} {L : Addr} {m : Str → Option Value} (F : Fr h₀ L h m) : ∃ m', m' = m ∧ Fr h₀ L h m' := ⟨m, rfl, F⟩
theorem upd_mid {d : Addr} {o o' : Obj} {post : List (Addr × Obj)} : ∀ {pre : List (Addr × Obj)}, (∀ p ∈ pre, p.1 ≠ d) → (∀ p ∈ post, p.1 ≠ d) → Upd d o o' (pre ++ (d, o) :: post) (pre ++ (d, o') :: post)
  | [], _, h => .head h
  | q :: r, h1, h2 => .tail (h1 q (.head _)) (upd_mid (fun p hp => h1 p (.tail _ hp)) h2)
theorem allLt_all {d : Addr} : ∀ {l : List (Addr × Obj)}, AllLt d l → ∀ p ∈ l, p.1 < d
  | [], _, _, hp => nomatch hp
  | q :: r, h, p, hp => by
    rcases List.mem_cons.mp hp with rfl | hp
    · exact h.1
    · exact allLt_all h.2 p hp

end Mine

/-! part G7 -/
namespace Mine
set_option maxRecDepth 100000
set_option maxHeartbeats 4000000

/-- the empty heaps -/
noncomputable def HeapsJ (news0 : List (Addr × Obj)) (i : Nat) (ys : List Value) (nw : List (Addr × Obj)) : Prop :=
  ∃ cells : List (Addr × Obj), nw = cells ++ news0 ∧ ys = cells.map (fun p => Value.ref p.1) ∧ cells.length = i ∧ (∀ p ∈ cells, p.2 = W.listOf #[] 0) ∧ (∀ p ∈ cells, ∀ q ∈ news0, q.1 < p.1) ∧ cells.Pairwise (fun p q => p.1 < q.1)
/-- the heaps, so far as the lengths are heaped -/
noncomputable def HeapsP (ns : List Int) (pre : List Int) (cells : List (Addr × Obj)) : Prop :=
  ∀ (k : Nat) (p : Addr × Obj), cells[k]? = some p → ∃ ws c xs, p.2 = W.listOf ws.toArray c ∧ IntsAre ws xs ∧ xs.length = (ns.take pre.length).count (k : Int)

theorem heaps_at {ns pre : List Int} {cells cs9 : List (Addr × Obj)} {v : Int} (hf : cs9.map (·.1) = cells.map (·.1)) (hP : HeapsP ns pre cs9) (hv : v.toNat < cs9.length) (hlen : ns.length ≤ 10) :
    ∃ A D ws c xs B, cs9 = A ++ (D, W.listOf ws.toArray c) :: B ∧ A.length = v.toNat ∧ IntsAre ws xs ∧ xs.length = (ns.take pre.length).count (v.toNat : Int) ∧ ws.length ≤ 10 ∧ (cells.map fun p => Value.ref p.1)[v.toNat]? = some (.ref D) := by
  obtain ⟨ws, c, xs, hp, hi, hx⟩ := hP v.toNat cs9[v.toNat] (List.getElem?_eq_getElem hv)
  have hn := List.count_le_length (a := (v.toNat : Int)) (l := ns.take pre.length)
  rw [List.length_take] at hn
  have e : cells.map (fun p => Value.ref p.1) = cs9.map (fun p => Value.ref p.1) := by
    have := congrArg (List.map Value.ref) hf
    rw [List.map_map, List.map_map] at this
    exact this.symm
  refine ⟨cs9.take v.toNat, cs9[v.toNat].1, ws, c, xs, cs9.drop (v.toNat + 1), ?_, by rw [List.length_take]; omega, hi, hx, by rw [hi.length, hx]; omega, ?_⟩
  · have e2 : (cs9[v.toNat].1, W.listOf ws.toArray c) = cs9[v.toNat] := Prod.ext rfl hp.symm
    rw [e2]; simp
  · rw [e, List.getElem?_map, List.getElem?_eq_getElem hv]; rfl

theorem heaps_put {ns pre : List Int} {A B : List (Addr × Obj)} {D : Addr} {o : Obj} {ws : List Value} {xs : List Int} {c' : Nat} {k : Int} {t : Tok} (hP : HeapsP ns pre (A ++ (D, o) :: B)) (hi : IntsAre ws xs)
    (hx : xs.length = (ns.take pre.length).count ((A.length : Nat) : Int)) (hpl : pre.length < ns.length) (hk : ns[pre.length] = (A.length : Int)) :
    HeapsP ns (pre ++ [k]) (A ++ (D, W.listOf (ws.toArray.push (.int k t)) c') :: B) := by
  intro j p hp
  have ht : ns.take (pre ++ [k]).length = ns.take pre.length ++ [ns[pre.length]] := by
    rw [List.length_append, List.length_singleton, List.take_add_one, List.getElem?_eq_getElem hpl]; rfl
  rw [ht, List.count_append, hk]
  by_cases hj : j = A.length
  · subst hj
    rw [List.getElem?_append_right (Nat.le_refl _), Nat.sub_self] at hp
    simp only [List.getElem?_cons_zero, Option.some.injEq] at hp
    subst hp
    refine ⟨ws ++ [.int k t], c', xs ++ [k], by simp, IntsAre.append hi (.cons k t .nil), ?_⟩
    rw [List.length_append, hx]; simp
  · obtain ⟨ws', c'', xs', e1, e2, e3⟩ := hP j p (by
      rcases Nat.lt_or_gt_of_ne hj with h | h
      · rw [List.getElem?_append_left h] at hp ⊢; exact hp
      · obtain ⟨d, rfl⟩ : ∃ d, j = A.length + 1 + d := ⟨j - A.length - 1, A0.n_split (by omega)⟩
        rw [List.getElem?_append_right (by omega)] at hp ⊢
        rw [A0.n_can] at hp ⊢
        rw [List.getElem?_cons_succ] at hp ⊢
        exact hp)
    refine ⟨ws', c'', xs', e1, e2, ?_⟩
    rw [e3]
    have : List.count (j : Int) [(A.length : Int)] = 0 := by
      rw [List.count_eq_zero]; intro h; rw [List.mem_singleton] at h; omega
    omega

theorem heaps_upd {A B cells news own : List (Addr × Obj)} {D H : Addr} {o X : Obj} (hf : (A ++ (D, o) :: B).map (·.1) = cells.map (·.1)) (hpw : cells.Pairwise (fun p q => p.1 < q.1)) (hlt : ∀ p ∈ cells, ∀ q ∈ news, q.1 < p.1)
    (o7 : LCg.Off1 H (cells ++ news)) (hoff : OwnOff own (((H, X) :: (cells ++ news)).map (·.1))) :
    ∀ o', Upd D o o' (((H, X) :: ((A ++ (D, o) :: B) ++ news)) ++ own) (((H, X) :: ((A ++ (D, o') :: B) ++ news)) ++ own) := by
  intro o'
  have hpw' : ((A ++ (D, o) :: B).map (·.1)).Pairwise (fun a b : Nat => a < b) := by
    rw [hf]; exact List.pairwise_map.mpr hpw
  rw [List.map_append, List.map_cons] at hpw'
  obtain ⟨_, h2, h3⟩ := List.pairwise_append.mp hpw'
  obtain ⟨h4, _⟩ := List.pairwise_cons.mp h2
  have hD : ∃ q ∈ cells, q.1 = D := by
    have : D ∈ (A ++ (D, o) :: B).map (·.1) := by simp
    rw [hf] at this
    obtain ⟨q, hq, e⟩ := List.mem_map.mp this
    exact ⟨q, hq, e⟩
  obtain ⟨q, hq, rfl⟩ := hD
  have off1 : ∀ {l : List (Addr × Obj)}, LCg.Off1 H l → ∀ p ∈ l, p.1 ≠ H := by
    intro l
    induction l with
    | nil => intro _ p hp; cases hp
    | cons r l ih =>
      intro h p hp
      rcases List.mem_cons.mp hp with rfl | hp
      · exact h.1
      · exact ih h.2 p hp
  have e1 : ∀ o', ((H, X) :: ((A ++ (q.1, o') :: B) ++ news)) ++ own = ((H, X) :: A) ++ (q.1, o') :: (B ++ news ++ own) := by intro o'; simp
  rw [e1, e1]
  refine upd_mid ?_ ?_
  · intro p hp
    rcases List.mem_cons.mp hp with rfl | hp
    · exact fun e => off1 o7 q (List.mem_append.mpr (.inl hq)) e.symm
    · exact Nat.ne_of_lt (h3 p.1 (List.mem_map_of_mem hp) q.1 (.head _))
  · intro p hp
    rcases List.mem_append.mp hp with hp | hp
    · rcases List.mem_append.mp hp with hp | hp
      · exact Nat.ne_of_gt (h4 p.1 (List.mem_map_of_mem hp))
      · exact Nat.ne_of_lt (hlt q hq p hp)
    · exact hoff p hp q.1 (by simp only [List.map_cons, List.map_append]; exact List.mem_cons_of_mem _ (List.mem_append.mpr (.inl (List.mem_map_of_mem hq))))

/-- the heaps, all lengths heaped -/
noncomputable def HeapsF (ns : List Int) (cells : List (Addr × Obj)) : Prop :=
  ∀ (k : Nat) (p : Addr × Obj), cells[k]? = some p → ∃ ws c xs, p.2 = W.listOf ws.toArray c ∧ IntsAre ws xs ∧ xs.length = ns.count (k : Int)
theorem heaps_all {ns pre : List Int} {cells : List (Addr × Obj)} (hP : HeapsP ns pre cells) (h : pre.length = ns.length) : HeapsF ns cells := by
  intro k p hp
  obtain ⟨ws, c, xs, e1, e2, e3⟩ := hP k p hp
  rw [h, List.take_length] at e3
  exact ⟨ws, c, xs, e1, e2, e3⟩
theorem heapsF_at {ns : List Int} {cells cs9 : List (Addr × Obj)} {j : Nat} {v : Value} (hf : cs9.map (·.1) = cells.map (·.1)) (hF : HeapsF ns cs9) (hlen : ns.length ≤ 10) (hv : (cells.map fun p => Value.ref p.1)[j]? = some v) :
    ∃ A D ws c xs B, cs9 = A ++ (D, W.listOf ws.toArray c) :: B ∧ v = .ref D ∧ IntsAre ws xs ∧ xs.length = ns.count (j : Int) ∧ ws.length ≤ 10 := by
  have e : cells.map (fun p => Value.ref p.1) = cs9.map (fun p => Value.ref p.1) := by
    have := congrArg (List.map Value.ref) hf
    rw [List.map_map, List.map_map] at this
    exact this.symm
  rw [e, List.getElem?_map] at hv
  obtain ⟨p, hp, rfl⟩ := Option.map_eq_some_iff.mp hv
  have hj : j < cs9.length := (List.getElem?_eq_some_iff.mp hp).1
  obtain ⟨ws, c, xs, e1, e2, e3⟩ := hF j p hp
  have hn := List.count_le_length (a := (j : Int)) (l := ns)
  have ep : cs9[j] = p := (List.getElem?_eq_some_iff.mp hp).2
  refine ⟨cs9.take j, p.1, ws, c, xs, cs9.drop (j + 1), ?_, rfl, e2, e3, by rw [e2.length, e3]; omega⟩
  have e4 : (p.1, W.listOf ws.toArray c) = cs9[j] := by rw [ep]; exact Prod.ext rfl e1.symm
  rw [e4]; simp
/-- how many items lie from 1 to i -/
noncomputable def withUpto (ns : List Int) (i : Nat) : Nat := (ns.filter (fun n => decide (0 < n ∧ n ≤ (i : Int)))).length
theorem withUpto_zero (ns : List Int) : withUpto ns 0 = 0 := by
  unfold withUpto
  rw [List.length_eq_zero_iff, List.filter_eq_nil_iff]
  intro a _
  simp
  try omega
theorem withUpto_succ (ns : List Int) (i : Nat) : withUpto ns (i + 1) = withUpto ns i + ns.count ((i + 1 : Nat) : Int) := by
  induction ns with
  | nil => rfl
  | cons n r ih =>
    unfold withUpto at ih ⊢
    rw [List.filter_cons, List.filter_cons, List.count_cons]
    by_cases h1 : 0 < n ∧ n ≤ (i : Int)
    · rw [if_pos (decide_eq_true (A0.up1 h1)), if_pos (decide_eq_true h1), if_neg (fun h => A0.up4 h1 (beq_iff_eq.mp h)), List.length_cons, List.length_cons, ih, Nat.add_right_comm]
      rfl
    · by_cases h2 : n = ((i + 1 : Nat) : Int)
      · rw [if_pos (decide_eq_true (A0.up2 h2)), if_neg (A0.nd h1), if_pos (beq_iff_eq.mpr h2), List.length_cons, ih, Nat.add_assoc]
      · rw [if_neg (A0.nd (A0.up3 h1 h2)), if_neg (A0.nd h1), if_neg (fun h => h2 (beq_iff_eq.mp h)), ih]
        rfl
theorem withUpto_le (ns : List Int) (i : Nat) : withUpto ns i ≤ ns.length := List.length_filter_le _ _

section
variable {prog : Program} {w : World} {A : Around} {E : Value → Shared → Prop} {s : Shared} {h₀ : Heap} {L D b : Addr} {m : Str → Option Value} {news : List (Addr × Obj)} {nw : Nat → List (Addr × Obj)} {its its2 : Array Value} {n n2 : Nat}
theorem ext_any {Q : Value → Shared → Prop} (F : Fr h₀ L s.heap m) (N : News h₀ L s.heap news) (hb : (b, W.listOf its2 n2) ∈ news)
    (U : ∀ k, Upd D (W.listOf its n) (W.listOf (its.toList ++ its2.toList).toArray k) news (nw k)) (hz : its.size ≤ 1000) (hz2 : its2.size ≤ 1000)
    (h : ∀ k h', Fr h₀ L h' m → News h₀ L h' (nw k) → Q .none { s with heap := h' }) : wpAny (model prog w) A (call (.builtin "list.extend") [.ref D, .ref b]) Q E s := by
  have hs := PySem.sizeLine_eq
  have hnl : ¬(!its.isEmpty && Builtin.List.listTooLong (its.size + its2.size)) = true := by
    have : Builtin.List.listTooLong (its.size + its2.size) = false := by
      simp only [Builtin.List.listTooLong, decide_eq_false_iff_not]; omega
    rw [this]; simp
  by_cases e : its2.toList = []
  · have e2 : (its.toList ++ its2.toList).toArray = its := by rw [e]; simp
    exact kxn_extend F N hb e (by have := U n; rw [e2] at this; exact this) hnl (by rw [Array.length_toList, hs]; omega) (by rw [hs]; omega) fun h' F' N' => h _ h' F' N'
  · refine kl_extend F N hb rfl (by simpa using e) (U (n + 1)) hnl (by rw [Array.length_toList, hs]; omega) (by rw [hs]; omega) fun h' F' N' => h _ h' F' N'
end

end Mine

/-! part G8 -/
namespace Mine
set_option maxRecDepth 100000
set_option maxHeartbeats 4000000

section
variable {prog : Program} {w : World} {A : Around} {env : Env} {x : Str} {px : Pos} {body : List Stmt} {Q : Flow → Shared → Prop} {I : Addr}
/-- a loop over a range by what holds of the whole state between the turns; nothing is raised -/
theorem forLoop_range (hh : A.handled = none) (a : Int) (n : Nat) (Inv : Nat → Shared → Prop) (hI : ∀ i s, Inv i s → IsRangeIter s.heap I (a + (i : Int)) ((n : Int) - (i : Int)) 1)
    (turn : ∀ i s₁ h' (P : Flow → Shared → Prop), i < n → Inv i s₁ → IsRangeIter h' I (a + (i : Int) + 1) ((n : Int) - (i : Int) - 1) 1 → Heap.SameBut I s₁.heap h' → (∀ s₃, Inv (i + 1) s₃ → P .next s₃) →
      wpAny (model prog w) A (storeName env x (.int (a + (i : Int)) s₁.toks)) (fun _ s₂ => wpAny (model prog w) A (execs body env) P (fun _ _ => False) s₂) (fun _ _ => False) { s₁ with heap := h', toks := s₁.toks + 1 })
    (done : ∀ s₁ h', Inv n s₁ → Heap.ExtBut I s₁.heap h' → Q .next { s₁ with heap := h' }) {s : Shared} (h0 : Inv 0 s) :
    codeAny (model prog w) A (.forLoop (.Name x px) (.ref I) body [] env) (fun r s' => match r with | .ok f => Q f s' | .error e => cameBackBy (model prog w) A env (fun _ _ => False) e s') s := by
  refine codeAny_forLoop (fun k s' => ∃ i, i ≤ n ∧ k = n - i ∧ Inv i s') ?_ n ⟨0, Nat.zero_le _, rfl, h0⟩
  rintro k s' ⟨i, hi, rfl, hInv⟩
  by_cases hlt : i < n
  · refine wpAny_pyNext_range_item (hI i s' hInv) (by omega) fun h' hit hs => ?_
    refine wpAny_assign_Name (wpAny_mono (turn i s' h' (fun f s₃ => f = .next ∧ Inv (i + 1) s₃) hlt hInv hit hs fun _ h => ⟨rfl, h⟩) (fun _ s₂ h₂ => ?_) fun _ _ e => e.elim)
    refine wpAny_mono h₂ (fun f s₃ h₃ => ?_) fun _ _ e => e.elim
    obtain ⟨rfl, h₃⟩ := h₃
    exact ⟨n - (i + 1), by omega, i + 1, hlt, rfl, h₃⟩
  · obtain rfl : i = n := by omega
    exact wpAny_pyNext_range_end hh (hI i s' hInv) (by omega) fun h' he => wpAny_execs_nil (done s' h' hInv he)
end

/-- what is wanted behind a walk, as a letter -/
theorem post_of {α : Type} {M : Model} {A : Around} {E : Value → Shared → Prop} {s : Shared} {t : Sem α} {Q : α → Shared → Prop} (h : ∀ P : α → Shared → Prop, (∀ a s', Q a s' → P a s') → wpAny M A t P E s) : wpAny M A t Q E s := h Q fun _ _ x => x
/-- a place where the walk stops -/
noncomputable def Hold (P : Prop) : Prop := P
theorem Hold.out {P : Prop} (h : Hold P) : P := h
theorem Hold.of {P : Prop} (h : P) : Hold P := h

/-- a range's iterator -/
noncomputable abbrev rIter (x left : Int) : Obj := { cls := .type "range_iterator", dict := none, data := .fields #[rawInt x, rawInt left, rawInt 1], slots := #[] }
section
variable {h₀ h h' : Heap} {L D : Addr} {m : Str → Option Value} {news : List (Addr × Obj)} {o o' : Obj}
/-- the first object of the ledger turns -/
theorem turn_head (F : Fr h₀ L h m) (N : News h₀ L h ((D, o) :: news)) (hn : ∀ p ∈ news, p.1 ≠ D) (hs : Heap.SameBut D h h') (ho : h'.get? D = some o') : Fr h₀ L h' m ∧ News h₀ L h' ((D, o') :: news) := by
  have z := N (D, o) (.head _)
  exact ⟨F.change hs z.2.1 z.2.2, news_set (pre := []) N (fun _ hp => nomatch hp) hn hs ho⟩
/-- the first object of the ledger goes -/
theorem drop_head (F : Fr h₀ L h m) (N : News h₀ L h ((D, o) :: news)) (hn : ∀ p ∈ news, p.1 ≠ D) (hs : Heap.ExtBut D h h') : Fr h₀ L h' m ∧ News h₀ L h' news := by
  have z := N (D, o) (.head _)
  refine ⟨⟨F.ns.at' fun o e => hs L o (Ne.symm z.2.1) e, fun b o e => hs b o (fun q => ?_) (F.keep b o e), F.above⟩, fun p hp => ⟨hs p.1 p.2 (hn p hp) (N p (.tail _ hp)).1, (N p (.tail _ hp)).2⟩⟩
  rw [q, z.2.2] at e; cases e
end

theorem fr_put {h₀ h : Heap} {L : Addr} {x : Str} {v : Option Value} {u m : Str → Option Value} (F : Fr h₀ L h (fun y => if y = x then v else if y = x then u y else m y)) : Fr h₀ L h (fun y => if y = x then v else m y) := by
  have e : (fun y => if y = x then v else if y = x then u y else m y) = fun y => if y = x then v else m y := by
    funext y
    by_cases hy : y = x
    · rw [if_pos hy, if_pos hy]
    · rw [if_neg hy, if_neg hy, if_neg hy]
  rw [e] at F
  exact F
theorem fr_same {h₀ h : Heap} {L : Addr} {x : Str} {v : Option Value} {m : Str → Option Value} (F : Fr h₀ L h m) (hx : m x = v) : Fr h₀ L h (fun y => if y = x then v else m y) := by
  have e : (fun y => if y = x then v else m y) = m := by
    funext y
    by_cases hy : y = x
    · rw [if_pos hy, hy, hx]
    · rw [if_neg hy]
  rw [e]
  exact F

theorem fr_off {h₀ h : Heap} {L : Addr} {x : Str} {v : Option Value} {m₁ m : Str → Option Value} (F : Fr h₀ L h (fun y => if y = x then v else m₁ y)) (e : ∀ y, y ≠ x → m y = m₁ y) : Fr h₀ L h (fun y => if y = x then v else m y) := by
  have e : (fun y => if y = x then v else m y) = fun y => if y = x then v else m₁ y := by
    funext y
    by_cases hy : y = x
    · rw [if_pos hy, if_pos hy]
    · rw [if_neg hy, if_neg hy, e y hy]
  rw [e]
  exact F

end Mine

/-! part M1 -/
namespace Mine
set_option maxRecDepth 100000
set_option maxHeartbeats 8000000

/-- the greatest of 0 and the items -/
noncomputable def gmax : List Int → Int
  | [] => 0
  | x :: r => max x (gmax r)

theorem gmax_nonneg : ∀ ns : List Int, 0 ≤ gmax ns
  | [] => Int.le_refl _
  | x :: r => by have := gmax_nonneg r; simp only [gmax]; omega
theorem gmax_ge : ∀ {ns : List Int} {x : Int}, x ∈ ns → x ≤ gmax ns
  | y :: r, x, h => by
    simp only [gmax]
    rcases List.mem_cons.mp h with rfl | h
    · omega
    · have := gmax_ge h; omega
theorem gmax_mem : ∀ ns : List Int, gmax ns ∈ 0 :: ns
  | [] => .head _
  | x :: r => by
    simp only [gmax]
    have ih := gmax_mem r
    by_cases h : gmax r ≤ x
    · rw [Int.max_eq_left h]; simp
    · rw [Int.max_eq_right (by omega)]
      rcases List.mem_cons.mp ih with e | e
      · rw [e]; simp
      · simp [e]
theorem gmax_eq {ns : List Int} {M : Int} (h1 : M ∈ 0 :: ns) (h2 : ∀ x ∈ 0 :: ns, x ≤ M) : M = gmax ns := by
  have a := h2 _ (gmax_mem ns)
  have b : M ≤ gmax ns := by
    rcases List.mem_cons.mp h1 with rfl | h
    · exact gmax_nonneg _
    · exact gmax_ge h
  omega

theorem news_sub {h₀ h : Heap} {L : Addr} {l l' : List (Addr × Obj)} (N : News h₀ L h l) (hs : ∀ p ∈ l', p ∈ l) : News h₀ L h l' := fun p hp => N p (hs p hp)


theorem c_greatest {prog p : Program} {w : World} {loose : List Str} {mean : ExcName → Option Value} {mg mb : Str → Option Value}
    {dp un : Nat} {gd : Option (List Code)} {cn : Str} {cs : Scope} {a : Addr} {ccd : Value} {cl : List (Str × Addr)} {outer : List Env} {A₀ : Around} {base h₀ : Heap} {L : Addr} {m : Str → Option Value} {s : Shared} {Q E : Value → Shared → Prop}
    {news : List (Addr × Obj)}
    (B : Below A₀ base outer h₀) (F : Fr h₀ L s.heap m) (X : (tp.heap_39 w.params).In h₀) (N : News h₀ L s.heap news) (T : Top p loose mean mg mb h₀) (hk : cs.kind = .function)
    {l : Addr} {vs : List Value} {ns : List Int} {c : Nat} (hm : (l, W.listOf vs.toArray c) ∈ news) (hi : IntsAre vs ns) (hlen : ns.length ≤ 10)
    (hd : dp + 4 < recursionLimit) (hu : un + 20 < cLine)
    (ret : ∀ (t : Tok) (h' : Heap) (tk' : Nat), Fr h₀ L h' m → News h₀ L h' news → Q (.int (gmax ns) t) { s with heap := h', toks := tk' }) :
    wpAny (model prog w) (ktrTop dp un gd cn cs L a ccd cl outer) (call (.ref 61) [.ref l]) Q E s := by
  have hvl := hi.length
  k_with_none
  k_with "m mem" => first | assumption | exact List.mem_cons_self | (refine List.mem_cons_of_mem _ ?_; walk_at "m mem")
  k_with "m all" => first | (refine List.forall_mem_cons.mpr ⟨by walk_at "m mem", ?_⟩; walk_at "m all") | exact List.forall_mem_nil _ | (intro q9 hq9; walk_at "m mem")
  k_with "m sub" => (refine news_sub (by assumption) ?_; walk_at "m all")
  k_with "InvEndN" => k_dflt kst_close
  k_with "ktr_room" => ((try simp only [depth_mark, depth_under_make, depth_under_kw, depth_in1, depth_deeper, depth_caller]); (try dsimp only [ktrTop]); first | decide | (rename (_ + _ < recursionLimit) => hd9; refine Nat.lt_of_le_of_lt ?_ hd9; (try simp only [Nat.add_assoc]); exact Nat.add_le_add_left (by decide) _) | omega)
  k_with "ktr_units" => ((try simp only [units_under_make, units_in1, units_deeper, Around.mark_units, units_caller]); (try dsimp only [ktrTop]); first | decide | (rename (_ + _ < cLine) => hu9; refine Nat.lt_of_le_of_lt ?_ hu9; (try simp only [Nat.add_assoc]); exact Nat.add_le_add_left (by decide) _) | omega)
  k_with "call ref" => (k_extra "cA"; intro _ _ _ _ _; (try dsimp only); (try k_sweep))
  k_with "call ref" => (k_extra "cB"; intro _ _ _ _; (try dsimp only); (try k_sweep))
  k_with "call ref" => (k_extra "cH"; refine Hold.out ?_)
  k_with "om" => with_reducible first | exact A0.c1 (by assumption) | exact A0.c2 (by assumption) | exact A0.c3 (by assumption) | exact A0.c4 (by assumption) | exact A0.c5 (by assumption) | exact A0.c6 (by assumption) | exact A0.c7 (by assumption) | exact A0.e2 (by assumption) | exact A0.e3 (by assumption) | exact A0.e4 (by assumption) | exact A0.e5 (by assumption) | exact A0.e6 (by assumption) | exact A0.e7 (by assumption) | exact Nat.le_trans (by assumption) (by decide)
  k_with "k_mem" => first | assumption | (refine List.mem_cons_of_mem _ ?_; k_mem)
  k_with "news_mem" => k_mem
  k_with "k_memK" => first | assumption | (refine List.mem_cons_of_mem _ ?_; k_memK)
  w_top off
  have kf : Challenge.rw_og0142_01.prog = Challenge.rw_og0142_01.prog ∧ tp.heap_39 = tp.heap_39 := by (k_fill; exact ⟨rfl, rfl⟩)
  clear kf
  refine wpAny_call ?_
  k_dflt ktr_enter
  k_steps
  rename_i M' t' k' h' F' N' a' b' kF kN Tc' kX
  have e := gmax_eq (ns := ns) a' b'
  subst e
  exact ret _ _ _ kF (by walk_at "m sub")

end Mine

/-! part M2 -/
namespace Mine
set_option maxRecDepth 100000
set_option maxHeartbeats 8000000

/-- how many of the items are 1, 2, .. g; none is told of 0 -/
noncomputable def tallyG (g : Nat) (pre : List Int) : List Int := (List.range (g + 1)).map fun k : Nat => if k = 0 then 0 else (pre.count (k : Int) : Int)
noncomputable def tallyZ (ns : List Int) : List Int := tallyG (gmax ns).toNat ns
theorem tallyG_length {g : Nat} {pre : List Int} : (tallyG g pre).length = g + 1 := by simp [tallyG]
theorem tally_start {g : Int} (h : 0 ≤ g) : (List.replicate (g + 1).toNat [(0 : Int)]).flatten.length = g.toNat + 1 ∧ (List.replicate (g + 1).toNat [(0 : Int)]).flatten = tallyG g.toNat [] := by
  have e : (g + 1).toNat = g.toNat + 1 := A0.tn_one h
  rw [e]
  have r : ∀ n : Nat, (List.replicate n [(0 : Int)]).flatten = List.replicate n 0 := by
    intro n
    induction n with
    | zero => rfl
    | succ n ih => rw [List.replicate_succ, List.flatten_cons, ih]; rfl
  rw [r]
  refine ⟨by simp, ?_⟩
  apply List.ext_getElem
  · simp [tallyG]
  · intro i h1 h2
    simp [tallyG]
theorem tally_skip {g : Int} {n : Int} {tally pre : List Int} (h : tally = tallyG g.toNat pre) (h0 : ¬ 0 < n) : tally.length = g.toNat + 1 ∧ tally = tallyG g.toNat (pre ++ [n]) := by
  subst h
  refine ⟨tallyG_length, ?_⟩
  apply List.ext_getElem
  · simp [tallyG]
  · intro i h1 h2
    simp only [tallyG, List.getElem_map, List.getElem_range, List.count_append]
    by_cases hi : i = 0
    · simp [hi]
    · have : List.count (i : Int) [n] = 0 := by
        rw [List.count_eq_zero]; intro hm; rw [List.mem_singleton] at hm; exact h0 (hm ▸ Int.natCast_pos.mpr (Nat.pos_of_ne_zero hi))
      simp [hi, this]
theorem tally_turn {g : Int} {n : Int} {tally pre : List Int} (h : tally = tallyG g.toNat pre) (h0 : 0 < n) (h1 : n ≤ g) :
    (tally.set n.toNat (tally.getD n.toNat 0 + 1)).length = g.toNat + 1 ∧ tally.set n.toNat (tally.getD n.toNat 0 + 1) = tallyG g.toNat (pre ++ [n]) := by
  subst h
  refine ⟨by rw [List.length_set]; exact tallyG_length, ?_⟩
  have hn : n.toNat < g.toNat + 1 := A0.tn_lt1 h1
  have hv : (tallyG g.toNat pre).getD n.toNat 0 = (pre.count n : Int) := by
    have e : ((n.toNat : Nat) : Int) = n := Int.toNat_of_nonneg (Int.le_of_lt h0)
    simp only [tallyG, List.getD_eq_getElem?_getD, List.getElem?_map, List.getElem?_range hn, Option.map_some, Option.getD_some]
    rw [if_neg (Nat.pos_iff_ne_zero.mp (Int.pos_iff_toNat_pos.mp h0)), e]
  rw [hv]
  apply List.ext_getElem
  · simp [tallyG]
  · intro i h1 h2
    rw [List.getElem_set]
    simp only [tallyG, List.getElem_map, List.getElem_range, List.count_append]
    by_cases hi : n.toNat = i
    · rw [if_pos hi, if_neg (hi ▸ Nat.pos_iff_ne_zero.mp (Int.pos_iff_toNat_pos.mp h0))]
      have e : (i : Int) = n := A0.i_of (Int.le_of_lt h0) hi
      rw [e]; simp
    · rw [if_neg hi]
      by_cases hz : i = 0
      · simp [hz]
      · have : List.count (i : Int) [n] = 0 := by
          rw [List.count_eq_zero]; intro hm; rw [List.mem_singleton] at hm; exact hi (A0.tn_of hm)
        simp [hz, this]


theorem c_tally {prog p : Program} {w : World} {loose : List Str} {mean : ExcName → Option Value} {mg mb : Str → Option Value}
    {dp un : Nat} {gd : Option (List Code)} {cn : Str} {cs : Scope} {a : Addr} {ccd : Value} {cl : List (Str × Addr)} {outer : List Env} {A₀ : Around} {base h₀ : Heap} {L : Addr} {m : Str → Option Value} {s : Shared} {Q E : Value → Shared → Prop}
    {news : List (Addr × Obj)}
    (B : Below A₀ base outer h₀) (F : Fr h₀ L s.heap m) (X : (tp.heap_39 w.params).In h₀) (N : News h₀ L s.heap news) (T : Top p loose mean mg mb h₀) (hk : cs.kind = .function)
    {l : Addr} {vs : List Value} {ns : List Int} {c : Nat} (hm : (l, W.listOf vs.toArray c) ∈ news) (hi : IntsAre vs ns) (hlen : ns.length ≤ 10) (hb : ∀ x ∈ ns, 0 ≤ x ∧ x ≤ 6)
    (hd : dp + 8 < recursionLimit) (hu : un + 40 < cLine)
    (ret : ∀ (D : Addr) (ws : List Value) (c : Nat) (h' : Heap) (tk' : Nat), Fr h₀ L h' m → News h₀ L h' ((D, W.listOf ws.toArray c) :: news) → (∀ p ∈ news, p.1 < D) → IntsAre ws (tallyZ ns) → Q (.ref D) { s with heap := h', toks := tk' }) :
    wpAny (model prog w) (ktrTop dp un gd cn cs L a ccd cl outer) (call (.ref 68) [.ref l]) Q E s := by
  have hvl := hi.length
  have hg0 := gmax_nonneg ns
  have hg6 : gmax ns ≤ 6 := by
    rcases List.mem_cons.mp (gmax_mem ns) with e | e
    · omega
    · exact (hb _ e).2
  k_with_none
  k_with "m mem" => first | assumption | exact List.mem_cons_self | (refine List.mem_cons_of_mem _ ?_; walk_at "m mem")
  k_with "m all" => first | (refine List.forall_mem_cons.mpr ⟨by walk_at "m mem", ?_⟩; walk_at "m all") | exact List.forall_mem_nil _ | (intro q9 hq9; walk_at "m mem")
  k_with "m sub" => (refine news_sub (by assumption) ?_; walk_at "m all")
  k_with "InvEndN" => k_dflt kst_close
  k_with "ktr_room" => ((try simp only [depth_mark, depth_under_make, depth_under_kw, depth_in1, depth_deeper, depth_caller]); (try dsimp only [ktrTop]); first | decide | (rename (_ + _ < recursionLimit) => hd9; refine Nat.lt_of_le_of_lt ?_ hd9; (try simp only [Nat.add_assoc]); exact Nat.add_le_add_left (by decide) _) | omega)
  k_with "ktr_units" => ((try simp only [units_under_make, units_in1, units_deeper, Around.mark_units, units_caller]); (try dsimp only [ktrTop]); first | decide | (rename (_ + _ < cLine) => hu9; refine Nat.lt_of_le_of_lt ?_ hu9; (try simp only [Nat.add_assoc]); exact Nat.add_le_add_left (by decide) _) | omega)
  k_with "call ref" => (k_extra "cA"; intro _ _ _ _ _; (try dsimp only); (try k_sweep))
  k_with "call ref" => (k_extra "cB"; intro _ _ _ _; (try dsimp only); (try k_sweep))
  k_with "call ref" => (k_extra "cH"; refine Hold.out ?_)
  k_with "om" => with_reducible first | exact A0.c1 (by assumption) | exact A0.c2 (by assumption) | exact A0.c3 (by assumption) | exact A0.c4 (by assumption) | exact A0.c5 (by assumption) | exact A0.c6 (by assumption) | exact A0.c7 (by assumption) | exact A0.e2 (by assumption) | exact A0.e3 (by assumption) | exact A0.e4 (by assumption) | exact A0.e5 (by assumption) | exact A0.e6 (by assumption) | exact A0.e7 (by assumption) | exact Nat.le_trans (by assumption) (by decide)
  k_with "k_mem" => first | assumption | (refine List.mem_cons_of_mem _ ?_; k_mem)
  k_with "news_mem" => k_mem
  k_with "k_memK" => first | assumption | (refine List.mem_cons_of_mem _ ?_; k_memK)
  k_with "ksa_idx" => ((try simp only [List.length_set]); first | exact A0.idx (by assumption) (gmax_ge (by assumption)) | ((have hx9 := gmax_ge (by assumption)); omega))
  w_top off
  have kf : Challenge.rw_og0142_01.prog = Challenge.rw_og0142_01.prog ∧ tp.heap_39 = tp.heap_39 := by (k_fill; exact ⟨rfl, rfl⟩)
  clear kf
  refine wpAny_call ?_
  k_dflt ktr_enter
  k_with "cA" => ((with_reducible show wpAny _ _ (call (Value.ref 61) [Value.ref _]) _ _ _); k_dflt (refine c_greatest (by k_asm) (by k_asm) (by k_asm) (by k_asm) (by k_asm) (by first | exact rfl | assumption) (by k_mem) (by assumption) (by omega) (by ktr_room) (by ktr_units) ?_))
  k_with "state" => first | exact tally_start (by assumption) | exact tally_turn (by assumption) (by assumption) (gmax_ge (by assumption)) | exact tally_skip (by assumption) (by assumption)
  k_with "pyIter ref" => k_dflt (k_state (fun pre tally => tally.length = (gmax ns).toNat + 1 ∧ tally = tallyG (gmax ns).toNat pre) "tally")
  k_steps
  rename Fr h₀ L _ m => kF
  rename News h₀ L _ _ => kN
  rename _ = tallyG _ ns => e
  rename _ ∧ AllLt _ news => hlt
  subst e
  refine' ret _ _ _ _ _ kF ?hN (tb_ltOf hlt.2) ?hI
  case hI => assumption
  case hN => walk_at "m sub"

end Mine

/-! part M3 -/
namespace Mine
set_option maxRecDepth 100000
set_option maxHeartbeats 8000000

/-- the room that the counts leave -/
noncomputable def roomF (pre : List Int) : Int := pre.foldl (fun r t => 2 * r - t) 1
noncomputable def roomZ (ns : List Int) : Int := roomF ((tallyZ ns).drop 1)
theorem tallyZ_length (ns : List Int) : (tallyZ ns).length = (gmax ns).toNat + 1 := tallyG_length
theorem roomF_snoc {pre : List Int} {n r : Int} (h : r = roomF pre) : 2 * r - n = roomF (pre ++ [n]) := by
  subst h; simp [roomF, List.foldl_append]
theorem gmax_le {ns : List Int} {b : Int} (h0 : 0 ≤ b) (h : ∀ x ∈ ns, 0 ≤ x ∧ x ≤ b) : gmax ns ≤ b := by
  rcases List.mem_cons.mp (gmax_mem ns) with e | e
  · omega
  · exact (h _ e).2


theorem c_room {prog p : Program} {w : World} {loose : List Str} {mean : ExcName → Option Value} {mg mb : Str → Option Value}
    {dp un : Nat} {gd : Option (List Code)} {cn : Str} {cs : Scope} {a : Addr} {ccd : Value} {cl : List (Str × Addr)} {outer : List Env} {A₀ : Around} {base h₀ : Heap} {L : Addr} {m : Str → Option Value} {s : Shared} {Q E : Value → Shared → Prop}
    {news : List (Addr × Obj)}
    (B : Below A₀ base outer h₀) (F : Fr h₀ L s.heap m) (X : (tp.heap_39 w.params).In h₀) (N : News h₀ L s.heap news) (T : Top p loose mean mg mb h₀) (hk : cs.kind = .function)
    {l : Addr} {vs : List Value} {ns : List Int} {c : Nat} (hm : (l, W.listOf vs.toArray c) ∈ news) (hi : IntsAre vs ns) (hlen : ns.length ≤ 10) (hb : ∀ x ∈ ns, 0 ≤ x ∧ x ≤ 6)
    (hd : dp + 12 < recursionLimit) (hu : un + 60 < cLine)
    (ret : ∀ (t : Tok) (h' : Heap) (tk' : Nat), Fr h₀ L h' m → News h₀ L h' news → Q (.int (roomZ ns) t) { s with heap := h', toks := tk' }) :
    wpAny (model prog w) (ktrTop dp un gd cn cs L a ccd cl outer) (call (.ref 75) [.ref l]) Q E s := by
  have hvl := hi.length
  have htl := tallyZ_length ns
  have hg6 := gmax_le (by decide) hb
  k_with_none
  k_with "m mem" => first | assumption | exact List.mem_cons_self | (refine List.mem_cons_of_mem _ ?_; walk_at "m mem")
  k_with "m all" => first | (refine List.forall_mem_cons.mpr ⟨by walk_at "m mem", ?_⟩; walk_at "m all") | exact List.forall_mem_nil _ | (intro q9 hq9; walk_at "m mem")
  k_with "m sub" => (refine news_sub (by assumption) ?_; walk_at "m all")
  k_with "InvEndN" => k_dflt kst_close
  k_with "ktr_room" => ((try simp only [depth_mark, depth_under_make, depth_under_kw, depth_in1, depth_deeper, depth_caller]); (try dsimp only [ktrTop]); first | decide | (rename (_ + _ < recursionLimit) => hd9; refine Nat.lt_of_le_of_lt ?_ hd9; (try simp only [Nat.add_assoc]); exact Nat.add_le_add_left (by decide) _) | omega)
  k_with "ktr_units" => ((try simp only [units_under_make, units_in1, units_deeper, Around.mark_units, units_caller]); (try dsimp only [ktrTop]); first | decide | (rename (_ + _ < cLine) => hu9; refine Nat.lt_of_le_of_lt ?_ hu9; (try simp only [Nat.add_assoc]); exact Nat.add_le_add_left (by decide) _) | omega)
  k_with "call ref" => (k_extra "cA"; intro _ _ _ _ _; (try dsimp only); (try k_sweep))
  k_with "call ref" => (k_extra "cB"; intro _ _ _ _; (try dsimp only); (try k_sweep))
  k_with "call ref" => (k_extra "cH"; refine Hold.out ?_)
  k_with "om" => with_reducible first | exact A0.c1 (by assumption) | exact A0.c2 (by assumption) | exact A0.c3 (by assumption) | exact A0.c4 (by assumption) | exact A0.c5 (by assumption) | exact A0.c6 (by assumption) | exact A0.c7 (by assumption) | exact A0.e2 (by assumption) | exact A0.e3 (by assumption) | exact A0.e4 (by assumption) | exact A0.e5 (by assumption) | exact A0.e6 (by assumption) | exact A0.e7 (by assumption) | exact Nat.le_trans (by assumption) (by decide)
  k_with "k_mem" => first | assumption | (refine List.mem_cons_of_mem _ ?_; k_mem)
  k_with "news_mem" => k_mem
  k_with "k_memK" => first | assumption | (refine List.mem_cons_of_mem _ ?_; k_memK)
  w_top off
  have kf : Challenge.rw_og0142_01.prog = Challenge.rw_og0142_01.prog ∧ tp.heap_39 = tp.heap_39 := by (k_fill; exact ⟨rfl, rfl⟩)
  clear kf
  refine wpAny_call ?_
  k_dflt ktr_enter
  k_with "cA" => ((with_reducible show wpAny _ _ (call (Value.ref 61) [Value.ref _]) _ _ _); k_dflt (refine c_greatest (by k_asm) (by k_asm) (by k_asm) (by k_asm) (by k_asm) (by first | exact rfl | assumption) (by k_mem) (by assumption) (by omega) (by ktr_room) (by ktr_units) ?_))
  k_with "cC" => ((with_reducible show wpAny _ _ (call (Value.ref 68) [Value.ref _]) _ _ _); k_dflt (refine c_tally (by k_asm) (by k_asm) (by k_asm) (by k_asm) (by k_asm) (by first | exact rfl | assumption) (by k_mem) (by assumption) (by omega) (by assumption) (by ktr_room) (by ktr_units) ?_))
  k_with "state" => first | rfl | exact roomF_snoc (by assumption)
  k_with "pyIter ref" => k_dflt (k_state (fun pre room => room = roomF pre) "room")
  k_steps
  rename Fr h₀ L _ m => kF
  rename News h₀ L _ _ => kN
  rename _ = roomF (List.drop 1 _) => e
  subst e
  exact ret _ _ _ kF (by walk_at "m sub")

theorem c_full {prog p : Program} {w : World} {loose : List Str} {mean : ExcName → Option Value} {mg mb : Str → Option Value}
    {dp un : Nat} {gd : Option (List Code)} {cn : Str} {cs : Scope} {a : Addr} {ccd : Value} {cl : List (Str × Addr)} {outer : List Env} {A₀ : Around} {base h₀ : Heap} {L : Addr} {m : Str → Option Value} {s : Shared} {Q E : Value → Shared → Prop}
    {news : List (Addr × Obj)}
    (B : Below A₀ base outer h₀) (F : Fr h₀ L s.heap m) (X : (tp.heap_39 w.params).In h₀) (N : News h₀ L s.heap news) (T : Top p loose mean mg mb h₀) (hk : cs.kind = .function)
    {l : Addr} {vs : List Value} {ns : List Int} {c : Nat} (hm : (l, W.listOf vs.toArray c) ∈ news) (hi : IntsAre vs ns) (hlen : ns.length ≤ 10) (hb : ∀ x ∈ ns, 0 ≤ x ∧ x ≤ 6)
    (hd : dp + 16 < recursionLimit) (hu : un + 80 < cLine)
    (ret : ∀ (h' : Heap) (tk' : Nat), Fr h₀ L h' m → News h₀ L h' news → Q (.bool (roomZ ns == 0)) { s with heap := h', toks := tk' }) :
    wpAny (model prog w) (ktrTop dp un gd cn cs L a ccd cl outer) (call (.ref 82) [.ref l]) Q E s := by
  have hvl := hi.length
  k_with_none
  k_with "m mem" => first | assumption | exact List.mem_cons_self | (refine List.mem_cons_of_mem _ ?_; walk_at "m mem")
  k_with "m all" => first | (refine List.forall_mem_cons.mpr ⟨by walk_at "m mem", ?_⟩; walk_at "m all") | exact List.forall_mem_nil _ | (intro q9 hq9; walk_at "m mem")
  k_with "m sub" => (refine news_sub (by assumption) ?_; walk_at "m all")
  k_with "InvEndN" => k_dflt kst_close
  k_with "ktr_room" => ((try simp only [depth_mark, depth_under_make, depth_under_kw, depth_in1, depth_deeper, depth_caller]); (try dsimp only [ktrTop]); first | decide | (rename (_ + _ < recursionLimit) => hd9; refine Nat.lt_of_le_of_lt ?_ hd9; (try simp only [Nat.add_assoc]); exact Nat.add_le_add_left (by decide) _) | omega)
  k_with "ktr_units" => ((try simp only [units_under_make, units_in1, units_deeper, Around.mark_units, units_caller]); (try dsimp only [ktrTop]); first | decide | (rename (_ + _ < cLine) => hu9; refine Nat.lt_of_le_of_lt ?_ hu9; (try simp only [Nat.add_assoc]); exact Nat.add_le_add_left (by decide) _) | omega)
  k_with "call ref" => (k_extra "cA"; intro _ _ _ _ _; (try dsimp only); (try k_sweep))
  k_with "call ref" => (k_extra "cB"; intro _ _ _ _; (try dsimp only); (try k_sweep))
  k_with "call ref" => (k_extra "cH"; refine Hold.out ?_)
  k_with "om" => with_reducible first | exact A0.c1 (by assumption) | exact A0.c2 (by assumption) | exact A0.c3 (by assumption) | exact A0.c4 (by assumption) | exact A0.c5 (by assumption) | exact A0.c6 (by assumption) | exact A0.c7 (by assumption) | exact A0.e2 (by assumption) | exact A0.e3 (by assumption) | exact A0.e4 (by assumption) | exact A0.e5 (by assumption) | exact A0.e6 (by assumption) | exact A0.e7 (by assumption) | exact Nat.le_trans (by assumption) (by decide)
  k_with "k_mem" => first | assumption | (refine List.mem_cons_of_mem _ ?_; k_mem)
  k_with "news_mem" => k_mem
  k_with "k_memK" => first | assumption | (refine List.mem_cons_of_mem _ ?_; k_memK)
  w_top off
  have kf : Challenge.rw_og0142_01.prog = Challenge.rw_og0142_01.prog ∧ tp.heap_39 = tp.heap_39 := by (k_fill; exact ⟨rfl, rfl⟩)
  clear kf
  refine wpAny_call ?_
  k_dflt ktr_enter
  k_with "cA" => ((with_reducible show wpAny _ _ (call (Value.ref 61) [Value.ref _]) _ _ _); k_dflt (refine c_greatest (by k_asm) (by k_asm) (by k_asm) (by k_asm) (by k_asm) (by first | exact rfl | assumption) (by k_mem) (by assumption) (by omega) (by ktr_room) (by ktr_units) ?_))
  k_with "cC" => ((with_reducible show wpAny _ _ (call (Value.ref 68) [Value.ref _]) _ _ _); k_dflt (refine c_tally (by k_asm) (by k_asm) (by k_asm) (by k_asm) (by k_asm) (by first | exact rfl | assumption) (by k_mem) (by assumption) (by omega) (by assumption) (by ktr_room) (by ktr_units) ?_))
  k_with "cA" => ((with_reducible show wpAny _ _ (call (Value.ref 75) [Value.ref _]) _ _ _); k_dflt (refine c_room (by k_asm) (by k_asm) (by k_asm) (by k_asm) (by k_asm) (by first | exact rfl | assumption) (by k_mem) (by assumption) (by first | omega | (simp only [List.length_append, List.length_cons, List.length_nil, List.length_reverse] at *; omega)) (by assumption) (by ktr_room) (by ktr_units) ?_))
  k_steps
  exact ret _ _ (by assumption) (by assumption)

theorem c_over {prog p : Program} {w : World} {loose : List Str} {mean : ExcName → Option Value} {mg mb : Str → Option Value}
    {dp un : Nat} {gd : Option (List Code)} {cn : Str} {cs : Scope} {a : Addr} {ccd : Value} {cl : List (Str × Addr)} {outer : List Env} {A₀ : Around} {base h₀ : Heap} {L : Addr} {m : Str → Option Value} {s : Shared} {Q E : Value → Shared → Prop}
    {news : List (Addr × Obj)}
    (B : Below A₀ base outer h₀) (F : Fr h₀ L s.heap m) (X : (tp.heap_39 w.params).In h₀) (N : News h₀ L s.heap news) (T : Top p loose mean mg mb h₀) (hk : cs.kind = .function)
    {l : Addr} {vs : List Value} {ns : List Int} {c : Nat} (hm : (l, W.listOf vs.toArray c) ∈ news) (hi : IntsAre vs ns) (hlen : ns.length ≤ 10) (hb : ∀ x ∈ ns, 0 ≤ x ∧ x ≤ 6)
    (hd : dp + 16 < recursionLimit) (hu : un + 80 < cLine)
    (ret : ∀ (h' : Heap) (tk' : Nat), Fr h₀ L h' m → News h₀ L h' news → Q (.bool (decide (roomZ ns < 0))) { s with heap := h', toks := tk' }) :
    wpAny (model prog w) (ktrTop dp un gd cn cs L a ccd cl outer) (call (.ref 89) [.ref l]) Q E s := by
  have hvl := hi.length
  k_with_none
  k_with "m mem" => first | assumption | exact List.mem_cons_self | (refine List.mem_cons_of_mem _ ?_; walk_at "m mem")
  k_with "m all" => first | (refine List.forall_mem_cons.mpr ⟨by walk_at "m mem", ?_⟩; walk_at "m all") | exact List.forall_mem_nil _ | (intro q9 hq9; walk_at "m mem")
  k_with "m sub" => (refine news_sub (by assumption) ?_; walk_at "m all")
  k_with "InvEndN" => k_dflt kst_close
  k_with "ktr_room" => ((try simp only [depth_mark, depth_under_make, depth_under_kw, depth_in1, depth_deeper, depth_caller]); (try dsimp only [ktrTop]); first | decide | (rename (_ + _ < recursionLimit) => hd9; refine Nat.lt_of_le_of_lt ?_ hd9; (try simp only [Nat.add_assoc]); exact Nat.add_le_add_left (by decide) _) | omega)
  k_with "ktr_units" => ((try simp only [units_under_make, units_in1, units_deeper, Around.mark_units, units_caller]); (try dsimp only [ktrTop]); first | decide | (rename (_ + _ < cLine) => hu9; refine Nat.lt_of_le_of_lt ?_ hu9; (try simp only [Nat.add_assoc]); exact Nat.add_le_add_left (by decide) _) | omega)
  k_with "call ref" => (k_extra "cA"; intro _ _ _ _ _; (try dsimp only); (try k_sweep))
  k_with "call ref" => (k_extra "cB"; intro _ _ _ _; (try dsimp only); (try k_sweep))
  k_with "call ref" => (k_extra "cH"; refine Hold.out ?_)
  k_with "om" => with_reducible first | exact A0.c1 (by assumption) | exact A0.c2 (by assumption) | exact A0.c3 (by assumption) | exact A0.c4 (by assumption) | exact A0.c5 (by assumption) | exact A0.c6 (by assumption) | exact A0.c7 (by assumption) | exact A0.e2 (by assumption) | exact A0.e3 (by assumption) | exact A0.e4 (by assumption) | exact A0.e5 (by assumption) | exact A0.e6 (by assumption) | exact A0.e7 (by assumption) | exact Nat.le_trans (by assumption) (by decide)
  k_with "k_mem" => first | assumption | (refine List.mem_cons_of_mem _ ?_; k_mem)
  k_with "news_mem" => k_mem
  k_with "k_memK" => first | assumption | (refine List.mem_cons_of_mem _ ?_; k_memK)
  w_top off
  have kf : Challenge.rw_og0142_01.prog = Challenge.rw_og0142_01.prog ∧ tp.heap_39 = tp.heap_39 := by (k_fill; exact ⟨rfl, rfl⟩)
  clear kf
  refine wpAny_call ?_
  k_dflt ktr_enter
  k_with "cA" => ((with_reducible show wpAny _ _ (call (Value.ref 61) [Value.ref _]) _ _ _); k_dflt (refine c_greatest (by k_asm) (by k_asm) (by k_asm) (by k_asm) (by k_asm) (by first | exact rfl | assumption) (by k_mem) (by assumption) (by omega) (by ktr_room) (by ktr_units) ?_))
  k_with "cC" => ((with_reducible show wpAny _ _ (call (Value.ref 68) [Value.ref _]) _ _ _); k_dflt (refine c_tally (by k_asm) (by k_asm) (by k_asm) (by k_asm) (by k_asm) (by first | exact rfl | assumption) (by k_mem) (by assumption) (by omega) (by assumption) (by ktr_room) (by ktr_units) ?_))
  k_with "cA" => ((with_reducible show wpAny _ _ (call (Value.ref 75) [Value.ref _]) _ _ _); k_dflt (refine c_room (by k_asm) (by k_asm) (by k_asm) (by k_asm) (by k_asm) (by first | exact rfl | assumption) (by k_mem) (by assumption) (by first | omega | (simp only [List.length_append, List.length_cons, List.length_nil, List.length_reverse] at *; omega)) (by assumption) (by ktr_room) (by ktr_units) ?_))
  k_steps
  exact ret _ _ (by assumption) (by assumption)

end Mine

/-! part M4 -/
namespace Mine
set_option maxRecDepth 100000
set_option maxHeartbeats 4000000

/-- the first code of each length -/
noncomputable def fst1 (tally : List Int) : Nat → Int
  | 0 => 0
  | k + 1 => 2 * (fst1 tally k + tally.getD k 0)
noncomputable def firstsP (tally : List Int) (j : Nat) : List Int := (List.range tally.length).map fun k : Nat => if k ≤ j then fst1 tally k else 0
noncomputable def firstsZ (tally : List Int) : List Int := (List.range tally.length).map (fst1 tally)
theorem firstsP_length {tally : List Int} {j : Nat} : (firstsP tally j).length = tally.length := by simp [firstsP]
theorem firstsP_last {tally : List Int} {j : Nat} (h : tally.length ≤ j + 1) : firstsP tally j = firstsZ tally := by
  apply List.ext_getElem
  · simp [firstsP, firstsZ]
  · intro i h1 h2
    have : i < tally.length := by simpa [firstsP] using h1
    simp only [firstsP, firstsZ, List.getElem_map, List.getElem_range]
    rw [if_pos (Nat.le_of_lt_succ (Nat.lt_of_lt_of_le this h))]
structure FirstsInv (pre ns firsts : List Int) : Prop where
  eq : firsts = firstsP ns pre.length
theorem firsts_start {tally : List Int} : FirstsInv [] tally (List.replicate (tally.length : Int).toNat [(0 : Int)]).flatten ∧ (List.replicate (tally.length : Int).toNat [(0 : Int)]).flatten.length = tally.length := by
  rw [Int.toNat_natCast]
  have r : ∀ n : Nat, (List.replicate n [(0 : Int)]).flatten = List.replicate n 0 := by
    intro n
    induction n with
    | zero => rfl
    | succ n ih => rw [List.replicate_succ, List.flatten_cons, ih]; rfl
  rw [r]
  refine ⟨⟨?_⟩, by simp⟩
  apply List.ext_getElem
  · simp [firstsP]
  · intro i h1 h2
    simp only [firstsP, List.getElem_replicate, List.getElem_map, List.getElem_range, List.length_nil]
    by_cases hi : i ≤ 0
    · have : i = 0 := Nat.le_zero.mp hi
      subst this; simp [fst1]
    · rw [if_neg hi]
theorem firsts_turn {tally firsts pre : List Int} {n : Int} (h : FirstsInv pre tally firsts) (hn : n = 1 + (pre.length : Int)) (hl : n < tally.length) :
    FirstsInv (pre ++ [n]) tally (firsts.set n.toNat (2 * (firsts.getD (n - 1).toNat 0 + tally.getD (n - 1).toNat 0))) ∧
    (firsts.set n.toNat (2 * (firsts.getD (n - 1).toNat 0 + tally.getD (n - 1).toNat 0))).length = tally.length := by
  obtain ⟨h⟩ := h
  subst h
  have e1 : n.toNat = pre.length + 1 := A0.tn_p1 hn
  have e2 : (n - 1).toNat = pre.length := A0.tn_p hn
  have e3 : (pre ++ [n]).length = pre.length + 1 := by simp
  rw [e1, e2]
  refine ⟨⟨?_⟩, by rw [List.length_set]; exact firstsP_length⟩
  rw [e3]
  have hp : pre.length < tally.length := by
    rw [hn, Int.add_comm] at hl
    exact Nat.lt_of_succ_lt (Int.ofNat_lt.mp hl)
  have hv : (firstsP tally pre.length).getD pre.length 0 = fst1 tally pre.length := by
    simp [firstsP, List.getD_eq_getElem?_getD, hp]
  rw [hv]
  apply List.ext_getElem
  · simp [firstsP]
  · intro i h1 h2
    rw [List.getElem_set]
    simp only [firstsP, List.getElem_map, List.getElem_range]
    by_cases hi : pre.length + 1 = i
    · subst hi
      rw [if_pos rfl, if_pos (Nat.le_refl _)]; rfl
    · rw [if_neg hi]
      by_cases hz : i ≤ pre.length
      · rw [if_pos hz, if_pos (Nat.le_succ_of_le hz)]
      · rw [if_neg hz, if_neg (fun h => (Nat.lt_or_eq_of_le h).elim (fun h => hz (Nat.le_of_lt_succ h)) fun h => hi h.symm)]

theorem f_lt {k : Int} {p n l : Nat} (h1 : k = 1 + (p : Int)) (h2 : p < ((n : Int) - 1).toNat) (h3 : l = n) : k < (l : Int) := by
  have h := Int.lt_toNat.mp h2
  rw [h1, h3]; exact Int.add_lt_of_lt_sub_left h
theorem f_lt1 {k : Int} {p n l : Nat} (h1 : k = 1 + (p : Int)) (h2 : p < ((n : Int) - 1).toNat) (h3 : l = n) : k - 1 < (l : Int) := Int.lt_trans (Int.sub_lt_self k (by decide)) (f_lt h1 h2 h3)
theorem f_63 {k : Int} {p n : Nat} (h1 : k = 1 + (p : Int)) (h2 : p < ((n : Int) - 1).toNat) (h3 : n ≤ 10) : k < 2 ^ 63 := Int.lt_trans (Int.lt_of_lt_of_le (f_lt h1 h2 rfl) (Int.ofNat_le.mpr h3)) (by decide)
theorem f_len {n : Nat} : n ≤ ((n : Int) - 1).toNat + 1 := by
  rw [Int.pred_toNat, Int.toNat_natCast]; exact Nat.le_add_of_sub_le (Nat.le_refl _)

theorem c_first {prog p : Program} {w : World} {loose : List Str} {mean : ExcName → Option Value} {mg mb : Str → Option Value}
    {dp un : Nat} {gd : Option (List Code)} {cn : Str} {cs : Scope} {a : Addr} {ccd : Value} {cl : List (Str × Addr)} {outer : List Env} {A₀ : Around} {base h₀ : Heap} {L : Addr} {m : Str → Option Value} {s : Shared} {Q E : Value → Shared → Prop}
    {news : List (Addr × Obj)}
    (B : Below A₀ base outer h₀) (F : Fr h₀ L s.heap m) (X : (tp.heap_39 w.params).In h₀) (N : News h₀ L s.heap news) (T : Top p loose mean mg mb h₀) (hk : cs.kind = .function)
    {l : Addr} {vs : List Value} {ns : List Int} {c : Nat} (hm : (l, W.listOf vs.toArray c) ∈ news) (hi : IntsAre vs ns) (hlen : ns.length ≤ 10) (hlo : 1 ≤ ns.length)
    (hd : dp + 12 < recursionLimit) (hu : un + 60 < cLine)
    (ret : ∀ (D : Addr) (ws : List Value) (c : Nat) (h' : Heap) (tk' : Nat), Fr h₀ L h' m → News h₀ L h' ((D, W.listOf ws.toArray c) :: news) → (∀ p ∈ news, p.1 < D) → IntsAre ws (firstsZ ns) → Q (.ref D) { s with heap := h', toks := tk' }) :
    wpAny (model prog w) (ktrTop dp un gd cn cs L a ccd cl outer) (call (.ref 96) [.ref l]) Q E s := by
  have hvl := hi.length
  k_with_none
  k_with "m mem" => first | assumption | exact List.mem_cons_self | (refine List.mem_cons_of_mem _ ?_; walk_at "m mem")
  k_with "m all" => first | (refine List.forall_mem_cons.mpr ⟨by walk_at "m mem", ?_⟩; walk_at "m all") | exact List.forall_mem_nil _ | (intro q9 hq9; walk_at "m mem")
  k_with "m sub" => (refine news_sub (by assumption) ?_; walk_at "m all")
  k_with "InvEndN" => k_dflt kst_close
  k_with "ktr_room" => ((try simp only [depth_mark, depth_under_make, depth_under_kw, depth_in1, depth_deeper, depth_caller]); (try dsimp only [ktrTop]); first | decide | (rename (_ + _ < recursionLimit) => hd9; refine Nat.lt_of_le_of_lt ?_ hd9; (try simp only [Nat.add_assoc]); exact Nat.add_le_add_left (by decide) _) | omega)
  k_with "ktr_units" => ((try simp only [units_under_make, units_in1, units_deeper, Around.mark_units, units_caller]); (try dsimp only [ktrTop]); first | decide | (rename (_ + _ < cLine) => hu9; refine Nat.lt_of_le_of_lt ?_ hu9; (try simp only [Nat.add_assoc]); exact Nat.add_le_add_left (by decide) _) | omega)
  k_with "call ref" => (k_extra "cA"; intro _ _ _ _ _; (try dsimp only); (try k_sweep))
  k_with "call ref" => (k_extra "cB"; intro _ _ _ _; (try dsimp only); (try k_sweep))
  k_with "call ref" => (k_extra "cH"; refine Hold.out ?_)
  k_with "om" => with_reducible first | exact A0.c1 (by assumption) | exact A0.c2 (by assumption) | exact A0.c3 (by assumption) | exact A0.c4 (by assumption) | exact A0.c5 (by assumption) | exact A0.c6 (by assumption) | exact A0.c7 (by assumption) | exact A0.e2 (by assumption) | exact A0.e3 (by assumption) | exact A0.e4 (by assumption) | exact A0.e5 (by assumption) | exact A0.e6 (by assumption) | exact A0.e7 (by assumption) | exact Nat.le_trans (by assumption) (by decide)
  k_with "k_mem" => first | assumption | (refine List.mem_cons_of_mem _ ?_; k_mem)
  k_with "news_mem" => k_mem
  k_with "k_memK" => first | assumption | (refine List.mem_cons_of_mem _ ?_; k_memK)
  k_with "om" => with_reducible first | exact f_lt (by assumption) (by assumption) (by first | assumption | rfl) | exact f_lt1 (by assumption) (by assumption) (by first | assumption | rfl) | exact f_63 (by assumption) (by assumption) (by assumption) | exact Int.lt_trans (Int.sub_lt_self _ (by decide)) (f_63 (by assumption) (by assumption) (by assumption)) | exact f_len
  w_top off
  have kf : Challenge.rw_og0142_01.prog = Challenge.rw_og0142_01.prog ∧ tp.heap_39 = tp.heap_39 := by (k_fill; exact ⟨rfl, rfl⟩)
  clear kf
  refine wpAny_call ?_
  k_dflt ktr_enter
  k_with "cA" => ((with_reducible show wpAny _ _ (call (Value.ref 61) [Value.ref _]) _ _ _); k_dflt (refine c_greatest (by k_asm) (by k_asm) (by k_asm) (by k_asm) (by k_asm) (by first | exact rfl | assumption) (by k_mem) (by assumption) (by omega) (by ktr_room) (by ktr_units) ?_))
  k_with "state" => first | exact firsts_start | exact firsts_turn (by assumption) (by assumption) (by omega)
  k_with "pyIter ref" => k_dflt (k_state (fun pre firsts => FirstsInv pre ns firsts ∧ firsts.length = ns.length) "firsts")
  k_steps
  rename Fr h₀ L _ m => kF
  rename News h₀ L _ _ => kN
  rename FirstsInv _ _ _ => e
  rename _ ∧ AllLt _ news => hlt
  obtain ⟨e⟩ := e
  rw [rangeKs_length, firstsP_last (by omega)] at e
  subst e
  refine' ret _ _ _ _ _ kF ?hN (tb_ltOf hlt.2) ?hI
  case hI => assumption
  case hN => walk_at "m sub"

end Mine

/-! part M5 -/
namespace Mine
set_option maxRecDepth 100000
set_option maxHeartbeats 4000000

theorem firstsZ_length (t : List Int) : (firstsZ t).length = t.length := by simp [firstsZ]
/-- the next free code of each length, behind some lengths -/
noncomputable def behindP (F pre : List Int) : List Int := (List.range F.length).map fun k : Nat => F.getD k 0 + (pre.count (k : Int) : Int)
/-- the codes, one by one -/
noncomputable def codesP (F : List Int) : List Int → List Int → List Int
  | _, [] => []
  | pre, n :: r => (if 0 < n then F.getD n.toNat 0 + (pre.count n : Int) else 0) :: codesP F (pre ++ [n]) r
noncomputable def firstsOf (ns : List Int) : List Int := firstsZ (tallyZ ns)
noncomputable def codesZ (ns : List Int) : List Int := codesP (firstsOf ns) [] ns
theorem codesP_snoc {F : List Int} {n : Int} : ∀ {r pre : List Int}, codesP F pre (r ++ [n]) = codesP F pre r ++ [if 0 < n then F.getD n.toNat 0 + ((pre ++ r).count n : Int) else 0]
  | [], pre => by simp [codesP]
  | x :: r, pre => by
    simp only [List.cons_append, codesP, List.append_assoc]
    rw [codesP_snoc]
    simp
theorem codesP_length {F : List Int} : ∀ {r pre : List Int}, (codesP F pre r).length = r.length
  | [], _ => rfl
  | _ :: _, _ => by simp only [codesP, List.length_cons, codesP_length]
structure CodesInv (pre F behind codes : List Int) : Prop where
  one : behind = behindP F pre
  two : codes = codesP F [] pre
theorem behindP_length {F pre : List Int} : (behindP F pre).length = F.length := by simp [behindP]
theorem codes_start {F : List Int} {g : Nat} (h : F.length = g) : CodesInv [] F F [] ∧ F.length = g ∧ ([] : List Int).length = ([] : List Int).length := by
  refine ⟨⟨?_, rfl⟩, h, rfl⟩
  apply List.ext_getElem
  · simp [behindP]
  · intro i h1 h2
    simp [behindP, h1]
theorem behind_get {F pre : List Int} {n : Int} (h0 : 0 ≤ n) (h1 : n < F.length) : (behindP F pre).getD n.toNat 0 = F.getD n.toNat 0 + (pre.count n : Int) := by
  have h2 : n.toNat < F.length := by omega
  have e : ((n.toNat : Nat) : Int) = n := by omega
  simp [behindP, List.getD_eq_getElem?_getD, h2, e]
theorem behind_set {F pre : List Int} {n : Int} (h0 : 0 ≤ n) (h1 : n < F.length) : (behindP F pre).set n.toNat ((behindP F pre).getD n.toNat 0 + 1) = behindP F (pre ++ [n]) := by
  rw [behind_get h0 h1]
  apply List.ext_getElem
  · simp [behindP]
  · intro i h2 h3
    rw [List.getElem_set]
    simp only [behindP, List.getElem_map, List.getElem_range, List.count_append]
    by_cases hi : n.toNat = i
    · have e : (i : Int) = n := by omega
      subst hi
      rw [if_pos rfl, e]
      simp
      omega
    · rw [if_neg hi]
      have : List.count (i : Int) [n] = 0 := by
        rw [List.count_eq_zero]; intro hm; rw [List.mem_singleton] at hm; omega
      simp [this]
theorem codes_turn {F pre behind codes : List Int} {n : Int} {g : Nat} (h : CodesInv pre F behind codes) (hF : F.length = g) (h0 : 0 < n) (h1 : n < g) (hl : codes.length = pre.length) :
    CodesInv (pre ++ [n]) F (behind.set n.toNat (behind.getD n.toNat 0 + 1)) (codes ++ [behind.getD n.toNat 0]) ∧ (behind.set n.toNat (behind.getD n.toNat 0 + 1)).length = g ∧ (codes ++ [behind.getD n.toNat 0]).length = (pre ++ [n]).length := by
  obtain ⟨a, b⟩ := h
  subst a
  subst b
  refine ⟨⟨behind_set (by omega) (by omega), ?_⟩, ?_, ?_⟩
  · rw [codesP_snoc, if_pos h0, behind_get (by omega) (by omega)]; simp
  · rw [List.length_set, behindP_length, hF]
  · simp [hl]
theorem codes_turn0 {F pre behind codes : List Int} {n : Int} {g : Nat} (h : CodesInv pre F behind codes) (hF : F.length = g) (h0 : ¬ 0 < n) (h2 : 0 ≤ n) (h1 : n < g) (hl : codes.length = pre.length) :
    CodesInv (pre ++ [n]) F (behind.set n.toNat (behind.getD n.toNat 0 + 1)) (codes ++ [0]) ∧ (behind.set n.toNat (behind.getD n.toNat 0 + 1)).length = g ∧ (codes ++ [(0 : Int)]).length = (pre ++ [n]).length := by
  obtain ⟨a, b⟩ := h
  subst a
  subst b
  refine ⟨⟨behind_set (by omega) (by omega), ?_⟩, ?_, ?_⟩
  · rw [codesP_snoc, if_neg h0]
  · rw [List.length_set, behindP_length, hF]
  · simp [hl]


theorem c_codes {prog p : Program} {w : World} {loose : List Str} {mean : ExcName → Option Value} {mg mb : Str → Option Value}
    {dp un : Nat} {gd : Option (List Code)} {cn : Str} {cs : Scope} {a : Addr} {ccd : Value} {cl : List (Str × Addr)} {outer : List Env} {A₀ : Around} {base h₀ : Heap} {L : Addr} {m : Str → Option Value} {s : Shared} {Q E : Value → Shared → Prop}
    {news : List (Addr × Obj)}
    (B : Below A₀ base outer h₀) (F : Fr h₀ L s.heap m) (X : (tp.heap_39 w.params).In h₀) (N : News h₀ L s.heap news) (T : Top p loose mean mg mb h₀) (hk : cs.kind = .function)
    {l : Addr} {vs : List Value} {ns : List Int} {c : Nat} (hm : (l, W.listOf vs.toArray c) ∈ news) (hi : IntsAre vs ns) (hlen : ns.length ≤ 10) (hb : ∀ x ∈ ns, 0 ≤ x ∧ x ≤ 6) (hr : 0 ≤ roomZ ns)
    (hd : dp + 24 < recursionLimit) (hu : un + 100 < cLine)
    (ret : ∀ (D : Addr) (ws : List Value) (c : Nat) (h' : Heap) (tk' : Nat), Fr h₀ L h' m → News h₀ L h' ((D, W.listOf ws.toArray c) :: news) → (∀ p ∈ news, p.1 < D) → IntsAre ws (codesZ ns) → Q (.ref D) { s with heap := h', toks := tk' }) :
    wpAny (model prog w) (ktrTop dp un gd cn cs L a ccd cl outer) (call (.ref 103) [.ref l]) Q E s := by
  have hvl := hi.length
  have htl := tallyZ_length ns
  have hg0 := gmax_nonneg ns
  have hg6 := gmax_le (by decide) hb
  have hfl : (firstsOf ns).length = (gmax ns).toNat + 1 := by rw [firstsOf, firstsZ_length, htl]
  k_with_none
  k_with "m mem" => first | assumption | exact List.mem_cons_self | (refine List.mem_cons_of_mem _ ?_; walk_at "m mem")
  k_with "m all" => first | (refine List.forall_mem_cons.mpr ⟨by walk_at "m mem", ?_⟩; walk_at "m all") | exact List.forall_mem_nil _ | (intro q9 hq9; walk_at "m mem")
  k_with "m sub" => (refine news_sub (by assumption) ?_; walk_at "m all")
  k_with "InvEndN" => k_dflt kst_close
  k_with "ktr_room" => ((try simp only [depth_mark, depth_under_make, depth_under_kw, depth_in1, depth_deeper, depth_caller]); (try dsimp only [ktrTop]); first | decide | (rename (_ + _ < recursionLimit) => hd9; refine Nat.lt_of_le_of_lt ?_ hd9; (try simp only [Nat.add_assoc]); exact Nat.add_le_add_left (by decide) _) | omega)
  k_with "ktr_units" => ((try simp only [units_under_make, units_in1, units_deeper, Around.mark_units, units_caller]); (try dsimp only [ktrTop]); first | decide | (rename (_ + _ < cLine) => hu9; refine Nat.lt_of_le_of_lt ?_ hu9; (try simp only [Nat.add_assoc]); exact Nat.add_le_add_left (by decide) _) | omega)
  k_with "call ref" => (k_extra "cA"; intro _ _ _ _ _; (try dsimp only); (try k_sweep))
  k_with "call ref" => (k_extra "cB"; intro _ _ _ _; (try dsimp only); (try k_sweep))
  k_with "call ref" => (k_extra "cH"; refine Hold.out ?_)
  k_with "om" => with_reducible first | exact A0.c1 (by assumption) | exact A0.c2 (by assumption) | exact A0.c3 (by assumption) | exact A0.c4 (by assumption) | exact A0.c5 (by assumption) | exact A0.c6 (by assumption) | exact A0.c7 (by assumption) | exact A0.e2 (by assumption) | exact A0.e3 (by assumption) | exact A0.e4 (by assumption) | exact A0.e5 (by assumption) | exact A0.e6 (by assumption) | exact A0.e7 (by assumption) | exact Nat.le_trans (by assumption) (by decide)
  k_with "k_mem" => first | assumption | (refine List.mem_cons_of_mem _ ?_; k_mem)
  k_with "news_mem" => k_mem
  k_with "k_memK" => first | assumption | (refine List.mem_cons_of_mem _ ?_; k_memK)
  k_with "ksa_idx" => ((rename (∀ x, x ∈ _ → 0 ≤ x ∧ x ≤ 6) => hb9); (have hx9 := gmax_ge (by assumption)); (have hx8 := hb9 _ (by assumption)); (try simp only [List.length_set]); omega)
  w_top off
  have kf : Challenge.rw_og0142_01.prog = Challenge.rw_og0142_01.prog ∧ tp.heap_39 = tp.heap_39 := by (k_fill; exact ⟨rfl, rfl⟩)
  clear kf
  refine wpAny_call ?_
  k_dflt ktr_enter
  k_with "cA" => ((with_reducible show wpAny _ _ (call (Value.ref 61) [Value.ref _]) _ _ _); k_dflt (refine c_greatest (by k_asm) (by k_asm) (by k_asm) (by k_asm) (by k_asm) (by first | exact rfl | assumption) (by k_mem) (by assumption) (by omega) (by ktr_room) (by ktr_units) ?_))
  k_with "cC" => ((with_reducible show wpAny _ _ (call (Value.ref 68) [Value.ref _]) _ _ _); k_dflt (refine c_tally (by k_asm) (by k_asm) (by k_asm) (by k_asm) (by k_asm) (by first | exact rfl | assumption) (by k_mem) (by assumption) (by omega) (by assumption) (by ktr_room) (by ktr_units) ?_))
  k_with "cA" => ((with_reducible show wpAny _ _ (call (Value.ref 75) [Value.ref _]) _ _ _); k_dflt (refine c_room (by k_asm) (by k_asm) (by k_asm) (by k_asm) (by k_asm) (by first | exact rfl | assumption) (by k_mem) (by assumption) (by first | omega | (simp only [List.length_append, List.length_cons, List.length_nil, List.length_reverse] at *; omega)) (by assumption) (by ktr_room) (by ktr_units) ?_))
  k_with "cB" => ((with_reducible show wpAny _ _ (call (Value.ref 82) [Value.ref _]) _ _ _); k_dflt (refine c_full (by k_asm) (by k_asm) (by k_asm) (by k_asm) (by k_asm) (by first | exact rfl | assumption) (by k_mem) (by assumption) (by first | omega | (simp only [List.length_append, List.length_cons, List.length_nil, List.length_reverse] at *; omega)) (by assumption) (by ktr_room) (by ktr_units) ?_))
  k_with "cB" => ((with_reducible show wpAny _ _ (call (Value.ref 89) [Value.ref _]) _ _ _); k_dflt (refine c_over (by k_asm) (by k_asm) (by k_asm) (by k_asm) (by k_asm) (by first | exact rfl | assumption) (by k_mem) (by assumption) (by first | omega | (simp only [List.length_append, List.length_cons, List.length_nil, List.length_reverse] at *; omega)) (by assumption) (by ktr_room) (by ktr_units) ?_))
  k_with "cC" => ((with_reducible show wpAny _ _ (call (Value.ref 96) [Value.ref _]) _ _ _); k_dflt (refine c_first (by k_asm) (by k_asm) (by k_asm) (by k_asm) (by k_asm) (by first | exact rfl | assumption) (by k_mem) (by assumption) (by omega) (by omega) (by ktr_room) (by ktr_units) ?_))
  k_with "state" => first | exact codes_turn (by assumption) (by assumption) (by assumption) (by have hx9 := gmax_ge (by assumption); omega) (by assumption) | exact codes_turn0 (by assumption) (by assumption) (by assumption) (hb _ (by assumption)).1 (by have hx9 := gmax_ge (by assumption); omega) (by assumption) | exact codes_start (by assumption)
  k_with "pyIter ref" => k_dflt (k_state (fun pre behind codes => CodesInv pre (firstsOf ns) behind codes ∧ behind.length = (gmax ns).toNat + 1 ∧ codes.length = pre.length) "behind" "codes")
  k_steps
  rename Fr h₀ L _ m => kF
  rename News h₀ L _ _ => kN
  rename CodesInv _ _ _ _ => e
  rename _ ∧ _ ∧ AllLt _ news => hlt
  obtain ⟨e1, e2⟩ := e
  subst e2
  refine' ret _ _ _ _ _ kF ?hN (tb_ltOf hlt.2.2) ?hI
  case hI => assumption
  case hN => walk_at "m sub"

end Mine

/-! part M6 -/
namespace Mine
set_option maxRecDepth 100000
set_option maxHeartbeats 4000000

/-- how many items have a code -/
noncomputable def withCode (ns : List Int) : Nat := (ns.filter (fun n => decide (0 < n))).length


theorem c_symbols {prog p : Program} {w : World} {loose : List Str} {mean : ExcName → Option Value} {mg mb : Str → Option Value}
    {dp un : Nat} {gd : Option (List Code)} {cn : Str} {cs : Scope} {a : Addr} {ccd : Value} {cl : List (Str × Addr)} {outer : List Env} {A₀ : Around} {base h₀ : Heap} {L : Addr} {m : Str → Option Value} {s : Shared} {Q E : Value → Shared → Prop}
    {news : List (Addr × Obj)}
    (B : Below A₀ base outer h₀) (F : Fr h₀ L s.heap m) (X : (tp.heap_39 w.params).In h₀) (N : News h₀ L s.heap news) (T : Top p loose mean mg mb h₀) (hk : cs.kind = .function)
    {l : Addr} {vs : List Value} {ns : List Int} {c : Nat} (hm : (l, W.listOf vs.toArray c) ∈ news) (hi : IntsAre vs ns) (hlen : ns.length ≤ 10) (hb : ∀ x ∈ ns, 0 ≤ x ∧ x ≤ 6)
    (hd : dp + 24 < recursionLimit) (hu : un + 100 < cLine)
    (ret : ∀ (D : Addr) (ws : List Value) (xs : List Int) (c : Nat) (h' : Heap) (tk' : Nat), Fr h₀ L h' m → News h₀ L h' ((D, W.listOf ws.toArray c) :: news) → (∀ p ∈ news, p.1 < D) → IntsAre ws xs → xs.length = withCode ns → Q (.ref D) { s with heap := h', toks := tk' }) :
    wpAny (model prog w) (ktrTop dp un gd cn cs L a ccd cl outer) (call (.ref 108) [.ref l]) Q E s := by
  have hvl := hi.length
  have hg0 := gmax_nonneg ns
  have hg6 := gmax_le (by decide) hb
  k_with_none
  k_with "m mem" => first | assumption | exact List.mem_cons_self | (refine List.mem_cons_of_mem _ ?_; walk_at "m mem")
  k_with "m all" => first | (refine List.forall_mem_cons.mpr ⟨by walk_at "m mem", ?_⟩; walk_at "m all") | exact List.forall_mem_nil _ | (intro q9 hq9; walk_at "m mem")
  k_with "m sub" => (refine news_sub (by assumption) ?_; walk_at "m all")
  k_with "InvEndN" => k_dflt kst_close
  k_with "ktr_room" => ((try simp only [depth_mark, depth_under_make, depth_under_kw, depth_in1, depth_deeper, depth_caller]); (try dsimp only [ktrTop]); first | decide | (rename (_ + _ < recursionLimit) => hd9; refine Nat.lt_of_le_of_lt ?_ hd9; (try simp only [Nat.add_assoc]); exact Nat.add_le_add_left (by decide) _) | omega)
  k_with "ktr_units" => ((try simp only [units_under_make, units_in1, units_deeper, Around.mark_units, units_caller]); (try dsimp only [ktrTop]); first | decide | (rename (_ + _ < cLine) => hu9; refine Nat.lt_of_le_of_lt ?_ hu9; (try simp only [Nat.add_assoc]); exact Nat.add_le_add_left (by decide) _) | omega)
  k_with "call ref" => (k_extra "cA"; intro _ _ _ _ _; (try dsimp only); (try k_sweep))
  k_with "call ref" => (k_extra "cB"; intro _ _ _ _; (try dsimp only); (try k_sweep))
  k_with "call ref" => (k_extra "cH"; refine Hold.out ?_)
  k_with "om" => with_reducible first | exact A0.c1 (by assumption) | exact A0.c2 (by assumption) | exact A0.c3 (by assumption) | exact A0.c4 (by assumption) | exact A0.c5 (by assumption) | exact A0.c6 (by assumption) | exact A0.c7 (by assumption) | exact A0.e2 (by assumption) | exact A0.e3 (by assumption) | exact A0.e4 (by assumption) | exact A0.e5 (by assumption) | exact A0.e6 (by assumption) | exact A0.e7 (by assumption) | exact Nat.le_trans (by assumption) (by decide)
  k_with "k_mem" => first | assumption | (refine List.mem_cons_of_mem _ ?_; k_mem)
  k_with "news_mem" => k_mem
  k_with "k_memK" => first | assumption | (refine List.mem_cons_of_mem _ ?_; k_memK)
  k_with "CompSrc" => refine Hold.out ?_
  k_with "pyIter ref" => ((with_reducible show wpAny _ _ (pyIter (Value.ref _)) (fun it s₂ => LoopAtV _ _ _ _ _ _ _ _ _ it s₂) _ _); refine Hold.out ?_)
  k_with "exec For Name Subscript cons nil" => (k_here; (with_unfolding_all refine For_invVF (by assumption) (by exact rfl) (by exact rfl) ?_); k_whole)
  k_with "call builtin:list.extend" => (k_here; (with_reducible show wpAny _ _ (call (Value.builtin _) [Value.ref _, Value.ref _]) _ _ _); k_dflt (refine ext_any (by k_asm) (by k_asm) (by k_mem) (by ((rename (∀ o9, Upd _ _ o9 _ _) => hU9); exact fun k9 => hU9 _)) (by (simp only [List.size_toArray]; omega)) (by (simp only [List.size_toArray]; omega)) ?_); intro _ _ _ N9; (try dsimp only at N9); (try k_sweep))
  k_with "InvEndN" => refine Hold.out ?_
  k_with "k_upd" => ((rename (∀ o9, Upd _ _ o9 _ _) => hU9); exact hU9 _)
  k_with "subscriptTail" => (k_here; (with_reducible show wpAny _ _ (subscriptTail _ _ (Value.ref _) (Value.int _ _)) _ _ _); (with_unfolding_all refine item_litK (by is_list) (by omega) (by omega) (by assumption) ?_ (by with_unfolding_all rfl)); k_whole)
  w_top off
  have kf : Challenge.rw_og0142_01.prog = Challenge.rw_og0142_01.prog ∧ tp.heap_39 = tp.heap_39 := by (k_fill; exact ⟨rfl, rfl⟩)
  clear kf
  refine wpAny_call ?_
  k_dflt ktr_enter
  k_with "cA" => ((with_reducible show wpAny _ _ (call (Value.ref 61) [Value.ref _]) _ _ _); k_dflt (refine c_greatest (by k_asm) (by k_asm) (by k_asm) (by k_asm) (by k_asm) (by first | exact rfl | assumption) (by k_mem) (by assumption) (by omega) (by ktr_room) (by ktr_units) ?_))
  k_with "cC" => ((with_reducible show wpAny _ _ (call (Value.ref 68) [Value.ref _]) _ _ _); k_dflt (refine c_tally (by k_asm) (by k_asm) (by k_asm) (by k_asm) (by k_asm) (by first | exact rfl | assumption) (by k_mem) (by assumption) (by omega) (by assumption) (by ktr_room) (by ktr_units) ?_))
  k_steps
  refine Hold.of (LCg.CompSrc.range (n := (gmax ns + 1 - 0).toNat) (by rfl) (by k_asm) (by k_asm) (by assumption) (small_one (by omega) (by omega) (by omega) (by omega)) (rangeSize_nat _ _) (by rw [PySem.sizeLine_eq]; omega) ?_)
  intro g9
  refine comp_rest (HeapsJ news) ⟨[], rfl, rfl, rfl, (fun _ hp => nomatch hp), (fun _ hp => nomatch hp), .nil⟩ ?turn ?fin
  case turn =>
    rintro i v ys nw I oI C oC D m₂ h tk E' hi9 hv hj hC hx F9 N9 off ne P1 hP1
    k_steps
    rename_i l8 h8 F8 N8 lt8
    obtain ⟨cells, rfl, rfl, hcl, hce, hlt, hpw⟩ := hj
    have la := allLt_all lt8.2.2.2
    refine hP1 _ _ ?_
    refine LCg.CompEnd.intro F8 N8 ((cells ++ [(l8, W.listOf #[] 0)]) ++ news) ?_ ?_ trivial ⟨cells ++ [(l8, W.listOf #[] 0)], rfl, by simp, by simp [hcl], ?_, ?_, ?_⟩
    · intro p hp
      simp only [List.mem_cons, List.mem_append, List.not_mem_nil, or_false] at hp ⊢
      rcases hp with h | h | h | (h | h) | h <;> simp [h]
    · refine LCg.Off3.of fun p hp => ?_
      have := off.mem
      simp only [List.mem_cons, List.mem_append, List.not_mem_nil, or_false] at hp this
      rcases hp with (h | h) | h
      · exact this p (.inl h)
      · subst h; exact ⟨Nat.ne_of_gt lt8.1, Nat.ne_of_gt lt8.2.1, Nat.ne_of_gt lt8.2.2.1⟩
      · exact this p (.inr h)
    · intro p hp
      rcases List.mem_append.mp hp with h | h
      · exact hce p h
      · rw [List.mem_singleton.mp h]
    · intro p hp q hq
      rcases List.mem_append.mp hp with h | h
      · exact hlt p h q hq
      · rw [List.mem_singleton.mp h]; exact la q (List.mem_append.mpr (.inr hq))
    · refine List.pairwise_append.mpr ⟨hpw, List.pairwise_singleton _ _, fun p hp q hq => ?_⟩
      rw [List.mem_singleton.mp hq]; exact la p (List.mem_append.mpr (.inl hp))
  case fin =>
    rintro ys nw ⟨cells, rfl, rfl, hcl, hce, hlt, hpw⟩
    k_steps
    rename_i D8 h7 tk7 F7 N7 o7 h8 x8 t8 u8 v8 rg8 F8 N8 k8
    clear F7 N7 k8
    have hMk := kstMark
    refine Hold.of (kst_range (σ := List (Addr × Obj)) (n := (((ns.length : Nat) : Int) - 0).toNat) (fun c => (D8, LCg.lst (cells.map fun p => Value.ref p.1)) :: (c ++ news)) (fun _ => []) (fun c => c.map (·.1) = cells.map (·.1)) [] (HeapsP ns) cells (by rfl) rg8 (small_one (by omega) (by omega) (by omega) (by omega)) (rangeSize_nat _ _) F8 N8 rfl (fun _ hp => nomatch hp) ?p0 ?turn ?done)
    case p0 =>
      intro k p hp
      refine ⟨[], 0, [], hce p (List.mem_of_getElem? hp), .nil, by simp⟩
    case turn =>
      intro cs9 pre k t9 u9 h9 tk9 own hk9 hlt9 hoff hf hP F9 N9
      have hpl : pre.length < ns.length := by omega
      have hkN : k.toNat = pre.length := by omega
      have hge : ns.getD k.toNat 0 = ns[pre.length] := by rw [hkN, List.getD_eq_getElem?_getD, List.getElem?_eq_getElem hpl]; rfl
      have hv9 := hb (ns.getD k.toNat 0) (by rw [hge]; simp)
      have hvg : ns.getD k.toNat 0 ≤ gmax ns := gmax_ge (by rw [hge]; simp)
      have hlen9 : cs9.length = cells.length := by have := congrArg List.length hf; simpa using this
      obtain ⟨A9, D9, ws9, c9, xs9, B9, rfl, hA9, hi9, hx9, hwl, hitem⟩ := heaps_at hf hP (v := ns.getD k.toNat 0) (by omega) hlen
      have hupd := heaps_upd (X := LCg.lst (cells.map fun p => Value.ref p.1)) hf hpw hlt o7 hoff
      have hmem9 : (D9, W.listOf ws9.toArray c9) ∈ ((D8, LCg.lst (cells.map fun p => Value.ref p.1)) :: ((A9 ++ (D9, W.listOf ws9.toArray c9) :: B9) ++ news)) ++ own := by simp
      have hput := fun t c' => heaps_put (k := k) (t := t) (c' := c') hP hi9 (by rw [hx9, hA9]) hpl (by rw [← hge, hA9]; omega)
      clear hP hi9
      refine post_of fun P9 hP9 => ?_
      k_steps
      refine hP9 _ _ ?_
      k_steps
      rename Fr _ _ _ _ => F5
      rename News _ _ _ _ => N5
      refine Hold.of (kst_end (A9 ++ (D9, _) :: B9) F5 N5 (fun p hp => List.mem_append.mpr (.inl hp)) (fun p hp => List.mem_append.mpr (.inr hp)) ?ha ?hf (fun _ hp => nomatch hp) ?hr (hput _ _))
      case hr =>
        intro z h1 _ _
        show (if z = _ then _ else kstB _ [] z) = _
        rw [if_neg h1]; rfl
      case hf => simpa only [List.map_append, List.map_cons] using hf
      case ha =>
        simp only [List.map_append, List.map_cons] at hf ⊢
        rw [hf]
    case done =>
      intro cs9 u9 h9 tk9 hf hP F9 N9
      have hlen9 : cs9.length = cells.length := by have := congrArg List.length hf; simpa using this
      have hF := heaps_all hP (rangeKs_length _ _ |>.trans (by omega))
      clear hP
      k_steps
      rename_i fd h5 F5 N5 lt5 h6 F6 N6 h7' F7 N7
      clear F5 N5
      have e2 : slicePick (cells.map fun p => Value.ref p.1).toArray (some 1) none none = ((cells.map fun p => Value.ref p.1).drop 1).toArray := by
        have := slicePick_from' (cells.map fun p => Value.ref p.1).toArray 1
        simpa using this
      rw [e2] at N7
      have hall : ∀ p ∈ ((fd, W.listOf #[] 0) :: (D8, LCg.lst (cells.map fun p => Value.ref p.1)) :: (cs9 ++ news)), p.1 < h6.objs.size + 1 := fun p hp => Nat.lt_succ_of_lt (Heap.lt_size (N6 p hp).1)
      have lf := allLt_all lt5.2
      obtain ⟨mm, hmm, F7⟩ := fr_name F7
      refine Hold.of (iter_vals (fun i m nx => (∀ z, z ≠ Str.ofString "heap" → m z = mm z) ∧ ∃ fs fc xs, nx = (h6.objs.size + 1, W.listOf ((cells.map fun p => Value.ref p.1).drop 1).toArray 0) :: (fd, W.listOf fs.toArray fc) :: (D8, LCg.lst (cells.map fun p => Value.ref p.1)) :: (cs9 ++ news) ∧ IntsAre fs xs ∧ xs.length = withUpto ns i)
        (by rfl) (List.mem_cons_self) F7 N7 ⟨fun _ _ => rfl, [], 0, [], rfl, .nil, by rw [withUpto_zero]; rfl⟩ ?turn2 ?done2)
      case turn2 =>
        rintro i v m₁ news₁ h tk own hv hadr hoff hl1 ⟨hm9, fs, fc, xs, rfl, hi9, hx9⟩ F9 N9 P9 hP9
        rw [List.getElem?_drop] at hv
        obtain ⟨A9, D9, ws9, c9, ys9, B9, hcs, rfl, hj9, hy9, hw9⟩ := heapsF_at hf hF hlen hv
        have hfl : fs.length ≤ 10 := by have := hi9.length; have := withUpto_le ns i; omega
        have ef : (fun y => if y = Str.ofString "heap" then some (Value.ref D9) else m₁ y) = fun y => if y = Str.ofString "heap" then some (Value.ref D9) else mm y := by
          funext y
          by_cases hy : y = Str.ofString "heap"
          · rw [if_pos hy, if_pos hy]
          · rw [if_neg hy, if_neg hy]; exact hm9 y hy
        rw [ef] at F9
        subst hmm
        have hmem9 : (D9, W.listOf ws9.toArray c9) ∈ ((h6.objs.size + 1, W.listOf ((cells.map fun p => Value.ref p.1).drop 1).toArray 0) :: (fd, W.listOf fs.toArray fc) :: (D8, LCg.lst (cells.map fun p => Value.ref p.1)) :: (cs9 ++ news)) ++ own := by rw [hcs]; simp
        have hupd : ∀ o', Upd fd (W.listOf fs.toArray fc) o' (((h6.objs.size + 1, W.listOf ((cells.map fun p => Value.ref p.1).drop 1).toArray 0) :: (fd, W.listOf fs.toArray fc) :: (D8, LCg.lst (cells.map fun p => Value.ref p.1)) :: (cs9 ++ news)) ++ own)
            (((h6.objs.size + 1, W.listOf ((cells.map fun p => Value.ref p.1).drop 1).toArray 0) :: (fd, o') :: (D8, LCg.lst (cells.map fun p => Value.ref p.1)) :: (cs9 ++ news)) ++ own) := by
          intro o'
          refine .tail (Nat.ne_of_gt (hall _ (.head _))) (.head ?_)
          intro p hp
          rcases List.mem_cons.mp hp with rfl | hp
          · exact Nat.ne_of_lt lt5.1
          · rcases List.mem_append.mp hp with hp | hp
            · exact Nat.ne_of_lt (lf p hp)
            · exact hoff p hp fd (by simp)
        k_steps
        refine hP9 _ _ ?_
        k_steps
        rename_i k5 h5 F5
        have N5 := N9
        clear N9
        refine Hold.of (InvEndN.intro (nx := (h6.objs.size + 1, W.listOf ((cells.map fun p => Value.ref p.1).drop 1).toArray 0) :: (fd, W.listOf (fs ++ ws9).toArray k5) :: (D8, LCg.lst (cells.map fun p => Value.ref p.1)) :: (cs9 ++ news)) F5 N5
          ⟨List.mem_cons_self, fun z hz => ?hm, fs ++ ws9, k5, xs ++ ys9, rfl, hi9.append hj9, ?hl⟩ ?ha (fun p hp => List.mem_append.mpr (.inl hp)) (fun p hp => List.mem_append.mpr (.inr hp)))
        case hl => rw [List.length_append, hx9, hy9, withUpto_succ, Nat.add_comm 1 i]
        case ha => rfl
        case hm => exact if_neg hz
      case done2 =>
        rintro m₁ news₁ h tk hl1 ⟨hm9, fs, fc, xs, rfl, hi9, hx9⟩ F9 N9
        have ef : m₁ = fun y => if y = Str.ofString "heap" then m₁ y else mm y := by
          funext y
          by_cases hy : y = Str.ofString "heap"
          · rw [if_pos hy]
          · rw [if_neg hy]; exact hm9 y hy
        rw [ef] at F9
        subst hmm
        k_steps
        rename Fr h₀ L _ m => kF
        rename News h₀ L _ _ => kN
        refine ret fd fs xs fc _ _ kF (fun p hp => kN p ?_) (fun p hp => lf p (List.mem_append.mpr (.inr hp))) hi9 ?_
        · rcases List.mem_cons.mp hp with rfl | hp
          · simp
          · simp [hp]
        · rw [hx9, List.length_drop, List.length_map, hcl]
          refine congrArg List.length (List.filter_congr fun x hx => ?_)
          have := gmax_ge hx
          simp; omega

end Mine

/-! part M7 -/
namespace Mine
set_option maxRecDepth 100000
set_option maxHeartbeats 4000000

theorem lt_ne9 {l : List (Addr × Obj)} {a b : Nat} (h : ∀ p ∈ l, p.1 < a) (hb : a ≤ b) : ∀ p ∈ l, p.1 ≠ b := fun p hp => Nat.ne_of_lt (Nat.lt_of_lt_of_le (h p hp) hb)
theorem gmax_app {ns : List Int} {M : Int} (h1 : M ∈ ns ++ [0]) (h2 : ∀ a ∈ ns ++ [0], a ≤ M) : M = gmax ns :=
  gmax_eq (by rcases List.mem_append.mp h1 with h | h; exact List.mem_cons_of_mem _ h; rw [List.mem_singleton.mp h]; exact List.mem_cons_self) fun x hx => h2 x (by
    rcases List.mem_cons.mp hx with rfl | hx
    · simp
    · exact List.mem_append.mpr (.inl hx))

/-- does the item's code begin the row -/
noncomputable def hitAt (ns : List Int) (row k : Nat) : Bool := decide (0 < ns.getD k 0) && ((row : Int).fdiv (2 ^ (gmax ns - ns.getD k 0).toNat) == (codesZ ns).getD k 0)
noncomputable def hitsZ (ns : List Int) (row n : Nat) : List Int := ((List.range n).filter (hitAt ns row)).map fun _ => 1
theorem hits_succ (ns : List Int) (row n : Nat) : hitsZ ns row (n + 1) = hitsZ ns row n ++ if hitAt ns row n = true then [1] else [] := by
  unfold hitsZ
  rw [List.range_succ, List.filter_append, List.map_append]
  congr 1
  by_cases h : hitAt ns row n = true <;> simp [h]
section
variable {ns : List Int} {i k : Nat}
theorem hit_tt (h1 : 0 < ns.getD (0 + (k : Int)).toNat 0) (h2 : (0 + (i : Int)).fdiv (2 ^ (gmax ns - ns.getD (0 + (k : Int)).toNat 0).toNat) = (codesZ ns).getD (0 + (k : Int)).toNat 0) : hitAt ns i k = true := by
  rw [show (0 + (k : Int)).toNat = k by omega] at h1 h2
  rw [Int.zero_add] at h2
  unfold hitAt
  rw [decide_eq_true h1, h2]; simp
theorem hit_f2 (h2 : (0 + (i : Int)).fdiv (2 ^ (gmax ns - ns.getD (0 + (k : Int)).toNat 0).toNat) ≠ (codesZ ns).getD (0 + (k : Int)).toNat 0) : ¬ hitAt ns i k = true := by
  rw [show (0 + (k : Int)).toNat = k by omega] at h2
  rw [Int.zero_add] at h2
  intro h
  simp only [hitAt, Bool.and_eq_true, beq_iff_eq] at h
  exact h2 h.2
theorem hit_f1 (h1 : ¬ 0 < ns.getD (0 + (k : Int)).toNat 0) : ¬ hitAt ns i k = true := by
  rw [show (0 + (k : Int)).toNat = k by omega] at h1
  intro h
  simp only [hitAt, Bool.and_eq_true, decide_eq_true_eq] at h
  exact h1 h.1
end
/-- how many rows begin with no code -/
noncomputable def freeZ (ns : List Int) (n : Nat) : Int := ((List.range n).filter (fun row => decide (hitsZ ns row ns.length = []))).length
theorem free_succ (ns : List Int) (n : Nat) : freeZ ns (n + 1) = freeZ ns n + if hitsZ ns n ns.length = [] then 1 else 0 := by
  unfold freeZ
  rw [List.range_succ, List.filter_append, List.length_append]
  by_cases h : hitsZ ns n ns.length = [] <;> simp [h]
/-- what holds between the rows -/
noncomputable def FreeInv (s : Shared) (g9 : Heap) (L9 I9 D9 : Addr) (mm : Str → Option Value) (ns : List Int) (ws9 : List Value) (c9 : Nat) (oM oC oL : Obj) (news : List (Addr × Obj)) (i : Nat) (s9 : Shared) : Prop :=
  ∃ hp tk t or' orv, s9 = { s with heap := hp, toks := tk } ∧ Fr g9 L9 hp (fun y => if y = Str.ofString "free" then some (.int (freeZ ns i) t) else mm y) ∧
    News g9 L9 hp ((I9, rIter (0 + (i : Int)) (((2 ^ (gmax ns).toNat : Nat) : Int) - (i : Int))) :: (D9, W.listOf ws9.toArray c9) :: (L9 + 1 + 1 + 1 + 1, or') :: (L9 + 1 + 1 + 1, oM) :: (L9 + 1 + 1, oC) :: (L9 + 1, oL) :: news) ∧ or'.data = .cell orv
theorem pow_le64 {g : Int} (h : g ≤ 6) : (2 : Int) ^ g.toNat ≤ 64 := by
  have h1 : g.toNat ≤ 6 := by omega
  have h2 : 2 ^ g.toNat ≤ 2 ^ 6 := Nat.pow_le_pow_right (by decide) h1
  have h3 : (((2 ^ g.toNat : Nat) : Int)) = 2 ^ g.toNat := by simp
  omega
theorem small_two {g : Int} (h : g ≤ 6) : Builtin.Range.small 0 (2 ^ g.toNat) 1 = true := by
  have := pow_le64 h
  have h2 : (0 : Int) ≤ 2 ^ g.toNat := Int.pow_nonneg (by decide)
  exact small_one (by omega) (by omega) (by omega) (by omega)
theorem rangeSize_two (n : Nat) : Builtin.Range.rangeSize 0 (2 ^ n) 1 = ((2 ^ n : Nat) : Int) - ((0 : Nat) : Int) := by
  have h := rangeSize_nat 0 ((2 : Int) ^ n)
  have h2 : (0 : Int) ≤ 2 ^ n := Int.pow_nonneg (by decide)
  have h3 : (((2 ^ n : Nat) : Int)) = 2 ^ n := by simp
  rw [h, h3]; omega
theorem freeInv_mk {s : Shared} {g9 : Heap} {L9 I9 D9 : Addr} {mm m₁ : Str → Option Value} {ns : List Int} {ws9 : List Value} {c9 : Nat} {oM oC oL : Obj} {news : List (Addr × Obj)} {i tk : Nat} {hp : Heap} {k : Int} {t : Tok} {or' : Obj} {orv : Option Value}
    (F : Fr g9 L9 hp (fun y => if y = Str.ofString "free" then some (.int k t) else m₁ y)) (hk : k = freeZ ns i) (e : ∀ y, y ≠ Str.ofString "free" → mm y = m₁ y)
    (N : News g9 L9 hp ((I9, rIter (0 + (i : Int)) (((2 ^ (gmax ns).toNat : Nat) : Int) - (i : Int))) :: (D9, W.listOf ws9.toArray c9) :: (L9 + 1 + 1 + 1 + 1, or') :: (L9 + 1 + 1 + 1, oM) :: (L9 + 1 + 1, oC) :: (L9 + 1, oL) :: news)) (d : or'.data = .cell orv) :
    FreeInv s g9 L9 I9 D9 mm ns ws9 c9 oM oC oL news i { s with heap := hp, toks := tk } := ⟨hp, tk, t, or', orv, rfl, hk ▸ fr_off F e, N, d⟩

theorem c_free {prog p : Program} {w : World} {loose : List Str} {mean : ExcName → Option Value} {mg mb : Str → Option Value}
    {dp un : Nat} {gd : Option (List Code)} {cn : Str} {cs : Scope} {a : Addr} {ccd : Value} {cl : List (Str × Addr)} {outer : List Env} {A₀ : Around} {base h₀ : Heap} {L : Addr} {m : Str → Option Value} {s : Shared} {Q E : Value → Shared → Prop}
    {news : List (Addr × Obj)}
    (B : Below A₀ base outer h₀) (F : Fr h₀ L s.heap m) (X : (tp.heap_39 w.params).In h₀) (N : News h₀ L s.heap news) (T : Top p loose mean mg mb h₀) (hk : cs.kind = .function)
    {l : Addr} {vs : List Value} {ns : List Int} {c : Nat} (hm : (l, W.listOf vs.toArray c) ∈ news) (hi : IntsAre vs ns) (hlen : ns.length ≤ 10) (hb : ∀ x ∈ ns, 0 ≤ x ∧ x ≤ 6) (hr : 0 ≤ roomZ ns)
    (hd : dp + 40 < recursionLimit) (hu : un + 140 < cLine)
    (ret : ∀ (t : Tok) (h' : Heap) (tk' : Nat), Fr h₀ L h' m → News h₀ L h' news → Q (.int (freeZ ns (2 ^ (gmax ns).toNat)) t) { s with heap := h', toks := tk' }) :
    wpAny (model prog w) (ktrTop dp un gd cn cs L a ccd cl outer) (call (.ref 212) [.ref l]) Q E s := by
  have hvl := hi.length
  have hg0 := gmax_nonneg ns
  have hg6 := gmax_le (by decide) hb
  k_with_none
  k_with "m mem" => first | assumption | exact List.mem_cons_self | (refine List.mem_cons_of_mem _ ?_; walk_at "m mem")
  k_with "m all" => first | (refine List.forall_mem_cons.mpr ⟨by walk_at "m mem", ?_⟩; walk_at "m all") | exact List.forall_mem_nil _ | (intro q9 hq9; walk_at "m mem")
  k_with "m sub" => (refine news_sub (by assumption) ?_; walk_at "m all")
  k_with "InvEndN" => k_dflt kst_close
  k_with "ktr_room" => ((try simp only [depth_mark, depth_under_make, depth_under_kw, depth_in1, depth_deeper, depth_caller]); (try dsimp only [ktrTop]); first | decide | (rename (_ + _ < recursionLimit) => hd9; refine Nat.lt_of_le_of_lt ?_ hd9; (try simp only [Nat.add_assoc]); exact Nat.add_le_add_left (by decide) _) | omega)
  k_with "ktr_units" => ((try simp only [units_under_make, units_in1, units_deeper, Around.mark_units, units_caller]); (try dsimp only [ktrTop]); first | decide | (rename (_ + _ < cLine) => hu9; refine Nat.lt_of_le_of_lt ?_ hu9; (try simp only [Nat.add_assoc]); exact Nat.add_le_add_left (by decide) _) | omega)
  k_with "call ref" => (k_extra "cA"; intro _ _ _ _ _; (try dsimp only); (try k_sweep))
  k_with "call ref" => (k_extra "cB"; intro _ _ _ _; (try dsimp only); (try k_sweep))
  k_with "call ref" => (k_extra "cH"; refine Hold.out ?_)
  k_with "om" => with_reducible first | exact A0.c1 (by assumption) | exact A0.c2 (by assumption) | exact A0.c3 (by assumption) | exact A0.c4 (by assumption) | exact A0.c5 (by assumption) | exact A0.c6 (by assumption) | exact A0.c7 (by assumption) | exact A0.e2 (by assumption) | exact A0.e3 (by assumption) | exact A0.e4 (by assumption) | exact A0.e5 (by assumption) | exact A0.e6 (by assumption) | exact A0.e7 (by assumption) | exact Nat.le_trans (by assumption) (by decide)
  k_with "k_mem" => first | assumption | (refine List.mem_cons_of_mem _ ?_; k_mem)
  k_with "news_mem" => k_mem
  k_with "k_memK" => first | assumption | (refine List.mem_cons_of_mem _ ?_; k_memK)
  k_with "pyIter ref" => refine Hold.out ?_
  k_with "exec For Name Call cons nil" => (refine wpAny_For ?_ (by intro _; rfl))
  k_with "k_all" => first | exact List.forall_mem_nil _ | (refine List.forall_mem_cons.mpr ⟨by k_ne, ?_⟩; k_all) | (refine lt_ne9 (by assumption) ?_; omega)
  k_with "newTuple" => ((rename (_ ∈ _ ++ [0]) => ha9); (rename (∀ a, a ∈ _ ++ [0] → a ≤ _) => hb9); (have hM9 := gmax_app ha9 hb9); clear ha9 hb9; subst hM9)
  k_with "eval ListComp" => (k_here; k_dflt (refine LCt.ListComp_T (F₀ := by k_asm) (by with_unfolding_all rfl) (by decide) (by rfl) (by decide) (by rfl) ?_))
  k_with "CompSrcT" => refine Hold.out ?_
  refine wpAny_noRaise ?_
  (w_top off; (have kf : Challenge.rw_og0142_01.prog = Challenge.rw_og0142_01.prog ∧ tp.heap_39 = tp.heap_39 := by (k_fill; exact ⟨rfl, rfl⟩)); clear kf; refine wpAny_call ?_; k_dflt (refine' code_defC ?k1 ?k2 ?k3 ?k4 ?k5 ?kA ?kF ?kK ?k6 ?k7 ?k8 ?k9 ?kB ?kD ?_ ?c2 ?c3 ?c4; (case kA => exact rfl); (case kF => exact rfl); (case kK => assumption); (case k1 => k_asm); (case k2 => k_asm); (case k3 => k_asm); (case k4 => k_asm); (case k5 => k_asm); (case k6 => k_is); (case k7 => k_is); (case k8 => ktr_room); (case k9 => exact BindsTo.of_eq rfl); (case kB => exact rfl); (case kD => decide +kernel); (case c2 => exact rfl); (case c3 => exact rfl); (case c4 => exact rfl); k_whole; intro g9 L9 hE tkE cells' FG F' N' Y' B9 X9 T9 lN; (try k_lt lN); k_cells Y'; (try simp only [List.cons_append, List.nil_append] at N'); (try dsimp only); (try k_lift B9); (try k_fold)))
  k_with "cA" => ((with_reducible show wpAny _ _ (call (Value.ref 61) [Value.ref _]) _ _ _); k_dflt (refine c_greatest (by k_asm) (by k_asm) (by k_asm) (by k_asm) (by k_asm) (by first | exact rfl | assumption) (by k_mem) (by assumption) (by omega) (by ktr_room) (by ktr_units) ?_))
  k_with "cC" => ((with_reducible show wpAny _ _ (call (Value.ref 68) [Value.ref _]) _ _ _); k_dflt (refine c_tally (by k_asm) (by k_asm) (by k_asm) (by k_asm) (by k_asm) (by first | exact rfl | assumption) (by k_mem) (by assumption) (by omega) (by assumption) (by ktr_room) (by ktr_units) ?_))
  k_with "cA" => ((with_reducible show wpAny _ _ (call (Value.ref 75) [Value.ref _]) _ _ _); k_dflt (refine c_room (by k_asm) (by k_asm) (by k_asm) (by k_asm) (by k_asm) (by first | exact rfl | assumption) (by k_mem) (by assumption) (by first | omega | (simp only [List.length_append, List.length_cons, List.length_nil, List.length_reverse] at *; omega)) (by assumption) (by ktr_room) (by ktr_units) ?_))
  k_with "cB" => ((with_reducible show wpAny _ _ (call (Value.ref 89) [Value.ref _]) _ _ _); k_dflt (refine c_over (by k_asm) (by k_asm) (by k_asm) (by k_asm) (by k_asm) (by first | exact rfl | assumption) (by k_mem) (by assumption) (by first | omega | (simp only [List.length_append, List.length_cons, List.length_nil, List.length_reverse] at *; omega)) (by assumption) (by ktr_room) (by ktr_units) ?_))
  k_with "cC" => ((with_reducible show wpAny _ _ (call (Value.ref 96) [Value.ref _]) _ _ _); k_dflt (refine c_first (by k_asm) (by k_asm) (by k_asm) (by k_asm) (by k_asm) (by first | exact rfl | assumption) (by k_mem) (by assumption) (by omega) (by omega) (by ktr_room) (by ktr_units) ?_))
  k_with "cC" => ((with_reducible show wpAny _ _ (call (Value.ref 103) [Value.ref _]) _ _ _); k_dflt (refine c_codes (by k_asm) (by k_asm) (by k_asm) (by k_asm) (by k_asm) (by first | exact rfl | assumption) (by k_mem) (by assumption) (by omega) (by assumption) (by assumption) (by ktr_room) (by ktr_units) ?_))
  refine wpAny_noRaise ?_
  k_steps
  rename_i oR o2 o3 oL dR d2 d3 d1 D9 ws9 c9 h9 tk9 i9 l9 lz hz l1 Dz wz hz2 hIz l2 hz3 tz kz Dt hz4 l3 hz5 hz6 oC dC hz7 oM dM hF F5 N5 hG tkG t1 u1 v1 rg F6 N6 k6
  have dL : oL.data = .cell (some (.ref l)) := d1.trans rfl
  have dR' : oR.data = .cell none := dR.trans rfl
  clear d1 d2 d3 dR l1 l2 l3 hIz F5 N5 k6
  obtain ⟨mm, hmm, F6⟩ := fr_name F6
  refine Hold.of (wpAny_pyIter_range rg ?_ ?_)
  · exact small_two hg6
  have hJ1 : @LT.lt Nat _ D9 hG.objs.size := Heap.lt_size (N6 (D9, _) (by walk_at "m mem")).1
  have hJ2 : @LT.lt Nat _ (L9 + 1 + 1 + 1 + 1) hG.objs.size := Heap.lt_size (N6 (L9 + 1 + 1 + 1 + 1, oR) (by walk_at "m mem")).1
  have hnews6 : ∀ p ∈ news, p.1 ≠ hG.objs.size := fun p hp => Nat.ne_of_lt (Heap.lt_size (N6 p (by walk_at "m mem")).1)
  have hnI : ∀ or' : Obj, ∀ p ∈ ((D9, W.listOf ws9.toArray c9) :: (L9 + 1 + 1 + 1 + 1, or') :: (L9 + 1 + 1 + 1, oM) :: (L9 + 1 + 1, oC) :: (L9 + 1, oL) :: news), p.1 ≠ hG.objs.size := by
    intro or' p hp
    simp only [List.mem_cons] at hp
    rcases hp with h | h | h | h | h | hp
    · rw [h]; exact Nat.ne_of_lt hJ1
    · rw [h]; exact Nat.ne_of_lt hJ2
    · rw [h]; refine neN ?_; dsimp only; omega
    · rw [h]; refine neN ?_; dsimp only; omega
    · rw [h]; refine neN ?_; dsimp only; omega
    · exact hnews6 p hp
  have hcl : (codesZ ns).length = ns.length := codesP_length
  refine forLoop_range (by rfl) 0 (2 ^ (gmax ns).toNat) (FreeInv s g9 L9 hG.objs.size D9 mm ns ws9 c9 oM oC oL news) ?hI ?turn ?done ?h0
  case hI =>
    rintro i s9 ⟨hp, tk, t, or', orv, rfl, F8, N8, d8⟩
    exact (N8 _ (.head _)).1
  case turn =>
    rintro i s9 h8 P9 hi ⟨hp, tk, t, or', orv, rfl, F8, N8, d8⟩ hit hs hP9
    rw [show (0 : Int) + (i : Int) + 1 = 0 + ((i + 1 : Nat) : Int) by omega, show ((2 ^ (gmax ns).toNat : Nat) : Int) - (i : Int) - 1 = ((2 ^ (gmax ns).toNat : Nat) : Int) - ((i + 1 : Nat) : Int) by omega] at hit
    obtain ⟨F8, N8⟩ := turn_head F8 N8 (hnI _) hs hit
    subst hmm
    clear F6 N6 rg
    k_steps
    rename_i h10 oR2 F10 N10 dR10 h11 tk11 t2 u2 v2 rg2 F11 N11 k11
    clear F10 N10 k11
    refine Hold.of (LCt.CompSrcT.range (n := (((ns.length : Nat) : Int) - 0).toNat) (by rfl) F11 N11 rg2 (small_one (by omega) (by omega) (by omega) (by omega)) (rangeSize_nat _ _) (by rw [PySem.sizeLine_eq]; omega) ?_)
    intro g12
    refine comp_restT (fun k ys nw => nw = _ ∧ IntsAre ys (hitsZ ns i k)) ⟨rfl, ?n0⟩ ?turn2 ?fin2
    case turn2 =>
      rintro k v ys nw I2 oI2 C2 oC2 D2 m2 h12 tk12 E2 hk12 ⟨t12, rfl⟩ ⟨rfl, hy⟩ hC12 hx12 F12 N12 off12 ne12 P1 P2 hP1 hP2
      have hkl : 0 + (k : Int) < ns.length := by omega
      simp only [LCg.Off3] at off12
      replace off12 := Hold.of off12
      replace ne12 := Hold.of ne12
      have hmem12 : ns.getD (0 + (k : Int)).toNat 0 ∈ ns := by
        rw [List.getD_eq_getElem?_getD, List.getElem?_eq_getElem (by omega)]; simp
      have hb12 := hb _ hmem12
      have hg12 := gmax_ge hmem12
      k_steps
      all_goals (
        (first | refine hP1 _ _ ?_ | refine hP2 _ ?_)
        refine LCg.CompEnd.intro (by assumption) (by assumption) _ (fun p hp => hp) (by simpa only [LCg.Off3] using off12.out) trivial ⟨rfl, ?_⟩
        rw [hits_succ]
        first
        | (rw [if_pos (hit_tt (by assumption) (by assumption))]; exact hy.append (.cons 1 _ .nil))
        | (rw [if_neg (hit_f2 (by assumption)), List.append_nil]; exact hy)
        | (rw [if_neg (hit_f1 (by first | assumption | omega)), List.append_nil]; exact hy))
    case fin2 =>
      rintro ys nw ⟨rfl, hy⟩
      have hn12 : (((ns.length : Nat) : Int) - 0).toNat = ns.length := by omega
      rw [hn12] at hy
      k_steps
      all_goals rename Fr g9 L9 _ _ => F13
      all_goals rename News g9 L9 _ _ => N13
      · rename _ = true => hc13
        exact hP9 _ (freeInv_mk F13 (by rw [free_succ, if_pos (of_decide_eq_true hc13)]) (fun y hy => (if_neg hy).symm) (fun p hp => N13 p (.tail _ (.tail _ hp))) dR10)
      · rename _ = false => hc13
        exact hP9 _ (freeInv_mk F13 (by rw [free_succ, if_neg (of_decide_eq_false hc13), Int.add_zero]) (fun y hy => rfl) (fun p hp => N13 p (.tail _ (.tail _ hp))) dR10)
    case n0 => exact .nil
  case done =>
    rintro s9 h8 ⟨hp, tk, t, or', orv, rfl, F8, N8, d8⟩ hs
    obtain ⟨F8, N8⟩ := drop_head F8 N8 (hnI _) hs
    subst hmm
    clear F6 N6 rg
    k_steps
    rename Fr h₀ L _ m => kF
    rename News h₀ L _ _ => kN
    exact ret _ _ _ kF (fun p hp => kN p (by walk_at "m mem"))
  case h0 =>
    subst hmm
    refine freeInv_mk (F6.push _) rfl (fun y hy => if_neg hy) (fun p hp => ?_) dR'
    rcases List.mem_cons.mp hp with rfl | hp
    · refine ⟨(Heap.get?_push_size _ rfl).trans ?_, Nat.ne_of_gt (F6.ns.lt), Heap.get?_none_of_le (Nat.le_trans F6.above (Nat.le_of_lt F6.ns.lt))⟩
      rw [rangeSize_two]; rfl
    · refine ⟨Heap.get?_push_of_some _ (N6 p ?_).1, (N6 p ?_).2⟩
      all_goals (
        simp only [List.mem_cons] at hp
        rcases hp with h | h | h | h | h | h
        · rw [h]; walk_at "m mem"
        · rw [h]; walk_at "m mem"
        · rw [h]; walk_at "m mem"
        · rw [h]; walk_at "m mem"
        · rw [h]; walk_at "m mem"
        · walk_at "m mem")

end Mine

/-! part M8 -/
namespace Mine
set_option maxRecDepth 100000
set_option maxHeartbeats 4000000
namespace M8

theorem bitOr_zero' {x : Int} (h : 0 ≤ x) : Builtin.bitOr 0 x = x := by
  have e1 : Builtin.bitNot 0 = -1 := by decide
  have e2 : Builtin.bitNot x = -x - 1 := by unfold Builtin.bitNot; omega
  unfold Builtin.bitOr
  rw [e1, e2]
  unfold Builtin.bitAnd
  rw [decide_eq_false (show ¬ (0 : Int) ≤ -1 by decide), decide_eq_false (show ¬ (0 : Int) ≤ -x - 1 by omega)]
  have e3 : Builtin.bitNot (-1) = 0 := by decide
  have e4 : Builtin.bitNot (-x - 1) = x := by unfold Builtin.bitNot; omega
  simp only [e3, e4]
  simp
  unfold Builtin.bitNot
  omega
theorem fdiv_two (x : Int) : x.fdiv (2 ^ Int.toNat 1) = x / 2 := Int.fdiv_eq_ediv_of_nonneg x (by decide)
theorem and_two (x : Int) : Builtin.bitAnd x (1 * 2 ^ Int.toNat 1 - 1) = x % 2 := bitAnd_m1 x
/-- the dict of a BitsIn -/
noncomputable abbrev bitsD (w : World) (k1 k2 k3 k4 : Tok) (dat at9 held count : Value) : Obj :=
  dictOf [{ hash := PyData.keyHash w.params (Str.ofString "data"), key := .str (Str.ofString "data") k1, val := dat }, { hash := PyData.keyHash w.params (Str.ofString "at"), key := .str (Str.ofString "at") k2, val := at9 },
    { hash := PyData.keyHash w.params (Str.ofString "held"), key := .str (Str.ofString "held") k3, val := held }, { hash := PyData.keyHash w.params (Str.ofString "count"), key := .str (Str.ofString "count") k4, val := count }] 4

theorem c_binit {prog p : Program} {w : World} {loose : List Str} {mean : ExcName → Option Value} {mg mb : Str → Option Value}
    {dp un : Nat} {gd : Option (List Code)} {cn : Str} {cs : Scope} {a : Addr} {ccd : Value} {cl : List (Str × Addr)} {outer : List Env} {A₀ : Around} {base h₀ : Heap} {L : Addr} {m : Str → Option Value} {s : Shared} {Q E : Value → Shared → Prop}
    {news : List (Addr × Obj)}
    (B : Below A₀ base outer h₀) (F : Fr h₀ L s.heap m) (X : (tp.heap_39 w.params).In h₀) (N : News h₀ L s.heap news) (T : Top p loose mean mg mb h₀) (hk : cs.kind = .function)
    {ib db : Addr} {arr : Array UInt8} {tb : Tok} {rest : List (Addr × Obj)} (hn : news = (db, emptyDict) :: (ib, instObj 196 db) :: rest) (hne : @Ne Nat ib db) (hrest : ∀ p ∈ rest, p.1 ≠ db) 
    (hd : dp + 8 < recursionLimit) (hu : un + 20 < cLine)
    (ret : ∀ (k1 k2 k3 k4 t2 t3 t4 : Tok) (h' : Heap) (tk' : Nat), Fr h₀ L h' m → News h₀ L h' ((db, bitsD w k1 k2 k3 k4 (.bytes arr tb) (.int 0 t2) (.int 0 t3) (.int 0 t4)) :: (ib, instObj 196 db) :: rest) → Q .none { s with heap := h', toks := tk' }) :
    wpAny (model prog w) (ktrTop dp un gd cn cs L a ccd cl outer) (call (.ref 158) [.ref ib, .bytes arr tb]) Q E s := by
  subst hn
  have hMk := kstMark
  k_with_none
  k_with "m mem" => first | assumption | exact List.mem_cons_self | (refine List.mem_cons_of_mem _ ?_; walk_at "m mem")
  k_with "m all" => first | (refine List.forall_mem_cons.mpr ⟨by walk_at "m mem", ?_⟩; walk_at "m all") | exact List.forall_mem_nil _ | (intro q9 hq9; walk_at "m mem")
  k_with "m sub" => (refine news_sub (by assumption) ?_; walk_at "m all")
  k_with "InvEndN" => k_dflt kst_close
  k_with "ktr_room" => ((try simp only [depth_mark, depth_under_make, depth_under_kw, depth_in1, depth_deeper, depth_caller]); (try dsimp only [ktrTop]); first | decide | (rename (_ + _ < recursionLimit) => hd9; refine Nat.lt_of_le_of_lt ?_ hd9; (try simp only [Nat.add_assoc]); exact Nat.add_le_add_left (by decide) _) | omega)
  k_with "ktr_units" => ((try simp only [units_under_make, units_in1, units_deeper, Around.mark_units, units_caller]); (try dsimp only [ktrTop]); first | decide | (rename (_ + _ < cLine) => hu9; refine Nat.lt_of_le_of_lt ?_ hu9; (try simp only [Nat.add_assoc]); exact Nat.add_le_add_left (by decide) _) | omega)
  k_with "call ref" => (k_extra "cA"; intro _ _ _ _ _; (try dsimp only); (try k_sweep))
  k_with "call ref" => (k_extra "cB"; intro _ _ _ _; (try dsimp only); (try k_sweep))
  k_with "call ref" => (k_extra "cH"; refine Hold.out ?_)
  k_with "om" => with_reducible first | exact A0.c1 (by assumption) | exact A0.c2 (by assumption) | exact A0.c3 (by assumption) | exact A0.c4 (by assumption) | exact A0.c5 (by assumption) | exact A0.c6 (by assumption) | exact A0.c7 (by assumption) | exact A0.e2 (by assumption) | exact A0.e3 (by assumption) | exact A0.e4 (by assumption) | exact A0.e5 (by assumption) | exact A0.e6 (by assumption) | exact A0.e7 (by assumption) | exact Nat.le_trans (by assumption) (by decide)
  k_with "k_mem" => first | assumption | (refine List.mem_cons_of_mem _ ?_; k_mem)
  k_with "news_mem" => k_mem
  k_with "k_memK" => first | assumption | (refine List.mem_cons_of_mem _ ?_; k_memK)
  k_with "exec Try" => refine wpAny_Try_except ?_
  k_with "k_all" => first | assumption | exact List.forall_mem_nil _ | (refine List.forall_mem_cons.mpr ⟨by k_ne, ?_⟩; k_all) | (refine lt_ne9 (by assumption) ?_; omega)
  k_with "exec While Compare cons nil" => k_dflt (refine whl_start 2 ?_)
  k_with "WhlIf" => (first | (refine WhlIf.yes (decide_eq_true (by omega)) ?_) | (refine WhlIf.no (decide_eq_false (by omega)) ?_))
  (w_top off; (have kf : Challenge.rw_og0142_01.prog = Challenge.rw_og0142_01.prog ∧ tp.heap_39 = tp.heap_39 := by (k_fill; exact ⟨rfl, rfl⟩)); clear kf; refine wpAny_call ?_; k_dflt (refine' code_def ?k1 ?k2 ?k3 ?k4 ?k5 ?kA ?kF ?kK ?k6 ?k7 ?k8 ?k9 ?kB ?_ ?c2 ?c3 ?c4 ?c5; (case kA => exact rfl); (case kF => exact rfl); (case kK => assumption); (case k1 => k_asm); (case k2 => k_asm); (case k3 => k_asm); (case k4 => k_asm); (case k5 => k_asm); (case k6 => k_is); (case k7 => k_is); (case k8 => ktr_room); (case k9 => first | exact BindsTo.of_eq rfl | exact binds_K (by k_in) rfl (by k_is) rfl rfl rfl); (case c5 => decide); (case kB => exact locs rfl); (case c2 => exact rfl); (case c3 => exact rfl); (case c4 => exact rfl); k_whole; intro g' L' h' FG' F' N' B' X' T'; (try dsimp only); (try k_fold)))
  k_steps
  rename Fr h₀ L _ m => kF
  rename News h₀ L _ _ => kN
  exact ret _ _ _ _ _ _ _ _ _ kF kN

theorem c_take0 {prog p : Program} {w : World} {loose : List Str} {mean : ExcName → Option Value} {mg mb : Str → Option Value}
    {dp un : Nat} {gd : Option (List Code)} {cn : Str} {cs : Scope} {a : Addr} {ccd : Value} {cl : List (Str × Addr)} {outer : List Env} {A₀ : Around} {base h₀ : Heap} {L : Addr} {m : Str → Option Value} {s : Shared} {Q E : Value → Shared → Prop}
    {news : List (Addr × Obj)}
    (B : Below A₀ base outer h₀) (F : Fr h₀ L s.heap m) (X : (tp.heap_39 w.params).In h₀) (N : News h₀ L s.heap news) (T : Top p loose mean mg mb h₀) (hk : cs.kind = .function)
    {ib db : Addr} {b : UInt8} {tb : Tok} {rest : List (Addr × Obj)} {k1 k2 k3 k4 t2 t3 t4 t9 : Tok} (hn : news = (db, bitsD w k1 k2 k3 k4 (.bytes #[b] tb) (.int 0 t2) (.int 0 t3) (.int 0 t4)) :: (ib, instObj 196 db) :: rest) (hne : @Ne Nat ib db) (hrest : ∀ p ∈ rest, p.1 ≠ db) 
    (hd : dp + 16 < recursionLimit) (hu : un + 60 < cLine)
    (ret : ∀ (k1 k2 k3 k4 t1 t2 t3 t4 : Tok) (h' : Heap) (tk' : Nat), Fr h₀ L h' m → News h₀ L h' ((db, bitsD w k1 k2 k3 k4 (.bytes #[b] tb) (.int 1 t2) (.int ((b.toNat : Int) / 2) t3) (.int 7 t4)) :: (ib, instObj 196 db) :: rest) → Q (.int ((b.toNat : Int) % 2) t1) { s with heap := h', toks := tk' }) :
    wpAny (model prog w) (ktrTop dp un gd cn cs L a ccd cl outer) (call (.ref 179) [.ref ib, .int 1 t9]) Q E s := by
  subst hn
  dsimp only [bitsD] at N
  have hMk := kstMark
  have hbv : (([b].getD (Int.toNat 0) 0).toNat : Int) < 256 := by have := b.toNat_lt; show (b.toNat : Int) < 256; omega
  have hsz : ((#[b].size : Nat) : Int) = 1 := rfl
  refine wpAny_noRaise ?_
  k_with_none
  k_with "m mem" => first | assumption | exact List.mem_cons_self | (refine List.mem_cons_of_mem _ ?_; walk_at "m mem")
  k_with "m all" => first | (refine List.forall_mem_cons.mpr ⟨by walk_at "m mem", ?_⟩; walk_at "m all") | exact List.forall_mem_nil _ | (intro q9 hq9; walk_at "m mem")
  k_with "m sub" => (refine news_sub (by assumption) ?_; walk_at "m all")
  k_with "InvEndN" => k_dflt kst_close
  k_with "ktr_room" => ((try simp only [depth_mark, depth_under_make, depth_under_kw, depth_in1, depth_deeper, depth_caller]); (try dsimp only [ktrTop]); first | decide | (rename (_ + _ < recursionLimit) => hd9; refine Nat.lt_of_le_of_lt ?_ hd9; (try simp only [Nat.add_assoc]); exact Nat.add_le_add_left (by decide) _) | omega)
  k_with "ktr_units" => ((try simp only [units_under_make, units_in1, units_deeper, Around.mark_units, units_caller]); (try dsimp only [ktrTop]); first | decide | (rename (_ + _ < cLine) => hu9; refine Nat.lt_of_le_of_lt ?_ hu9; (try simp only [Nat.add_assoc]); exact Nat.add_le_add_left (by decide) _) | omega)
  k_with "call ref" => (k_extra "cA"; intro _ _ _ _ _; (try dsimp only); (try k_sweep))
  k_with "call ref" => (k_extra "cB"; intro _ _ _ _; (try dsimp only); (try k_sweep))
  k_with "call ref" => (k_extra "cH"; refine Hold.out ?_)
  k_with "om" => with_reducible first | exact A0.c1 (by assumption) | exact A0.c2 (by assumption) | exact A0.c3 (by assumption) | exact A0.c4 (by assumption) | exact A0.c5 (by assumption) | exact A0.c6 (by assumption) | exact A0.c7 (by assumption) | exact A0.e2 (by assumption) | exact A0.e3 (by assumption) | exact A0.e4 (by assumption) | exact A0.e5 (by assumption) | exact A0.e6 (by assumption) | exact A0.e7 (by assumption) | exact Nat.le_trans (by assumption) (by decide)
  k_with "k_mem" => first | assumption | (refine List.mem_cons_of_mem _ ?_; k_mem)
  k_with "news_mem" => k_mem
  k_with "k_memK" => first | assumption | (refine List.mem_cons_of_mem _ ?_; k_memK)
  k_with "exec Try" => refine wpAny_Try_except ?_
  k_with "k_all" => first | assumption | exact List.forall_mem_nil _ | (refine List.forall_mem_cons.mpr ⟨by k_ne, ?_⟩; k_all) | (refine lt_ne9 (by assumption) ?_; omega)
  k_with "exec While Compare cons nil" => k_dflt (refine whl_start 2 ?_)
  k_with "WhlIf" => (first | (refine WhlIf.yes (decide_eq_true (by omega)) ?_) | (refine WhlIf.no (decide_eq_false (by omega)) ?_))
  w_top off
  have kf : Challenge.rw_og0142_01.prog = Challenge.rw_og0142_01.prog ∧ tp.heap_39 = tp.heap_39 := by (k_fill; exact ⟨rfl, rfl⟩)
  clear kf
  refine wpAny_call ?_
  k_dflt ktr_enter
  refine wpAny_noRaise ?_
  k_steps
  rename Fr h₀ L _ m => kF
  rename News h₀ L _ _ => kN
  have hb0 : Builtin.bitOr 0 ((([b].getD (Int.toNat 0) 0).toNat : Int) * 2 ^ Int.toNat 0) = (b.toNat : Int) := by
    rw [show (([b].getD (Int.toNat 0) 0).toNat : Int) * 2 ^ Int.toNat 0 = (b.toNat : Int) from by show (b.toNat : Int) * 1 = _; omega]
    exact bitOr_zero' (by omega)
  rw [hb0, and_two]
  rw [hb0, fdiv_two] at kN
  exact ret _ _ _ _ _ _ _ _ _ _ kF kN

theorem c_takeS {prog p : Program} {w : World} {loose : List Str} {mean : ExcName → Option Value} {mg mb : Str → Option Value}
    {dp un : Nat} {gd : Option (List Code)} {cn : Str} {cs : Scope} {a : Addr} {ccd : Value} {cl : List (Str × Addr)} {outer : List Env} {A₀ : Around} {base h₀ : Heap} {L : Addr} {m : Str → Option Value} {s : Shared} {Q E : Value → Shared → Prop}
    {news : List (Addr × Obj)}
    (B : Below A₀ base outer h₀) (F : Fr h₀ L s.heap m) (X : (tp.heap_39 w.params).In h₀) (N : News h₀ L s.heap news) (T : Top p loose mean mg mb h₀) (hk : cs.kind = .function)
    {ib db : Addr} {b : UInt8} {tb : Tok} {rest : List (Addr × Obj)} {k1 k2 k3 k4 t2 t3 t4 t9 : Tok} {held count : Int} (hh0 : 0 ≤ held) (hh1 : held < 256) (hc1 : 1 ≤ count) (hc8 : count ≤ 8) (hn : news = (db, bitsD w k1 k2 k3 k4 (.bytes #[b] tb) (.int 1 t2) (.int held t3) (.int count t4)) :: (ib, instObj 196 db) :: rest) (hne : @Ne Nat ib db) (hrest : ∀ p ∈ rest, p.1 ≠ db) 
    (hd : dp + 16 < recursionLimit) (hu : un + 60 < cLine)
    (ret : ∀ (k1 k2 k3 k4 t1 t2 t3 t4 : Tok) (h' : Heap) (tk' : Nat), Fr h₀ L h' m → News h₀ L h' ((db, bitsD w k1 k2 k3 k4 (.bytes #[b] tb) (.int 1 t2) (.int (held / 2) t3) (.int (count - 1) t4)) :: (ib, instObj 196 db) :: rest) → Q (.int (held % 2) t1) { s with heap := h', toks := tk' }) :
    wpAny (model prog w) (ktrTop dp un gd cn cs L a ccd cl outer) (call (.ref 179) [.ref ib, .int 1 t9]) Q E s := by
  subst hn
  dsimp only [bitsD] at N
  have hMk := kstMark
  have hbv : (([b].getD (Int.toNat 0) 0).toNat : Int) < 256 := by have := b.toNat_lt; show (b.toNat : Int) < 256; omega
  have hsz : ((#[b].size : Nat) : Int) = 1 := rfl
  refine wpAny_noRaise ?_
  k_with_none
  k_with "m mem" => first | assumption | exact List.mem_cons_self | (refine List.mem_cons_of_mem _ ?_; walk_at "m mem")
  k_with "m all" => first | (refine List.forall_mem_cons.mpr ⟨by walk_at "m mem", ?_⟩; walk_at "m all") | exact List.forall_mem_nil _ | (intro q9 hq9; walk_at "m mem")
  k_with "m sub" => (refine news_sub (by assumption) ?_; walk_at "m all")
  k_with "InvEndN" => k_dflt kst_close
  k_with "ktr_room" => ((try simp only [depth_mark, depth_under_make, depth_under_kw, depth_in1, depth_deeper, depth_caller]); (try dsimp only [ktrTop]); first | decide | (rename (_ + _ < recursionLimit) => hd9; refine Nat.lt_of_le_of_lt ?_ hd9; (try simp only [Nat.add_assoc]); exact Nat.add_le_add_left (by decide) _) | omega)
  k_with "ktr_units" => ((try simp only [units_under_make, units_in1, units_deeper, Around.mark_units, units_caller]); (try dsimp only [ktrTop]); first | decide | (rename (_ + _ < cLine) => hu9; refine Nat.lt_of_le_of_lt ?_ hu9; (try simp only [Nat.add_assoc]); exact Nat.add_le_add_left (by decide) _) | omega)
  k_with "call ref" => (k_extra "cA"; intro _ _ _ _ _; (try dsimp only); (try k_sweep))
  k_with "call ref" => (k_extra "cB"; intro _ _ _ _; (try dsimp only); (try k_sweep))
  k_with "call ref" => (k_extra "cH"; refine Hold.out ?_)
  k_with "om" => with_reducible first | exact A0.c1 (by assumption) | exact A0.c2 (by assumption) | exact A0.c3 (by assumption) | exact A0.c4 (by assumption) | exact A0.c5 (by assumption) | exact A0.c6 (by assumption) | exact A0.c7 (by assumption) | exact A0.e2 (by assumption) | exact A0.e3 (by assumption) | exact A0.e4 (by assumption) | exact A0.e5 (by assumption) | exact A0.e6 (by assumption) | exact A0.e7 (by assumption) | exact Nat.le_trans (by assumption) (by decide)
  k_with "k_mem" => first | assumption | (refine List.mem_cons_of_mem _ ?_; k_mem)
  k_with "news_mem" => k_mem
  k_with "k_memK" => first | assumption | (refine List.mem_cons_of_mem _ ?_; k_memK)
  k_with "exec Try" => refine wpAny_Try_except ?_
  k_with "k_all" => first | assumption | exact List.forall_mem_nil _ | (refine List.forall_mem_cons.mpr ⟨by k_ne, ?_⟩; k_all) | (refine lt_ne9 (by assumption) ?_; omega)
  k_with "exec While Compare cons nil" => k_dflt (refine whl_start 2 ?_)
  k_with "WhlIf" => (first | (refine WhlIf.yes (decide_eq_true (by omega)) ?_) | (refine WhlIf.no (decide_eq_false (by omega)) ?_))
  w_top off
  have kf : Challenge.rw_og0142_01.prog = Challenge.rw_og0142_01.prog ∧ tp.heap_39 = tp.heap_39 := by (k_fill; exact ⟨rfl, rfl⟩)
  clear kf
  refine wpAny_call ?_
  k_dflt ktr_enter
  refine wpAny_noRaise ?_
  k_steps
  rename Fr h₀ L _ m => kF
  rename News h₀ L _ _ => kN
  rw [and_two]
  rw [fdiv_two] at kN
  exact ret _ _ _ _ _ _ _ _ _ _ kF kN
end M8
end Mine

/-! part X1 -/
set_option maxRecDepth 100000
namespace Mine

/-- an exception of its own class, new, its dict whatever it is -/
structure NewExcR (h h' : Heap) (e : Addr) (cls : Value) : Prop where
  keeps : ∀ b o, h.get? b = some o → h'.get? b = some o
  new : h.get? e = none
  there : ∃ ob t, h'.get? e = some ob ∧ ob.cls = cls ∧ ob.data = .fields #[t, .none, .none, .none, .bool false, .none]

section
variable {M : Model} {A : Around} {E : Value → Shared → Prop} {env : Env}
/-- what a raise wants of the value -/
noncomputable def RaisableR (M : Model) (E : Value → Shared → Prop) (v : Value) (s₁ : Shared) : Prop :=
  ∃ e ob t C oc, v = .ref e ∧ s₁.heap.get? e = some ob ∧ ob.cls = .ref C ∧ ob.data = .fields #[t, .none, .none, .none, .bool false, .none] ∧ Looks M s₁.heap (isSubtype (.ref C) (.type "BaseException")) true ∧ s₁.heap.get? C = some oc ∧ oc.cls = .type "type" ∧ E (.ref e) s₁
theorem Raise_own {x : PySem.Expr} {pos : Pos} {s : Shared} {Q : Flow → Shared → Prop} (hh : A.handled = none) (h : wpAny M A (eval x env) (RaisableR M E) E s) : wpAny M A (exec (.Raise (some x) none pos) env) Q E s := by
  show wpAny M A (do standAt pos; raiseStmt env (some (do let v ← eval x env; standAt pos; pure v)) none) Q E s
  refine wpAny_bind (wpAny_standAt ?_)
  unfold raiseStmt
  dsimp only
  refine wpAny_bind (wpAny_bind (wpAny_mono h (fun v s₁ h₁ => wpAny_bind (wpAny_standAt (wpAny_pure ?_))) fun _ _ x => x))
  obtain ⟨e, ob, t, C, oc, rfl, ha, hcls, hd, hsub, hoc, hocc, hE⟩ := h₁
  obtain ⟨hp, g, d, tk, os⟩ := s₁
  have hnt : ∀ {Q' : Bool → Shared → Prop}, Q' false ⟨hp, g, d, tk, os⟩ → wpAny M A (isType (.ref e)) Q' E ⟨hp, g, d, tk, os⟩ := by
    intro Q' hq
    simp only [isType, loadHead]
    refine wpAny_bind (wpAny_loadPart ha ?_)
    rw [hd]; exact wpAny_pure hq
  have hT : ∀ {Q' : Value → Shared → Prop}, Q' (.ref C) ⟨hp, g, d, tk, os⟩ → wpAny M A (typeOf (.ref e)) Q' E ⟨hp, g, d, tk, os⟩ := by
    intro Q' hq
    simp only [typeOf]
    refine wpAny_bind (wpAny_loadPart ha ?_)
    rw [hcls]; exact wpAny_pure hq
  have hT2 : ∀ {Q' : Value → Shared → Prop}, Q' (.type "type") ⟨hp, g, d, tk, os⟩ → wpAny M A (typeOf (.ref C)) Q' E ⟨hp, g, d, tk, os⟩ := by
    intro Q' hq
    simp only [typeOf]
    refine wpAny_bind (wpAny_loadPart hoc ?_)
    rw [hocc]; exact wpAny_pure hq
  refine wpAny_bind (wpAny_pure ?_)
  dsimp only
  refine wpAny_bind (wpAny_holding ?_)
  unfold excFromValue isExcClass
  refine wpAny_bind (wpAny_bind (hnt ?_))
  simp only [Bool.false_eq_true, if_false]
  refine wpAny_pure ?_
  simp only [Bool.false_eq_true, if_false]
  unfold isInstance
  refine wpAny_bind (wpAny_bind (hT (hsub.here ?_)))
  simp only [if_true]
  refine wpAny_pure ?_
  refine wpAny_bind (hnt ?_)
  simp only [Bool.false_eq_true, if_false]
  unfold raisedInstance
  refine wpAny_bind (wpAny_bind (hT (wpAny_bind (hT2 ?_))))
  rw [if_pos (by decide)]
  refine wpAny_pure ?_
  unfold setFlight
  refine wpAny_bind (wpAny_bind (wpAny_field (x := Value.none) ha hd (by simp) ?_))
  rw [if_neg (by decide)]
  exact wpAny_pure (wpAny_raiseNew_none hh hE)
end

/-- a class of exceptions as the written part tells it -/
noncomputable def FfK (K : Frag) (C : Addr) (newId : String) : Prop := ∃ nm qn N bs bm hdct sn sub ab col dd k0 k1 k2 k3 k5,
    K.lookup C = some (excClassObj nm qn C N bs bm hdct sn sub ab col dd k0 k1 k2 k3 k5 newId) ∧ bm.contains (.type "Exception") = true ∧ bm.contains (.type "BaseException") = true ∧ bm.contains (.type "AttributeError") = false ∧ bm.contains (.type "NameError") = false
theorem ff_cls {K : Frag} {h : Heap} {C : Addr} {newId : String} (X : K.In h) (q : FfK K C newId) : ∃ nm qn N bs bm hdct sn sub ab col dd k0 k1 k2 k3 k5,
    h.get? C = some (excClassObj nm qn C N bs bm hdct sn sub ab col dd k0 k1 k2 k3 k5 newId) ∧ bm.contains (.type "Exception") = true ∧ bm.contains (.type "BaseException") = true ∧ bm.contains (.type "AttributeError") = false ∧ bm.contains (.type "NameError") = false := by
  obtain ⟨nm, qn, N, bs, bm, hdct, sn, sub, ab, col, dd, k0, k1, k2, k3, k5, ho, hr⟩ := q
  exact ⟨nm, qn, N, bs, bm, hdct, sn, sub, ab, col, dd, k0, k1, k2, k3, k5, X _ _ ho, hr⟩

section
variable {M : Model} {A : Around} {E : Value → Shared → Prop} {h : Heap} {g : Array GenState} {d : Drawn} {t : Nat} {os : OsState}
variable {nm q : Str} {C N : Addr} {bs bm bmN : List Value} {hdct : Bool} {sn : List Str} {sub : List Value} {ab : Bool} {col : Option Bool} {dd : Option Addr} {k0 k1 k2 k3 k5 : Option Value} {Bn newId inN : String}

theorem check_newF (Fn : ExcBaseFacts Bn newId inN bmN) (hBn : bm.contains (.type Bn) = true) {rest : List Value} {Q : Unit → Shared → Prop} (hC : h.get? C = some (excClassObj nm q C N bs bm hdct sn sub ab col dd k0 k1 k2 k3 k5 newId))
    (hq : Q () ⟨h, g, d, t, os⟩) : wpAny M A (checkBuiltinCall newId ⟨.ref C :: rest, []⟩) Q E ⟨h, g, d, t, os⟩ := by
  have hcont : (Value.ref C :: bm).contains (.type Bn) = true := by rw [List.contains_cons, hBn, Bool.or_true]
  have hstar := Fn.noStar
  simp only [checkBuiltinCall, Fn.newKind, Fn.newSplit, Fn.newRow]
  repeat (first | refine wpAny_loadPart_at hC ?_ | (refine wpAny_isSubtype_exc hC ?_; rw [hcont]) | refine wpAny_staticBase_exc hC ?_ | refine wpAny_madeBy_exc hC ?_ | simp only [bne_self_eq_false, Bool.false_eq_true, if_false] | wp_step)
  exact hq
end

section
variable {prog : Program} {w : World} {A : Around} {R : Result → Shared → Prop} {h : Heap} {g : Array GenState} {d : Drawn} {t : Nat} {os : OsState}
variable {nm q : Str} {C N : Addr} {bs bm bmN : List Value} {hdct : Bool} {sn : List Str} {sub : List Value} {ab : Bool} {col : Option Bool} {dd : Option Addr} {k0 k1 k2 k3 k5 : Option Value} {Bn newId inN : String}

theorem code_newF (Fn : ExcBaseFacts Bn newId inN bmN) (hBn : bm.contains (.type Bn) = true) (hA : bm.contains (.type "AttributeError") = false) (hNE : bm.contains (.type "NameError") = false) {rest : List Value} (hC : h.get? C = some (excClassObj nm q C N bs bm hdct sn sub ab col dd k0 k1 k2 k3 k5 newId))
    (hq : R (.ok (.ret (.ref (h.objs.size + 1)))) ⟨(h.push { cls := .type "tuple", data := .seq rest.toArray }).push
      { cls := .ref C, data := .fields #[.ref h.objs.size, .none, .none, .none, .bool false, .none] }, g, d, t, os⟩) (hrest : rest.length ≤ sizeLine := by size_fits) :
    codeAny (model prog w) A (.builtin newId ⟨.ref C :: rest, []⟩) R ⟨h, g, d, t, os⟩ := by
  have hends := Fn.ends
  have hcB : (Value.ref C :: bm).contains (.type Bn) = true := by rw [List.contains_cons, hBn, Bool.or_true]
  have hcA : (Value.ref C :: bm).contains (.type "AttributeError") = false := by rw [List.contains_cons, hA]; rfl
  have hcN : (Value.ref C :: bm).contains (.type "NameError") = false := by rw [List.contains_cons, hNE]; rfl
  refine codeAny_builtinAt Fn.entry ?_
  unfold Builtin.«BaseException.__new__»
  refine PySem.wpAt_bind ?_
  show PySem.wpAt _ _ _ (stack >>= _) _ _ _
  refine PySem.wpAt_bind (PySem.wpAt_stack fun p below => PySem.wpAt_of_wpAny ?_)
  wp_walk
  refine PySem.wpAt_of_wpAny ?_
  rw [Fn.owner]
  repeat (first | with_reducible refine wpAny_madeHere_exc Fn.canon hC ?_ | with_reducible refine wpAny_loadPart_at hC ?_ | (with_reducible refine wpAny_isSubtype_exc hC ?_; first | rw [hcB] | rw [hcA] | rw [hcN]) | wp_step)
  show R _ _
  rw [Heap.size_push]
  exact hq
end

section
variable {prog : Program} {w : World} {A : Around} {E : Value → Shared → Prop} {h : Heap} {g : Array GenState} {d : Drawn} {t : Nat} {os : OsState}
variable {nm q : Str} {C N : Addr} {bs bm bmN : List Value} {hdct : Bool} {sn : List Str} {sub : List Value} {ab : Bool} {col : Option Bool} {dd : Option Addr} {k0 k1 k2 k3 k5 : Option Value} {Bn newId inN : String}

/-- the object of an exception just made -/
noncomputable abbrev excNew (C : Addr) (t : Addr) : Obj := { cls := .ref C, data := .fields #[.ref t, .none, .none, .none, .bool false, .none] }
noncomputable abbrev tupObj (rest : List Value) : Obj := { cls := .type "tuple", data := .seq rest.toArray }

theorem type_callF (Fn : ExcBaseFacts Bn newId inN bmN) (hBn : bm.contains (.type Bn) = true) (hA : bm.contains (.type "AttributeError") = false) (hNE : bm.contains (.type "NameError") = false) {rest : List Value} {fI : Addr} {oI : Obj} {Q : Fin → Shared → Prop}
    (hC : h.get? C = some (excClassObj nm q C N bs bm hdct sn sub ab col dd k0 k1 k2 k3 k5 newId)) (hi : Looks (model prog w) h (typeLookup (.ref C) "__init__") (some (.ref fI)))
    (hfI : h.get? fI = some oI) (hfc : oI.cls = .type "function")
    (hq : wpAny (model prog w) A (call (.ref fI) (.ref (h.objs.size + 1) :: rest)) (fun r s' => r = .none ∧ Q (.done (.ret (.ref (h.objs.size + 1)))) s') E ⟨(h.push (tupObj rest)).push (excNew C h.objs.size), g, d, t, os⟩) (hrest : rest.length ≤ sizeLine := by size_fits) :
    wpAny (model prog w) A (Builtin.«type.__call__» ⟨.ref C :: rest, []⟩) Q E ⟨h, g, d, t, os⟩ := by
  repeat (first | with_reducible refine wpAny_loadPart_at hC ?_ | with_reducible refine wpAny_madeBy_exc hC ?_ | wp_step)
  refine codeAny_call_builtin_code (Code.quiet_builtin _ Fn.quiet) (check_newF Fn hBn hC ?_)
  refine code_newF Fn hBn hA hNE hC ?_ hrest
  show wpAny _ _ _ _ _ _
  have up : ∀ b o, h.get? b = some o → ((h.push (tupObj rest)).push (excNew C h.objs.size)).get? b = some o := fun b o e => Heap.get?_push_of_some _ (Heap.get?_push_of_some _ e)
  have hC₁ := up _ _ hC
  have hfI₁ := up _ _ hfI
  have hget : ((h.push (tupObj rest)).push (excNew C h.objs.size)).get? (h.objs.size + 1) = some (excNew C h.objs.size) := by heap_get
  have hcC : (Value.ref C :: bm).contains (.ref C) = true := by simp
  unfold isInstance
  repeat (first | with_reducible refine wpAny_loadPart_at hget ?_ | (with_reducible refine wpAny_isSubtype_exc hC₁ ?_; rw [hcC]) | wp_step)
  show wpAny _ _ (typeLookup (.ref C) _) _ _ _
  refine hi _ _ _ _ up ?_
  refine wpAny_holding (wpAny_bind ?_)
  unfold bindSpecial
  refine wpAny_bind (wpAny_typeOf (T := "function") ⟨_, hfI₁, hfc⟩ ?_)
  rw [if_pos (by decide)]
  refine wpAny_pure (wpAny_bind (wpAny_mono hq (fun r s' hr => ?_) fun _ _ x => x))
  obtain ⟨rfl, hQ⟩ := hr
  wp_walk
  exact hQ

theorem call_excF (Fn : ExcBaseFacts Bn newId inN bmN) (hBn : bm.contains (.type Bn) = true) (hA : bm.contains (.type "AttributeError") = false) (hNE : bm.contains (.type "NameError") = false) {rest : List Value} {fI : Addr} {oI : Obj} {Q : Value → Shared → Prop}
    (hC : h.get? C = some (excClassObj nm q C N bs bm hdct sn sub ab col dd k0 k1 k2 k3 k5 newId)) (hi : Looks (model prog w) h (typeLookup (.ref C) "__init__") (some (.ref fI)))
    (hfI : h.get? fI = some oI) (hfc : oI.cls = .type "function")
    (hq : wpAny (model prog w) (A.under (.builtin "type.__call__" ⟨.ref C :: rest, []⟩)) (call (.ref fI) (.ref (h.objs.size + 1) :: rest)) (fun r s' => r = .none ∧ Q (.ref (h.objs.size + 1)) s') E ⟨(h.push (tupObj rest)).push (excNew C h.objs.size), g, d, t, os⟩) (hrest : rest.length ≤ sizeLine := by size_fits) :
    wpAny (model prog w) A (call (.ref C) rest) Q E ⟨h, g, d, t, os⟩ := by
  have f1 := tc_lookup
  have f2 := tc_bind (.ref C)
  have hT : (⟨h, g, d, t, os⟩ : Shared).TypeIs (.ref C) "type" := ⟨_, hC, rfl⟩
  refine wpAny_call (codeAny_of_tree ?_)
  show wpAny _ _ (callAny (.ref C) _) _ _ _
  repeat (any_goals (first | assumption | with_reducible refine wpAny_loadPart_at hC ?_ | wp_step))
  refine ⟨rfl, ?_⟩
  refine codeAny_call_builtin_at (Code.quiet_builtin _ (by decide +kernel)) entry_typeCall (wpAny_check_type_call_sub hC (type_callF (hrest := hrest) Fn hBn hA hNE hC hi hfI hfc ?_))
  exact hq
end

end Mine

/-! part X2 -/
set_option maxRecDepth 100000
namespace Mine
namespace X2
open Builtin Builtin.ObjectAttr

theorem refuse_E (self : Value) (c d : Addr) : refuseLoop self "__setattr__" [.ref c, .ref d, .type "Exception", .type "BaseException", .type "object"] = pure () := by
  rw [refuseLoop_ref, refuseLoop_ref]; exact PySem.F.store_Exception.passes self
noncomputable def excMro (C D : Addr) : List Value := [.ref C, .ref D, .type "Exception", .type "BaseException", .type "object"]
noncomputable def overE (K : Frag) (C D : Addr) : Bool := (clsIn K C).any fun cd => cd.mro == excMro C D

section
variable {prog : Program} {w : World} {A : Around} {K : Frag} {C D x : Addr} {s : Shared} {h₀ : Heap} {L : Addr} {m : Str → Option Value} {news : List (Addr × Obj)} {R : Result → Shared → Prop}
theorem mro_E {h : Heap} {M : Model} (X : K.In h) (hp : overE K C D = true) : Looks M h (mroOf (.ref C)) (excMro C D) := by
  obtain ⟨cd, hc, ho⟩ := any_some hp
  have ho : cd.mro = excMro C D := by simpa using ho
  exact (looks_clsIn X hc).andThen (by rw [← ho]; exact .now)
theorem sub_E {h : Heap} {M : Model} {ox : Obj} {od : Option Obj} {T : Value} (X : K.In h) (I : InstAt h x ox C od) (hp : overE K C D = true) (hT : (excMro C D).contains T = true) : Looks M h (isInstance (.ref x) T) true := by
  obtain ⟨cd, hc, ho⟩ := any_some hp
  have ho : cd.mro = excMro C D := by simpa using ho
  refine I.type.andThen (looks_mroIn X ?_)
  unfold mroIn
  rw [hc, Option.bind_some, if_neg (by rw [ho]; simp [excMro]), ho, hT]

theorem osa_openE {ox : Obj} {od : Option Obj} {name : Str} {tk : Tok} {v : Value} (X : K.In s.heap) (I : InstAt s.heap x ox C od) (hp : overE K C D = true) (ht : takerIn K C name = some none)
    (h : ∀ b, wpAny (model prog w) A.in1 (storeInOwnDict (.ref x) (.ref C) (.str name tk) name v b)
      (fun fin s' => match fin with | .done f => R (.ok f) s' | .again c' => c'.quiet = true ∧ codeAny (model prog w) A c' R s') (fun e s' => R (.error e) s') s) :
    codeAny (model prog w) A (.call (.builtin "object.__setattr__") ⟨[.ref x, .str name tk, v], []⟩) R s := by
  have SF := PySem.F.store_object
  have sub : Looks (model prog w) s.heap (isInstance (.ref x) (.type "object")) true := sub_E X I hp (by simp [excMro])
  refine codeAny_call_builtin SF.slot.plain SF.entry (@check_slot (model prog w) _ _ s "object.__setattr__" "object" "__setattr__" (.ref x) [.str name tk, v] [] _ SF.kind SF.split sub (SF.args (.ref x) (.str name tk) v) ?_)
  obtain ⟨attr, ha, hr⟩ := Option.bind_eq_some_iff.mp ht
  have hm : Looks (model prog w) s.heap (mroOf (.ref C)) (excMro C D) := mro_E X hp
  have L3 : Looks (model prog w) s.heap (storeTaker? attr) none := by
    cases attr with
    | none => exact .now
    | some a =>
      obtain ⟨b, hb, hbb⟩ := Option.map_eq_some_iff.mp hr
      refine (looks_takesIn X hb).andThen ?_
      cases b <;> first | exact .now | cases hbb
  rw [osa_eq, refuse_eq]
  refine wpAny_bind (wpAny_bind (I.type.here (wpAny_bind (hm.here ?_))))
  unfold excMro
  rw [refuse_E]
  refine wpAny_pure (wpAny_bind (I.type.here (wpAny_bind ((looks_findIn X ha).here (wpAny_bind (L3.here ?_))))))
  exact h _

/-- the storing of a name in the dict of an exception -/
theorem storeE {dx : Addr} {name : Str} {tk : Tok} {v : Value} {pre post : List (Addr × Obj)} {es : List DictEntry} {n : Nat} {od od' : Obj} {Q : Fin → Shared → Prop} {E : Value → Shared → Prop} (F : Fr h₀ L s.heap m) (N : News h₀ L s.heap (pre ++ (dx, od) :: post))
    (hl : (lookIn name od).isSome = true) (h1 : ∀ p ∈ pre, p.1 ≠ dx) (h2 : ∀ p ∈ post, p.1 ≠ dx)
    (e : Obj.putName name (PyData.keyHash w.params name) (.str name s.toks) v od = od') (e' : od'.data = .dict es.toArray n) (hz : es.length ≤ 1000)
    (h : ∀ h', Fr h₀ L h' m → News h₀ L h' (pre ++ (dx, od') :: post) → Q (.done (.ret .none)) { s with heap := h', toks := s.toks + 1 }) :
    wpAny (model prog w) A (storeInDict dx (.str name tk) name v) Q E s := by
  obtain ⟨U1, U2⟩ := news_upd (f := Obj.putName name (PyData.keyHash w.params name) (.str name s.toks) v) F N h1 h2 e (by obtain ⟨_, _, dd, _⟩ := od'; cases e'; rfl)
  have D := (N (dx, od) (by simp)).1
  have D' := (U2 (dx, od') (by simp)).1
  refine wpAny_bind (wpAny_pure (wpAny_bind ?_))
  unfold nsSet
  refine wpAny_bind (wpAny_bind (wpAny_askSetting (wpAny_pure (wpAny_bind (wpAny_mkText (wpAny_bind (wpAny_loadPart D ?_)))))))
  unfold lookIn at hl
  split at hl
  · rename_i es₀ n₀ q
    rw [q]
    dsimp only
    have c : (!es₀.any (·.key.isStr name) && es₀.any (·.refKey)) = false := by
      rw [← Array.any_toList, ← Array.any_toList]
      split at hl
      · rename_i en he
        rw [List.any_eq_true.mpr ⟨en, List.mem_of_find?_eq_some he, List.find?_some he⟩]; rfl
      · split at hl
        · cases hl
        · rename_i z; rw [Bool.not_eq_true] at z; rw [z, Bool.and_false]
    rw [aRefKeyMayBeTheName_at, c]
    refine wpAny_updatePart D ?_
    refine wpAny_bind (wpAny_lookBehind D' (by rw [e']; exact pastItsLine_dict (by rw [List.size_toArray, sizeLine_eq]; omega)) ?_)
    exact wpAny_pure (h _ U1 U2)
  · cases hl

/-- the object of an exception with the dict it has -/
noncomputable abbrev excObj (C t : Addr) (dd : Option Addr) : Obj := { cls := .ref C, dict := dd, data := .fields #[.ref t, .none, .none, .none, .bool false, .none] }

theorem setE_old {Q : Unit → Shared → Prop} {E : Value → Shared → Prop} {e t dx : Addr} {name : Str} {v : Value} {rest : List (Addr × Obj)} {es es' : List DictEntry} {n n' : Nat} (F : Fr h₀ L s.heap m) (X₀ : K.In h₀) (N : News h₀ L s.heap ((dx, dictOf es n) :: (e, excObj C t (some dx)) :: rest))
    (hs : findIn K (.ref C) "__setattr__" = some (some (.builtin "object.__setattr__"))) (hp : overE K C D = true) (ht : takerIn K C name = some none) (hh : hasDictIn K C = true)
    (hl : (getL name es).isSome = true) (hne : e ≠ dx) (hrest : ∀ p ∈ rest, p.1 ≠ dx)
    (he : (putL name (PyData.keyHash w.params name) (.str name (s.toks + 1)) v es, putN name es n) = (es', n')) (hz : es'.length ≤ 1000)
    (h : ∀ h', Fr h₀ L h' m → News h₀ L h' ((dx, dictOf es' n') :: (e, excObj C t (some dx)) :: rest) → Q () { s with heap := h', toks := s.toks + 2 }) :
    wpAny (model prog w) A (setAttr (.ref e) name v) Q E s := by
  obtain ⟨e1, e2⟩ := Prod.mk.inj he
  have X := X₀.keeps F.keep
  have hx := (N _ (.tail _ (.head _))).1
  have I : InstAt s.heap e (excObj C t (some dx)) C (some (dictOf es n)) := ⟨hx, rfl, rfl, (N _ (.head _)).1⟩
  refine set_plain X I hs (osa_openE (s := { s with toks := s.toks + 1 }) X I hp ht fun b => ?_)
  obtain ⟨cd, hc, hd'⟩ := any_some hh
  refine wpAny_bind (wpAny_pure (wpAny_bind (wpAny_bind (wpAny_loadPart hx (wpAny_bind (Looks.here (s := { s with toks := s.toks + 1 }) (looks_clsIn X hc) ?_))))))
  rw [hd']
  refine wpAny_pure (a := some dx) ?_
  refine storeE (s := { s with toks := s.toks + 1 }) (pre := []) (od := dictOf es n) F N hl (fun _ q => nomatch q) (fun p hp => ?_) (by rw [putName_dict, e1, e2]) rfl hz fun h' F' N' => h h' F' N'
  rcases List.mem_cons.mp hp with rfl | hp
  · exact hne
  · exact hrest p hp

theorem setE_new {Q : Unit → Shared → Prop} {E : Value → Shared → Prop} {e t : Addr} {name : Str} {v : Value} {rest : List (Addr × Obj)} (F : Fr h₀ L s.heap m) (X₀ : K.In h₀) (N : News h₀ L s.heap ((e, excObj C t none) :: rest))
    (hs : findIn K (.ref C) "__setattr__" = some (some (.builtin "object.__setattr__"))) (hp : overE K C D = true) (ht : takerIn K C name = some none) (hh : hasDictIn K C = true)
    (hrest : ∀ p ∈ rest, p.1 ≠ e)
    (h : ∀ dx h' tk, Fr h₀ L h' m → News h₀ L h' ((dx, dictOf (putL name (PyData.keyHash w.params name) (.str name tk) v []) 1) :: (e, excObj C t (some dx)) :: rest) → e ≠ dx → (∀ p ∈ rest, p.1 ≠ dx) → Q () { s with heap := h', toks := s.toks + 2 }) :
    wpAny (model prog w) A (setAttr (.ref e) name v) Q E s := by
  have X := X₀.keeps F.keep
  have hx := (N _ (.head _)).1
  have I : InstAt s.heap e (excObj C t none) C none := ⟨hx, rfl, rfl, trivial⟩
  refine set_plain X I hs (osa_openE (s := { s with toks := s.toks + 1 }) X I hp ht fun b => ?_)
  obtain ⟨cd, hc, hd'⟩ := any_some hh
  refine wpAny_bind (wpAny_pure (wpAny_bind (wpAny_bind (wpAny_loadPart hx (wpAny_bind (Looks.here (s := { s with toks := s.toks + 1 }) (looks_clsIn X hc) ?_))))))
  rw [hd']
  have hlt : ∀ p ∈ ((e, excObj C t none) :: rest), @LT.lt Nat _ p.1 s.heap.objs.size := fun p hp => Heap.lt_size (N p hp).1
  have he := hlt _ (.head _)
  have F1 := F.push emptyDict
  have N1 := N.push F emptyDict
  obtain ⟨F2, N2⟩ := news_upd (f := fun o => { o with dict := some s.heap.objs.size }) (pre := [(s.heap.objs.size, emptyDict)]) (d := e) (o := excObj C t none) (o' := excObj C t (some s.heap.objs.size)) (post := rest) F1 N1
    (fun p hp => by rw [List.mem_singleton.mp hp]; exact Nat.ne_of_gt he) hrest rfl rfl
  refine wpAny_bind (wpAny_alloc (wpAny_bind (wpAny_update (N1 _ (.tail _ (.head _))).1 ?_)))
  refine wpAny_pure (a := some s.heap.objs.size) ?_
  refine storeE (s := { s with heap := _, toks := s.toks + 1 }) (pre := []) (od := emptyDict) F2 N2 rfl (fun _ q => nomatch q) (fun p hp => ?_) (by exact putName_dict _ _ _ _ _ _) rfl (by show (1 : Nat) ≤ 1000; decide) fun h' F' N' => h s.heap.objs.size h' _ F' N' (Nat.ne_of_lt he) fun p hp => Nat.ne_of_lt (hlt p (.tail _ hp))
  rcases List.mem_cons.mp hp with rfl | hp
  · exact Nat.ne_of_lt he
  · exact Nat.ne_of_lt (hlt p (.tail _ hp))

theorem split_cls {K : Frag} {h : Heap} {C : Addr} (X : K.In h) (q : FfK K C "Exception.__new__") {M : Model} {A : Around} {E : Value → Shared → Prop} {Q : String → Shared → Prop} {s : Shared} (hk : ∀ b o, h.get? b = some o → s.heap.get? b = some o) (hq : ∀ x, Q x s) :
    wpAny M A (typeNameWhole (.ref C)) Q E s := by
  obtain ⟨nm, qn, N, bs, bm, hdct, sn, sub, ab, col, dd, k0, k1, k2, k3, k5, hC, -⟩ := ff_cls X q
  have hC := hk _ _ hC
  obtain ⟨hp, g, d, tk, os⟩ := s
  unfold typeNameWhole
  repeat (first | refine wpAny_loadPart_at hC ?_ | wp_step)
  exact hq _

theorem initE {Q : Value → Shared → Prop} {E : Value → Shared → Prop} {e t : Addr} {args : List Value} {dd : Option Addr} {rest : List (Addr × Obj)} (F : Fr h₀ L s.heap m) (X₀ : K.In h₀) (N : News h₀ L s.heap ((e, excObj C t dd) :: rest))
    (hp : overE K C D = true) (hf : FfK K C "Exception.__new__") (hrest : ∀ p ∈ rest, p.1 ≠ e) (hz : args.length ≤ sizeLine)
    (hI : ∀ h, h.get? e = some (excObj C t dd) → (∀ b o, h₀.get? b = some o → h.get? b = some o) → InstAt h e (excObj C t dd) C od)
    (h : ∀ t' h', Fr h₀ L h' m → News h₀ L h' ((e, excObj C t' dd) :: rest) → Q .none { s with heap := h' }) :
    wpAny (model prog w) A (call (.builtin "Exception.__init__") (.ref e :: args)) Q E s := by
  have Fb := PySem.F.excBase_Exception
  have X := X₀.keeps F.keep
  have he := (N _ (.head _)).1
  have I := hI _ he F.keep
  have sub : Looks (model prog w) s.heap (isInstance (.ref e) (.type "Exception")) true := sub_E X I hp (by simp [excMro])
  refine wpAny_call (codeAny_call_builtin Fb.init.plain Fb.initEntry ?_)
  simp only [checkBuiltinCall, Fb.initKind, Fb.initSplit, Fb.initRow]
  refine wpAny_bind (sub.here ?_)
  simp only [Bool.not_true, Bool.false_eq_true, if_false]
  unfold Bind.checkArgs
  dsimp only
  refine wpAny_bind (m := Bind.printed "*" true _ _) ?_
  unfold Bind.printed Bind.receiverType
  rw [if_neg (by decide)]
  refine wpAny_bind (m := (if (Manifest.Receiver.self == Manifest.Receiver.cls) = true then pure (.ref e) else typeOf (.ref e))) ?_
  rw [if_neg (by decide)]
  refine I.type.here (wpAny_bind (split_cls X hf (fun _ _ e => e) fun full => wpAny_pure ?_))
  rw [if_pos Fb.noStar]
  refine wpAny_bind (m := pure "Exception") (wpAny_pure ?_)
  refine wpAny_onRaise ?_
  rw [show ∀ (a b : String) (n : Nat), Bind.check ⟨.positional, "*", "Exception", .self, [⟨"args", .varPos, false⟩]⟩ a b n (List.map (fun x => x.fst) ([] : List (Str × Value))) = pure () from fun a b n => check_varPos _ _ _ _]
  refine wpAny_pure ?_
  unfold Builtin.«BaseException.__init__»
  dsimp only
  rw [if_neg (by simp)]
  unfold newTuple Builtin.BaseException.bexcPut
  have he₁ := Heap.get?_push_of_some (h := s.heap) { cls := .type "tuple", data := .seq args.toArray } he
  refine wpAny_bind (wpAny_newObj_type (wpAny_bind (wpAny_bind (wpAny_field he₁ rfl (x := .ref t) (by simp) (wpAny_bind (wpAny_setField he₁ rfl (by simp) ?_))))) (by show args.toArray.size ≤ sizeLine; rw [List.size_toArray]; exact hz))
  obtain ⟨F2, N2⟩ := news_upd (f := Obj.mapFields (·.setIfInBounds 0 (.ref s.heap.objs.size))) (pre := []) (d := e) (o := excObj C t dd) (o' := excObj C s.heap.objs.size dd) (post := rest) (F.push (tupObj args)) (fun p hp => ⟨Heap.get?_push_of_some _ (N p hp).1, (N p hp).2⟩)
    (fun _ q => nomatch q) hrest rfl rfl
  exact wpAny_letGo (wpAny_pure (h _ _ F2 N2))
end
end X2
end Mine

/-! part X3 -/
namespace Mine
set_option maxRecDepth 100000
set_option maxHeartbeats 4000000
namespace X3

theorem fE1 (p : Params) : X2.overE (tp.heap_39 p) 52 39 = true := by kernel_rfl
theorem fE2 (p : Params) : FfK (tp.heap_39 p) 52 "Exception.__new__" := ⟨_, _, _, _, _, _, _, _, _, _, _, _, _, _, _, _, rfl, by kernel_rfl, by kernel_rfl, by kernel_rfl, by kernel_rfl⟩
theorem fE3 (p : Params) : findIn (tp.heap_39 p) (.ref 52) "__setattr__" = some (some (.builtin "object.__setattr__")) := by kernel_rfl
theorem fE4 (p : Params) : takerIn (tp.heap_39 p) 52 "what" = some none := by kernel_rfl
theorem fE5 (p : Params) : takerIn (tp.heap_39 p) 52 "at" = some none := by kernel_rfl
theorem fE6 (p : Params) : hasDictIn (tp.heap_39 p) 52 = true := by kernel_rfl
theorem fE7 (p : Params) : findIn (tp.heap_39 p) (.ref 52) "__init__" = some (some (.ref 29)) := by kernel_rfl

theorem c_perr {prog p : Program} {w : World} {loose : List Str} {mean : ExcName → Option Value} {mg mb : Str → Option Value}
    {dp un : Nat} {gd : Option (List Code)} {cn : Str} {cs : Scope} {a : Addr} {ccd : Value} {cl : List (Str × Addr)} {outer : List Env} {A₀ : Around} {base h₀ : Heap} {L : Addr} {m : Str → Option Value} {s : Shared} {Q E : Value → Shared → Prop}
    {news : List (Addr × Obj)}
    (B : Below A₀ base outer h₀) (F : Fr h₀ L s.heap m) (X : (tp.heap_39 w.params).In h₀) (N : News h₀ L s.heap news) (T : Top p loose mean mg mb h₀) (hk : cs.kind = .function)
    {e t : Addr} {what : Str} {tw : Tok} {z : Int} {tz : Tok} {rest : List (Addr × Obj)} (hn : news = (e, excNew 52 t) :: rest) (hrest : ∀ p ∈ rest, p.1 ≠ e) 
    (hd : dp + 16 < recursionLimit) (hu : un + 60 < cLine)
    (ret : ∀ (t' : Addr) (dd : Option Addr) (h' : Heap) (tk' : Nat), Fr h₀ L h' m → News h₀ L h' ((e, { cls := .ref 52, dict := dd, data := .fields #[.ref t', .none, .none, .none, .bool false, .none] }) :: rest) → Q .none { s with heap := h', toks := tk' }) :
    wpAny (model prog w) ((ktrTop dp un gd cn cs L a ccd cl outer).under (.builtin "type.__call__" ⟨[.ref 52, .str what tw, .int z tz], []⟩)) (call (.ref 29) [.ref e, .str what tw, .int z tz]) Q E s := by
  subst hn
  have hMk := kstMark
  k_with_none
  k_with "m mem" => first | assumption | exact List.mem_cons_self | (refine List.mem_cons_of_mem _ ?_; walk_at "m mem")
  k_with "m all" => first | (refine List.forall_mem_cons.mpr ⟨by walk_at "m mem", ?_⟩; walk_at "m all") | exact List.forall_mem_nil _ | (intro q9 hq9; walk_at "m mem")
  k_with "m sub" => (refine news_sub (by assumption) ?_; walk_at "m all")
  k_with "InvEndN" => k_dflt kst_close
  k_with "ktr_room" => ((try simp only [depth_mark, depth_under_make, depth_under_kw, depth_in1, depth_deeper, depth_caller]); (try dsimp only [ktrTop]); first | decide | (rename (_ + _ < recursionLimit) => hd9; refine Nat.lt_of_le_of_lt ?_ hd9; (try simp only [Nat.add_assoc]); exact Nat.add_le_add_left (by decide) _) | omega)
  k_with "ktr_units" => ((try simp only [units_under_make, units_in1, units_deeper, Around.mark_units, units_caller]); (try dsimp only [ktrTop]); first | decide | (rename (_ + _ < cLine) => hu9; refine Nat.lt_of_le_of_lt ?_ hu9; (try simp only [Nat.add_assoc]); exact Nat.add_le_add_left (by decide) _) | omega)
  k_with "call ref" => (k_extra "cA"; intro _ _ _ _ _; (try dsimp only); (try k_sweep))
  k_with "call ref" => (k_extra "cB"; intro _ _ _ _; (try dsimp only); (try k_sweep))
  k_with "call ref" => (k_extra "cH"; refine Hold.out ?_)
  k_with "om" => with_reducible first | exact A0.c1 (by assumption) | exact A0.c2 (by assumption) | exact A0.c3 (by assumption) | exact A0.c4 (by assumption) | exact A0.c5 (by assumption) | exact A0.c6 (by assumption) | exact A0.c7 (by assumption) | exact A0.e2 (by assumption) | exact A0.e3 (by assumption) | exact A0.e4 (by assumption) | exact A0.e5 (by assumption) | exact A0.e6 (by assumption) | exact A0.e7 (by assumption) | exact Nat.le_trans (by assumption) (by decide)
  k_with "k_mem" => first | assumption | (refine List.mem_cons_of_mem _ ?_; k_mem)
  k_with "news_mem" => k_mem
  k_with "k_memK" => first | assumption | (refine List.mem_cons_of_mem _ ?_; k_memK)
  k_with "exec Try" => refine wpAny_Try_except ?_
  k_with "k_all" => first | assumption | exact List.forall_mem_nil _ | (refine List.forall_mem_cons.mpr ⟨by k_ne, ?_⟩; k_all) | (refine lt_ne9 (by assumption) ?_; omega)
  k_with "exec While Compare cons nil" => k_dflt (refine whl_start 2 ?_)
  k_with "WhlIf" => (first | (refine WhlIf.yes (decide_eq_true (by omega)) ?_) | (refine WhlIf.no (decide_eq_false (by omega)) ?_))
  k_with "getMethod type:Exception" => (k_here; refine method_type (by k_asm) (by k_asm) (by first | rfl | kernel_rfl) (by decide +kernel) (by k_dflt k_is) (by k_handed) ?_)
  k_with "call builtin:Exception.__init__" => (k_dflt (refine X2.initE (od := none) (by assumption) (by assumption) (by assumption) (fE1 _) (fE2 _) (by assumption) (by (show (1 : Nat) ≤ sizeLine; decide)) (by exact fun _ a _ => ⟨a, rfl, rfl, trivial⟩) ?_); intro _ _ _ _; (try dsimp only); (try k_sweep))
  k_with "setAttr ref" => first
    | (k_dflt (refine X2.setE_new (by assumption) (by assumption) (by assumption) (fE3 _) (fE1 _) (fE4 _) (fE6 _) (by assumption) ?_); intro _ _ _ _ _ _ _; (try dsimp only); (try k_sweep))
    | (k_dflt (refine X2.setE_old (by assumption) (by assumption) (by assumption) (fE3 _) (fE1 _) (fE5 _) (fE6 _) (by exact rfl) (by assumption) (by assumption) rfl (by exact Nat.le_of_ble_eq_true rfl) ?_); intro _ _ _; (try dsimp only); (try k_sweep))
  (w_top off; (have kf : Challenge.rw_og0142_01.prog = Challenge.rw_og0142_01.prog ∧ tp.heap_39 = tp.heap_39 := by (k_fill; exact ⟨rfl, rfl⟩)); clear kf; refine wpAny_call ?_; k_dflt (refine' code_def ?k1 ?k2 ?k3 ?k4 ?k5 ?kA ?kF ?kK ?k6 ?k7 ?k8 ?k9 ?kB ?_ ?c2 ?c3 ?c4 ?c5; (case kA => exact rfl); (case kF => exact rfl); (case kK => assumption); (case k1 => k_asm); (case k2 => k_asm); (case k3 => k_asm); (case k4 => k_asm); (case k5 => k_asm); (case k6 => k_is); (case k7 => k_is); (case k8 => ktr_room); (case k9 => first | exact BindsTo.of_eq rfl | exact binds_K (by k_in) rfl (by k_is) rfl rfl rfl); (case c5 => decide); (case kB => exact locs rfl); (case c2 => exact rfl); (case c3 => exact rfl); (case c4 => exact rfl); k_whole; intro g' L' h' FG' F' N' B' X' T'; (try dsimp only); (try k_fold)))
  k_steps
  rename Fr h₀ L _ m => kF
  rename News h₀ L _ _ => kN
  exact ret _ _ _ _ kF (fun p hp => kN p (List.mem_cons_of_mem _ hp))
end X3
end Mine

/-! part X4 -/
set_option maxRecDepth 100000
namespace Mine
namespace X4
open PySem.Spec PySem.Calls

theorem frames_eq {env : Env} {outer : List Env} {L : Addr} (hf : env.frame = some L) (n : Str) (sc : Scope) (a : Addr) (cd : Value) : (env :: outer).filterMap (·.frame) = (envOf n sc L a cd :: outer).filterMap (·.frame) := by
  rw [List.filterMap_cons, hf, List.filterMap_cons]; rfl
theorem mem_env {env : Env} {outer : List Env} {L b : Addr} (hf : env.frame = some L) (hm : b ∈ (env :: outer).filterMap (·.frame)) : b = L ∨ b ∈ outer.filterMap (·.frame) := by
  rw [List.filterMap_cons, hf] at hm
  exact List.mem_cons.mp hm

section
variable {M : Model} {A : Around} {E : Value → Shared → Prop} {s' : Shared} {base g g₂ h : Heap} {outer : List Env} {L a e : Addr} {m : Str → Option Value} {name : Str} {scope : Scope} {cd : Value} {Q : Unit → Shared → Prop} {news : List (Addr × Obj)}
/-- an exception of the ledger leaves the frame that raised it -/
theorem leave_newL {cls : Value} {ob : Obj} {t : Value} (K : Below A base outer g) (F : Fr g L s'.heap m) (N : News g L s'.heap ((e, ob) :: news)) (hne : ∀ q ∈ news, q.1 ≠ e) (hcls : ob.cls = cls) (hd : ob.data = .fields #[t, .none, .none, .none, .bool false, .none])
    (hQ : ∀ h', RaisedSN base g outer e cls news h' → g.UpToSlots h' → Q () { s' with heap := h' }) (hk : scope.kind = .function := by rfl) :
    wpAny M (A.deeper (envOf name scope L a cd)) (leaving (envOf name scope L a cd) (.ref e)) Q E s' := by
  have K' := K.push (name := name) (a := a) (cd := cd) F hk
  have Ne := N _ (.head _)
  have hf0 : e ∉ (envOf name scope L a cd :: outer).filterMap (·.frame) := fun hm => by
    rcases kts_mem hm with z | z
    · exact Ne.2.1 z
    · obtain ⟨o, ho, _⟩ := (K.frames.mem z).2
      rw [Ne.2.2] at ho; cases ho
  have hin : ∀ env ∈ (envOf name scope L a cd :: outer), ∀ b, env.frame = some b → b ∈ (envOf name scope L a cd :: outer).filterMap (·.frame) := fun env he b hb => List.mem_filterMap.mpr ⟨env, he, hb⟩
  have hB : ∀ b o, s'.heap.get? b = some o → b ≠ e → b ∉ (envOf name scope L a cd :: outer).filterMap (·.frame) → (hideAll s'.heap (e :: (envOf name scope L a cd :: outer).filterMap (·.frame))).get? b = some o := fun b o q n1 n2 => hideAll_get _ q fun hm => by
    rcases List.mem_cons.mp hm with z | z
    · exact n1 z
    · exact n2 z
  have st : base.StaysIn (hideAll s'.heap (e :: (envOf name scope L a cd :: outer).filterMap (·.frame))) := fun b o q => hB b o (K'.stays b o q) (fun z => by
    have := fresh_of_stays K.stays Ne.2.2
    rw [z] at q
    dsimp only at this
    rw [this] at q; cases q) fun hm => by rw [(K'.frames.mem hm).1] at q; cases q
  have sg : ∀ b o, g.get? b = some o → b ∉ outer.filterMap (·.frame) → (hideAll s'.heap (e :: (envOf name scope L a cd :: outer).filterMap (·.frame))).get? b = some o := fun b o q nm => hB b o (F.keep b o q) (fun z => by
    have := Ne.2.2
    rw [z] at q
    dsimp only at this
    rw [this] at q; cases q) fun hm => by
    rcases kts_mem hm with z | z
    · rw [z, kts_self F] at q
      cases q
    · exact nm z
  have hl : ∀ q ∈ news, (hideAll s'.heap (e :: (envOf name scope L a cd :: outer).filterMap (·.frame))).get? q.1 = some q.2 ∧ g.get? q.1 = none ∧ base.get? q.1 = none := fun q hq => by
    have Nq := N q (.tail _ hq)
    refine ⟨hB _ _ Nq.1 (hne q hq) fun hm => ?_, Nq.2.2, fresh_of_stays K.stays Nq.2.2⟩
    rcases kts_mem hm with z | z
    · exact Nq.2.1 z
    · obtain ⟨o, ho, _⟩ := (K.frames.mem z).2
      rw [Nq.2.2] at ho; cases ho
  have hen : (hideAll s'.heap (e :: (envOf name scope L a cd :: outer).filterMap (·.frame))).get? e = none := hideAll_none _ (.head _)
  refine wpAny_leaving_firstW (a0 := t) K'.stack (funFrames_hide K'.frames fun env he b hb => List.mem_cons_of_mem _ (hin env he b hb)) rfl Ne.1 (fun b o hb => of_hideAll _ hb) hen hd rfl rfl fun h' hL => ?_
  obtain ⟨k1, ⟨_, _, k2⟩, k3, k4⟩ := hL
  have R : RaisedSN base g outer e cls news h' := ⟨_, t, st, sg, hl, k1, hen, k2, by rw [← hcls]; exact k3⟩
  exact hQ h' R ((Heap.UpToSlots.of_keeps F.keep).trans k4)
end

section
variable {A₀ : Around} {base g G B h₅ : Heap} {outer : List Env} {L : Addr} {m : Str → Option Value} {env : Env}
theorem ground_env (K : Below A₀ base outer g) (F : Fr g L G m) (hf : env.frame = some L) (hBG : ∀ b o, G.get? b = some o → b ∉ (env :: outer).filterMap (·.frame) → B.get? b = some o) (hBh : B.StaysIn h₅) (hsm : G.UpToSlots h₅) :
    ∃ g', KtsTurn (outer.filterMap (·.frame)) g g' ∧ Fr g' L h₅ m ∧ Below A₀ base outer g' :=
  kts_ground (name := "") (scope := env.scope) (a := 0) (cd := .none) K F (fun b o e nm => hBG b o e (by rw [frames_eq hf "" env.scope 0 .none]; exact nm)) hBh hsm
end

section
variable {prog : Program} {w : World} {A₀ : Around} {E : Value → Shared → Prop} {s' : Shared} {base g g₀ G : Heap} {outer : List Env} {L a e C : Addr} {m : Str → Option Value} {cn : Str} {cs : Scope} {ccd : Value} {cl : List (Str × Addr)}
  {b₀ : Stmt} {suite : List Stmt} {pos np : Pos} {rest : List ExceptHandler} {Q : Flow → Shared → Prop} {news : List (Addr × Obj)} {KF : Frag}
  {p : Program} {loose : List Str} {mean : ExcName → Option Value} {mg mb : Str → Option Value} {x : Str}
/-- an exception of the program's own, caught in a frame that may have cells -/
theorem caught_X (R : RaisedSN base G (envX cn cs L a ccd cl :: outer) e (.ref C) news s'.heap) (F : Fr g L G m) (K : Below A₀ base outer g) (hsm : G.UpToSlots s'.heap) (XB : KF.In base) (TB : Top p loose mean mg mb base)
    (D : KtsDicts (outer.filterMap (·.frame)) g) (T0 : KtsTurn (outer.filterMap (·.frame)) g₀ g)
    (ex : nsIn KF mainGlobals x = some (some (.ref C))) (q : ktsIn KF C "BaseException" = true)
    (k : ∀ h' g', KtsTurn (outer.filterMap (·.frame)) g₀ g' → Fr g' L h' m → News g' L h' news → Below A₀ base outer g' → KF.In g' → Top p loose mean mg mb g' → KtsDicts (outer.filterMap (·.frame)) g' →
      wpAny (model prog w) ((A₀.deeper (envX cn cs L a ccd cl)).mark (some (.ref e))) (execs (b₀ :: suite) (envX cn cs L a ccd cl)) Q E { s' with heap := h' })
    (hk : cs.kind = .function := by rfl) (hx : (envX cn cs L a ccd cl).kindOf x = some .globalImplicit := by rfl) (hd : (x == ("__debug__" : Str)) = false := by decide)
    (hE : PassesOwnAt (model prog w) ((A₀.deeper (envX cn cs L a ccd cl)).mark (some (.ref e))) (A₀.deeper (envX cn cs L a ccd cl)) (envX cn cs L a ccd cl) E := by passes_own) :
    wpAny (model prog w) (A₀.deeper (envX cn cs L a ccd cl)) (noteFrame (.ref e) (envX cn cs L a ccd cl))
      (fun _ s₂ => wpAny (model prog w) (A₀.deeper (envX cn cs L a ccd cl)) (setFlight (.ref e) none) (fun _ s₃ =>
        wpAny (model prog w) (A₀.deeper (envX cn cs L a ccd cl)) (handleBy (.ref e) (envX cn cs L a ccd cl) (.ExceptHandler (some (.Name x np)) none (b₀ :: suite) pos :: rest)) Q E s₃) E s₂) E s' := by
  obtain ⟨B, a0, hB, hBG, hl, hfl⟩ := R
  have hL : B.get? L = none := by
    obtain ⟨_, ⟨L', _, hf, hn', _⟩, _⟩ := hfl.2.2.1
    obtain rfl : L = L' := Option.some.inj hf
    exact hn'
  refine wpAny_looks_onW (Around.frames_deeper K.stack) rfl hfl fun h₄ hheld₄ hsm₄ => ?_
  refine wpAny_landsW hheld₄ fun h₅ hheld hsm₅' => ?_
  have hsm₅ := hsm₄.trans hsm₅'
  obtain ⟨g₅, T₅, F₅, K₅⟩ := ground_env (env := envX cn cs L a ccd cl) K F rfl hBG hheld.1 (hsm.trans hsm₅)
  have X₅ : KF.In g₅ := XB.keeps K₅.stays
  have P₅ : TopRead p loose mg mb g₅ := topRead_of (TB.keeps K₅.stays)
  obtain ⟨ob, hob, hobc⟩ := hheld.there
  obtain ⟨nm, q', N, bs, bm, hdct, sn, sub, ab, col, dd, k0, k1, k2, k3, k5, newId, hC, hbase, hbT⟩ := kts_cls X₅ q
  have hC₅ := F₅.keep _ _ hC
  refine wpAny_handleBy_cons (codeAny_handlers_test (nameX_K F₅ X₅ P₅ ex ?_ hk hx hd)) (by intro q; cases q)
  refine wpAny_excMatches_sub_self hC₅ hob hobc hbase (codeAny_handlers_suite ?_)
  refine lands_againW hheld fun h₆ hfl₆ hsm₆ => ?_
  obtain ⟨g₆, T₆, F₆, K₆⟩ := ground_env (env := envX cn cs L a ccd cl) K F rfl hBG hfl₆.1 ((hsm.trans hsm₅).trans hsm₆)
  have Nl : News g₆ L h₆ news := fun q hq => ⟨hfl₆.1 _ _ (hl q hq).1, (fun z => by have := (hl q hq).1; rw [z, hL] at this; cases this), T₆.none_ _ (kts_none F.keep (hl q hq).2.1)⟩
  exact wpAny_passesOwnAt hE (k h₆ g₆ (T0.trans T₆) F₆ Nl K₆ (XB.keeps K₆.stays) (TB.keeps K₆.stays) (D.turn T₆))
end

section
variable {prog : Program} {w : World} {A₀ A : Around} {s : Shared} {base h₀ : Heap} {L : Addr} {m : Str → Option Value} {env : Env} {news : List (Addr × Obj)} {K : Frag} {p : Program} {loose : List Str} {mean : ExcName → Option Value} {mg mb : Str → Option Value}
  {R : Result → Shared → Prop} {name qual : Str} {params : Arguments} {body : List Stmt} {scope : Scope} {dV kV doc pm cdv ct oc : Value} {an od : Option Addr} {osl : Array (Option Value)} {f : Addr} {args : Args} {binds : List (Str × Value)}
/-- the leaving of a call whose ground may have turned -/
theorem leave_turned {g : Heap} (F : Fr h₀ L s.heap m) (FG : Fr h₀ L g m) (st : h₀.StaysIn g) (fl : Value) {s' : Shared} (hl : LeaveS0 [L] h₀ L m g R fl s') : R (.ok (.ret fl)) s' := by
  obtain ⟨g', L', m', news', T', F', N', k⟩ := hl
  obtain ⟨oL, es, ep, hLg, hLd, hLk, hLf⟩ := FG.ns
  have nL₀ : h₀.get? L = none := kts_self F
  obtain ⟨sl, hs⟩ := T'.up hLg
  refine k ⟨⟨_, es, ep, F'.keep _ _ hs, hLd, hLk, hLf⟩, fun b o e => F'.keep b o (T'.other b o (st b o e) (fun q => by
    rw [List.mem_singleton.mp q, nL₀] at e
    cases e)), F.above⟩ fun p hp => ⟨(N' p hp).1, fun q => ?_, ?_⟩
  · have := (N' p hp).2.2; rw [q, hs] at this; cases this
  · cases q : h₀.get? p.1 with
    | none => rfl
    | some o =>
      obtain ⟨sl', hs'⟩ := T'.up (st _ _ q)
      have := (N' p hp).2.2
      rw [hs'] at this
      cases this

theorem code_defCS (B : Below A₀ base [] h₀) (F : Fr h₀ L s.heap m) (X₀ : K.In h₀) (N : News h₀ L s.heap news) (T : Top p loose mean mg mb h₀) (hA : A.frames = some [env]) (hf : env.frame = some L) (hke : env.scope.kind = .function)
    (ho : K.lookup f = some ⟨oc, od, .func (fnOf name qual params body scope dV kV doc pm an cdv ct), osl⟩) (hcd : codeIn K cdv qual = true) (hroom : A.depth < recursionLimit)
    (hbind : BindsTo s (fnOf name qual params body scope dV kV doc pm an cdv ct) args binds) (hkind : (binds.all fun y => scope.names.lookup y.1 == some .local || scope.names.lookup y.1 == some .cell) = true)
    (hnd : ((cellsFrom 0 scope.names []).map (·.1)).Nodup)
    (h : ∀ g L' h₁ tk cells, Fr h₀ L g m → Fr g L' h₁ (bindL (envOfC qual scope L' f cdv).kindOf binds fun _ => none) → News g L' h₁ (cells ++ news) →
      CellsAre (bindC (envOfC qual scope L' f cdv).kindOf binds fun _ => none) (cellsFrom (L' + 1) scope.names []) cells → Below A base [env] g → K.In g → Top p loose mean mg mb g → (∀ p ∈ news, p.1 < L') → KtsDicts ([env].filterMap (·.frame)) g →
      wpAny (model prog w) (A.deeper (envOfC qual scope L' f cdv)) (execs body (envOfC qual scope L' f cdv))
        (fun fl s' => LeaveS0 [L] h₀ L m g R (match fl with | .ret v => v | _ => .none) s')
        (fun e s' => wpAny (model prog w) (A.deeper (envOfC qual scope L' f cdv)) (leaving (envOfC qual scope L' f cdv) e) (fun _ s'' => R (.error e) s'') (fun e' s'' => R (.error e') s'') s')
        { s with heap := h₁, toks := tk })
    (hco : scope.isCoroutine = false) (hgen : scope.isGenerator = false) (hk : scope.kind = .function) : codeAny (model prog w) A (.call (.ref f) args) R s := by
  have X := X₀.keeps F.keep
  have hlim := T.nolimit
  have hkind := kindsX hkind
  obtain ⟨FG, BG, st, _⟩ := groundX (R := R) B F N hA hf hke
  refine codeAny_call_function hroom (X _ _ ho) rfl hco hgen rfl (codeRec_of X hcd) (hbind _ _ _ _ ?_)
  refine wpAny_newFunctionEnv_cells hk (hkind _) fun env' he s' x => ?_
  subst he
  refine ⟨(hlim.keeps F.keep).keeps x.toInCall.keep, codeAny_func ?_⟩
  obtain ⟨h₁, tk, rfl, _⟩ := x.done
  have hk₁ := x.toInCall.keep
  obtain ⟨cells, NC, Y⟩ := Cl.news (h₀ := s.heap) (Nat.le_refl _) fun n c hm => ⟨x.cell n c (lookup_of_mem_nodup (cellsFrom_names scope.names 0 (s.heap.objs.size + 1) [] [] rfl ▸ hnd) hm), x.above n c hm⟩
  refine wpAny_mono (h _ s.heap.objs.size h₁ tk cells FG ⟨x.toInCall.ns, fun b o e => hk₁ b o (of_hideAll _ e), Nat.le_of_eq (hideAll_size _ _)⟩ (fun p hp => ?_) Y BG (X₀.keeps st) (T.keeps st) (fun p hp => Heap.lt_size (N p hp).1) (fun b hb => ?_)) (fun fl s' hl => leave_turned F FG st _ hl) fun _ _ y => y
  · rcases List.mem_append.mp hp with hp | hp
    · refine ⟨(NC p hp).1, (NC p hp).2.1, ?_⟩
      cases q : (hideAll s.heap (news.map (·.1))).get? p.1 with
      | none => rfl
      | some o => have := of_hideAll _ q; rw [(NC p hp).2.2] at this; cases this
    · exact ⟨hk₁ _ _ (N p hp).1, Nat.ne_of_lt (Heap.lt_size (N p hp).1), hideAll_none _ (List.mem_map_of_mem hp)⟩
  · rcases mem_env hf hb with rfl | z
    · obtain ⟨oL, es, ep, hLg, hLd, _⟩ := FG.ns
      exact ⟨oL, es, ep, hLg, hLd⟩
    · simp at z
end
end X4
end Mine

/-! part X5 -/
namespace Mine
set_option maxRecDepth 100000
set_option maxHeartbeats 4000000
namespace X5
open X3
theorem fE8 (p : Params) : mroIn (tp.heap_39 p) 52 (.type "BaseException") = some true := by kernel_rfl
noncomputable def clsAt (K : Frag) (a : Addr) (T : Value) : Bool := match K.lookup a with | some o => o.cls == T | none => false
theorem clsAt_of {K : Frag} {h : Heap} {a : Addr} {T : Value} (X : K.In h) (q : clsAt K a T = true) : ∃ o, h.get? a = some o ∧ o.cls = T := by
  unfold clsAt at q
  split at q
  · rename_i o ho
    exact ⟨o, X _ _ ho, by simpa using q⟩
  · cases q
theorem fE9 (p : Params) : clsAt (tp.heap_39 p) 29 (.type "function") = true := by kernel_rfl
theorem c_fault {prog p : Program} {w : World} {loose : List Str} {mean : ExcName → Option Value} {mg mb : Str → Option Value}
    {dp un : Nat} {gd : Option (List Code)} {cn : Str} {cs : Scope} {a : Addr} {ccd : Value} {cl : List (Str × Addr)} {outer : List Env} {A₀ : Around} {base h₀ : Heap} {L : Addr} {m : Str → Option Value} {s : Shared} {Q E : Value → Shared → Prop}
    {news : List (Addr × Obj)}
    (B : Below A₀ base outer h₀) (F : Fr h₀ L s.heap m) (X : (tp.heap_39 w.params).In h₀) (N : News h₀ L s.heap news) (T : Top p loose mean mg mb h₀) (hk : cs.kind = .function)
    {what : Str} {tw : Tok} {z : Int} {tz : Tok}
    (hd : dp + 16 < recursionLimit) (hu : un + 60 < cLine)
    (ret : ∀ (e : Addr) (ob : Obj) (t : Value) (h' : Heap) (tk' : Nat), Fr h₀ L h' m → News h₀ L h' ((e, ob) :: news) → (∀ p ∈ news, p.1 ≠ e) → ob.cls = .ref 52 → ob.data = .fields #[t, .none, .none, .none, .bool false, .none] → E (.ref e) { s with heap := h', toks := tk' }) :
    wpAny (model prog w) (ktrTop dp un gd cn cs L a ccd cl outer) (call (.ref 52) [.str what tw, .int z tz]) (RaisableR (model prog w) E) E s := by
  obtain ⟨hh, gs, dr, tk, os⟩ := s
  have XH := X.keeps F.keep
  obtain ⟨nm, qn, C', bs, bm, hdct, sn, sub, ab, col, dd, k0, k1, k2, k3, k5, hC, hb1, hb2, hb3, hb4⟩ := ff_cls XH (fE2 _)
  obtain ⟨oI, hfI, hfc⟩ := clsAt_of XH (fE9 _)
  refine call_excF PySem.F.excBase_Exception hb1 hb3 hb4 hC (looks_findIn XH (fE7 _)) hfI hfc ?_ (by show (2 : Nat) ≤ sizeLine; decide)
  have F1 := F.push (tupObj [.str what tw, .int z tz])
  have F2 := F1.push (excNew 52 hh.objs.size)
  have N1 := N.push F (tupObj [.str what tw, .int z tz])
  have N2 := N1.push F1 (excNew 52 hh.objs.size)
  rw [Heap.size_push] at N2
  refine c_perr (s := ⟨_, gs, dr, tk, os⟩) B F2 X N2 T hk rfl (fun p hp => ?_) hd hu fun t' dd h' tk' F' N' => ⟨rfl, ?_⟩
  · rcases List.mem_cons.mp hp with rfl | hp
    · exact Nat.ne_of_lt (Nat.lt_succ_self _)
    · exact Nat.ne_of_lt (Nat.lt_succ_of_lt (Heap.lt_size (N p hp).1))
  have X' := X.keeps F'.keep
  obtain ⟨nm, qn, C', bs, bm, hdct, sn, sub, ab, col, dq, k0, k1, k2, k3, k5, hC', -⟩ := ff_cls X' (fE2 _)
  refine ⟨_, _, _, 52, _, rfl, (N' _ (.head _)).1, rfl, rfl, looks_mroIn X' (fE8 _), hC', rfl, ret _ (X2.excObj 52 t' dd) (.ref t') h' tk' F' (fun p hp => N' p ?_) (fun p hp => ?_) rfl rfl⟩
  · rcases List.mem_cons.mp hp with rfl | hp
    · exact List.mem_cons_self
    · exact .tail _ (.tail _ hp)
  · exact Nat.ne_of_lt (Nat.lt_succ_of_lt (Heap.lt_size (N p hp).1))
end X5
end Mine

/-! part R1 -/
namespace Mine
set_option maxRecDepth 100000
set_option maxHeartbeats 4000000
namespace R1
open M8

/-- does the decoder find a symbol: the counts of the lengths yet to come, the bits yet to come, the code and the first code -/
noncomputable def readZ : List Int → Int → Int → Int → Bool
  | [], _, _, _ => false
  | t :: r, o, code, first => if 2 * code + o % 2 - first < t then true else readZ r (o / 2) (2 * code + o % 2) (2 * (first + t))
/-- the dict of a Decoder -/
noncomputable abbrev decD (w : World) (k1 k2 : Tok) (tally symbols : Value) : Obj :=
  dictOf [{ hash := PyData.keyHash w.params (Str.ofString "tally"), key := .str (Str.ofString "tally") k1, val := tally }, { hash := PyData.keyHash w.params (Str.ofString "symbols"), key := .str (Str.ofString "symbols") k2, val := symbols }] 2

theorem ints_at {v : Value} : ∀ {vs : List Value} {ns : List Int}, IntsAre vs ns → ∀ {i : Nat}, vs[i]? = some v → ∃ t, v = .int (ns.getD i 0) t ∧ i < ns.length
  | _, _, .nil, _, h => by cases h
  | _, _, .cons n u r, 0, h => by cases h; exact ⟨u, rfl, Nat.succ_pos _⟩
  | _, _, .cons n u r, i + 1, h => by
    obtain ⟨t, e, h1⟩ := ints_at r (i := i) h
    exact ⟨t, e, Nat.succ_lt_succ h1⟩
theorem drop_at {ns : List Int} {i : Nat} (h : i < ns.length) : ns.drop i = ns.getD i 0 :: ns.drop (i + 1) := by
  rw [List.drop_eq_getElem_cons h, List.getD_eq_getElem?_getD, List.getElem?_eq_getElem h]; rfl
theorem fr4 {g h : Heap} {L : Addr} {v c f p : Option Value} {m₁ mm : Str → Option Value} (F : Fr g L h (fun y => if y = Str.ofString "taken" then v else m₁ y)) (hc : m₁ (Str.ofString "code") = c) (hf : m₁ (Str.ofString "first") = f) (hp : m₁ (Str.ofString "place") = p)
    (ho : ∀ y, y ≠ Str.ofString "taken" → y ≠ Str.ofString "code" → y ≠ Str.ofString "first" → y ≠ Str.ofString "place" → m₁ y = mm y) :
    Fr g L h (fun y => if y = Str.ofString "taken" then v else if y = Str.ofString "code" then c else if y = Str.ofString "first" then f else if y = Str.ofString "place" then p else mm y) := by
  have e : (fun y => if y = Str.ofString "taken" then v else if y = Str.ofString "code" then c else if y = Str.ofString "first" then f else if y = Str.ofString "place" then p else mm y) = fun y => if y = Str.ofString "taken" then v else m₁ y := by
    funext y
    by_cases h1 : y = Str.ofString "taken"
    · rw [if_pos h1, if_pos h1]
    by_cases h2 : y = Str.ofString "code"
    · rw [if_neg h1, if_neg h1, if_pos h2, h2, hc]
    by_cases h3 : y = Str.ofString "first"
    · rw [if_neg h1, if_neg h1, if_neg h2, if_pos h3, h3, hf]
    by_cases h4 : y = Str.ofString "place"
    · rw [if_neg h1, if_neg h1, if_neg h2, if_neg h3, if_pos h4, h4, hp]
    · rw [if_neg h1, if_neg h1, if_neg h2, if_neg h3, if_neg h4, ho y h1 h2 h3 h4]
  rw [e]; exact F

theorem sumNN : ∀ {l : List Int}, (∀ x ∈ l, 0 ≤ x) → 0 ≤ l.sum
  | [], _ => Int.le_refl _
  | x :: r, h => by
    rw [List.sum_cons]
    have := h x (.head _)
    have := sumNN (l := r) fun y hy => h y (.tail _ hy)
    omega
theorem getD_mem {l : List Int} {i : Nat} (h : i < l.length) : l.getD i 0 ∈ l := by
  rw [List.getD_eq_getElem?_getD, List.getElem?_eq_getElem h]; simp
/-- what holds between the turns of read -/
noncomputable def RdJ (w : World) (ts : List Int) (xs : List Int) (b : UInt8) (tb : Tok) (D : Addr) (ws : List Value) (db ib : Addr) (rest : List (Addr × Obj)) (mm : Str → Option Value) (i : Nat) (m : Str → Option Value) (nx : List (Addr × Obj)) : Prop :=
  ∃ (code first place at9 held count o : Int) (tc tf tp k1 k2 k3 k4 t2 t3 t4 : Tok),
    nx = (D, W.listOf ws.toArray 0) :: (db, bitsD w k1 k2 k3 k4 (.bytes #[b] tb) (.int at9 t2) (.int held t3) (.int count t4)) :: (ib, instObj 196 db) :: rest ∧
    m (Str.ofString "code") = some (.int code tc) ∧ m (Str.ofString "first") = some (.int first tf) ∧ m (Str.ofString "place") = some (.int place tp) ∧
    (∀ y, y ≠ Str.ofString "taken" → y ≠ Str.ofString "code" → y ≠ Str.ofString "first" → y ≠ Str.ofString "place" → m y = mm y) ∧
    ((i = 0 ∧ at9 = 0 ∧ held = 0 ∧ count = 0 ∧ o = (b.toNat : Int)) ∨ (1 ≤ i ∧ at9 = 1 ∧ held = o ∧ count = 8 - (i : Int))) ∧
    0 ≤ o ∧ o < 256 ∧ first ≤ 2 * code ∧ 0 ≤ first ∧ 0 ≤ place ∧ place + (ts.drop i).sum ≤ xs.length ∧ readZ ts b.toNat 0 0 = readZ (ts.drop i) o code first

theorem rd_end {w : World} {ts xs : List Int} {b : UInt8} {tb : Tok} {D : Addr} {ws : List Value} {db ib : Addr} {rest own : List (Addr × Obj)} {mm m' : Str → Option Value} {i : Nat} {g h : Heap} {L : Addr} {adrs : List Addr} {s₀ : Shared} {tk : Nat}
    {code first place held count : Int} {k1 k2 k3 k4 t2 t3 t4 : Tok} (F : Fr g L h m') (N : News g L h ((D, W.listOf ws.toArray 0) :: (db, bitsD w k1 k2 k3 k4 (.bytes #[b] tb) (.int 1 t2) (.int held t3) (.int count t4)) :: (ib, instObj 196 db) :: (rest ++ own)))
    (ha : D :: db :: ib :: rest.map (·.1) = adrs)
    (hc : ∃ t, m' (Str.ofString "code") = some (.int code t)) (hf : ∃ t, m' (Str.ofString "first") = some (.int first t)) (hp : ∃ t, m' (Str.ofString "place") = some (.int place t))
    (ho : ∀ y, y ≠ Str.ofString "taken" → y ≠ Str.ofString "code" → y ≠ Str.ofString "first" → y ≠ Str.ofString "place" → m' y = mm y)
    (hct : count = 8 - ((i + 1 : Nat) : Int)) (h0 : 0 ≤ held) (h1 : held < 256) (h2 : first ≤ 2 * code) (h3 : 0 ≤ first) (h5 : 0 ≤ place) (h6 : place + (ts.drop (i + 1)).sum ≤ xs.length) (h7 : readZ ts b.toNat 0 0 = readZ (ts.drop (i + 1)) held code first) :
    InvEndN g L (fun m' nx => (D, W.listOf ws.toArray 0) ∈ nx ∧ RdJ w ts xs b tb D ws db ib rest mm (i + 1) m' nx) own adrs s₀ { s₀ with heap := h, toks := tk } := by
  obtain ⟨tc, hc⟩ := hc
  obtain ⟨tf, hf⟩ := hf
  obtain ⟨tp, hp⟩ := hp
  refine InvEndN.intro (nx := (D, W.listOf ws.toArray 0) :: (db, bitsD w k1 k2 k3 k4 (.bytes #[b] tb) (.int 1 t2) (.int held t3) (.int count t4)) :: (ib, instObj 196 db) :: rest) F N
    ⟨List.mem_cons_self, code, first, place, 1, held, count, held, tc, tf, tp, k1, k2, k3, k4, t2, t3, t4, rfl, hc, hf, hp, ho, .inr ⟨Nat.succ_pos i, rfl, rfl, hct⟩, h0, h1, h2, h3, h5, h6, h7⟩ ha (fun p hp => ?_) (fun p hp => ?_)
  · simp only [List.mem_cons, List.mem_append] at hp ⊢; rcases hp with h | h | h | h <;> simp [h]
  · simp only [List.mem_cons, List.mem_append]; simp [hp]
theorem t_take {prog p : Program} {w : World} {loose : List Str} {mean : ExcName → Option Value} {mg mb : Str → Option Value}
    {dp un : Nat} {gd : Option (List Code)} {cn : Str} {cs : Scope} {a : Addr} {ccd : Value} {cl : List (Str × Addr)} {outer : List Env} {A₀ : Around} {base h₀ : Heap} {L : Addr} {m : Str → Option Value} {s : Shared} {Q E : Value → Shared → Prop}
    {news : List (Addr × Obj)}
    (B : Below A₀ base outer h₀) (F : Fr h₀ L s.heap m) (X : (tp.heap_39 w.params).In h₀) (N : News h₀ L s.heap news) (T : Top p loose mean mg mb h₀) (hk : cs.kind = .function)
    {D ib db : Addr} {oD : Obj} {b : UInt8} {tb : Tok} {rest : List (Addr × Obj)} {k1 k2 k3 k4 t2 t3 t4 t9 : Tok} {at9 held count o nc : Int} (hst : (at9 = 0 ∧ held = 0 ∧ count = 0 ∧ o = (b.toNat : Int)) ∨ (at9 = 1 ∧ held = o ∧ 1 ≤ count ∧ count ≤ 8)) (ho0 : 0 ≤ o) (ho1 : o < 256) (hcn : (if count = 0 then 7 else count - 1) = nc)
    (hn : news = (D, oD) :: (db, bitsD w k1 k2 k3 k4 (.bytes #[b] tb) (.int at9 t2) (.int held t3) (.int count t4)) :: (ib, instObj 196 db) :: rest) (hne : @Ne Nat ib db) (hD : D ≠ db) (hrest : ∀ p ∈ rest, p.1 ≠ db) 
    (hd : dp + 16 < recursionLimit) (hu : un + 60 < cLine)
    (ret : ∀ (k1 k2 k3 k4 t1 t2 t3 t4 : Tok) (h' : Heap) (tk' : Nat), Fr h₀ L h' m → News h₀ L h' ((D, oD) :: (db, bitsD w k1 k2 k3 k4 (.bytes #[b] tb) (.int 1 t2) (.int (o / 2) t3) (.int nc t4)) :: (ib, instObj 196 db) :: rest) → Q (.int (o % 2) t1) { s with heap := h', toks := tk' }) :
    wpAny (model prog w) (ktrTop dp un gd cn cs L a ccd cl outer) (call (.ref 179) [.ref ib, .int 1 t9]) Q E s := by
  subst hn
  have N2 : News h₀ L s.heap ((db, bitsD w k1 k2 k3 k4 (.bytes #[b] tb) (.int at9 t2) (.int held t3) (.int count t4)) :: (ib, instObj 196 db) :: (D, oD) :: rest) := fun p hp => N p (by simp only [List.mem_cons] at hp ⊢; rcases hp with h | h | h | h <;> simp [h])
  have hr : ∀ p ∈ (D, oD) :: rest, p.1 ≠ db := List.forall_mem_cons.mpr ⟨hD, hrest⟩
  have hm : ∀ {x : Obj} {p : Addr × Obj}, p ∈ (D, oD) :: (db, x) :: (ib, instObj 196 db) :: rest → p ∈ (db, x) :: (ib, instObj 196 db) :: (D, oD) :: rest := fun hp => by simp only [List.mem_cons] at hp ⊢; rcases hp with h | h | h | h <;> simp [h]
  rcases hst with ⟨rfl, rfl, rfl, rfl⟩ | ⟨rfl, rfl, hc1, hc8⟩
  · rw [if_pos rfl] at hcn
    subst hcn
    exact c_take0 B F X N2 T hk rfl hne hr hd hu fun k1 k2 k3 k4 t1 t2 t3 t4 h' tk' F' N' => ret k1 k2 k3 k4 t1 t2 t3 t4 h' tk' F' fun p hp => N' p (hm hp)
  · rw [if_neg (by omega)] at hcn
    subst hcn
    exact c_takeS B F X N2 T hk ho0 ho1 hc1 hc8 rfl hne hr hd hu fun k1 k2 k3 k4 t1 t2 t3 t4 h' tk' F' N' => ret k1 k2 k3 k4 t1 t2 t3 t4 h' tk' F' fun p hp => N' p (hm hp)

theorem c_read {prog p : Program} {w : World} {loose : List Str} {mean : ExcName → Option Value} {mg mb : Str → Option Value}
    {dp un : Nat} {gd : Option (List Code)} {cn : Str} {cs : Scope} {a : Addr} {ccd : Value} {cl : List (Str × Addr)} {outer : List Env} {A₀ : Around} {base h₀ : Heap} {L : Addr} {m : Str → Option Value} {s : Shared} {Q E : Value → Shared → Prop}
    {news : List (Addr × Obj)}
    (B : Below A₀ base outer h₀) (F : Fr h₀ L s.heap m) (X : (tp.heap_39 w.params).In h₀) (N : News h₀ L s.heap news) (T : Top p loose mean mg mb h₀) (hk : cs.kind = .function)
    {dI dD tL sL ib db : Addr} {vsT vsS : List Value} {ts xs : List Int} {cT cS : Nat} {b : UInt8} {tb : Tok} {k1 k2 k3 k4 k5 k6 t2 t3 t4 : Tok} {rest : List (Addr × Obj)}
    (hn : news = (db, bitsD w k1 k2 k3 k4 (.bytes #[b] tb) (.int 0 t2) (.int 0 t3) (.int 0 t4)) :: (ib, instObj 196 db) :: rest) (hne : @Ne Nat ib db) (hrest : ∀ p ∈ rest, p.1 ≠ db) 
    (hdI : (dI, instObj 132 dD) ∈ rest) (hdD : (dD, decD w k5 k6 (.ref tL) (.ref sL)) ∈ rest) (htL : (tL, W.listOf vsT.toArray cT) ∈ rest) (hsL : (sL, W.listOf vsS.toArray cS) ∈ rest)
    (hiT : IntsAre vsT ts) (hiS : IntsAre vsS xs) (hts : ts.length ≤ 9) (hbt : ∀ t ∈ ts, 0 ≤ t ∧ t ≤ 10) (hsum : (ts.drop 1).sum ≤ xs.length) (hxs : xs.length ≤ 10)
    (hd : dp + 24 < recursionLimit) (hu : un + 80 < cLine)
    (ret : ∀ (z : Int) (t : Tok) (h' : Heap) (tk' : Nat), readZ (ts.drop 1) b.toNat 0 0 = true → Fr h₀ L h' m → News h₀ L h' rest → Q (.int z t) { s with heap := h', toks := tk' })
    (rai : ∀ (e : Addr) (G h' : Heap) (tk' : Nat), readZ (ts.drop 1) b.toNat 0 0 = false → Fr h₀ L G m → RaisedSN base G (envX cn cs L a ccd cl :: outer) e (.ref 52) rest h' → G.UpToSlots h' → E (.ref e) { s with heap := h', toks := tk' }) :
    wpAny (model prog w) (ktrTop dp un gd cn cs L a ccd cl outer) (call (.ref 129) [.ref dI, .ref ib]) Q E s := by
  subst hn
  have hvT := hiT.length
  have hvS := hiS.length
  have hMk := kstMark
  k_with_none
  k_with "m mem" => first | assumption | exact List.mem_cons_self | (refine List.mem_cons_of_mem _ ?_; walk_at "m mem")
  k_with "m all" => first | (refine List.forall_mem_cons.mpr ⟨by walk_at "m mem", ?_⟩; walk_at "m all") | exact List.forall_mem_nil _ | (intro q9 hq9; walk_at "m mem")
  k_with "m sub" => (refine news_sub (by assumption) ?_; walk_at "m all")
  k_with "InvEndN" => k_dflt kst_close
  k_with "ktr_room" => ((try simp only [depth_mark, depth_under_make, depth_under_kw, depth_in1, depth_deeper, depth_caller]); (try dsimp only [ktrTop]); first | decide | (rename (_ + _ < recursionLimit) => hd9; refine Nat.lt_of_le_of_lt ?_ hd9; (try simp only [Nat.add_assoc]); exact Nat.add_le_add_left (by decide) _) | omega)
  k_with "ktr_units" => ((try simp only [units_under_make, units_in1, units_deeper, Around.mark_units, units_caller]); (try dsimp only [ktrTop]); first | decide | (rename (_ + _ < cLine) => hu9; refine Nat.lt_of_le_of_lt ?_ hu9; (try simp only [Nat.add_assoc]); exact Nat.add_le_add_left (by decide) _) | omega)
  k_with "call ref" => (k_extra "cA"; intro _ _ _ _ _; (try dsimp only); (try k_sweep))
  k_with "call ref" => (k_extra "cB"; intro _ _ _ _; (try dsimp only); (try k_sweep))
  k_with "call ref" => (k_extra "cH"; refine Hold.out ?_)
  k_with "om" => with_reducible first | exact A0.c1 (by assumption) | exact A0.c2 (by assumption) | exact A0.c3 (by assumption) | exact A0.c4 (by assumption) | exact A0.c5 (by assumption) | exact A0.c6 (by assumption) | exact A0.c7 (by assumption) | exact A0.e2 (by assumption) | exact A0.e3 (by assumption) | exact A0.e4 (by assumption) | exact A0.e5 (by assumption) | exact A0.e6 (by assumption) | exact A0.e7 (by assumption) | exact Nat.le_trans (by assumption) (by decide)
  k_with "k_mem" => first | assumption | (refine List.mem_cons_of_mem _ ?_; k_mem)
  k_with "news_mem" => k_mem
  k_with "k_memK" => first | assumption | (refine List.mem_cons_of_mem _ ?_; k_memK)
  k_with "exec Try" => refine wpAny_Try_except ?_
  k_with "k_all" => first | assumption | exact List.forall_mem_nil _ | (refine List.forall_mem_cons.mpr ⟨by k_ne, ?_⟩; k_all) | (refine lt_ne9 (by assumption) ?_; omega)
  k_with "exec While Compare cons nil" => k_dflt (refine whl_start 2 ?_)
  k_with "WhlIf" => (first | (refine WhlIf.yes (decide_eq_true (by omega)) ?_) | (refine WhlIf.no (decide_eq_false (by omega)) ?_))
  k_with "exec For Name Subscript cons nil" => (refine wpAny_noRaise ?_; k_here; (with_unfolding_all refine For_invVF (by assumption) (by exact rfl) (by exact rfl) ?_); k_whole)
  k_with "pyIter ref" => refine Hold.out ?_
  k_with "exec Raise some none" => refine Hold.out ?_
  k_with "InvEndN" => refine Hold.out ?_
  k_with "call ref" => ((with_reducible show wpAny _ _ (call (Value.ref 179) [Value.ref _, Value.int 1 _]) _ _ _); (k_dflt (refine t_take (by k_asm) (by k_asm) (by k_asm) (by k_asm) (by k_asm) (by first | exact rfl | assumption) (by assumption) (by assumption) (by assumption) (by assumption) (by exact rfl) (by assumption) (by assumption) (by assumption) (by ktr_room) (by ktr_units) ?_)); intro _ _ _ _ _ _ _ _ _ _ _ _; (try dsimp only); (try k_sweep))
  k_with "subscriptTail" => (k_here; (with_reducible show wpAny _ _ (subscriptTail _ _ (Value.ref _) (Value.int _ _)) _ _ _); (with_unfolding_all refine item_litK (by is_list) (by omega) (by omega) (by assumption) ?_ (by with_unfolding_all rfl)); k_whole)
  w_top off
  have kf : Challenge.rw_og0142_01.prog = Challenge.rw_og0142_01.prog ∧ tp.heap_39 = tp.heap_39 := by (k_fill; exact ⟨rfl, rfl⟩)
  clear kf
  refine wpAny_call ?_
  k_dflt ktr_enter
  k_with "cH" => (with_reducible show wpAny _ _ (call (Value.ref 52) [_, _]) _ _ _)
  k_steps
  rename_i g' L' hE FG' B' X' T' hf hg hh D' ws' hi' F' N' hI' hC' hL' l1
  clear hC' hL'
  obtain ⟨mm, hmm, F'⟩ := fr_name F'
  have hDb : D' ≠ db := Nat.ne_of_gt l1.1
  have hml : (ts.drop 1).length ≤ 8 := by rw [List.length_drop]; omega
  have hbt1 : ∀ t ∈ ts.drop 1, 0 ≤ t ∧ t ≤ 10 := fun t ht => hbt t (List.mem_of_mem_drop ht)
  have hbb : (b.toNat : Int) < 256 := by have := b.toNat_lt; omega
  refine Hold.of (iter_vals (RdJ w (ts.drop 1) xs b tb D' ws' db ib rest mm) (by rfl) List.mem_cons_self F' N' ?h0 ?turn ?done)
  case h0 =>
    subst hmm
    exact ⟨0, 0, 0, 0, 0, 0, b.toNat, _, _, _, k1, k2, k3, k4, t2, t3, t4, rfl, rfl, rfl, rfl, (fun _ _ _ _ _ => rfl), .inl ⟨rfl, rfl, rfl, rfl, rfl⟩, by omega, by omega, by omega, by omega, by omega, by simpa using hsum, rfl⟩
  case turn =>
    rintro i v m₁ news₁ h tk own hv hadr hoff hl1 ⟨code, first, place, at9, held, count, o, tc, tf, tp, k1, k2, k3, k4, t2, t3, t4, rfl, hc, hf, hp, ho, hst, ho0, ho1, hcf, hf0, hp0, hps, hz⟩ F9 N9 P9 hP9
    have F9 := fr4 F9 hc hf hp ho
    subst hmm
    clear F' N'
    obtain ⟨tt, rfl, hil⟩ := ints_at hI' hv
    have ht := hbt1 _ (getD_mem hil)
    have hnn : 0 ≤ ((ts.drop 1).drop (i + 1)).sum := sumNN fun x hx => (hbt1 x (List.mem_of_mem_drop hx)).1
    rw [drop_at hil, List.sum_cons] at hps
    rw [drop_at hil] at hz
    simp only [readZ] at hz
    generalize hT9 : (ts.drop 1).getD i 0 = t at *
    have m1 := List.mem_append_left own hdI
    have m2 := List.mem_append_left own hdD
    have m3 := List.mem_append_left own hsL
    have m4 : ∀ p ∈ rest ++ own, p.1 ≠ db := fun p hp => (List.mem_append.mp hp).elim (hrest p) fun h => hoff p h db (by simp)
    simp only [List.cons_append] at N9
    clear hdI hdD hsL hc hf hp
    have hil8 : (i : Int) < 8 := by omega
    obtain ⟨nc, hnc⟩ : ∃ nc : Int, (if count = 0 then 7 else count - 1) = nc := ⟨_, rfl⟩
    have hnc2 : nc = 8 - ((i + 1 : Nat) : Int) := by
      rcases hst with ⟨rfl, -, -, rfl, -⟩ | ⟨hi1, -, -, rfl⟩
      · rw [← hnc]; rfl
      · rw [← hnc, if_neg (by omega)]; omega
    have hst2 : (at9 = 0 ∧ held = 0 ∧ count = 0 ∧ o = (b.toNat : Int)) ∨ (at9 = 1 ∧ held = o ∧ 1 ≤ count ∧ count ≤ 8) := by
      rcases hst with ⟨rfl, rfl, rfl, rfl, rfl⟩ | ⟨hi1, rfl, rfl, rfl⟩
      · exact .inl ⟨rfl, rfl, rfl, rfl⟩
      · exact .inr ⟨rfl, rfl, by omega, by omega⟩
    clear hst
    k_steps
    all_goals refine hP9 _ _ ?_
    all_goals k_steps
    · rename Fr h₀ L _ m => kF
      rename News h₀ L _ _ => kN
      exact ret _ _ _ _ (by rw [hz, if_pos (by assumption)]) kF (fun p hp => kN p (by simp [hp]))
    · rename Fr g' L' _ _ => F5
      rename News g' L' _ _ => N5
      rw [if_neg (by assumption)] at hz
      refine Hold.of (rd_end (place := place + t) F5 N5 hadr ?f1 ?f2 ?f3 ?f4 ?f5 ?f6 ?f7 ?f8 ?f9 ?fa ?fb hz)
      case f4 => intro y e1 e2 e3 e4; simp only [if_neg e1, if_neg e2, if_neg e3, if_neg e4]
      case f1 => exact ⟨_, rfl⟩
      case f2 => exact ⟨_, rfl⟩
      case f3 => exact ⟨_, rfl⟩
      all_goals omega
  case done =>
    rintro m₁ news₁ h tk hl1 ⟨code, first, place, at9, held, count, o, tc, tf, tp, k1, k2, k3, k4, t2, t3, t4, rfl, hc, hf, hp, ho, hst, ho0, ho1, hcf, hf0, hp0, hps, hz⟩ F9 N9
    have hz2 : readZ (ts.drop 1) b.toNat 0 0 = false := by
      rw [hz, show ws'.length = (ts.drop 1).length from hI'.length, List.drop_length]; rfl
    clear F' N' hz hps hst
    have hbits : m₁ (Str.ofString "bits") = some (.ref ib) := (ho _ (by decide) (by decide) (by decide) (by decide)).trans (by rw [hmm]; rfl)
    have F9 := fr_same F9 hbits
    clear hc hf hp ho hmm
    k_steps
    refine Hold.of (Raise_own (by rfl) ?_)
    k_steps
    rename Fr g' L' _ _ => F5
    rename News g' L' _ _ => N5
    refine Hold.of ?_
    k_dflt (refine X5.c_fault (Q := fun _ _ => True) B' F5 X' N5 T' rfl (by ktr_room) (by ktr_units) (fun e ob t h' tk' F'' N'' hne' hcls hdat => ?_))
    have N6 : News g' L' h' ((e, ob) :: rest) := fun p hp => N'' p (by
      rcases List.mem_cons.mp hp with rfl | hp
      · exact List.mem_cons_self
      · exact .tail _ (.tail _ (.tail _ (.tail _ hp))))
    exact X4.leave_newL B' F'' N6 (fun p hp => hne' p (.tail _ (.tail _ (.tail _ hp)))) hcls hdat (fun h'' R hsm => rai e g' h'' _ hz2 FG' R hsm)
end R1
end Mine

/-! part D1 -/
namespace Mine
set_option maxRecDepth 100000
set_option maxHeartbeats 4000000
namespace D1
open M8 R1

theorem news4 {h₀ h : Heap} {L : Addr} {a b c d : Addr × Obj} {r : List (Addr × Obj)} (N : News h₀ L h (a :: b :: c :: d :: r)) : News h₀ L h (d :: c :: a :: b :: r) := fun p hp => N p (by
  simp only [List.mem_cons] at hp ⊢; rcases hp with h | h | h | h | h <;> simp [h])
theorem news2 {h₀ h : Heap} {L : Addr} {a b : Addr × Obj} {r : List (Addr × Obj)} (N : News h₀ L h (a :: b :: r)) : News h₀ L h (b :: a :: r) := fun p hp => N p (by
  simp only [List.mem_cons] at hp ⊢; rcases hp with h | h | h <;> simp [h])
theorem c_dec {prog p : Program} {w : World} {loose : List Str} {mean : ExcName → Option Value} {mg mb : Str → Option Value}
    {dp un : Nat} {gd : Option (List Code)} {cn : Str} {cs : Scope} {a : Addr} {ccd : Value} {cl : List (Str × Addr)} {outer : List Env} {A₀ : Around} {base h₀ : Heap} {L : Addr} {m : Str → Option Value} {s : Shared} {Q E : Value → Shared → Prop}
    {news : List (Addr × Obj)}
    (B : Below A₀ base outer h₀) (F : Fr h₀ L s.heap m) (X : (tp.heap_39 w.params).In h₀) (N : News h₀ L s.heap news) (T : Top p loose mean mg mb h₀) (hk : cs.kind = .function)
    {l : Addr} {vs : List Value} {ns : List Int} {c : Nat} (hm : (l, W.listOf vs.toArray c) ∈ news) (hi : IntsAre vs ns) (hlen : ns.length ≤ 10) (hb : ∀ x ∈ ns, 0 ≤ x ∧ x ≤ 6) (hr : 0 ≤ roomZ ns)
    (hd : dp + 36 < recursionLimit) (hu : un + 120 < cLine)
    (ret : ∀ (dI dD tL sL : Addr) (vsT vsS : List Value) (xs : List Int) (cT cS : Nat) (k5 k6 : Tok) (h' : Heap) (tk' : Nat), Fr h₀ L h' m → News h₀ L h' ((dD, decD w k5 k6 (.ref tL) (.ref sL)) :: (dI, instObj 132 dD) :: (sL, W.listOf vsS.toArray cS) :: (tL, W.listOf vsT.toArray cT) :: news) →
       (∀ p ∈ news, p.1 < dD ∧ p.1 < dI ∧ p.1 < sL ∧ p.1 < tL) → IntsAre vsT (tallyZ ns) → IntsAre vsS xs → xs.length = withCode ns → Q (.ref dI) { s with heap := h', toks := tk' }) :
    wpAny (model prog w) (ktrTop dp un gd cn cs L a ccd cl outer) (call (.ref 132) [.ref l]) Q E s := by
  have hMk := kstMark
  have hvl := hi.length
  have hg0 := gmax_nonneg ns
  have hg6 := gmax_le (by decide) hb
  k_with_none
  k_with "m mem" => first | assumption | exact List.mem_cons_self | (refine List.mem_cons_of_mem _ ?_; walk_at "m mem")
  k_with "m all" => first | (refine List.forall_mem_cons.mpr ⟨by walk_at "m mem", ?_⟩; walk_at "m all") | exact List.forall_mem_nil _ | (intro q9 hq9; walk_at "m mem")
  k_with "m sub" => (refine news_sub (by assumption) ?_; walk_at "m all")
  k_with "InvEndN" => k_dflt kst_close
  k_with "ktr_room" => ((try simp only [depth_mark, depth_under_make, depth_under_kw, depth_in1, depth_deeper, depth_caller]); (try dsimp only [ktrTop]); first | decide | (rename (_ + _ < recursionLimit) => hd9; refine Nat.lt_of_le_of_lt ?_ hd9; (try simp only [Nat.add_assoc]); exact Nat.add_le_add_left (by decide) _) | omega)
  k_with "ktr_units" => ((try simp only [units_under_make, units_in1, units_deeper, Around.mark_units, units_caller]); (try dsimp only [ktrTop]); first | decide | (rename (_ + _ < cLine) => hu9; refine Nat.lt_of_le_of_lt ?_ hu9; (try simp only [Nat.add_assoc]); exact Nat.add_le_add_left (by decide) _) | omega)
  k_with "call ref" => (k_extra "cA"; intro _ _ _ _ _; (try dsimp only); (try k_sweep))
  k_with "call ref" => (k_extra "cB"; intro _ _ _ _; (try dsimp only); (try k_sweep))
  k_with "call ref" => (k_extra "cH"; refine Hold.out ?_)
  k_with "om" => with_reducible first | exact A0.c1 (by assumption) | exact A0.c2 (by assumption) | exact A0.c3 (by assumption) | exact A0.c4 (by assumption) | exact A0.c5 (by assumption) | exact A0.c6 (by assumption) | exact A0.c7 (by assumption) | exact A0.e2 (by assumption) | exact A0.e3 (by assumption) | exact A0.e4 (by assumption) | exact A0.e5 (by assumption) | exact A0.e6 (by assumption) | exact A0.e7 (by assumption) | exact Nat.le_trans (by assumption) (by decide)
  k_with "k_mem" => first | assumption | (refine List.mem_cons_of_mem _ ?_; k_mem)
  k_with "news_mem" => k_mem
  k_with "k_memK" => first | assumption | (refine List.mem_cons_of_mem _ ?_; k_memK)
  k_with "exec Try" => refine wpAny_Try_except ?_
  k_with "k_all" => first | assumption | exact List.forall_mem_nil _ | (refine List.forall_mem_cons.mpr ⟨by k_ne, ?_⟩; k_all) | (refine lt_ne9 (by assumption) ?_; omega)
  k_with "exec While Compare cons nil" => k_dflt (refine whl_start 2 ?_)
  k_with "WhlIf" => (first | (refine WhlIf.yes (decide_eq_true (by omega)) ?_) | (refine WhlIf.no (decide_eq_false (by omega)) ?_))
  k_with "cA" => ((with_reducible show wpAny _ _ (call (Value.ref 61) [Value.ref _]) _ _ _); k_dflt (refine c_greatest (by k_asm) (by k_asm) (by k_asm) (by k_asm) (by k_asm) (by first | exact rfl | assumption) (by k_mem) (by assumption) (by omega) (by ktr_room) (by ktr_units) ?_))
  k_with "cC" => ((with_reducible show wpAny _ _ (call (Value.ref 68) [Value.ref _]) _ _ _); k_dflt (refine c_tally (by k_asm) (by k_asm) (by k_asm) (by k_asm) (by k_asm) (by first | exact rfl | assumption) (by k_mem) (by assumption) (by omega) (by assumption) (by ktr_room) (by ktr_units) ?_))
  k_with "cA" => ((with_reducible show wpAny _ _ (call (Value.ref 75) [Value.ref _]) _ _ _); k_dflt (refine c_room (by k_asm) (by k_asm) (by k_asm) (by k_asm) (by k_asm) (by first | exact rfl | assumption) (by k_mem) (by assumption) (by first | omega | (simp only [List.length_append, List.length_cons, List.length_nil, List.length_reverse] at *; omega)) (by assumption) (by ktr_room) (by ktr_units) ?_))
  k_with "cB" => ((with_reducible show wpAny _ _ (call (Value.ref 82) [Value.ref _]) _ _ _); k_dflt (refine c_full (by k_asm) (by k_asm) (by k_asm) (by k_asm) (by k_asm) (by first | exact rfl | assumption) (by k_mem) (by assumption) (by first | omega | (simp only [List.length_append, List.length_cons, List.length_nil, List.length_reverse] at *; omega)) (by assumption) (by ktr_room) (by ktr_units) ?_))
  k_with "cB" => ((with_reducible show wpAny _ _ (call (Value.ref 89) [Value.ref _]) _ _ _); k_dflt (refine c_over (by k_asm) (by k_asm) (by k_asm) (by k_asm) (by k_asm) (by first | exact rfl | assumption) (by k_mem) (by assumption) (by first | omega | (simp only [List.length_append, List.length_cons, List.length_nil, List.length_reverse] at *; omega)) (by assumption) (by ktr_room) (by ktr_units) ?_))
  k_with "cC" => ((with_reducible show wpAny _ _ (call (Value.ref 96) [Value.ref _]) _ _ _); k_dflt (refine c_first (by k_asm) (by k_asm) (by k_asm) (by k_asm) (by k_asm) (by first | exact rfl | assumption) (by k_mem) (by assumption) (by omega) (by omega) (by ktr_room) (by ktr_units) ?_))
  k_with "cC" => ((with_reducible show wpAny _ _ (call (Value.ref 103) [Value.ref _]) _ _ _); k_dflt (refine c_codes (by k_asm) (by k_asm) (by k_asm) (by k_asm) (by k_asm) (by first | exact rfl | assumption) (by k_mem) (by assumption) (by omega) (by assumption) (by assumption) (by ktr_room) (by ktr_units) ?_))
  k_with "cD" => ((with_reducible show wpAny _ _ (call (Value.ref 108) [Value.ref _]) _ _ _); k_dflt (refine c_symbols (by k_asm) (by k_asm) (by k_asm) (by k_asm) (by k_asm) (by first | exact rfl | assumption) (by k_mem) (by assumption) (by omega) (by assumption) (by ktr_room) (by ktr_units) ?_))
  w_top off
  have kf : Challenge.rw_og0142_01.prog = Challenge.rw_og0142_01.prog ∧ tp.heap_39 = tp.heap_39 := by (k_fill; exact ⟨rfl, rfl⟩)
  clear kf
  (k_dflt (refine' call_cls ?k1 ?k2 ?k3 ?k4 ?k5 ?k6 ?_; (case k1 => k_asm); (case k2 => k_asm); (case k3 => k_asm); (case k4 => k_is); (case k5 => k_is); (case k6 => k_is); k_whole; intro x' d' h' F' N' l1 l2; (try k_lt l1); (try k_lt2 l2); (try k_sweep); refine' code_def ?k1 ?k2 ?k3 ?k4 ?k5 ?kA ?kF ?kK ?k6 ?k7 ?k8 ?k9 ?kB ?_ ?c2 ?c3 ?c4 ?c5; (case kA => exact rfl); (case kF => exact rfl); (case kK => assumption); (case k1 => k_asm); (case k2 => k_asm); (case k3 => k_asm); (case k4 => k_asm); (case k5 => k_asm); (case k6 => k_is); (case k7 => k_is); (case k8 => ktr_room); (case k9 => first | exact BindsTo.of_eq rfl | exact binds_K (by k_in) rfl (by k_is) rfl rfl rfl); (case c5 => decide); (case kB => exact locs rfl); (case c2 => exact rfl); (case c3 => exact rfl); (case c4 => exact rfl); k_whole; intro g' L' h' FG' F' N' B' X' T'; (try dsimp only); (try k_fold)))
  k_steps
  rename_i h3 tk3 D1 ws1 c1 h4 tk4 i1 l4 h5 tq D2 ws2 xs2 c2 h6 tk6 i2 e2 l6 h7 F7 N7 kF kN Tc kX
  have la := allLt_all l6.2.2.2
  have lb := allLt_all l4.2.2
  refine ret x' d' D1 D2 ws1 ws2 xs2 c1 c2 _ _ _ _ kF (news4 kN) (fun p hp => ⟨l1 p hp, Nat.lt_trans (l1 p hp) l2, la p hp, lb p hp⟩) i1 i2 e2
theorem c_bits {prog p : Program} {w : World} {loose : List Str} {mean : ExcName → Option Value} {mg mb : Str → Option Value}
    {dp un : Nat} {gd : Option (List Code)} {cn : Str} {cs : Scope} {a : Addr} {ccd : Value} {cl : List (Str × Addr)} {outer : List Env} {A₀ : Around} {base h₀ : Heap} {L : Addr} {m : Str → Option Value} {s : Shared} {Q E : Value → Shared → Prop}
    {news : List (Addr × Obj)}
    (B : Below A₀ base outer h₀) (F : Fr h₀ L s.heap m) (X : (tp.heap_39 w.params).In h₀) (N : News h₀ L s.heap news) (T : Top p loose mean mg mb h₀) (hk : cs.kind = .function)
    {arr : Array UInt8} {tb : Tok}
    (hd : dp + 12 < recursionLimit) (hu : un + 60 < cLine)
    (ret : ∀ (ib db : Addr) (k1 k2 k3 k4 t2 t3 t4 : Tok) (h' : Heap) (tk' : Nat), Fr h₀ L h' m → News h₀ L h' ((db, bitsD w k1 k2 k3 k4 (.bytes arr tb) (.int 0 t2) (.int 0 t3) (.int 0 t4)) :: (ib, instObj 196 db) :: news) → (@Ne Nat ib db) → (∀ p ∈ news, p.1 < ib ∧ p.1 < db) → Q (.ref ib) { s with heap := h', toks := tk' }) :
    wpAny (model prog w) (ktrTop dp un gd cn cs L a ccd cl outer) (call (.ref 196) [.bytes arr tb]) Q E s := by
  have hMk := kstMark
  k_with_none
  k_with "m mem" => first | assumption | exact List.mem_cons_self | (refine List.mem_cons_of_mem _ ?_; walk_at "m mem")
  k_with "m all" => first | (refine List.forall_mem_cons.mpr ⟨by walk_at "m mem", ?_⟩; walk_at "m all") | exact List.forall_mem_nil _ | (intro q9 hq9; walk_at "m mem")
  k_with "m sub" => (refine news_sub (by assumption) ?_; walk_at "m all")
  k_with "InvEndN" => k_dflt kst_close
  k_with "ktr_room" => ((try simp only [depth_mark, depth_under_make, depth_under_kw, depth_in1, depth_deeper, depth_caller]); (try dsimp only [ktrTop]); first | decide | (rename (_ + _ < recursionLimit) => hd9; refine Nat.lt_of_le_of_lt ?_ hd9; (try simp only [Nat.add_assoc]); exact Nat.add_le_add_left (by decide) _) | omega)
  k_with "ktr_units" => ((try simp only [units_under_make, units_in1, units_deeper, Around.mark_units, units_caller]); (try dsimp only [ktrTop]); first | decide | (rename (_ + _ < cLine) => hu9; refine Nat.lt_of_le_of_lt ?_ hu9; (try simp only [Nat.add_assoc]); exact Nat.add_le_add_left (by decide) _) | omega)
  k_with "call ref" => (k_extra "cA"; intro _ _ _ _ _; (try dsimp only); (try k_sweep))
  k_with "call ref" => (k_extra "cB"; intro _ _ _ _; (try dsimp only); (try k_sweep))
  k_with "call ref" => (k_extra "cH"; refine Hold.out ?_)
  k_with "om" => with_reducible first | exact A0.c1 (by assumption) | exact A0.c2 (by assumption) | exact A0.c3 (by assumption) | exact A0.c4 (by assumption) | exact A0.c5 (by assumption) | exact A0.c6 (by assumption) | exact A0.c7 (by assumption) | exact A0.e2 (by assumption) | exact A0.e3 (by assumption) | exact A0.e4 (by assumption) | exact A0.e5 (by assumption) | exact A0.e6 (by assumption) | exact A0.e7 (by assumption) | exact Nat.le_trans (by assumption) (by decide)
  k_with "k_mem" => first | assumption | (refine List.mem_cons_of_mem _ ?_; k_mem)
  k_with "news_mem" => k_mem
  k_with "k_memK" => first | assumption | (refine List.mem_cons_of_mem _ ?_; k_memK)
  k_with "exec Try" => refine wpAny_Try_except ?_
  k_with "k_all" => first | assumption | exact List.forall_mem_nil _ | (refine List.forall_mem_cons.mpr ⟨by k_ne, ?_⟩; k_all) | (refine lt_ne9 (by assumption) ?_; omega)
  k_with "exec While Compare cons nil" => k_dflt (refine whl_start 2 ?_)
  k_with "WhlIf" => (first | (refine WhlIf.yes (decide_eq_true (by omega)) ?_) | (refine WhlIf.no (decide_eq_false (by omega)) ?_))
  w_top off
  have kf : Challenge.rw_og0142_01.prog = Challenge.rw_og0142_01.prog ∧ tp.heap_39 = tp.heap_39 := by (k_fill; exact ⟨rfl, rfl⟩)
  clear kf
  (k_dflt (refine' call_cls ?k1 ?k2 ?k3 ?k4 ?k5 ?k6 ?_; (case k1 => k_asm); (case k2 => k_asm); (case k3 => k_asm); (case k4 => k_is); (case k5 => k_is); (case k6 => k_is); k_whole; intro x' d' h' F' N' l1 l2; (try k_lt l1); (try k_lt2 l2); (try k_sweep); refine' code_def ?k1 ?k2 ?k3 ?k4 ?k5 ?kA ?kF ?kK ?k6 ?k7 ?k8 ?k9 ?kB ?_ ?c2 ?c3 ?c4 ?c5; (case kA => exact rfl); (case kF => exact rfl); (case kK => assumption); (case k1 => k_asm); (case k2 => k_asm); (case k3 => k_asm); (case k4 => k_asm); (case k5 => k_asm); (case k6 => k_is); (case k7 => k_is); (case k8 => ktr_room); (case k9 => first | exact BindsTo.of_eq rfl | exact binds_K (by k_in) rfl (by k_is) rfl rfl rfl); (case c5 => decide); (case kB => exact locs rfl); (case c2 => exact rfl); (case c3 => exact rfl); (case c4 => exact rfl); k_whole; intro g' L' h' FG' F' N' B' X' T'; (try dsimp only); (try k_fold)))
  k_steps
  rename_i h3 h4 h5 h6 F7 N7 kF kN Tc kX
  refine ret x' d' _ _ _ _ _ _ _ _ _ kF (news2 kN) (Nat.ne_of_gt l2) (fun p hp => ⟨Nat.lt_trans (l1 p hp) l2, l1 p hp⟩)
end D1
end Mine

/-! part R2 -/
namespace Mine
set_option maxRecDepth 100000
set_option maxHeartbeats 4000000
namespace R2
open M8 R1

/-- has the row a one at the place -/
noncomputable def bitAt (g : Int) (row k : Nat) : Bool := decide (Builtin.bitAnd ((0 + (row : Int)).fdiv (2 ^ (g - 1 - (0 + (k : Int))).toNat)) 1 ≠ 0)
/-- the items of a row's octet -/
noncomputable def octL (g : Int) (row n : Nat) : List Int := ((List.range n).filter (bitAt g row)).map fun k : Nat => 2 ^ (0 + (k : Int)).toNat
theorem oct_succ (g : Int) (row n : Nat) : octL g row (n + 1) = octL g row n ++ if bitAt g row n = true then [2 ^ (0 + (n : Int)).toNat] else [] := by
  unfold octL
  rw [List.range_succ, List.filter_append, List.map_append]
  congr 1
  by_cases h : bitAt g row n = true <;> simp [h]
theorem oct_len (g : Int) (row : Nat) : ∀ n, (octL g row n).length ≤ n
  | 0 => Nat.le_refl _
  | n + 1 => by
    have := oct_len g row n
    rw [oct_succ, List.length_append]
    split
    · simp only [List.length_cons, List.length_nil]; omega
    · simp only [List.length_nil]; omega
theorem oct_sum (g : Int) (row : Nat) : ∀ n, 0 ≤ (octL g row n).sum ∧ (octL g row n).sum + 1 ≤ 2 ^ n
  | 0 => ⟨Int.le_refl _, Int.le_refl _⟩
  | n + 1 => by
    have ⟨h1, h2⟩ := oct_sum g row n
    rw [oct_succ, List.sum_append, Int.pow_succ]
    have e : (0 + (n : Int)).toNat = n := by omega
    have h3 : (0 : Int) ≤ 2 ^ n := Int.pow_nonneg (by decide)
    split
    · simp only [List.sum_cons, List.sum_nil, e]; omega
    · simp only [List.sum_nil]; omega
theorem oct_small {g : Int} (row : Nat) (h6 : g ≤ 6) : 0 ≤ (octL g row (g - 0).toNat).sum ∧ (octL g row (g - 0).toNat).sum ≤ 255 := by
  obtain ⟨h1, h2⟩ := oct_sum g row (g - 0).toNat
  have h3 := pow_le64 h6
  rw [show (g - 0).toNat = g.toNat by omega] at *
  omega
/-- is the row refused -/
noncomputable def refAt (ns : List Int) (row : Nat) : Bool := !readZ ((tallyZ ns).drop 1) (octL (gmax ns) row (gmax ns - 0).toNat).sum 0 0
/-- how many rows are refused -/
noncomputable def refZ (ns : List Int) (n : Nat) : Int := ((List.range n).filter (refAt ns)).length
theorem ref_succ (ns : List Int) (n : Nat) : refZ ns (n + 1) = refZ ns n + if refAt ns n = true then 1 else 0 := by
  unfold refZ
  rw [List.range_succ, List.filter_append, List.length_append]
  by_cases h : refAt ns n = true <;> simp [h]
theorem tally_sum (ns : List Int) (g : Nat) : ((tallyG g ns).drop 1).sum = (withUpto ns g : Int) := by
  have e : ∀ g : Nat, (tallyG g ns).drop 1 = (List.range g).map fun k : Nat => (ns.count ((k + 1 : Nat) : Int) : Int) := by
    intro g
    unfold tallyG
    rw [List.range_succ_eq_map, List.map_cons, List.drop_succ_cons, List.drop_zero, List.map_map]
    apply List.map_congr_left
    intro k _
    simp
  rw [e]
  induction g with
  | zero => rw [withUpto_zero]; rfl
  | succ g ih => rw [List.range_succ, List.map_append, List.sum_append, ih, withUpto_succ]; simp
theorem with_all (ns : List Int) : withUpto ns (gmax ns).toNat = withCode ns := by
  unfold withUpto withCode
  refine congrArg List.length (List.filter_congr fun x hx => ?_)
  have := gmax_ge hx
  have := gmax_nonneg ns
  simp; omega
theorem tally_total (ns : List Int) : ((tallyZ ns).drop 1).sum = (withCode ns : Int) := by
  unfold tallyZ
  rw [tally_sum, with_all]
theorem tally_items {ns : List Int} : ∀ t ∈ tallyZ ns, 0 ≤ t ∧ t ≤ ns.length := by
  intro t ht
  unfold tallyZ tallyG at ht
  obtain ⟨k, _, rfl⟩ := List.mem_map.mp ht
  have := List.count_le_length (a := (k : Int)) (l := ns)
  split <;> omega
noncomputable def RefInv (s : Shared) (env : Env) (A₀ : Around) (base : Heap) (loose : List Str) (mean : ExcName → Option Value) (mg mb : Str → Option Value) (p : Program) (pw : Params) (g9 : Heap) (L9 I9 : Addr) (mm : Str → Option Value) (ns : List Int) (oM : Obj) (news : List (Addr × Obj)) (i : Nat) (s9 : Shared) : Prop :=
  ∃ g hp tk t oc or' orv, s9 = { s with heap := hp, toks := tk } ∧ KtsTurn ([env].filterMap (·.frame)) g9 g ∧ Below A₀ base [env] g ∧ (tp.heap_39 pw).In g ∧ Top p loose mean mg mb g ∧ KtsDicts ([env].filterMap (·.frame)) g ∧
    Fr g L9 hp (fun y => if y = Str.ofString "refused" then some (.int (refZ ns i) t) else if y = Str.ofString "octet" then oc else mm y) ∧
    News g L9 hp ((I9, rIter (0 + (i : Int)) (((2 ^ (gmax ns).toNat : Nat) : Int) - (i : Int))) :: (L9 + 1 + 1, or') :: (L9 + 1, oM) :: news) ∧ or'.data = .cell orv
theorem refInv_mk {s : Shared} {env : Env} {A₀ : Around} {base g : Heap} {loose : List Str} {mean : ExcName → Option Value} {mg mb : Str → Option Value} {p : Program} {pw : Params} {g9 : Heap} {L9 I9 : Addr} {mm m₁ : Str → Option Value} {ns : List Int} {oM : Obj} {news : List (Addr × Obj)} {i tk : Nat} {hp : Heap} {k : Int} {or' : Obj} {orv : Option Value}
    (KT : KtsTurn ([env].filterMap (·.frame)) g9 g) (B : Below A₀ base [env] g) (X : (tp.heap_39 pw).In g) (T : Top p loose mean mg mb g) (D : KtsDicts ([env].filterMap (·.frame)) g)
    (F : Fr g L9 hp m₁) (hr : ∃ t, m₁ (Str.ofString "refused") = some (.int k t)) (hk : k = refZ ns i) (e : ∀ y, y ≠ Str.ofString "refused" → y ≠ Str.ofString "octet" → m₁ y = mm y)
    (N : News g L9 hp ((I9, rIter (0 + (i : Int)) (((2 ^ (gmax ns).toNat : Nat) : Int) - (i : Int))) :: (L9 + 1 + 1, or') :: (L9 + 1, oM) :: news)) (d : or'.data = .cell orv) :
    RefInv s env A₀ base loose mean mg mb p pw g9 L9 I9 mm ns oM news i { s with heap := hp, toks := tk } := by
  obtain ⟨t, hr⟩ := hr
  refine ⟨g, hp, tk, t, m₁ (Str.ofString "octet"), or', orv, rfl, KT, B, X, T, D, ?_, N, d⟩
  have e2 : (fun y => if y = Str.ofString "refused" then some (.int (refZ ns i) t) else if y = Str.ofString "octet" then m₁ (Str.ofString "octet") else mm y) = m₁ := by
    funext y
    by_cases h1 : y = Str.ofString "refused"
    · rw [if_pos h1, h1, hr, hk]
    by_cases h2 : y = Str.ofString "octet"
    · rw [if_neg h1, if_pos h2, h2]
    · rw [if_neg h1, if_neg h2, e y h1 h2]
  rw [e2]; exact F

theorem c_refused {prog p : Program} {w : World} {loose : List Str} {mean : ExcName → Option Value} {mg mb : Str → Option Value}
    {dp un : Nat} {gd : Option (List Code)} {cn : Str} {cs : Scope} {a : Addr} {ccd : Value} {cl : List (Str × Addr)} {A₀ : Around} {base h₀ : Heap} {L : Addr} {m : Str → Option Value} {s : Shared} {Q E : Value → Shared → Prop}
    {news : List (Addr × Obj)}
    (B : Below A₀ base [] h₀) (F : Fr h₀ L s.heap m) (X : (tp.heap_39 w.params).In h₀) (N : News h₀ L s.heap news) (T : Top p loose mean mg mb h₀) (hk : cs.kind = .function)
    (XB : (tp.heap_39 w.params).In base) (TB : Top p loose mean mg mb base)
    {l : Addr} {vs : List Value} {ns : List Int} {c : Nat} (hm : (l, W.listOf vs.toArray c) ∈ news) (hi : IntsAre vs ns) (hlen : ns.length ≤ 10) (hb : ∀ x ∈ ns, 0 ≤ x ∧ x ≤ 6) (hr : 0 ≤ roomZ ns)
    (hd : dp + 60 < recursionLimit) (hu : un + 240 < cLine)
    (ret : ∀ (t : Tok) (h' : Heap) (tk' : Nat), Fr h₀ L h' m → News h₀ L h' news → Q (.int (refZ ns (2 ^ (gmax ns).toNat)) t) { s with heap := h', toks := tk' }) :
    wpAny (model prog w) (ktrTop dp un gd cn cs L a ccd cl []) (call (.ref 217) [.ref l]) Q E s := by
  have hvl := hi.length
  have hg0 := gmax_nonneg ns
  have hg6 := gmax_le (by decide) hb
  k_with_none
  k_with "m mem" => first | assumption | exact List.mem_cons_self | (refine List.mem_cons_of_mem _ ?_; walk_at "m mem")
  k_with "m all" => first | (refine List.forall_mem_cons.mpr ⟨by walk_at "m mem", ?_⟩; walk_at "m all") | exact List.forall_mem_nil _ | (intro q9 hq9; walk_at "m mem")
  k_with "m sub" => (refine news_sub (by assumption) ?_; walk_at "m all")
  k_with "InvEndN" => k_dflt kst_close
  k_with "ktr_room" => ((try simp only [depth_mark, depth_under_make, depth_under_kw, depth_in1, depth_deeper, depth_caller]); (try dsimp only [ktrTop]); first | decide | (rename (_ + _ < recursionLimit) => hd9; refine Nat.lt_of_le_of_lt ?_ hd9; (try simp only [Nat.add_assoc]); exact Nat.add_le_add_left (by decide) _) | omega)
  k_with "ktr_units" => ((try simp only [units_under_make, units_in1, units_deeper, Around.mark_units, units_caller]); (try dsimp only [ktrTop]); first | decide | (rename (_ + _ < cLine) => hu9; refine Nat.lt_of_le_of_lt ?_ hu9; (try simp only [Nat.add_assoc]); exact Nat.add_le_add_left (by decide) _) | omega)
  k_with "call ref" => (k_extra "cA"; intro _ _ _ _ _; (try dsimp only); (try k_sweep))
  k_with "call ref" => (k_extra "cB"; intro _ _ _ _; (try dsimp only); (try k_sweep))
  k_with "call ref" => (k_extra "cH"; refine Hold.out ?_)
  k_with "om" => with_reducible first | exact A0.c1 (by assumption) | exact A0.c2 (by assumption) | exact A0.c3 (by assumption) | exact A0.c4 (by assumption) | exact A0.c5 (by assumption) | exact A0.c6 (by assumption) | exact A0.c7 (by assumption) | exact A0.e2 (by assumption) | exact A0.e3 (by assumption) | exact A0.e4 (by assumption) | exact A0.e5 (by assumption) | exact A0.e6 (by assumption) | exact A0.e7 (by assumption) | exact Nat.le_trans (by assumption) (by decide)
  k_with "k_mem" => first | assumption | (refine List.mem_cons_of_mem _ ?_; k_mem)
  k_with "news_mem" => k_mem
  k_with "k_memK" => first | assumption | (refine List.mem_cons_of_mem _ ?_; k_memK)
  k_with "exec Try" => refine wpAny_Try_except ?_
  k_with "k_all" => first | assumption | exact List.forall_mem_nil _ | (refine List.forall_mem_cons.mpr ⟨by k_ne, ?_⟩; k_all) | (refine lt_ne9 (by assumption) ?_; omega)
  k_with "exec While Compare cons nil" => k_dflt (refine whl_start 2 ?_)
  k_with "WhlIf" => (first | (refine WhlIf.yes (decide_eq_true (by omega)) ?_) | (refine WhlIf.no (decide_eq_false (by omega)) ?_))
  k_with "pyIter ref" => refine Hold.out ?_
  k_with "exec For Name Call cons nil" => (refine wpAny_For ?_ (by intro _; rfl))
  k_with "k_all" => first | exact List.forall_mem_nil _ | (refine List.forall_mem_cons.mpr ⟨by k_ne, ?_⟩; k_all) | (refine lt_ne9 (by assumption) ?_; omega)
  k_with "newTuple" => ((rename (_ ∈ _ ++ [0]) => ha9); (rename (∀ a, a ∈ _ ++ [0] → a ≤ _) => hb9); (have hM9 := gmax_app ha9 hb9); clear ha9 hb9; subst hM9)
  k_with "eval ListComp" => (k_here; k_dflt (refine LCt.ListComp_T (F₀ := by k_asm) (by with_unfolding_all rfl) (by decide) (by rfl) (by decide) (by rfl) ?_))
  k_with "CompSrcT" => refine Hold.out ?_
  refine wpAny_noRaise ?_
  (w_top off; (have kf : Challenge.rw_og0142_01.prog = Challenge.rw_og0142_01.prog ∧ tp.heap_39 = tp.heap_39 := by (k_fill; exact ⟨rfl, rfl⟩)); clear kf; refine wpAny_call ?_; k_dflt (refine' X4.code_defCS ?k1 ?k2 ?k3 ?k4 ?k5 ?kA ?kF ?kK ?k6 ?k7 ?k8 ?k9 ?kB ?kD ?_ ?c2 ?c3 ?c4; (case kA => exact rfl); (case kF => exact rfl); (case kK => assumption); (case k1 => k_asm); (case k2 => k_asm); (case k3 => k_asm); (case k4 => k_asm); (case k5 => k_asm); (case k6 => k_is); (case k7 => k_is); (case k8 => ktr_room); (case k9 => exact BindsTo.of_eq rfl); (case kB => exact rfl); (case kD => decide +kernel); (case c2 => exact rfl); (case c3 => exact rfl); (case c4 => exact rfl); k_whole; intro g9 L9 hE tkE cells' FG F' N' Y' B9 X9 T9 lN KD9; (try k_lt lN); k_cells Y'; (try simp only [List.cons_append, List.nil_append] at N'); (try dsimp only); (try k_lift B9); (try k_fold)))
  k_with "cF" => ((with_reducible show wpAny _ _ (call (Value.ref 132) [Value.ref _]) _ _ _); k_dflt (refine D1.c_dec (by k_asm) (by k_asm) (by k_asm) (by k_asm) (by k_asm) (by first | exact rfl | assumption) (by k_mem) (by assumption) (by omega) (by assumption) (by assumption) (by ktr_room) (by ktr_units) ?_))
  k_with "cG" => ((with_reducible show wpAny _ _ (call (Value.ref 196) [Value.bytes _ _]) _ _ _); k_dflt (refine D1.c_bits (by k_asm) (by k_asm) (by k_asm) (by k_asm) (by k_asm) (by first | exact rfl | assumption) (by ktr_room) (by ktr_units) ?_))
  k_with "cH" => (with_reducible show wpAny _ _ (call (Value.ref 129) [Value.ref _, Value.ref _]) _ _ _)
  refine wpAny_noRaise ?_
  k_steps
  rename_i oR oM1 dR dM1 lz hz l1 Dz wz hz2 hIz l2 hz3 tz kz Dt hz4 l3 hz5 hz6 oM dM hF F5 N5 hG tkG t1 u1 v1 rg F6 N6 k6
  have dR' : oR.data = .cell none := dR.trans rfl
  clear dR dM1 l1 l2 l3 hIz F5 N5 k6
  obtain ⟨mm, hmm, F6⟩ := fr_name F6
  refine Hold.of (wpAny_pyIter_range rg (small_two hg6) ?_)
  have hJ1 : @LT.lt Nat _ (L9 + 1 + 1) hG.objs.size := Heap.lt_size (N6 (L9 + 1 + 1, oR) (by walk_at "m mem")).1
  have hnews6 : ∀ p ∈ news, p.1 ≠ hG.objs.size := fun p hp => Nat.ne_of_lt (Heap.lt_size (N6 p (by walk_at "m mem")).1)
  have hnI : ∀ or' : Obj, ∀ p ∈ ((L9 + 1 + 1, or') :: (L9 + 1, oM) :: news), p.1 ≠ hG.objs.size := by
    intro or' p hp
    simp only [List.mem_cons] at hp
    rcases hp with h | h | hp
    · rw [h]; exact Nat.ne_of_lt hJ1
    · rw [h]; refine neN ?_; dsimp only; omega
    · exact hnews6 p hp
  have FG0 := FG
  refine forLoop_range (by rfl) 0 (2 ^ (gmax ns).toNat) (RefInv s (envX cn cs L a ccd cl) (ktrTop dp un gd cn cs L a ccd cl []) base loose mean mg mb p w.params g9 L9 hG.objs.size mm ns oM news) ?hI ?turn ?done ?h0
  case hI =>
    rintro i s9 ⟨g, hp, tk, t, oc, or', orv, rfl, KT, B8, X8, T8, D8, F8, N8, d8⟩
    exact (N8 _ (.head _)).1
  case h0 => 
    refine refInv_mk KtsTurn.refl B9 X9 T9 KD9 (F6.push _) ⟨kz, by rw [hmm]; rfl⟩ rfl (fun y _ _ => rfl) (fun p hp => ?_) dR'
    rcases List.mem_cons.mp hp with rfl | hp
    · refine ⟨(Heap.get?_push_size _ rfl).trans ?_, Nat.ne_of_gt (F6.ns.lt), Heap.get?_none_of_le (Nat.le_trans F6.above (Nat.le_of_lt F6.ns.lt))⟩
      rw [rangeSize_two]; rfl
    · refine ⟨Heap.get?_push_of_some _ (N6 p ?_).1, (N6 p ?_).2⟩
      all_goals (
        simp only [List.mem_cons] at hp
        rcases hp with h | h | h
        · rw [h]; walk_at "m mem"
        · rw [h]; walk_at "m mem"
        · walk_at "m mem")
  case turn =>
    rintro i s9 h8 P9 hi ⟨g, hp, tk, t, oc, or', orv, rfl, KT, B8, X8, T8, D8, F8, N8, d8⟩ hit hs hP9
    rw [show (0 : Int) + (i : Int) + 1 = 0 + ((i + 1 : Nat) : Int) by omega, show ((2 ^ (gmax ns).toNat : Nat) : Int) - (i : Int) - 1 = ((2 ^ (gmax ns).toNat : Nat) : Int) - ((i + 1 : Nat) : Int) by omega] at hit
    obtain ⟨F8, N8⟩ := turn_head F8 N8 (hnI _) hs hit
    subst hmm
    clear F6 N6 rg FG B9 X9 T9
    k_steps
    rename_i h10 oR2 F10 N10 dR10 h11 tk11 t2 u2 v2 rg2 F11 N11 k11
    clear F10 N10 k11
    refine Hold.of (LCt.CompSrcT.range (n := ((gmax ns) - 0).toNat) (by rfl) F11 N11 rg2 (small_one (by omega) (by omega) (by omega) (by omega)) (rangeSize_nat _ _) (by rw [PySem.sizeLine_eq]; omega) ?_)
    intro g12
    refine comp_restT (fun k ys nw => nw = _ ∧ IntsAre ys (octL (gmax ns) i k)) ⟨rfl, ?n0⟩ ?turn2 ?fin2
    case turn2 =>
      rintro k v ys nw I2 oI2 C2 oC2 D2 m2 h12 tk12 E2 hk12 ⟨t12, rfl⟩ ⟨rfl, hy⟩ hC12 hx12 F12 N12 off12 ne12 P1 P2 hP1 hP2
      simp only [LCg.Off3] at off12
      replace off12 := Hold.of off12
      replace ne12 := Hold.of ne12
      k_steps
      all_goals (
        (first | refine hP1 _ _ ?_ | refine hP2 _ ?_)
        refine LCg.CompEnd.intro (by assumption) (by assumption) _ (fun p hp => hp) (by simpa only [LCg.Off3] using off12.out) trivial ⟨rfl, ?_⟩
        rw [oct_succ]
        first
        | (rw [if_pos (show bitAt (gmax ns) i k = true from decide_eq_true (by assumption))]; exact hy.append (.cons _ _ .nil))
        | (rw [if_neg (show ¬ bitAt (gmax ns) i k = true from fun hx => of_decide_eq_true hx (by assumption)), List.append_nil]; exact hy))
    case fin2 =>
      rintro ys nw ⟨rfl, hy⟩
      have hxs := oct_small i hg6
      have hxs2 := oct_len (gmax ns) i (gmax ns - 0).toNat
      k_steps
      rename_i Do ho tk7 oo h9a tk9a t9a h9b dI dD tL sL vT vS xs cT cS k9 k8 h9c tk9c lA iT iS eX lb h9d lB h9e tb k9b hb9 hB9 ib db k1 k2 k3 k4 t2 t3 t4 h9f tk9f F9 N9 ne9 lC
      have htl := tallyZ_length ns
      have hwl : withCode ns ≤ ns.length := List.length_filter_le _ _
      refine Hold.of (c_read B8 F9 X8 N9 T8 rfl rfl ne9 (fun p hp => Nat.ne_of_lt (lC p hp).2) (dI := dI) (dD := dD) (tL := tL) (sL := sL) (k5 := k9) (k6 := k8) (vsT := vT) (vsS := vS) (cT := cT) (cS := cS) ?m1 ?m2 ?m3 ?m4 iT iS ?n1 ?n2 ?n3 ?n4 ?n5 ?n6 ?ret ?rai)
      case m1 => walk_at "m mem"
      case m2 => walk_at "m mem"
      case m3 => walk_at "m mem"
      case m4 => walk_at "m mem"
      case n1 => omega
      case n2 => intro t ht; have := tally_items t ht; omega
      case n3 => rw [tally_total, eX]; omega
      case n4 => omega
      case n5 => ktr_room
      case n6 => ktr_units
      case ret =>
        intro z t h' tk' hz F13 N13
        rw [hb9] at hz
        clear F9 N9
        k_steps
        refine hP9 _ ?_
        exact refInv_mk KT B8 X8 T8 D8 F13 ⟨_, rfl⟩ (by rw [ref_succ, if_neg (by unfold refAt; rw [hz]; decide), Int.add_zero]) (fun y h1 h2 => by (simp only [if_neg h1, if_neg h2]); (try rfl)) (fun p hp => N13 p (.tail _ (.tail _ (.tail _ (.tail _ (.tail _ (.tail _ hp))))))) dR10
      case rai =>
        intro e G h' tk' hz FG13 R13 hsm
        rw [hb9] at hz
        clear F9 N9
        refine X4.caught_X R13 FG13 B8 hsm XB TB D8 KT rfl rfl ?_
        intro h14 g14 KT14 F14 N14 B14 X14 T14 D14
        k_steps
        rename Fr g14 L9 _ _ => F15
        rename News g14 L9 _ _ => N15
        refine hP9 _ ?_
        exact refInv_mk KT14 B14 X14 T14 D14 F15 ⟨_, rfl⟩ (by rw [ref_succ, if_pos (by unfold refAt; rw [hz]; rfl)]) (fun y h1 h2 => by (simp only [if_neg h1, if_neg h2]); (try rfl)) (fun p hp => N15 p (.tail _ (.tail _ (.tail _ (.tail _ (.tail _ (.tail _ hp))))))) dR10
    case n0 => exact .nil
  case done =>
    rintro s9 h8 ⟨g, hp, tk, t, oc, or', orv, rfl, KT, B8, X8, T8, D8, F8, N8, d8⟩ hs
    obtain ⟨F8, N8⟩ := drop_head F8 N8 (hnI _) hs
    subst hmm
    clear F6 N6 rg FG B9 X9 T9
    k_steps
    rename Fr h₀ L _ m => kF
    rename News h₀ L _ _ => kN
    exact ret _ _ _ kF (fun p hp => kN p (.tail _ (.tail _ hp)))
end R2
end Mine

/-! part PL -/
namespace Mine
namespace PL
open R1 R2

/-- how many items are of the length -/
noncomputable def cnt (ns : List Int) (j : Nat) : Int := (ns.count (j : Int) : Int)
theorem cnt_nn (ns : List Int) (j : Nat) : 0 ≤ cnt ns j := Int.natCast_nonneg _
/-- how many rows of g bits begin with a code of 1 to i bits -/
noncomputable def tZ (ns : List Int) (g : Nat) : Nat → Int
  | 0 => 0
  | i + 1 => tZ ns g i + cnt ns (i + 1) * 2 ^ (g - (i + 1))
theorem p_nn (n : Nat) : (0 : Int) < 2 ^ n := Int.pow_pos (by decide)
theorem p_succ {g i : Nat} (h : i < g) : (2 : Int) ^ (g - i) = 2 * 2 ^ (g - (i + 1)) := by
  rw [A0.n_succ h, Int.pow_succ, Int.mul_comm]
theorem tZ_mono {ns : List Int} {g i : Nat} : tZ ns g i ≤ tZ ns g (i + 1) := by
  have h1 := cnt_nn ns (i + 1)
  have h2 := p_nn (g - (i + 1))
  have h3 : 0 ≤ cnt ns (i + 1) * 2 ^ (g - (i + 1)) := Int.mul_nonneg h1 (Int.le_of_lt h2)
  simp only [tZ]; omega
theorem tZ_mono2 {ns : List Int} {g i : Nat} : ∀ {j : Nat}, i ≤ j → tZ ns g i ≤ tZ ns g j
  | 0, h => by rw [show i = 0 by omega]; exact Int.le_refl _
  | j + 1, h => by
    rcases Nat.lt_or_ge j i with h2 | h2
    · rw [show i = j + 1 by omega]; exact Int.le_refl _
    · exact Int.le_trans (tZ_mono2 h2) tZ_mono
theorem tZ_nn {ns : List Int} {g i : Nat} : 0 ≤ tZ ns g i := tZ_mono2 (Nat.zero_le i)
theorem drop_tally (ns : List Int) (g : Nat) : (tallyG g ns).drop 1 = (List.range g).map fun k : Nat => cnt ns (k + 1) := by
  unfold tallyG cnt
  rw [List.range_succ_eq_map, List.map_cons, List.drop_succ_cons, List.drop_zero, List.map_map]
  apply List.map_congr_left
  intro k _
  simp
theorem room_part (ns : List Int) (g : Nat) : ∀ i, i ≤ g → roomF ((List.range i).map fun k : Nat => cnt ns (k + 1)) * 2 ^ (g - i) = 2 ^ g - tZ ns g i
  | 0, _ => by simp [roomF, tZ]
  | i + 1, h => by
    have ih := room_part ns g i (by omega)
    rw [p_succ h] at ih
    rw [List.range_succ, List.map_append]
    have e : roomF ((List.range i).map (fun k : Nat => cnt ns (k + 1)) ++ [i].map fun k : Nat => cnt ns (k + 1)) = 2 * roomF ((List.range i).map fun k : Nat => cnt ns (k + 1)) - cnt ns (i + 1) := by
      simp [roomF, List.foldl_append]
    rw [e]
    simp only [tZ]
    grind
theorem room_t (ns : List Int) : roomZ ns = 2 ^ (gmax ns).toNat - tZ ns (gmax ns).toNat (gmax ns).toNat := by
  have h := room_part ns (gmax ns).toNat (gmax ns).toNat (Nat.le_refl _)
  rw [Nat.sub_self, Int.pow_zero, Int.mul_one, ← drop_tally] at h
  exact h

/-- the parts of the rows that the codes take, one by one -/
noncomputable def krZ (g : Int) (ns : List Int) : List Int := (ns.filter (fun n => decide (0 < n))).map fun n => 2 ^ (g - n).toNat
theorem tZ_sum (ns : List Int) (g : Nat) : ∀ i, i ≤ g → tZ ns g i = ((ns.filter (fun n => decide (0 < n ∧ n ≤ (i : Int)))).map fun n => (2 : Int) ^ ((g : Int) - n).toNat).sum
  | 0, _ => by
    rw [show ns.filter (fun n => decide (0 < n ∧ n ≤ ((0 : Nat) : Int))) = [] from List.filter_eq_nil_iff.mpr (fun a _ => by simp only [decide_eq_true_eq]; omega)]
    rfl
  | i + 1, h => by
    have ih := tZ_sum ns g i (by omega)
    simp only [tZ, ih]
    clear ih
    unfold cnt
    induction ns with
    | nil => simp
    | cons n r ih =>
      simp only [List.filter_cons, List.count_cons]
      by_cases h1 : 0 < n ∧ n ≤ (i : Int)
      · have a1 : decide (0 < n ∧ n ≤ (i : Int)) = true := decide_eq_true h1
        have a2 : decide (0 < n ∧ n ≤ ((i + 1 : Nat) : Int)) = true := decide_eq_true (A0.up1 h1)
        have a3 : (n == ((i + 1 : Nat) : Int)) = false := beq_eq_false_iff_ne.mpr (A0.up4 h1)
        simp only [a1, a2, a3, if_true, Bool.false_eq_true, if_false, List.map_cons, List.sum_cons, Nat.add_zero]
        rw [Int.add_assoc, ih]
      · by_cases h2 : n = ((i + 1 : Nat) : Int)
        · have a1 : decide (0 < n ∧ n ≤ (i : Int)) = false := decide_eq_false h1
          have a2 : decide (0 < n ∧ n ≤ ((i + 1 : Nat) : Int)) = true := decide_eq_true (A0.up2 h2)
          have a3 : (n == ((i + 1 : Nat) : Int)) = true := beq_iff_eq.mpr h2
          simp only [a1, a2, a3, if_true, Bool.false_eq_true, if_false, List.map_cons, List.sum_cons, ← ih]
          rw [h2, Int.toNat_sub]
          grind
        · have a1 : decide (0 < n ∧ n ≤ (i : Int)) = false := decide_eq_false h1
          have a2 : decide (0 < n ∧ n ≤ ((i + 1 : Nat) : Int)) = false := decide_eq_false (A0.up3 h1 h2)
          have a3 : (n == ((i + 1 : Nat) : Int)) = false := beq_eq_false_iff_ne.mpr h2
          simp only [a1, a2, a3, Bool.false_eq_true, if_false, Nat.add_zero]
          exact ih
theorem room_eq (ns : List Int) : roomZ ns = 2 ^ (gmax ns).toNat - (krZ (gmax ns) ns).sum := by
  have hg := gmax_nonneg ns
  rw [room_t, tZ_sum _ _ _ (Nat.le_refl _)]
  congr 2
  unfold krZ
  rw [Int.toNat_of_nonneg hg]
  congr 1
  apply List.filter_congr
  intro x hx
  exact decide_eq_decide.mpr ⟨fun h => h.1, fun h => ⟨h, gmax_ge hx⟩⟩

theorem krZ_append (g : Int) (a b : List Int) : krZ g (a ++ b) = krZ g a ++ krZ g b := by simp [krZ]
theorem max_rc (p q r : Int) : max (max p q) r = max (max p r) q := by rw [Int.max_assoc, Int.max_comm q r, ← Int.max_assoc]
theorem gmax_append : ∀ a b : List Int, gmax (a ++ b) = max (gmax a) (gmax b)
  | [], b => (Int.max_eq_right (gmax_nonneg b)).symm
  | x :: r, b => by rw [List.cons_append, gmax, gmax_append r b, gmax, Int.max_assoc]
theorem gmax_one {x : Int} (h : 0 ≤ x) : gmax [x] = x := Int.max_eq_left h
theorem gmax_reverse (ns : List Int) : gmax ns.reverse = gmax ns := by
  induction ns with
  | nil => rfl
  | cons x r ih => rw [List.reverse_cons, gmax_append, ih, gmax, gmax, gmax, ← Int.max_assoc, max_rc, Int.max_comm (max (gmax r) 0), Int.max_eq_left (gmax_nonneg r)]
theorem room_other (ns : List Int) : roomZ ([0] ++ ns.reverse ++ [0]) = roomZ ns := by
  have e : gmax ([0] ++ ns.reverse ++ [0]) = gmax ns := by
    rw [gmax_append, gmax_append, gmax_reverse, gmax_one (Int.le_refl 0), Int.max_eq_right (gmax_nonneg ns), Int.max_eq_left (gmax_nonneg ns)]
  rw [room_eq, room_eq, e, krZ_append, krZ_append]
  congr 1
  have e0 : krZ (gmax ns) [0] = [] := rfl
  rw [e0, List.append_nil, List.nil_append]
  unfold krZ
  rw [List.filter_reverse, List.map_reverse, List.sum_reverse]
theorem room_zero {ns : List Int} (h : gmax ns = 0) : roomZ ns = 1 := by
  unfold roomZ tallyZ
  rw [h]; rfl
theorem krZ_double {g : Int} {ns : List Int} (h : ∀ x ∈ ns, x ≤ g) : (krZ (g + 1) ns).sum = 2 * (krZ g ns).sum := by
  induction ns with
  | nil => rfl
  | cons n r ih =>
    have ih := ih fun x hx => h x (.tail _ hx)
    have hn := h n (.head _)
    unfold krZ at ih ⊢
    rw [List.filter_cons]
    split
    · simp only [List.map_cons, List.sum_cons, ih]
      rw [A0.tn_dbl hn, Int.pow_succ, Int.mul_comm, Int.mul_add]
    · exact ih
theorem krZ_one {g x : Int} (h : 0 < x) : krZ g [x] = [2 ^ (g - x).toNat] := by simp [krZ, h]
theorem dbl {P : Int} : P + P = P * 2 := by omega
theorem toNat_succ {g x : Int} (h : x + 1 ≤ g) : (g - x).toNat = (g - (x + 1)).toNat + 1 := A0.tn_succ h
theorem toNat_one {g : Int} (h : 0 ≤ g) : (g + 1).toNat = g.toNat + 1 := A0.tn_one h
theorem le_one {x g : Int} (h : x ≤ g) (h2 : x ≠ g) : x + 1 ≤ g := by omega
theorem two_sub {a b : Int} : a * 2 - 2 * b = 2 * (a - b) := by omega
theorem room_parted {a b : List Int} {x : Int} (h : 0 < x) : roomZ (a ++ [x + 1] ++ b ++ [x + 1]) = if x = gmax (a ++ [x] ++ b) then 2 * roomZ (a ++ [x] ++ b) else roomZ (a ++ [x] ++ b) := by
  have hx : x ≤ gmax (a ++ [x] ++ b) := gmax_ge (by simp)
  have h1 : 0 < x + 1 := Int.lt_add_one_of_le (Int.le_of_lt h)
  have hg : gmax (a ++ [x + 1] ++ b ++ [x + 1]) = max (gmax (a ++ [x] ++ b)) (x + 1) := by
    rw [gmax_append, gmax_append, gmax_append, gmax_append, gmax_append, gmax_one (Int.le_of_lt h1), gmax_one (Int.le_of_lt h), max_rc _ (x + 1), Int.max_assoc, Int.max_self, max_rc _ x, Int.max_assoc _ x, Int.max_eq_right (Int.le_of_lt (Int.lt_succ x))]
  have key : ∀ g : Int, x + 1 ≤ g → (krZ g (a ++ [x + 1] ++ b ++ [x + 1])).sum = (krZ g (a ++ [x] ++ b)).sum := by
    intro g h2
    simp only [krZ_append, krZ_one h, krZ_one h1, List.sum_append, List.sum_cons, List.sum_nil]
    rw [toNat_succ h2, Int.pow_succ, Int.add_zero, Int.add_zero, Int.add_right_comm, Int.add_assoc (krZ g a).sum, dbl]
  rw [room_eq (a ++ [x + 1] ++ b ++ [x + 1]), hg]
  split
  · rename_i e
    rw [← e, Int.max_eq_right (Int.le_of_lt (Int.lt_succ x)), key _ (Int.le_refl _), krZ_double (fun y hy => e ▸ gmax_ge hy), room_eq, ← e]
    rw [toNat_one (Int.le_of_lt h), Int.pow_succ]
    exact two_sub
  · rename_i e
    rw [Int.max_eq_left (le_one hx e), key _ (le_one hx e), room_eq]

/-- how many of the first n numbers are not below a bound -/
theorem count_not {t : Int} (h0 : 0 ≤ t) : ∀ n : Nat, t ≤ n → (((List.range n).filter (fun r : Nat => decide (¬ (r : Int) < t))).length : Int) = n - t
  | 0, h => by
    have : t = 0 := by omega
    subst this; rfl
  | n + 1, h => by
    rw [List.range_succ, List.filter_append, List.length_append]
    by_cases h2 : t ≤ n
    · rw [Int.natCast_add, count_not h0 n h2, List.filter_cons, if_pos (by simp only [decide_eq_true_eq]; omega)]
      simp only [List.filter_nil, List.length_cons, List.length_nil]; omega
    · have e : (List.range n).filter (fun r : Nat => decide (¬ (r : Int) < t)) = [] := List.filter_eq_nil_iff.mpr fun a ha => by
        have := List.mem_range.mp ha
        simp only [decide_eq_true_eq]; omega
      rw [e, List.filter_cons, if_neg (by simp only [decide_eq_true_eq]; omega)]
      simp only [List.filter_nil, List.length_nil]; omega

theorem tally_get {ns : List Int} {k : Nat} (h : k < (gmax ns).toNat + 1) : (tallyZ ns).getD k 0 = if k = 0 then 0 else cnt ns k := by
  unfold tallyZ tallyG cnt
  rw [List.getD_eq_getElem?_getD, List.getElem?_map, List.getElem?_range h]; rfl
theorem fst_t (ns : List Int) : ∀ k, k < (gmax ns).toNat → fst1 (tallyZ ns) (k + 1) * 2 ^ ((gmax ns).toNat - (k + 1)) = tZ ns (gmax ns).toNat k
  | 0, h => by
    simp only [fst1, tZ]
    rw [tally_get (by omega)]; simp
  | k + 1, h => by
    have ih := fst_t ns k (by omega)
    rw [fst1, tally_get (by omega), if_neg (by omega)]
    have e := p_succ h
    simp only [tZ]
    rw [← ih]
    grind
theorem nth_count {a : Int} : ∀ {ns : List Int} {c : Nat}, c < ns.count a → ∃ k, k < ns.length ∧ ns.getD k 0 = a ∧ (ns.take k).count a = c
  | [], c, h => by simp at h
  | x :: r, c, h => by
    by_cases e : x = a
    · subst e
      rw [List.count_cons_self] at h
      cases c with
      | zero => exact ⟨0, Nat.succ_pos _, rfl, rfl⟩
      | succ c =>
        obtain ⟨k, h1, h2, h3⟩ := nth_count (a := x) (ns := r) (c := c) (by omega)
        exact ⟨k + 1, Nat.succ_lt_succ h1, by simpa using h2, by rw [List.take_succ_cons, List.count_cons_self, h3]⟩
    · rw [List.count_cons_of_ne e] at h
      obtain ⟨k, h1, h2, h3⟩ := nth_count h
      exact ⟨k + 1, Nat.succ_lt_succ h1, by simpa using h2, by rw [List.take_succ_cons, List.count_cons_of_ne e, h3]⟩
theorem count_take {ns : List Int} : ∀ {k : Nat}, k < ns.length → (ns.take k).count (ns.getD k 0) < ns.count (ns.getD k 0) := by
  induction ns with
  | nil => intro k h; simp at h
  | cons x r ih =>
    intro k h
    cases k with
    | zero => simp
    | succ k =>
      have := ih (k := k) (by simpa using h)
      rw [List.take_succ_cons, List.getD_cons_succ, List.count_cons, List.count_cons]
      omega
theorem codes_get {F : List Int} : ∀ {ns pre : List Int} {k : Nat}, k < ns.length → (codesP F pre ns).getD k 0 = if 0 < ns.getD k 0 then F.getD (ns.getD k 0).toNat 0 + ((pre ++ ns.take k).count (ns.getD k 0) : Int) else 0
  | [], _, k, h => by simp at h
  | n :: r, pre, 0, h => by simp [codesP]
  | n :: r, pre, k + 1, h => by
    simp only [codesP, List.getD_cons_succ, List.take_succ_cons]
    rw [codes_get (by simpa using h)]
    simp [List.append_assoc]
theorem fdiv_p (x : Int) (n : Nat) : x.fdiv (2 ^ n) = x / 2 ^ n := Int.fdiv_eq_ediv_of_nonneg x (Int.le_of_lt (p_nn n))
theorem firsts_get {T : List Int} {j : Nat} (h : j < T.length) : (firstsZ T).getD j 0 = fst1 T j := by
  unfold firstsZ
  rw [List.getD_eq_getElem?_getD, List.getElem?_map, List.getElem?_range h]; rfl
theorem hit_iff {ns : List Int} {row k : Nat} (h : k < ns.length) : hitAt ns row k = true ↔ 0 < ns.getD k 0 ∧ (row : Int) / 2 ^ (gmax ns - ns.getD k 0).toNat = fst1 (tallyZ ns) (ns.getD k 0).toNat + ((ns.take k).count (ns.getD k 0) : Int) := by
  unfold hitAt codesZ firstsOf
  rw [codes_get h, fdiv_p, Bool.and_eq_true, decide_eq_true_eq, beq_iff_eq, List.nil_append]
  constructor
  · rintro ⟨h1, h2⟩
    rw [if_pos h1] at h2
    refine ⟨h1, ?_⟩
    rw [h2]
    congr 1
    have hg : ns.getD k 0 ≤ gmax ns := gmax_ge (R1.getD_mem h)
    have hl : (ns.getD k 0).toNat < (tallyZ ns).length := by rw [tallyZ_length]; exact A0.tn_lt1 hg
    exact firsts_get hl
  · rintro ⟨h1, h2⟩
    refine ⟨h1, ?_⟩
    rw [if_pos h1, h2]
    congr 1
    have hg : ns.getD k 0 ≤ gmax ns := gmax_ge (R1.getD_mem h)
    have hl : (ns.getD k 0).toNat < (tallyZ ns).length := by rw [tallyZ_length]; exact A0.tn_lt1 hg
    exact (firsts_get hl).symm
theorem tn1 {g : Int} {j : Nat} : (g - ((j + 1 : Nat) : Int)).toNat = g.toNat - (j + 1) := Int.toNat_sub' ..
theorem pos_nat {x : Int} (h : 0 < x) : ∃ j : Nat, x = ((j + 1 : Nat) : Int) := ⟨x.toNat - 1, A0.pos_nat h⟩
theorem lt_nat {j : Nat} {g : Int} (h : ((j + 1 : Nat) : Int) ≤ g) : j + 1 ≤ g.toNat := Int.toNat_natCast (j + 1) ▸ Int.toNat_le_toNat h
theorem first_step {T : Nat → Int} {r : Int} (h0 : T 0 ≤ r) : ∀ g, r < T g → ∃ j, j < g ∧ T j ≤ r ∧ r < T (j + 1)
  | 0, h => absurd (Int.lt_of_lt_of_le h h0) (Int.lt_irrefl r)
  | g + 1, h => by
    by_cases h2 : r < T g
    · obtain ⟨j, h3, h4⟩ := first_step h0 g h2
      exact ⟨j, Nat.lt_succ_of_lt h3, h4⟩
    · exact ⟨g, Nat.lt_succ_self g, Int.not_lt.mp h2, h⟩
theorem hit_some {ns : List Int} {row : Nat} : (∃ k, k < ns.length ∧ hitAt ns row k = true) ↔ (row : Int) < tZ ns (gmax ns).toNat (gmax ns).toNat := by
  constructor
  · rintro ⟨k, hk, h⟩
    obtain ⟨h1, h2⟩ := (hit_iff hk).mp h
    have hg : ns.getD k 0 ≤ gmax ns := gmax_ge (R1.getD_mem hk)
    have hc := count_take hk
    obtain ⟨j, hj⟩ := pos_nat h1
    rw [hj] at h2 hg hc
    rw [tn1, Int.toNat_natCast] at h2
    have hjg := lt_nat hg
    have hf := fst_t ns j hjg
    have hp := p_nn ((gmax ns).toNat - (j + 1))
    have h3 : (row : Int) < (fst1 (tallyZ ns) (j + 1) + cnt ns (j + 1)) * 2 ^ ((gmax ns).toNat - (j + 1)) := by
      refine (Int.ediv_lt_iff_lt_mul hp).mp ?_
      rw [h2]
      exact Int.add_lt_add_left (Int.ofNat_lt.mpr hc) _
    refine Int.lt_of_lt_of_le ?_ (tZ_mono2 hjg)
    simp only [tZ]
    rw [← hf, ← Int.add_mul]
    exact h3
  · intro h
    obtain ⟨j, hj, h1, h2⟩ := first_step (T := tZ ns (gmax ns).toNat) (Int.natCast_nonneg row) _ h
    simp only [tZ] at h2
    have hf := fst_t ns j hj
    have hp := p_nn ((gmax ns).toNat - (j + 1))
    rw [← hf] at h1 h2
    rw [← Int.add_mul] at h2
    have h3 : fst1 (tallyZ ns) (j + 1) ≤ (row : Int) / 2 ^ ((gmax ns).toNat - (j + 1)) := (Int.le_ediv_iff_mul_le hp).mpr h1
    have h4 : (row : Int) / 2 ^ ((gmax ns).toNat - (j + 1)) < fst1 (tallyZ ns) (j + 1) + cnt ns (j + 1) := (Int.ediv_lt_iff_lt_mul hp).mpr h2
    obtain ⟨k, hk, e1, e2⟩ := nth_count (A0.gap_lt h3 h4)
    refine ⟨k, hk, (hit_iff hk).mpr ?_⟩
    rw [e1, e2, tn1, Int.toNat_natCast]
    exact ⟨Int.natCast_pos.mpr (Nat.succ_pos j), A0.gap_eq h3⟩
theorem free_eq {ns : List Int} (hr : 0 ≤ roomZ ns) : freeZ ns (2 ^ (gmax ns).toNat) = roomZ ns := by
  have h := room_t ns
  unfold freeZ
  have e : (List.range (2 ^ (gmax ns).toNat)).filter (fun row => decide (hitsZ ns row ns.length = [])) = (List.range (2 ^ (gmax ns).toNat)).filter (fun r : Nat => decide (¬ (r : Int) < tZ ns (gmax ns).toNat (gmax ns).toNat)) := by
    apply List.filter_congr
    intro row _
    rw [decide_eq_decide, ← hit_some]
    unfold hitsZ
    rw [List.map_eq_nil_iff, List.filter_eq_nil_iff]
    constructor
    · rintro h1 ⟨k, hk, h2⟩
      exact h1 k (List.mem_range.mpr hk) h2
    · intro h1 k hk h2
      exact h1 ⟨k, List.mem_range.mp hk, h2⟩
  rw [e, count_not tZ_nn _ (by simp; omega), h]
  simp

/-- the threshold of the reader -/
noncomputable def uZ : List Int → Int → Int
  | [], f => f
  | t :: r, f => uZ r (2 * f + t)
theorem uZ_ge : ∀ {ts : List Int} {f : Int}, (∀ t ∈ ts, 0 ≤ t) → f * 2 ^ ts.length ≤ uZ ts f
  | [], f, _ => by simp [uZ]
  | t :: r, f, h => by
    have ih := uZ_ge (ts := r) (f := 2 * f + t) fun x hx => h x (.tail _ hx)
    have ht := h t (.head _)
    have hp := p_nn r.length
    have : 0 ≤ t * 2 ^ r.length := Int.mul_nonneg ht (Int.le_of_lt hp)
    simp only [uZ, List.length_cons]
    rw [Int.pow_succ]
    grind
theorem uZ_room : ∀ {ts : List Int} {f r : Int}, ts.foldl (fun r t => 2 * r - t) r = (r + f) * 2 ^ ts.length - uZ ts f
  | [], f, r => by simp only [List.foldl_nil, uZ, List.length_nil, Int.pow_zero]; omega
  | t :: l, f, r => by
    simp only [List.foldl_cons, uZ, List.length_cons]
    rw [uZ_room (ts := l) (f := 2 * f + t) (r := 2 * r - t), Int.pow_succ]
    grind
theorem read_iff {row : Int} : ∀ {ts : List Int} {o f : Int}, (∀ t ∈ ts, 0 ≤ t) → (∀ j, j < ts.length → (o / 2 ^ j) % 2 = (row / 2 ^ (ts.length - 1 - j)) % 2) → f * 2 ^ ts.length ≤ row →
    (readZ ts o (row / 2 ^ ts.length) (2 * f) = true ↔ row < uZ ts f)
  | [], o, f, _, _, h => by simp [readZ, uZ] at *; omega
  | t :: r, o, f, ht, ho, h => by
    have e0 := ho 0 (Nat.succ_pos _)
    rw [Int.pow_zero, Int.ediv_one, List.length_cons, Nat.add_sub_cancel, Nat.sub_zero] at e0
    have e1 : 2 * (row / 2 ^ (t :: r).length) + o % 2 = row / 2 ^ r.length := by
      rw [List.length_cons, Int.pow_succ, ← Int.ediv_ediv_of_nonneg (Int.le_of_lt (p_nn _)), e0]
      omega
    have hp := p_nn r.length
    simp only [readZ]
    rw [e1]
    have hts : ∀ t ∈ r, 0 ≤ t := fun x hx => ht x (.tail _ hx)
    have hu := uZ_ge (f := 2 * f + t) hts
    by_cases hlt : row / 2 ^ r.length - 2 * f < t
    · rw [if_pos hlt]
      have : row < (2 * f + t) * 2 ^ r.length := (Int.ediv_lt_iff_lt_mul hp).mp (Int.lt_add_of_sub_left_lt hlt)
      simp only [uZ, true_iff]; exact Int.lt_of_lt_of_le this hu
    · rw [if_neg hlt]
      rw [show (2 * (2 * f + t) : Int) = 2 * (2 * f + t) from rfl]
      refine read_iff hts ?_ ?_
      · intro j hj
        have := ho (j + 1) (by rw [List.length_cons]; omega)
        rw [List.length_cons, Nat.add_sub_cancel, ← Nat.sub_sub, Nat.sub_right_comm, Int.pow_succ, Int.mul_comm, ← Int.ediv_ediv_of_nonneg (by decide)] at this
        exact this
      · exact (Int.le_ediv_iff_mul_le hp).mp (by omega)
theorem bitAt_iff {g row k : Nat} : bitAt (g : Int) row k = true ↔ ((row : Int) / 2 ^ (g - 1 - k)) % 2 = 1 := by
  unfold bitAt
  rw [decide_eq_true_eq, bitAnd_m1, Int.zero_add, fdiv_p, A0.tn_gk]
  rcases Int.emod_two_eq ((row : Int) / 2 ^ (g - 1 - k)) with h | h <;> rw [h] <;> decide
theorem oct_bits {g row : Nat} : ∀ n i, i < n → ((octL (g : Int) row n).sum / 2 ^ i) % 2 = ((row : Int) / 2 ^ (g - 1 - i)) % 2
  | 0, i, h => by omega
  | n + 1, i, h => by
    have hs := oct_sum (g : Int) row n
    have hb := bitAt_iff (g := g) (row := row) (k := n)
    have h2 := Int.emod_two_eq ((row : Int) / 2 ^ (g - 1 - n))
    have hp := p_nn i
    rw [oct_succ, List.sum_append, A0.tn_0]
    by_cases hi : i = n
    · subst hi
      by_cases hc : bitAt (g : Int) row i = true
      · rw [if_pos hc, hb.mp hc]
        simp only [List.sum_cons, List.sum_nil, Int.add_zero]
        have : ((octL (g : Int) row i).sum + 2 ^ i) / 2 ^ i = 1 := by
          have e : ((octL (g : Int) row i).sum + 1 * 2 ^ i) / 2 ^ i = (octL (g : Int) row i).sum / 2 ^ i + 1 := Int.add_mul_ediv_right _ _ (Int.ne_of_gt hp)
          rw [Int.one_mul] at e
          rw [e, Int.ediv_eq_zero_of_lt hs.1 (Int.lt_of_add_one_le hs.2)]; rfl
        rw [this]; rfl
      · rw [if_neg hc]
        have h3 : ((row : Int) / 2 ^ (g - 1 - i)) % 2 = 0 := by
          rcases h2 with h2 | h2
          · exact h2
          · exact absurd (hb.mpr h2) hc
        simp only [List.sum_nil, Int.add_zero]
        rw [h3, Int.ediv_eq_zero_of_lt hs.1 (Int.lt_of_add_one_le hs.2)]; rfl
    · have ih := oct_bits (g := g) (row := row) n i (Nat.lt_of_le_of_ne (Nat.le_of_lt_succ h) hi)
      rw [← ih]
      split
      · simp only [List.sum_cons, List.sum_nil, Int.add_zero]
        have e1 : (2 : Int) ^ n = 2 * 2 ^ (n - i - 1) * 2 ^ i := by
          rw [show (2 : Int) * 2 ^ (n - i - 1) = 2 ^ (n - i - 1 + 1) by rw [Int.pow_succ, Int.mul_comm], ← Int.pow_add]
          exact congrArg _ (A0.n_back (Nat.lt_of_le_of_ne (Nat.le_of_lt_succ h) hi))
        rw [e1, Int.add_mul_ediv_right _ _ (Int.ne_of_gt hp)]
        exact Int.add_mul_emod_self_left _ _ _
      · simp only [List.sum_nil, Int.add_zero]
theorem ref_iff {ns : List Int} {row : Nat} (h : row < 2 ^ (gmax ns).toNat) : refAt ns row = true ↔ ¬ (row : Int) < uZ ((tallyZ ns).drop 1) 0 := by
  have hg := gmax_nonneg ns
  have hl : ((tallyZ ns).drop 1).length = (gmax ns).toNat := by rw [List.length_drop, tallyZ_length, Nat.add_sub_cancel]
  have h0 : (row : Int) / 2 ^ ((tallyZ ns).drop 1).length = 0 := by
    rw [hl]
    refine Int.ediv_eq_zero_of_lt (Int.natCast_nonneg _) ?_
    have : ((2 ^ (gmax ns).toNat : Nat) : Int) = 2 ^ (gmax ns).toNat := by simp
    rw [← this]; exact Int.ofNat_lt.mpr h
  have hr := read_iff (row := (row : Int)) (ts := (tallyZ ns).drop 1) (o := (octL (gmax ns) row (gmax ns - 0).toNat).sum) (f := 0) (fun t ht => (tally_items t (List.mem_of_mem_drop ht)).1) (fun j hj => by
    rw [hl] at hj ⊢
    have e : gmax ns = (((gmax ns).toNat : Nat) : Int) := (Int.toNat_of_nonneg hg).symm
    rw [Int.sub_zero]
    conv => lhs; rw [e]
    rw [Int.toNat_natCast]
    exact oct_bits _ _ hj) (by simp)
  rw [h0] at hr
  unfold refAt
  rw [← hr, Int.mul_zero]
  cases readZ (List.drop 1 (tallyZ ns)) (octL (gmax ns) row (gmax ns - 0).toNat).sum 0 0 <;> simp
theorem ref_eq {ns : List Int} (hr : 0 ≤ roomZ ns) : refZ ns (2 ^ (gmax ns).toNat) = roomZ ns := by
  have hl : ((tallyZ ns).drop 1).length = (gmax ns).toNat := by rw [List.length_drop, tallyZ_length, Nat.add_sub_cancel]
  have h : roomZ ns = 2 ^ (gmax ns).toNat - uZ ((tallyZ ns).drop 1) 0 := by
    have := uZ_room (ts := (tallyZ ns).drop 1) (f := 0) (r := 1)
    rw [hl] at this
    unfold roomZ roomF
    rw [this]; omega
  have hu := uZ_ge (ts := (tallyZ ns).drop 1) (f := 0) (fun t ht => (tally_items t (List.mem_of_mem_drop ht)).1)
  rw [Int.zero_mul] at hu
  unfold refZ
  have e : (List.range (2 ^ (gmax ns).toNat)).filter (refAt ns) = (List.range (2 ^ (gmax ns).toNat)).filter (fun r : Nat => decide (¬ (r : Int) < uZ ((tallyZ ns).drop 1) 0)) := by
    apply List.filter_congr
    intro row hrow
    have := ref_iff (ns := ns) (List.mem_range.mp hrow)
    by_cases h9 : (row : Int) < uZ ((tallyZ ns).drop 1) 0
    · rw [decide_eq_false (not_not_intro h9)]
      cases h8 : refAt ns row with
      | true => exact absurd h9 (this.mp h8)
      | false => rfl
    · rw [decide_eq_true h9, this.mpr h9]
  rw [e, count_not hu _ (by rw [show ((2 ^ (gmax ns).toNat : Nat) : Int) = 2 ^ (gmax ns).toNat by simp]; omega), h]
  rw [show ((2 ^ (gmax ns).toNat : Nat) : Int) = 2 ^ (gmax ns).toNat by simp]
end PL
end Mine

/-! part N1 -/
namespace Mine
set_option maxRecDepth 100000
set_option maxHeartbeats 4000000
namespace N1
open M8

theorem c_next {prog p : Program} {w : World} {loose : List Str} {mean : ExcName → Option Value} {mg mb : Str → Option Value}
    {dp un : Nat} {gd : Option (List Code)} {cn : Str} {cs : Scope} {a : Addr} {ccd : Value} {cl : List (Str × Addr)} {outer : List Env} {A₀ : Around} {base h₀ : Heap} {L : Addr} {m : Str → Option Value} {s : Shared} {Q E : Value → Shared → Prop}
    {news : List (Addr × Obj)}
    (B : Below A₀ base outer h₀) (F : Fr h₀ L s.heap m) (X : (tp.heap_39 w.params).In h₀) (N : News h₀ L s.heap news) (T : Top p loose mean mg mb h₀) (hk : cs.kind = .function)
    {wl D : Addr} {vs : List Value} {ks : List Int} {cW cD : Nat} {k many : Int} {tk tm : Tok} {rest : List (Addr × Obj)} (hn : news = (wl, W.listOf #[.ref D, .int k tk] cW) :: rest) (hD : (D, W.listOf vs.toArray cD) ∈ rest) (hrest : ∀ p ∈ rest, p.1 ≠ wl)
    (hi : IntsAre vs ks) (hlen : ks.length ≤ 63) (hk0 : 0 ≤ k) (hk1 : k ≤ 100) (hm0 : 1 ≤ many) (hm1 : many ≤ 10)
    (hd : dp + 8 < recursionLimit) (hu : un + 60 < cLine)
    (ret : ∀ (z : Int) (t t2 : Tok) (cW' : Nat) (h' : Heap) (tk' : Nat), 0 ≤ z → z < many → Fr h₀ L h' m → News h₀ L h' ((wl, W.listOf #[.ref D, .int (k + 1) t2] cW') :: rest) → Q (.int z t) { s with heap := h', toks := tk' }) :
    wpAny (model prog w) (ktrTop dp un gd cn cs L a ccd cl outer) (call (.ref 207) [.ref wl, .int many tm]) Q E s := by
  subst hn
  have hvl := hi.length
  refine wpAny_noRaise ?_
  k_with_none
  k_with "m mem" => first | assumption | exact List.mem_cons_self | (refine List.mem_cons_of_mem _ ?_; walk_at "m mem")
  k_with "m all" => first | (refine List.forall_mem_cons.mpr ⟨by walk_at "m mem", ?_⟩; walk_at "m all") | exact List.forall_mem_nil _ | (intro q9 hq9; walk_at "m mem")
  k_with "m sub" => (refine news_sub (by assumption) ?_; walk_at "m all")
  k_with "InvEndN" => k_dflt kst_close
  k_with "ktr_room" => ((try simp only [depth_mark, depth_under_make, depth_under_kw, depth_in1, depth_deeper, depth_caller]); (try dsimp only [ktrTop]); first | decide | (rename (_ + _ < recursionLimit) => hd9; refine Nat.lt_of_le_of_lt ?_ hd9; (try simp only [Nat.add_assoc]); exact Nat.add_le_add_left (by decide) _) | omega)
  k_with "ktr_units" => ((try simp only [units_under_make, units_in1, units_deeper, Around.mark_units, units_caller]); (try dsimp only [ktrTop]); first | decide | (rename (_ + _ < cLine) => hu9; refine Nat.lt_of_le_of_lt ?_ hu9; (try simp only [Nat.add_assoc]); exact Nat.add_le_add_left (by decide) _) | omega)
  k_with "call ref" => (k_extra "cA"; intro _ _ _ _ _; (try dsimp only); (try k_sweep))
  k_with "call ref" => (k_extra "cB"; intro _ _ _ _; (try dsimp only); (try k_sweep))
  k_with "call ref" => (k_extra "cH"; refine Hold.out ?_)
  k_with "om" => with_reducible first | exact A0.c1 (by assumption) | exact A0.c2 (by assumption) | exact A0.c3 (by assumption) | exact A0.c4 (by assumption) | exact A0.c5 (by assumption) | exact A0.c6 (by assumption) | exact A0.c7 (by assumption) | exact A0.e2 (by assumption) | exact A0.e3 (by assumption) | exact A0.e4 (by assumption) | exact A0.e5 (by assumption) | exact A0.e6 (by assumption) | exact A0.e7 (by assumption) | exact Nat.le_trans (by assumption) (by decide)
  k_with "k_mem" => first | assumption | (refine List.mem_cons_of_mem _ ?_; k_mem)
  k_with "news_mem" => k_mem
  k_with "k_memK" => first | assumption | (refine List.mem_cons_of_mem _ ?_; k_memK)
  k_with "exec Try" => refine wpAny_Try_except ?_
  k_with "k_all" => first | assumption | exact List.forall_mem_nil _ | (refine List.forall_mem_cons.mpr ⟨by k_ne, ?_⟩; k_all) | (refine lt_ne9 (by assumption) ?_; omega)
  k_with "exec While Compare cons nil" => k_dflt (refine whl_start 2 ?_)
  k_with "WhlIf" => (first | (refine WhlIf.yes (decide_eq_true (by omega)) ?_) | (refine WhlIf.no (decide_eq_false (by omega)) ?_))
  w_top off
  have kf : Challenge.rw_og0142_01.prog = Challenge.rw_og0142_01.prog ∧ tp.heap_39 = tp.heap_39 := by (k_fill; exact ⟨rfl, rfl⟩)
  clear kf
  refine wpAny_call ?_
  k_dflt ktr_enter
  refine wpAny_noRaise ?_
  k_steps
  all_goals (
    rename Fr h₀ L _ m => kF
    rename News h₀ L _ _ => kN
    exact ret _ _ _ _ _ _ (Int.fmod_nonneg_of_pos _ (by omega)) (Int.fmod_lt_of_pos _ (by omega)) kF kN)
end N1
end Mine

/-! part L1 -/
namespace Mine
set_option maxRecDepth 100000
set_option maxHeartbeats 4000000
namespace L1
open M8 R1 R2
theorem k_le {k : Nat} {z : Int} (h : k < (z - 0).toNat) (h2 : z < 8) : 0 + 1 + (k : Int) ≤ 100 := by
  rw [Int.sub_zero] at h
  have h := Int.lt_toNat.mp h
  omega
theorem pow_b1 {a : Int} (h : a ≤ 6) : a ≤ 1000000 := Int.le_trans h (by decide)
theorem pow_b2 {a b : Int} (h : a ≤ 6) (h2 : 0 ≤ b ∧ b ≤ 5) : a - b ≤ 1000000 := Int.le_trans (Int.sub_le_self a h2.1) (pow_b1 h)
theorem c_free2 {prog p : Program} {w : World} {loose : List Str} {mean : ExcName → Option Value} {mg mb : Str → Option Value}
    {dp un : Nat} {gd : Option (List Code)} {cn : Str} {cs : Scope} {a : Addr} {ccd : Value} {cl : List (Str × Addr)} {outer : List Env} {A₀ : Around} {base h₀ : Heap} {L : Addr} {m : Str → Option Value} {s : Shared} {Q E : Value → Shared → Prop}
    {news : List (Addr × Obj)}
    (B : Below A₀ base outer h₀) (F : Fr h₀ L s.heap m) (X : (tp.heap_39 w.params).In h₀) (N : News h₀ L s.heap news) (T : Top p loose mean mg mb h₀) (hk : cs.kind = .function)
    {l : Addr} {vs : List Value} {ns : List Int} {c : Nat} (hm : (l, W.listOf vs.toArray c) ∈ news) (hi : IntsAre vs ns) (hlen : ns.length ≤ 10) (hb : ∀ x ∈ ns, 0 ≤ x ∧ x ≤ 6) (hr : 0 ≤ roomZ ns)
    (hd : dp + 40 < recursionLimit) (hu : un + 140 < cLine)
    (ret : ∀ (t : Tok) (h' : Heap) (tk' : Nat), Fr h₀ L h' m → News h₀ L h' news → Q (.int (roomZ ns) t) { s with heap := h', toks := tk' }) :
    wpAny (model prog w) (ktrTop dp un gd cn cs L a ccd cl outer) (call (.ref 212) [.ref l]) Q E s :=
  c_free B F X N T hk hm hi hlen hb hr hd hu fun t h' tk' F' N' => by rw [PL.free_eq hr]; exact ret t h' tk' F' N'
theorem c_refused2 {prog p : Program} {w : World} {loose : List Str} {mean : ExcName → Option Value} {mg mb : Str → Option Value}
    {dp un : Nat} {gd : Option (List Code)} {cn : Str} {cs : Scope} {a : Addr} {ccd : Value} {cl : List (Str × Addr)} {A₀ : Around} {base h₀ : Heap} {L : Addr} {m : Str → Option Value} {s : Shared} {Q E : Value → Shared → Prop}
    {news : List (Addr × Obj)}
    (B : Below A₀ base [] h₀) (F : Fr h₀ L s.heap m) (X : (tp.heap_39 w.params).In h₀) (N : News h₀ L s.heap news) (T : Top p loose mean mg mb h₀) (hk : cs.kind = .function)
    (XB : (tp.heap_39 w.params).In base) (TB : Top p loose mean mg mb base)
    {l : Addr} {vs : List Value} {ns : List Int} {c : Nat} (hm : (l, W.listOf vs.toArray c) ∈ news) (hi : IntsAre vs ns) (hlen : ns.length ≤ 10) (hb : ∀ x ∈ ns, 0 ≤ x ∧ x ≤ 6) (hr : 0 ≤ roomZ ns)
    (hd : dp + 60 < recursionLimit) (hu : un + 240 < cLine)
    (ret : ∀ (t : Tok) (h' : Heap) (tk' : Nat), Fr h₀ L h' m → News h₀ L h' news → Q (.int (roomZ ns) t) { s with heap := h', toks := tk' }) :
    wpAny (model prog w) (ktrTop dp un gd cn cs L a ccd cl []) (call (.ref 217) [.ref l]) Q E s :=
  c_refused B F X N T hk XB TB hm hi hlen hb hr hd hu fun t h' tk' F' N' => by rw [PL.ref_eq hr]; exact ret t h' tk' F' N'
theorem c_room3 {prog p : Program} {w : World} {loose : List Str} {mean : ExcName → Option Value} {mg mb : Str → Option Value}
    {dp un : Nat} {gd : Option (List Code)} {cn : Str} {cs : Scope} {a : Addr} {ccd : Value} {cl : List (Str × Addr)} {outer : List Env} {A₀ : Around} {base h₀ : Heap} {L : Addr} {m : Str → Option Value} {s : Shared} {Q E : Value → Shared → Prop}
    {news : List (Addr × Obj)}
    (B : Below A₀ base outer h₀) (F : Fr h₀ L s.heap m) (X : (tp.heap_39 w.params).In h₀) (N : News h₀ L s.heap news) (T : Top p loose mean mg mb h₀) (hk : cs.kind = .function)
    {l : Addr} {vs : List Value} {ns : List Int} {c : Nat} {z : Int} (hm : (l, W.listOf vs.toArray c) ∈ news) (hi : IntsAre vs ns) (hz : roomZ ns = z) (hlen : ns.length ≤ 10) (hb : ∀ x ∈ ns, 0 ≤ x ∧ x ≤ 6)
    (hd : dp + 12 < recursionLimit) (hu : un + 60 < cLine)
    (ret : ∀ (t : Tok) (h' : Heap) (tk' : Nat), Fr h₀ L h' m → News h₀ L h' news → Q (.int z t) { s with heap := h', toks := tk' }) :
    wpAny (model prog w) (ktrTop dp un gd cn cs L a ccd cl outer) (call (.ref 75) [.ref l]) Q E s :=
  c_room B F X N T hk hm hi hlen hb hd hu fun t h' tk' F' N' => by rw [hz]; exact ret t h' tk' F' N'
theorem c_full3 {prog p : Program} {w : World} {loose : List Str} {mean : ExcName → Option Value} {mg mb : Str → Option Value}
    {dp un : Nat} {gd : Option (List Code)} {cn : Str} {cs : Scope} {a : Addr} {ccd : Value} {cl : List (Str × Addr)} {outer : List Env} {A₀ : Around} {base h₀ : Heap} {L : Addr} {m : Str → Option Value} {s : Shared} {Q E : Value → Shared → Prop}
    {news : List (Addr × Obj)}
    (B : Below A₀ base outer h₀) (F : Fr h₀ L s.heap m) (X : (tp.heap_39 w.params).In h₀) (N : News h₀ L s.heap news) (T : Top p loose mean mg mb h₀) (hk : cs.kind = .function)
    {l : Addr} {vs : List Value} {ns : List Int} {c : Nat} {z : Bool} (hm : (l, W.listOf vs.toArray c) ∈ news) (hi : IntsAre vs ns) (hz : (roomZ ns == 0) = z) (hlen : ns.length ≤ 10) (hb : ∀ x ∈ ns, 0 ≤ x ∧ x ≤ 6)
    (hd : dp + 16 < recursionLimit) (hu : un + 80 < cLine)
    (ret : ∀ (h' : Heap) (tk' : Nat), Fr h₀ L h' m → News h₀ L h' news → Q (.bool z) { s with heap := h', toks := tk' }) :
    wpAny (model prog w) (ktrTop dp un gd cn cs L a ccd cl outer) (call (.ref 82) [.ref l]) Q E s :=
  c_full B F X N T hk hm hi hlen hb hd hu fun h' tk' F' N' => by rw [hz]; exact ret h' tk' F' N'
theorem c_over3 {prog p : Program} {w : World} {loose : List Str} {mean : ExcName → Option Value} {mg mb : Str → Option Value}
    {dp un : Nat} {gd : Option (List Code)} {cn : Str} {cs : Scope} {a : Addr} {ccd : Value} {cl : List (Str × Addr)} {outer : List Env} {A₀ : Around} {base h₀ : Heap} {L : Addr} {m : Str → Option Value} {s : Shared} {Q E : Value → Shared → Prop}
    {news : List (Addr × Obj)}
    (B : Below A₀ base outer h₀) (F : Fr h₀ L s.heap m) (X : (tp.heap_39 w.params).In h₀) (N : News h₀ L s.heap news) (T : Top p loose mean mg mb h₀) (hk : cs.kind = .function)
    {l : Addr} {vs : List Value} {ns : List Int} {c : Nat} {z : Bool} (hm : (l, W.listOf vs.toArray c) ∈ news) (hi : IntsAre vs ns) (hz : decide (roomZ ns < 0) = z) (hlen : ns.length ≤ 10) (hb : ∀ x ∈ ns, 0 ≤ x ∧ x ≤ 6)
    (hd : dp + 16 < recursionLimit) (hu : un + 80 < cLine)
    (ret : ∀ (h' : Heap) (tk' : Nat), Fr h₀ L h' m → News h₀ L h' news → Q (.bool z) { s with heap := h', toks := tk' }) :
    wpAny (model prog w) (ktrTop dp un gd cn cs L a ccd cl outer) (call (.ref 89) [.ref l]) Q E s :=
  c_over B F X N T hk hm hi hlen hb hd hu fun h' tk' F' N' => by rw [hz]; exact ret h' tk' F' N'
/-- the lengths, one code parted -/
theorem parted_eq {ns : List Int} {k : Int} (h0 : 0 ≤ k) (h1 : k < ns.length) : ns = ns.take k.toNat ++ [ns.getD k.toNat 0] ++ ns.drop (k + 1).toNat := by
  have hk : k.toNat < ns.length := by omega
  rw [A0.tn_one h0, List.append_assoc, List.singleton_append, ← R1.drop_at hk, List.take_append_drop]
theorem parted_room {ns : List Int} {k : Int} (h0 : 0 ≤ k) (h1 : k < ns.length) (h2 : 0 < ns.getD k.toNat 0) :
    roomZ (ns.take k.toNat ++ [ns.getD k.toNat 0 + 1] ++ ns.drop (k + 1).toNat ++ [ns.getD k.toNat 0 + 1]) = if ns.getD k.toNat 0 = gmax ns then 2 * roomZ ns else roomZ ns := by
  rw [PL.room_parted h2, ← parted_eq h0 h1]
theorem parted_bound {ns : List Int} {k : Int} (h0 : 0 ≤ k) (h1 : k < ns.length) (hb : ∀ x ∈ ns, 0 ≤ x ∧ x ≤ 5) : ∀ x ∈ ns.take k.toNat ++ [ns.getD k.toNat 0 + 1] ++ ns.drop (k + 1).toNat ++ [ns.getD k.toNat 0 + 1], 0 ≤ x ∧ x ≤ 6 := by
  intro x hx
  have hk := hb _ (R1.getD_mem (l := ns) (i := k.toNat) (by omega))
  simp only [List.mem_append, List.mem_singleton] at hx
  rcases hx with ((hx | hx) | hx) | hx
  · have := hb x (List.mem_of_mem_take hx); omega
  · omega
  · have := hb x (List.mem_of_mem_drop hx); omega
  · omega
theorem parted_len {ns : List Int} {k : Int} (h : ns.length ≤ 7) : (ns.take k.toNat ++ [ns.getD k.toNat 0 + 1] ++ ns.drop (k + 1).toNat ++ [ns.getD k.toNat 0 + 1]).length ≤ 10 := by
  have h1 : (ns.drop (k + 1).toNat).length ≤ (ns.drop k.toNat).length := by
    rw [List.length_drop, List.length_drop]; exact Nat.sub_le_sub_left (Int.toNat_le_toNat (Int.le_add_one (Int.le_refl k))) _
  have h2 := congrArg List.length (List.take_append_drop k.toNat ns)
  rw [List.length_append] at h2
  rw [List.length_append, List.length_append, List.length_append]
  exact Nat.le_trans (Nat.add_le_add_right (Nat.add_le_add_left h1 _) _) (by rw [List.length_singleton, Nat.add_right_comm _ 1, h2]; exact Nat.le_trans (Nat.add_le_add_right (Nat.add_le_add_right h 1) 1) (by decide))
theorem full_two {a b : Int} (h : a = 2 * b) : (a == 0) = (b == 0) ∧ decide (a < 0) = decide (b < 0) := by
  subst h
  constructor
  · rw [Bool.eq_iff_iff, beq_iff_eq, beq_iff_eq]; omega
  · rw [decide_eq_decide]; omega
noncomputable def IfOut (h₀ : Heap) (L : Addr) (m : Str → Option Value) (news : List (Addr × Obj)) (s : Shared) (f : Flow) (s' : Shared) : Prop :=
  f = .next ∧ ∃ h' tk', s' = { s with heap := h', toks := tk' } ∧ Fr h₀ L h' m ∧ News h₀ L h' news
theorem test_yes {M : Model} {A : Around} {E : Value → Shared → Prop} {s : Shared} {t : Sem Bool} {c : Bool} {T F : Shared → Prop} (hc : c = true) (h : wpAny M A t (fun b s₂ => Hold (b = c ∧ T s₂)) E s) : wpAny M A t (fun b s₂ => if b = true then T s₂ else F s₂) E s :=
  wpAny_mono h (fun b s₂ h₂ => by obtain ⟨e, h₃⟩ := h₂; rw [e, hc]; simpa using h₃) fun _ _ x => x
theorem test_no {M : Model} {A : Around} {E : Value → Shared → Prop} {s : Shared} {t : Sem Bool} {c : Bool} {T F : Shared → Prop} (hc : c = false) (h : wpAny M A t (fun b s₂ => Hold (b = c ∧ F s₂)) E s) : wpAny M A t (fun b s₂ => if b = true then T s₂ else F s₂) E s :=
  wpAny_mono h (fun b s₂ h₂ => by obtain ⟨e, h₃⟩ := h₂; rw [e, hc]; simpa using h₃) fun _ _ x => x
theorem wh_end {h₀ h' : Heap} {L : Addr} {s : Shared} {J : Nat → (Str → Option Value) → List (Addr × Obj) → Prop} {Q : Flow → Shared → Prop} {n n' tk : Nat} {m₂ : Str → Option Value} {nw : List (Addr × Obj)} (F : Fr h₀ L h' m₂) (N : News h₀ L h' nw) (hn : n' < n) (hJ : J n' m₂ nw) :
    WhileStep2 h₀ L s J Q n .next { s with heap := h', toks := tk } := ⟨h', tk, m₂, nw, n', rfl, F, N, hn, hJ⟩
theorem turn_at {a n : Int} (h0 : 0 ≤ a) (h1 : a < n) : (a + 1).fmod n = if a + 1 = n then 0 else a + 1 := by
  rw [Int.fmod_eq_emod_of_nonneg _ (by omega)]
  split
  · rename_i e; rw [e, Int.emod_self]
  · exact Int.emod_eq_of_lt (by omega) (by omega)
/-- how far the sought place lies ahead -/
noncomputable def dist (j n a : Int) : Nat := (if a ≤ j then j - a else j + n - a).toNat
theorem dist_turn {j n a : Int} (h0 : 0 ≤ a) (h1 : a < n) (hj0 : 0 ≤ j) (hj : j < n) (hne : a ≠ j) : dist j n ((a + 1).fmod n) < dist j n a ∧ 0 ≤ (a + 1).fmod n ∧ (a + 1).fmod n < n := by
  rw [turn_at h0 h1]
  unfold dist
  split
  · rename_i e
    have hja : j < a := Int.lt_iff_le_and_ne.mpr ⟨Int.le_of_lt_add_one (e ▸ hj), Ne.symm hne⟩
    rw [if_neg (Int.not_le.mpr hja)]
    exact ⟨(Int.toNat_lt_toNat (by omega)).mpr (by omega), Int.le_refl 0, Int.lt_of_le_of_lt h0 h1⟩
  · rename_i e
    have hn1 : a + 1 < n := Int.lt_iff_le_and_ne.mpr ⟨h1, e⟩
    refine ⟨?_, Int.le_trans h0 (Int.le_add_one (Int.le_refl a)), hn1⟩
    by_cases h : a ≤ j
    · have h' : a < j := Int.lt_iff_le_and_ne.mpr ⟨h, hne⟩
      rw [if_pos h, if_pos (show a + 1 ≤ j from h')]
      exact (Int.toNat_lt_toNat (Int.sub_pos.mpr h')).mpr (Int.sub_lt_sub_left (Int.lt_add_one_of_le (Int.le_refl a)) j)
    · rw [if_neg h, if_neg (fun h2 : a + 1 ≤ j => h (Int.le_trans (Int.le_add_one (Int.le_refl a)) h2))]
      exact (Int.toNat_lt_toNat (by omega)).mpr (Int.sub_lt_sub_left (Int.lt_add_one_of_le (Int.le_refl a)) _)
theorem some_code {ns : List Int} (h : ¬ gmax ns = 0) : ∃ j : Nat, j < ns.length ∧ ns.getD j 0 ≠ 0 := by
  rcases List.mem_cons.mp (gmax_mem ns) with e | e
  · exact absurd e h
  · obtain ⟨j, hj, e2⟩ := List.getElem_of_mem e
    refine ⟨j, hj, ?_⟩
    rw [List.getD_eq_getElem?_getD, List.getElem?_eq_getElem hj]
    show ns[j] ≠ 0
    rw [e2]; exact h
noncomputable def WhJ (ns : List Int) (j : Nat) (m3 : Str → Option Value) (nw : List (Addr × Obj)) (n : Nat) (m : Str → Option Value) (nx : List (Addr × Obj)) : Prop :=
  ∃ (a : Int) (t : Tok), m = (fun y => if y = Str.ofString "at" then some (.int a t) else m3 y) ∧ nx = nw ∧ 0 ≤ a ∧ a < ns.length ∧ n = dist j ns.length a
theorem kr_take {g : Int} {ns : List Int} {k : Nat} (h : k < ns.length) : PL.krZ g (ns.take (k + 1)) = PL.krZ g (ns.take k) ++ if 0 < ns.getD k 0 then [2 ^ (g - ns.getD k 0).toNat] else [] := by
  have e : ns.take (k + 1) = ns.take k ++ [ns.getD k 0] := by
    rw [List.take_add_one, List.getElem?_eq_getElem h, List.getD_eq_getElem?_getD, List.getElem?_eq_getElem h]; rfl
  rw [e, PL.krZ_append]
  congr 1
  split
  · rename_i h2; exact PL.krZ_one h2
  · rename_i h2; simp only [PL.krZ, List.filter_cons, decide_eq_false h2, Bool.false_eq_true, if_false, List.filter_nil, List.map_nil]
theorem news_up4 {h₀ h : Heap} {L : Addr} {a b c d : Addr × Obj} {r : List (Addr × Obj)} (N : News h₀ L h (a :: b :: c :: d :: r)) : News h₀ L h (d :: a :: b :: c :: r) := fun p hp => N p (by
  simp only [List.mem_cons] at hp ⊢; rcases hp with h | h | h | h | h <;> simp [h])
theorem news_down4 {h₀ h : Heap} {L : Addr} {a b c d : Addr × Obj} {r : List (Addr × Obj)} (N : News h₀ L h (d :: a :: b :: c :: r)) : News h₀ L h (a :: b :: c :: d :: r) := fun p hp => N p (by
  simp only [List.mem_cons] at hp ⊢; rcases hp with h | h | h | h | h <;> simp [h])
theorem tt : PySem.Challenge.rw_og0142_01.Holds := tp (by
  k_with_none
  k_with "m mem" => first | assumption | exact List.mem_cons_self | (refine List.mem_cons_of_mem _ ?_; walk_at "m mem")
  k_with "m all" => first | (refine List.forall_mem_cons.mpr ⟨by walk_at "m mem", ?_⟩; walk_at "m all") | exact List.forall_mem_nil _ | (intro q9 hq9; walk_at "m mem")
  k_with "m sub" => (refine news_sub (by assumption) ?_; walk_at "m all")
  k_with "InvEndN" => k_dflt kst_close
  k_with "ktr_room" => ((try simp only [depth_mark, depth_under_make, depth_under_kw, depth_in1, depth_deeper, depth_caller]); (try dsimp only [ktrTop]); first | decide | (rename (_ + _ < recursionLimit) => hd9; refine Nat.lt_of_le_of_lt ?_ hd9; (try simp only [Nat.add_assoc]); exact Nat.add_le_add_left (by decide) _) | omega)
  k_with "ktr_units" => ((try simp only [units_under_make, units_in1, units_deeper, Around.mark_units, units_caller]); (try dsimp only [ktrTop]); first | decide | (rename (_ + _ < cLine) => hu9; refine Nat.lt_of_le_of_lt ?_ hu9; (try simp only [Nat.add_assoc]); exact Nat.add_le_add_left (by decide) _) | omega)
  k_with "call ref" => (k_extra "cA"; intro _ _ _ _ _; (try dsimp only); (try k_sweep))
  k_with "call ref" => (k_extra "cB"; intro _ _ _ _; (try dsimp only); (try k_sweep))
  k_with "call ref" => (k_extra "cH"; refine Hold.out ?_)
  k_with "om" => with_reducible first | exact A0.c1 (by assumption) | exact A0.c2 (by assumption) | exact A0.c3 (by assumption) | exact A0.c4 (by assumption) | exact A0.c5 (by assumption) | exact A0.c6 (by assumption) | exact A0.c7 (by assumption) | exact A0.e2 (by assumption) | exact A0.e3 (by assumption) | exact A0.e4 (by assumption) | exact A0.e5 (by assumption) | exact A0.e6 (by assumption) | exact A0.e7 (by assumption) | exact Nat.le_trans (by assumption) (by decide)
  k_with "exec Try" => refine wpAny_Try_except ?_
  k_with "k_all" => first | assumption | exact List.forall_mem_nil _ | (refine List.forall_mem_cons.mpr ⟨by k_ne, ?_⟩; k_all) | (refine lt_ne9 (by assumption) ?_; omega)
  k_with "exec While Compare cons nil" => k_dflt (refine whl_start 2 ?_)
  k_with "WhlIf" => (first | (refine WhlIf.yes (decide_eq_true (by omega)) ?_) | (refine WhlIf.no (decide_eq_false (by omega)) ?_))
  k_with "pyIter ref" => refine Hold.out ?_
  k_with "exec For Name Call cons nil" => (refine wpAny_For ?_ (by intro _; rfl))
  k_with "k_all" => first | exact List.forall_mem_nil _ | (refine List.forall_mem_cons.mpr ⟨by k_ne, ?_⟩; k_all) | (refine lt_ne9 (by assumption) ?_; omega)
  k_with "newTuple" => ((rename (_ ∈ _ ++ [0]) => ha9); (rename (∀ a, a ∈ _ ++ [0] → a ≤ _) => hb9); (have hM9 := gmax_app ha9 hb9); clear ha9 hb9; subst hM9)
  k_with "eval ListComp" => (k_here; k_dflt (refine LCt.ListComp_T (F₀ := by k_asm) (by with_unfolding_all rfl) (by decide) (by rfl) (by decide) (by rfl) ?_))
  k_with "CompSrcT" => refine Hold.out ?_
  k_with "CompSrc" => refine Hold.out ?_
  k_with "binaryOp Pow int int" => (with_reducible refine pow_int_small (by first | assumption | exact Int.sub_nonneg.mpr (by assumption)) (by first | exact pow_b1 (by assumption) | exact pow_b2 (by assumption) (by assumption)) (by decide) ?_)
  k_with "CompEnd" => refine Hold.out ?_
  k_with "exec While Compare cons nil" => refine Hold.out ?_
  k_with "exec If BoolOp cons nil" => refine Hold.out ?_
  k_go0
  k_with "cA" => ((with_reducible show wpAny _ _ (call (Value.ref 61) [Value.ref _]) _ _ _); k_dflt (refine c_greatest (by k_asm) (by k_asm) (by k_asm) (by k_asm) (by k_asm) (by first | exact rfl | assumption) (by k_mem) (by assumption) (by omega) (by ktr_room) (by ktr_units) ?_))
  k_with "cA" => ((with_reducible show wpAny _ _ (call (Value.ref 75) [Value.ref _]) _ _ _); k_dflt (refine c_room (by k_asm) (by k_asm) (by k_asm) (by k_asm) (by k_asm) (by first | exact rfl | assumption) (by k_mem) (by assumption) (by first | omega | (simp only [List.length_append, List.length_cons, List.length_nil, List.length_reverse] at *; omega)) (by assumption) (by ktr_room) (by ktr_units) ?_))
  k_with "cB" => ((with_reducible show wpAny _ _ (call (Value.ref 82) [Value.ref _]) _ _ _); k_dflt (refine c_full (by k_asm) (by k_asm) (by k_asm) (by k_asm) (by k_asm) (by first | exact rfl | assumption) (by k_mem) (by assumption) (by first | omega | (simp only [List.length_append, List.length_cons, List.length_nil, List.length_reverse] at *; omega)) (by assumption) (by ktr_room) (by ktr_units) ?_))
  k_with "cB" => ((with_reducible show wpAny _ _ (call (Value.ref 89) [Value.ref _]) _ _ _); k_dflt (refine c_over (by k_asm) (by k_asm) (by k_asm) (by k_asm) (by k_asm) (by first | exact rfl | assumption) (by k_mem) (by assumption) (by first | omega | (simp only [List.length_append, List.length_cons, List.length_nil, List.length_reverse] at *; omega)) (by assumption) (by ktr_room) (by ktr_units) ?_))
  k_with "cH" => (with_reducible show wpAny _ _ (call (Value.ref 129) [Value.ref _, Value.ref _]) _ _ _)
  k_with "cH" => (with_reducible show wpAny _ _ (call (Value.ref 207) [Value.ref _, Value.int _ _]) _ _ _)
  k_with "cA" => ((with_reducible show wpAny _ _ (call (Value.ref 212) [Value.ref _]) _ _ _); k_dflt (refine c_free2 (by k_asm) (by k_asm) (by k_asm) (by k_asm) (by k_asm) (by first | exact rfl | assumption) (by k_mem) (by assumption) (by omega) (by assumption) (by first | assumption | omega) (by ktr_room) (by ktr_units) ?_))
  k_with "cA" => ((with_reducible show wpAny _ _ (call (Value.ref 217) [Value.ref _]) _ _ _); k_dflt (refine c_refused2 (by k_asm) (by k_asm) (by k_asm) (by k_asm) (by k_asm) (by first | exact rfl | assumption) (by assumption) (by assumption) (by k_mem) (by assumption) (by omega) (by assumption) (by first | assumption | omega) (by ktr_room) (by ktr_units) ?_))
  k_with "cA" => ((with_reducible show wpAny _ _ (call (Value.ref 75) [Value.ref _]) _ _ _); k_dflt (refine c_room3 (by k_asm) (by k_asm) (by k_asm) (by k_asm) (by k_asm) (by first | exact rfl | assumption) (by k_mem) (by assumption) (by assumption) (by assumption) (by assumption) (by ktr_room) (by ktr_units) ?_))
  k_with "cB" => ((with_reducible show wpAny _ _ (call (Value.ref 82) [Value.ref _]) _ _ _); k_dflt (refine c_full3 (by k_asm) (by k_asm) (by k_asm) (by k_asm) (by k_asm) (by first | exact rfl | assumption) (by k_mem) (by assumption) (by assumption) (by assumption) (by assumption) (by ktr_room) (by ktr_units) ?_))
  k_with "cB" => ((with_reducible show wpAny _ _ (call (Value.ref 89) [Value.ref _]) _ _ _); k_dflt (refine c_over3 (by k_asm) (by k_asm) (by k_asm) (by k_asm) (by k_asm) (by first | exact rfl | assumption) (by k_mem) (by assumption) (by assumption) (by assumption) (by assumption) (by ktr_room) (by ktr_units) ?_))
  (all_goals try k_fold)
  rename_i wld s0 s1 mg mb G Y fa o pm doc ho hg KX X V GL TT BT TE TW w9a w9b M w9 w8 hcd ks hs hlay hLay hr0 hl2 a1 a2 la vs a3 hLs ra w1 r0 hI hr1 hcond hc9 K0 hD h1 tk1 F1 oM oW dM0 dW0 N1 X0
  have dM : oM.data = .cell none := dM0.trans rfl
  have dW : oW.data = .cell none := dW0.trans rfl
  clear dM0 dW0 X0 hD G Y X V GL BT TE TW M hcd
  obtain ⟨mm, hmm, F1⟩ := fr_name F1
  have F2 := fr_same F1 (x := Str.ofString "script") (v := some (.ref la)) (by rw [hmm]; rfl)
  clear hmm F1 hc9
  k_steps
  rename_i Ds cs h2 l2 Wl h3 l3 h4 oW2 F4 N4 dW2
  have hks : ks.length ≤ 63 := by omega
  k_dflt (refine Hold.of (N1.c_next K0 F4 KX N4 TT (by rfl) rfl List.mem_cons_self ?hr hI hks (by decide) (by decide) (by decide) (by decide) (by decide) ?hu ?ret))
  case hu => rw [show cLine = cLine from rfl]; decide
  case hr => k_all
  case ret =>
    intro z8 t8 t9 cW8 h8 tk8 z80 z81 F8 N8
    clear F4 N4
    k_steps
    rename_i F8 N8 h9 tk9 tA tB tC rg9 F9 N9 k9
    clear F8 N8 k9
    refine Hold.of (LCg.CompSrc.range (n := (z8 - 0).toNat) (by rfl) F9 N9 rg9 (small_one (by omega) (by omega) (by omega) (by omega)) (rangeSize_nat _ _) (by rw [PySem.sizeLine_eq]; omega) ?_)
    intro g9
    refine comp_rest (fun k ys nw => ∃ ns t c, nw = (Wl, W.listOf #[.ref Ds, .int (0 + 1 + (k : Int)) t] c) :: _ ∧ IntsAre ys ns ∧ ns.length = k ∧ ∀ x ∈ ns, 0 ≤ x ∧ x ≤ 5) ⟨[], t9, cW8, rfl, .nil, rfl, fun _ hx => nomatch hx⟩ ?turn ?fin
    case turn =>
      rintro k v ys nw I2 oI2 C2 oC2 D2 m2 h12 tk12 E2 hk12 ⟨t12, rfl⟩ ⟨ns, tw, cw, rfl, hy, hl, hb⟩ hC12 hx12 F12 N12 off12 ne12 P1 hP1
      simp only [LCg.Off3] at off12
      replace off12 := Hold.of off12
      replace ne12 := Hold.of ne12
      have hk0 : 0 ≤ 0 + 1 + (k : Int) := Int.add_nonneg (by decide) (Int.natCast_nonneg k)
      have hk1 := k_le hk12 z81
      k_steps
      k_dflt (refine Hold.of (N1.c_next K0 F12 KX (news_up4 N12) TT (by rfl) rfl (.tail _ (.tail _ (.tail _ List.mem_cons_self))) ?hr2 hI hks hk0 hk1 (by decide) (by decide) (by decide) ?hu2 ?ret2))
      case hu2 => decide
      case hr2 => exact List.forall_mem_cons.mpr ⟨Ne.symm off12.out.1.1, List.forall_mem_cons.mpr ⟨Ne.symm off12.out.1.2.1, List.forall_mem_cons.mpr ⟨Ne.symm off12.out.1.2.2, by k_all⟩⟩⟩
      case ret2 =>
        intro z t13 t14 cw13 h13 tk13 z0 z1 F13 N13
        rw [show (0 : Int) + 1 + (k : Int) + 1 = 0 + 1 + ((k + 1 : Nat) : Int) by omega] at N13
        refine hP1 _ _ ?_
        refine LCg.CompEnd.intro F13 (news_down4 N13) _ (fun p hp => hp) (by simpa only [LCg.Off3] using off12.out) trivial ⟨ns ++ [z], t14, cw13, rfl, hy.append (.cons z t13 .nil), by rw [List.length_append, hl]; rfl, ?_⟩
        intro x hx
        rcases List.mem_append.mp hx with hx | hx
        · exact hb x hx
        · rw [List.mem_singleton.mp hx]; omega
    case fin =>
      rintro ys nw ⟨ns, tw, cw, rfl, hy, hl, hb⟩
      have hb6 : ∀ x ∈ ns, 0 ≤ x ∧ x ≤ 6 := fun x hx => by have := hb x hx; omega
      have hlen : ns.length ≤ 7 := by omega
      have hvl := hy.length
      have hg0 := gmax_nonneg ns
      have hg5 := gmax_le (b := 5) (by decide) hb
      have hg6 : gmax ns ≤ 6 := by omega
      k_steps
      rename_i Dn h13 tk13 F13 N13 oD tR h14 tk14 lz h15 lA Dz wz h16 hIz lB h17 tM kM Dt h18 lC h19 h20 h21 oM2 F15 N15 dM2
      clear F13 N13 lA lB lC hIz
      refine Hold.of (LCt.CompSrcT.ledger (ax := Dn) (its := ys.toArray) (k := ys.length) (by rfl) F15 N15 (.tail _ (.tail _ (.tail _ (.head _)))) (by rw [PySem.sizeLine_eq, List.size_toArray]; omega) ?_)
      intro g15
      refine comp_restT (fun k y2 nw => nw = _ ∧ IntsAre y2 (PL.krZ (gmax ns) (ns.take k))) ⟨rfl, ?n0⟩ ?turn2 ?fin2
      case n0 => rw [List.take_zero]; exact .nil
      case turn2 =>
        rintro k v y2 nw I2 oI2 C2 oC2 D2 m2 h22 tk22 E2 hk22 hv22 ⟨rfl, hy2⟩ hC22 hx22 F22 N22 off22 ne22 P1 P2 hP1 hP2
        rw [List.getElem?_toArray] at hv22
        obtain ⟨t22, rfl, hkl⟩ := ints_at hy hv22
        simp only [LCg.Off3] at off22
        replace off22 := Hold.of off22
        replace ne22 := Hold.of ne22
        replace oD := Hold.of oD
        have hmem22 : ns.getD k 0 ∈ ns := R1.getD_mem hkl
        have hb22 := hb _ hmem22
        have hg22 := gmax_ge hmem22
        k_steps
        all_goals (
          (first | refine hP1 _ _ ?_ | refine hP2 _ ?_)
          refine (LCg.CompEnd.intro F22 N22 _ (fun p hp => hp) (by simpa only [LCg.Off3] using off22.out) (.inr ⟨_, .tail _ (.tail _ (.tail _ (.head _))), rfl, _, rfl⟩) ⟨rfl, ?_⟩)
          rw [kr_take hkl]
          first
          | (rw [if_pos (by assumption)]; exact hy2.append (.cons _ _ .nil))
          | (rw [if_neg (by first | assumption | omega), List.append_nil]; exact hy2))
      case fin2 =>
        rintro y2 nw ⟨rfl, hy2⟩
        rw [List.size_toArray, hvl, List.take_length] at hy2
        have hroom := PL.room_eq ns
        have hoth := PL.room_other ns
        have hbo : ∀ x ∈ [0] ++ ns.reverse ++ [0], 0 ≤ x ∧ x ≤ 6 := by
          intro x hx
          simp only [List.mem_append, List.mem_singleton, List.mem_reverse] at hx
          rcases hx with (rfl | hx) | rfl
          · decide
          · exact hb6 x hx
          · decide
        have hlo : ([0] ++ ns.reverse ++ [0]).length ≤ 10 := by
          simp only [List.length_append, List.length_reverse, List.length_cons, List.length_nil]; omega
        k_steps
        rename Fr TT.heap _ _ _ => F20
        rename News TT.heap _ _ _ => N20
        obtain ⟨m20, hm20, F20⟩ := fr_name F20
        refine Hold.of (wpAny_mono (Q := IfOut TT.heap s1.heap.objs.size m20 [(Wl, W.listOf #[.ref Ds, .int (0 + 1 + (((z8 - 0).toNat : Nat) : Int)) tw] cw), (Ds, W.listOf vs.toArray cs), (Dn, LCg.lst ys), (s1.heap.objs.size + 1 + 1, oM2), (s1.heap.objs.size + 1, oW2)] s1) ?if3 ?cont fun _ _ x => x)
        case if3 =>
          subst hm20
          walk_at "exec If"
          k_steps
          all_goals (
            rename Fr TT.heap _ _ _ => F21
            rename News TT.heap _ _ _ => N21
            exact ⟨rfl, _, _, rfl, F21, news_sub N21 (by walk_at "m all")⟩)
        case cont =>
          rintro f s' ⟨rfl, h20, tk20, rfl, F22, N22⟩
          subst hm20
          clear F20 N20
          dsimp only
          k_steps
          · have e : (roomZ ns == 1) = true := by rw [PL.room_zero (by assumption)]; rfl
            rw [e]
            k_steps
          · rename Fr TT.heap _ _ _ => F30
            rename News TT.heap _ _ _ => N30
            have hgn : ¬ gmax ns = 0 := by assumption
            have hne : 1 ≤ ns.length := by
              cases ns with
              | nil => exact absurd rfl hgn
              | cons x r => exact Nat.succ_pos _
            have N31 := news_sub (l' := [(Wl, W.listOf #[.ref Ds, .int (0 + 1 + (((z8 - 0).toNat : Nat) : Int)) tw] cw), (Ds, W.listOf vs.toArray cs), (Dn, LCg.lst ys), (s1.heap.objs.size + 1 + 1, oM2), (s1.heap.objs.size + 1, oW2)]) N30 (by walk_at "m all")
            clear N30 hy2
            obtain ⟨m30, hm30, F30⟩ := fr_name F30
            k_dflt (refine Hold.of (N1.c_next K0 F30 KX N31 TT (by rfl) rfl List.mem_cons_self ?hr3 hI hks (by omega) (by omega) (by omega) (by omega) (by decide) ?hu3 ?ret3))
            case hu3 => decide
            case hr3 => k_all
            case ret3 =>
              intro at0 t31 t32 cw31 h31 tk31 at0p at0l F31 N32
              clear N31 F30
              k_steps
              rename Fr TT.heap _ _ _ => F40
              rename News TT.heap _ _ _ => N40
              obtain ⟨j, hj, hjn⟩ := some_code hgn
              refine Hold.of (While_inv2 (WhJ ns j m30 [(Wl, W.listOf #[.ref Ds, .int (0 + 1 + (((z8 - 0).toNat : Nat) : Int) + 1) t32] cw31), (Ds, W.listOf vs.toArray cs), (Dn, LCg.lst ys), (s1.heap.objs.size + 1 + 1, oM2), (s1.heap.objs.size + 1, oW2)]) F40 N40 ⟨at0, t31, rfl, rfl, at0p, at0l, rfl⟩ ?turn4)
              case turn4 =>
                rintro n m1 nx h41 tk41 F41 N41 ⟨a41, t41, rfl, rfl, a0, a1, rfl⟩
                subst hm30
                clear F40 N40
                by_cases hx0 : ns.getD a41.toNat 0 = 0
                · refine test_yes (c := decide (ns.getD a41.toNat 0 = 0)) (decide_eq_true hx0) ?_
                  k_steps
                  refine Hold.of ⟨?eb, ?_⟩
                  case eb => first | rfl | simp
                  k_steps
                  rename Fr TT.heap _ _ _ => F50
                  rename News TT.heap _ _ _ => N50
                  have hd50 := dist_turn (j := (j : Int)) a0 a1 (by omega) (by omega) (fun e => hjn (by rw [e, Int.toNat_natCast] at hx0; exact hx0))
                  exact wh_end (fr_put F50) N50 hd50.1 ⟨_, _, rfl, rfl, hd50.2.1, hd50.2.2, rfl⟩
                · have hx1 := hb _ (R1.getD_mem (l := ns) (i := a41.toNat) (by omega))
                  have hpr := parted_room a0 a1 (by omega)
                  have hbP := parted_bound a0 a1 hb
                  have hlP := parted_len (k := a41) hlen
                  obtain ⟨zP, hzP⟩ : ∃ z, z = if ns.getD a41.toNat 0 = gmax ns then 2 * roomZ ns else roomZ ns := ⟨_, rfl⟩
                  rw [← hzP] at hpr
                  have hpp : (zP == 0) = (roomZ ns == 0) ∧ decide (zP < 0) = decide (roomZ ns < 0) := by
                    rw [hzP]
                    split
                    · exact full_two rfl
                    · exact ⟨rfl, rfl⟩
                  rw [← hpr] at hpp
                  obtain ⟨hp1, hp2⟩ := hpp
                  refine test_no (c := decide (ns.getD a41.toNat 0 = 0)) (decide_eq_false hx0) ?_
                  k_steps
                  refine Hold.of ⟨?eb, ?_⟩
                  case eb => first | rfl | simp
                  k_steps)
end L1
end Mine

set_option maxRecDepth 100000 in
set_option maxHeartbeats 8000000 in
theorem PySem.Challenge.cw_og0142_01_holds : PySem.Challenge.rw_og0142_01.Holds := by
  exact Mine.L1.tt
