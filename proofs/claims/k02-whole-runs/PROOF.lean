import PyProof.Rows.All
import Wide.All
import OpenK.AllK
import Wide.FinOn
import PySem.Challenge.RW_avoidwords_k02_whole_runs
import HandS.ForMost
import HandS.Defaults
import HandS.IsInst
import HandS.TupSets
import HandS.More
import HandS.Wide
import HandS.Codes
import HandS.Walk
import KE.KDictCopyH
set_option Elab.async false
set_option linter.all false
set_option maxRecDepth 100000
set_option maxHeartbeats 8000000
/-! RunsMath -/
/-! Runs of a word: fewer than letters. Plain Lean, no program in sight. -/
namespace KR

def Per (v : Nat → Int) (b e p : Nat) : Prop := ∀ x, b ≤ x → x + p < e → v x = v (x + p)

structure Run (v : Nat → Int) (n b e p : Nat) : Prop where
  pos : 0 < p
  two : b + 2 * p ≤ e
  le : e ≤ n
  per : Per v b e p
  least : ∀ d, 0 < d → Per v b e d → p ≤ d
  left : 0 < b → v (b - 1) ≠ v (b - 1 + p)
  right : e < n → v e ≠ v (e - p)

theorem least_of {P : Nat → Prop} : ∀ n, P n → ∃ t, P t ∧ ∀ i, i < t → ¬ P i := by
  intro n
  induction n using Nat.strongRecOn with
  | ind n ih =>
    intro h
    by_cases g : ∃ m, m < n ∧ P m
    · obtain ⟨m, hm, pm⟩ := g
      exact ih m hm pm
    · exact ⟨n, h, fun i hi pi => g ⟨i, hi, pi⟩⟩

/-- The row of letters from a on is less than that from c on. -/
def L (f : Nat → Int) (a c : Nat) : Prop := ∃ t, (∀ i, i < t → f (a + i) = f (c + i)) ∧ f (a + t) < f (c + t)

theorem L_asymm {f : Nat → Int} {a c : Nat} : L f a c → L f c a → False := by
  rintro ⟨t, h1, h2⟩ ⟨u, g1, g2⟩
  rcases Nat.lt_trichotomy t u with h | h | h
  · have := g1 t h
    omega
  · subst h
    omega
  · have := h1 u h
    omega

theorem L_trans {f : Nat → Int} {a c d : Nat} : L f a c → L f c d → L f a d := by
  rintro ⟨t, h1, h2⟩ ⟨u, g1, g2⟩
  rcases Nat.lt_trichotomy t u with h | h | h
  · refine ⟨t, fun i hi => (h1 i hi).trans (g1 i (by omega)), ?_⟩
    have := g1 t h
    omega
  · subst h
    exact ⟨t, fun i hi => (h1 i hi).trans (g1 i hi), by omega⟩
  · refine ⟨u, fun i hi => (h1 i (by omega)).trans (g1 i hi), ?_⟩
    have := h1 u h
    omega

theorem L_tri (f : Nat → Int) (a c : Nat) : (∀ t, f (a + t) = f (c + t)) ∨ L f a c ∨ L f c a := by
  by_cases h : ∃ t, f (a + t) ≠ f (c + t)
  · obtain ⟨t0, h0⟩ := h
    obtain ⟨t, ht, hl⟩ := least_of (P := fun t => f (a + t) ≠ f (c + t)) t0 h0
    have hl' : ∀ i, i < t → f (a + i) = f (c + i) := fun i hi => Classical.not_not.1 (hl i hi)
    rcases Int.lt_trichotomy (f (a + t)) (f (c + t)) with g | g | g
    · exact .inr (.inl ⟨t, hl', g⟩)
    · exact absurd g ht
    · exact .inr (.inr ⟨t, fun i hi => (hl' i hi).symm, g⟩)
  · exact .inl fun t => Classical.not_not.1 fun g => h ⟨t, g⟩

theorem exists_min {R : Nat → Nat → Prop} (irr : ∀ a, ¬ R a a) (tr : ∀ a b c, R a b → R b c → R a c) :
    ∀ n, ∃ s, s < n + 1 ∧ ∀ k, k < n + 1 → ¬ R k s := by
  intro n
  induction n with
  | zero => exact ⟨0, by omega, fun k hk => by
      have : k = 0 := by omega
      subst this
      exact irr 0⟩
  | succ n ih =>
    obtain ⟨s, hs, hm⟩ := ih
    by_cases g : R (n + 1) s
    · refine ⟨n + 1, by omega, fun k hk hR => ?_⟩
      by_cases e : k = n + 1
      · subst e
        exact irr _ hR
      · exact hm k (by omega) (tr _ _ _ hR g)
    · refine ⟨s, by omega, fun k hk hR => ?_⟩
      by_cases e : k = n + 1
      · subst e
        exact g hR
      · exact hm k (by omega) hR

/-- What the chosen start of a run's least rotation keeps. -/
structure Root (u : Nat → Int) (b p s : Nat) : Prop where
  lo : b < s
  hi : s ≤ b + p
  down : L u (s + p) s
  up : ∀ k, s < k → k < s + p → ∃ t, k + t < s + p ∧ (∀ i, i < t → u (s + i) = u (k + i)) ∧ u (s + t) < u (k + t)

theorem Root.upL {u : Nat → Int} {b p s : Nat} (h : Root u b p s) {k : Nat} (h1 : s < k) (h2 : k < s + p) : L u s k := by
  obtain ⟨t, _, a, c⟩ := h.up k h1 h2
  exact ⟨t, a, c⟩

theorem exists_root {u : Nat → Int} {b e p : Nat} (pos : 0 < p) (two : b + 2 * p ≤ e) (per : Per u b e p)
    (least : ∀ d, 0 < d → Per u b e d → p ≤ d) (hd : u e < u (e - p)) : ∃ s, Root u b p s := by
  let f : Nat → Int := fun x => u (b + 1 + x % p)
  have fp : ∀ x, f (x + p) = f x := fun x => by
    show u (b + 1 + (x + p) % p) = u (b + 1 + x % p)
    rw [Nat.add_mod_right]
  have fm : ∀ x m, f (x + p * m) = f x := fun x m => by
    show u (b + 1 + (x + p * m) % p) = u (b + 1 + x % p)
    rw [Nat.add_mul_mod_self_left]
  have fu : ∀ x, b + 1 + x < e → u (b + 1 + x) = f x := by
    intro x
    induction x using Nat.strongRecOn with
    | ind x ih =>
      intro hx
      by_cases h : x < p
      · show u (b + 1 + x) = u (b + 1 + x % p)
        rw [Nat.mod_eq_of_lt h]
      · have h1 := ih (x - p) (by omega) (by omega)
        have h2 := per (b + 1 + (x - p)) (by omega) (by omega)
        have h3 := fp (x - p)
        rw [show b + 1 + (x - p) + p = b + 1 + x by omega] at h2
        rw [show x - p + p = x by omega] at h3
        rw [← h2, h1, h3]
  have fb : ∀ y, b + y < e → u (b + y) = f (p - 1 + y) := by
    intro y hy
    by_cases h : y = 0
    · subst h
      have h2 := per b (by omega) (by omega)
      have h3 := fu (p - 1) (by omega)
      rw [show b + 1 + (p - 1) = b + p by omega] at h3
      show u b = f (p - 1)
      rw [h2, h3]
    · have h3 := fu (y - 1) (by omega)
      rw [show b + 1 + (y - 1) = b + y by omega] at h3
      rw [h3, ← fp, show y - 1 + p = p - 1 + y by omega]
  -- two rotations are never the same
  have prim : ∀ a d, 0 < d → d < p → ¬ ∀ t, f (a + t) = f (a + d + t) := by
    intro a d d0 dp h
    have g : ∀ x, f x = f (x + d) := by
      intro x
      have h1 := h (x + p * a - a)
      have h2 : a ≤ p * a := Nat.le_mul_of_pos_left a pos
      rw [show a + (x + p * a - a) = x + p * a by omega, show a + d + (x + p * a - a) = x + d + p * a by omega, fm, fm] at h1
      exact h1
    have : Per u b e d := by
      intro x hx hd
      have h1 := fb (x - b) (by omega)
      have h2 := fb (x - b + d) (by omega)
      rw [show b + (x - b) = x by omega] at h1
      rw [show b + (x - b + d) = x + d by omega] at h2
      rw [h1, h2, g, Nat.add_assoc]
    have := least d d0 this
    omega
  obtain ⟨s0, hs0, hmin⟩ := exists_min (R := fun a c => L f a c) (fun a h => L_asymm h h) (fun a b c h g => L_trans h g) (p - 1)
  have hs0' : s0 < p := by omega
  -- the least rotation is less than all others, wherever they begin
  have hlt : ∀ k, s0 < k → k < s0 + p → L f s0 k := by
    intro k h1 h2
    rcases L_tri f s0 k with h | h | h
    · exact absurd (fun t => by
        rw [show s0 + (k - s0) = k by omega]
        exact h t) (prim s0 (k - s0) (by omega) (by omega))
    · exact h
    · exfalso
      by_cases hk : k < p
      · exact hmin k (by omega) h
      · refine hmin (k - p) (by omega) ?_
        obtain ⟨t, a, c⟩ := h
        have e : ∀ i, f (k + i) = f (k - p + i) := fun i => by
          rw [← fp (k - p + i), show k - p + i + p = k + i by omega]
        exact ⟨t, fun i hi => by rw [← e, a i hi], by rw [← e]; exact c⟩
  refine ⟨b + 1 + s0, by omega, by omega, ?_, ?_⟩
  · refine ⟨e - (b + 1 + s0 + p), fun i hi => ?_, ?_⟩
    · have := per (b + 1 + s0 + i) (by omega) (by omega)
      rw [show b + 1 + s0 + p + i = b + 1 + s0 + i + p by omega]
      exact this.symm
    · rw [show b + 1 + s0 + p + (e - (b + 1 + s0 + p)) = e by omega, show b + 1 + s0 + (e - (b + 1 + s0 + p)) = e - p by omega]
      exact hd
  · intro k h1 h2
    have hk1 : s0 < k - (b + 1) := by omega
    have hk2 : k - (b + 1) < s0 + p := by omega
    obtain ⟨t, ha, hc⟩ := hlt (k - (b + 1)) hk1 hk2
    have key : k - (b + 1) + t < s0 + p := by
      apply Classical.byContradiction
      intro hn
      have hq : s0 + (s0 + p - (k - (b + 1))) < s0 + p := by omega
      refine L_asymm (hlt (s0 + (s0 + p - (k - (b + 1)))) (by omega) hq) ⟨t - (s0 + p - (k - (b + 1))), fun i hi => ?_, ?_⟩
      · have h3 := ha (s0 + p - (k - (b + 1)) + i) (by omega)
        rw [show k - (b + 1) + (s0 + p - (k - (b + 1)) + i) = s0 + i + p by omega, fp] at h3
        rw [Nat.add_assoc, h3]
      · rw [show k - (b + 1) + t = s0 + (t - (s0 + p - (k - (b + 1)))) + p by omega, fp] at hc
        rw [show s0 + (s0 + p - (k - (b + 1))) + (t - (s0 + p - (k - (b + 1)))) = s0 + t by omega]
        exact hc
    refine ⟨t, by omega, fun i hi => ?_, ?_⟩
    · have h3 := fu (s0 + i) (by omega)
      have h4 := fu (k - (b + 1) + i) (by omega)
      rw [show b + 1 + (s0 + i) = b + 1 + s0 + i by omega] at h3
      rw [show b + 1 + (k - (b + 1) + i) = k + i by omega] at h4
      rw [h3, h4]
      exact ha i hi
    · have h3 := fu (s0 + t) (by omega)
      have h4 := fu (k - (b + 1) + t) (by omega)
      rw [show b + 1 + (s0 + t) = b + 1 + s0 + t by omega] at h3
      rw [show b + 1 + (k - (b + 1) + t) = k + t by omega] at h4
      rw [h3, h4]
      exact hc

/-- Two roots that begin at one place by one order are equally long. -/
theorem root_len {u : Nat → Int} {b p b' p' s : Nat} (pos : 0 < p) (pos' : 0 < p') (h : Root u b p s) (h' : Root u b' p' s) : p = p' := by
  rcases Nat.lt_trichotomy p p' with g | g | g
  · exact (L_asymm h.down (h'.upL (by omega) (by omega))).elim
  · exact g
  · exact (L_asymm h'.down (h.upL (by omega) (by omega))).elim

/-- Two runs of one period that share a part as long as it are one. -/
theorem same_run {v : Nat → Int} {n b e b' e' p s : Nat} (r : Run v n b e p) (r' : Run v n b' e' p)
    (h1 : b ≤ s) (h2 : s + p ≤ e) (h1' : b' ≤ s) (h2' : s + p ≤ e') : b = b' ∧ e = e' := by
  constructor
  · rcases Nat.lt_trichotomy b b' with g | g | g
    · exact absurd (r.per (b' - 1) (by omega) (by omega)) (r'.left (by omega))
    · exact g
    · exact absurd (r'.per (b - 1) (by omega) (by omega)) (r.left (by omega))
  · have := r.le
    have := r'.le
    rcases Nat.lt_trichotomy e e' with g | g | g
    · have h := r'.per (e - p) (by omega) (by omega)
      rw [show e - p + p = e by omega] at h
      exact absurd h.symm (r.right (by omega))
    · exact g
    · have h := r.per (e' - p) (by omega) (by omega)
      rw [show e' - p + p = e' by omega] at h
      exact absurd h.symm (r'.right (by omega))

/-- The other order. -/
def neg (v : Nat → Int) : Nat → Int := fun x => - v x

theorem L_neg {v : Nat → Int} {a c : Nat} : L v a c → L (neg v) c a := by
  rintro ⟨t, h1, h2⟩
  refine ⟨t, fun i hi => ?_, ?_⟩
  · show - v (c + i) = - v (a + i)
    rw [h1 i hi]
  · show - v (c + t) < - v (a + t)
    omega

/-- A root at s of a run of period 1 and one of another run: they are one run. -/
theorem one_root {v u' : Nat → Int} (hu : ∀ x y, v x = v y → u' x = u' y) {n b e b' e' p' s : Nat}
    (r : Run v n b e 1) (r' : Run v n b' e' p') (h1 : b < s) (h2 : s + 1 ≤ e) (h' : Root u' b' p' s) :
    (b, e, 1) = (b', e', p') := by
  have hb := h'.lo
  have hi := h'.hi
  have two := r'.two
  have pos := r'.pos
  by_cases g : p' = 1
  · subst g
    obtain ⟨e1, e2⟩ := same_run r r' (s := s) (by omega) (by omega) (by omega) (by omega)
    rw [e1, e2]
  · exfalso
    obtain ⟨t, ht, _, hc⟩ := h'.up (s + p' - 1) (by omega) (by omega)
    have t0 : t = 0 := by omega
    subst t0
    have a1 := r.per (s - 1) (by omega) (by omega)
    have a2 := r'.per (s - 1) (by omega) (by omega)
    rw [show s - 1 + 1 = s by omega] at a1
    have a3 := hu _ _ (a1.symm.trans a2)
    rw [show s - 1 + p' = s + p' - 1 by omega] at a3
    have hc' : u' s < u' (s + p' - 1) := hc
    omega

/-- A run's start of its least rotation, by the order in which the letter behind it is less than it would be. -/
def At (v : Nat → Int) (b p s : Nat) : Prop := Root v b p s ∨ Root (neg v) b p s

theorem exists_at {v : Nat → Int} {n b e p : Nat} (hn : ∀ x, x < n → v x ≠ v n) (r : Run v n b e p) : ∃ s, At v b p s := by
  have two := r.two
  have pos := r.pos
  have le := r.le
  have hd : v e ≠ v (e - p) := by
    by_cases g : e < n
    · exact r.right g
    · have : e = n := by omega
      subst this
      exact (hn _ (by omega)).symm
  rcases Int.lt_trichotomy (v e) (v (e - p)) with g | g | g
  · obtain ⟨s, h⟩ := exists_root pos two r.per r.least g
    exact ⟨s, .inl h⟩
  · exact absurd g hd
  · obtain ⟨s, h⟩ := exists_root (u := neg v) pos two (fun x h1 h2 => by
      show - v x = - v (x + p)
      rw [r.per x h1 h2]) (fun d d0 hd => r.least d d0 fun x h1 h2 => by
        have := hd x h1 h2
        have h3 : - v x = - v (x + d) := this
        omega) (by
      show - v e < - v (e - p)
      omega)
    exact ⟨s, .inr h⟩

theorem At.lo {v : Nat → Int} {b p s : Nat} (h : At v b p s) : b < s := by
  rcases h with h | h
  · exact h.lo
  · exact h.lo

theorem At.hi {v : Nat → Int} {b p s : Nat} (h : At v b p s) : s ≤ b + p := by
  rcases h with h | h
  · exact h.hi
  · exact h.hi

theorem cross {v : Nat → Int} {n b e p b' e' p' s : Nat} (hn : ∀ x, x < n → v x ≠ v n) (r : Run v n b e p) (r' : Run v n b' e' p')
    (h : Root v b p s) (h' : Root (neg v) b' p' s) : (b, e, p) = (b', e', p') := by
  have two := r.two
  have pos := r.pos
  have le := r.le
  have hlo := h.lo
  have hhi := h.hi
  have two' := r'.two
  have pos' := r'.pos
  have hlo' := h'.lo
  have hhi' := h'.hi
  rcases L_tri v (s + 1) s with g | g | g
  · exfalso
    have c : ∀ t, v (s + t) = v s := by
      intro t
      induction t with
      | zero => rfl
      | succ t ih =>
        have := g t
        rw [show s + (t + 1) = s + 1 + t by omega, this, ih]
    have := c (n - s)
    rw [show s + (n - s) = n by omega] at this
    exact hn s (by omega) this.symm
  · have p1 : p = 1 := by
      apply Classical.byContradiction
      intro hp
      exact L_asymm g (h.upL (by omega) (by omega))
    subst p1
    exact one_root (u' := neg v) (fun x y e => by
      show - v x = - v y
      rw [e]) r r' hlo (by omega) h'
  · have p1 : p' = 1 := by
      apply Classical.byContradiction
      intro hp
      exact L_asymm (L_neg g) (h'.upL (by omega) (by omega))
    subst p1
    exact (one_root (u' := v) (fun x y e => e) r' r hlo' (by omega) h).symm

theorem at_inj {v : Nat → Int} {n b e p b' e' p' s : Nat} (hn : ∀ x, x < n → v x ≠ v n) (r : Run v n b e p) (r' : Run v n b' e' p')
    (h : At v b p s) (h' : At v b' p' s) : (b, e, p) = (b', e', p') := by
  have two := r.two
  have pos := r.pos
  have hlo := h.lo
  have hhi := h.hi
  have two' := r'.two
  have pos' := r'.pos
  have hlo' := h'.lo
  have hhi' := h'.hi
  rcases h with h | h
  · rcases h' with h' | h'
    · have := root_len pos pos' h h'
      subst this
      obtain ⟨e1, e2⟩ := same_run r r' (s := s) (by omega) (by omega) (by omega) (by omega)
      rw [e1, e2]
    · exact cross hn r r' h h'
  · rcases h' with h' | h'
    · exact (cross hn r' r h' h).symm
    · have := root_len pos pos' h h'
      subst this
      obtain ⟨e1, e2⟩ := same_run r r' (s := s) (by omega) (by omega) (by omega) (by omega)
      rw [e1, e2]

/-- The runs theorem: different runs are fewer than letters. -/
theorem runs_few {v : Nat → Int} {n : Nat} (hn : ∀ x, x < n → v x ≠ v n) (rs : List (Nat × Nat × Nat)) (nd : rs.Nodup)
    (hr : ∀ r, r ∈ rs → Run v n r.1 r.2.1 r.2.2) (n0 : 0 < n) : rs.length < n := by
  have ex : ∀ r : Nat × Nat × Nat, ∃ s, r ∈ rs → At v r.1 r.2.2 s := fun r => by
    by_cases h : r ∈ rs
    · obtain ⟨s, hs⟩ := exists_at hn (hr r h)
      exact ⟨s, fun _ => hs⟩
    · exact ⟨0, fun g => absurd g h⟩
  let g : Nat × Nat × Nat → Nat := fun r => Classical.choose (ex r)
  have hg : ∀ r, r ∈ rs → At v r.1 r.2.2 (g r) := fun r => Classical.choose_spec (ex r)
  have nd' : (rs.map g).Nodup := by
    refine List.pairwise_map.2 (List.Pairwise.imp_of_mem (fun {a c} ha hc hne heq => hne ?_) nd)
    have h1 := hg a ha
    have h2 := hg c hc
    rw [← heq] at h2
    have := at_inj hn (hr a ha) (hr c hc) h1 h2
    exact this
  have sub : rs.map g ⊆ List.range' 1 (n - 1) := by
    intro s hs
    obtain ⟨r, hm, rfl⟩ := List.mem_map.1 hs
    have h1 := hg r hm
    have h2 := h1.lo
    have h3 := h1.hi
    have h4 := (hr r hm).two
    have h5 := (hr r hm).le
    have h6 := (hr r hm).pos
    rw [List.mem_range'_1]
    omega
  have := List.Nodup.length_le_of_subset nd' sub
  rw [List.length_map, List.length_range'] at this
  omega

end KR
/-! BordMath -/
/-! Borders and least periods. Plain Lean. -/
namespace KB
/-- k letters at the begin of the first m are those at their end -/
structure Border (f : Nat → Nat) (m k : Nat) : Prop where
  lt : k < m
  eq : ∀ x, x < k → f x = f (m - k + x)
structure LB (f : Nat → Nat) (m k : Nat) : Prop where
  b : Border f m k
  top : ∀ k', Border f m k' → k' ≤ k
theorem lb_one (f : Nat → Nat) : LB f 1 0 := ⟨⟨by omega, fun x h => by omega⟩, fun k h => by have := h.lt; omega⟩
theorem border_zero {f : Nat → Nat} {m : Nat} (h : 0 < m) : Border f m 0 := ⟨h, fun x h => by omega⟩
theorem border_succ {f : Nat → Nat} {m k : Nat} (h : Border f m k) (e : f k = f m) : Border f (m + 1) (k + 1) := by
  have := h.lt
  refine ⟨by omega, fun x hx => ?_⟩
  by_cases g : x < k
  · have := h.eq x g
    rw [show m + 1 - (k + 1) + x = m - k + x by omega]
    exact this
  · have : x = k := by omega
    subst this
    rw [show m + 1 - (x + 1) + x = m by omega]
    exact e
theorem border_pred {f : Nat → Nat} {m k : Nat} (h : Border f (m + 1) (k + 1)) : Border f m k ∧ f k = f m := by
  have hl := h.lt
  refine ⟨⟨by omega, fun x hx => ?_⟩, ?_⟩
  · have := h.eq x (by omega)
    rw [show m + 1 - (k + 1) + x = m - k + x by omega] at this
    exact this
  · have := h.eq k (by omega)
    rw [show m + 1 - (k + 1) + k = m by omega] at this
    exact this
theorem border_trans {f : Nat → Nat} {m a b : Nat} (h : Border f m a) (g : Border f a b) : Border f m b := by
  have h1 := h.lt
  have h2 := g.lt
  refine ⟨by omega, fun x hx => ?_⟩
  rw [g.eq x hx, h.eq (a - b + x) (by omega), show m - a + (a - b + x) = m - b + x by omega]
theorem border_down {f : Nat → Nat} {m a k : Nat} (h : Border f m a) (g : Border f m k) (hk : k < a) : Border f a k := by
  have h1 := h.lt
  refine ⟨hk, fun x hx => ?_⟩
  rw [g.eq x hx, h.eq (a - k + x) (by omega), show m - a + (a - k + x) = m - k + x by omega]
/-- what the inner loop keeps -/
structure Cand (f : Nat → Nat) (m a : Nat) : Prop where
  b : Border f m a
  top : ∀ k, Border f m k → f k = f m → k ≤ a
theorem Cand.of {f : Nat → Nat} {m a : Nat} (h : LB f m a) : Cand f m a := ⟨h.b, fun k hk _ => h.top k hk⟩
theorem Cand.step {f : Nat → Nat} {m a b : Nat} (h : Cand f m a) (ne : f m ≠ f a) (g : LB f a b) : Cand f m b := by
  refine ⟨border_trans h.b g.b, fun k hk e => ?_⟩
  have h1 := h.top k hk e
  have h2 : k ≠ a := fun z => ne (by rw [← z, e])
  exact g.top k (border_down h.b hk (by omega))
theorem Cand.hit {f : Nat → Nat} {m a : Nat} (h : Cand f m a) (e : f m = f a) : LB f (m + 1) (a + 1) := by
  refine ⟨border_succ h.b e.symm, fun k hk => ?_⟩
  cases k with
  | zero => omega
  | succ k =>
    obtain ⟨h1, h2⟩ := border_pred hk
    have := h.top k h1 h2
    omega
theorem Cand.miss {f : Nat → Nat} {m : Nat} (h : Cand f m 0) (ne : f m ≠ f 0) : LB f (m + 1) 0 := by
  refine ⟨border_zero (by omega), fun k hk => ?_⟩
  cases k with
  | zero => omega
  | succ k =>
    obtain ⟨h1, h2⟩ := border_pred hk
    have := h.top k h1 h2
    have : k = 0 := by omega
    subst this
    exact absurd h2.symm ne
/-- the least period of the first n letters -/
structure LP (f : Nat → Nat) (n p : Nat) : Prop where
  pos : 0 < p
  le : p ≤ n
  per : ∀ x, x + p < n → f x = f (x + p)
  least : ∀ d, 0 < d → (∀ x, x + d < n → f x = f (x + d)) → p ≤ d
theorem lp_of {f : Nat → Nat} {n k : Nat} (h : LB f n k) : LP f n (n - k) := by
  have hl := h.b.lt
  refine ⟨by omega, by omega, fun x hx => ?_, fun d d0 hd => ?_⟩
  · rw [h.b.eq x (by omega), show n - k + x = x + (n - k) by omega]
  · by_cases g : d ≤ n
    · have : Border f n (n - d) := ⟨by omega, fun x hx => by
        rw [hd x (by omega), show n - (n - d) + x = x + d by omega]⟩
      have := h.top _ this
      omega
    · omega
theorem lp_unique {f : Nat → Nat} {n p q : Nat} (h : LP f n p) (g : LP f n q) : p = q := by
  have h1 := h.least q g.pos g.per
  have h2 := g.least p h.pos h.per
  omega
end KB
/-! RunsCalc -/
/-! What the two loops find, in plain Lean: the runs of a word. -/
namespace KC
open KR KB
/-- the letter at a place -/
def fn (l : List Nat) : Nat → Nat := fun i => l.getD i 0
/-- the word with a mark behind its end that is no letter -/
def vw (l : List Nat) : Nat → Int := fun x => if x < l.length then (fn l x : Int) else -1
theorem vw_lt {l : List Nat} {x : Nat} (h : x < l.length) : vw l x = (fn l x : Int) := if_pos h
theorem vw_ge {l : List Nat} {x : Nat} (h : l.length ≤ x) : vw l x = -1 := if_neg (by omega)
theorem vw_end (l : List Nat) : ∀ x, x < l.length → vw l x ≠ vw l l.length := fun x hx => by
  rw [vw_lt hx, vw_ge (Nat.le_refl _)]
  omega
/-- the part from b to e -/
def sub (l : List Nat) (b e : Nat) : List Nat := (l.drop b).take (e - b)
theorem sub_len {l : List Nat} {b e : Nat} (h : e ≤ l.length) : (sub l b e).length = e - b := by
  unfold sub
  rw [List.length_take, List.length_drop]
  omega
theorem sub_at {l : List Nat} {b e x : Nat} (h : e ≤ l.length) (hx : b + x < e) : fn (sub l b e) x = fn l (b + x) := by
  unfold fn sub
  rw [List.getD_eq_getElem?_getD, List.getD_eq_getElem?_getD, List.getElem?_take, if_pos (by omega), List.getElem?_drop]
/-- periods of a part -/
theorem per_sub {l : List Nat} {b e d : Nat} (he : e ≤ l.length) : (∀ x, x + d < e - b → fn (sub l b e) x = fn (sub l b e) (x + d)) ↔ Per (vw l) b e d := by
  constructor
  · intro h x hx hd
    have := h (x - b) (by omega)
    rw [sub_at he (by omega), sub_at he (by omega), show b + (x - b) = x by omega, show b + (x - b + d) = x + d by omega] at this
    rw [vw_lt (by omega), vw_lt (by omega), this]
  · intro h x hx
    have := h (b + x) (by omega) (by omega)
    rw [vw_lt (by omega), vw_lt (by omega)] at this
    rw [sub_at he (by omega), sub_at he (by omega), show b + (x + d) = b + x + d by omega]
    omega
theorem lp_sub {l : List Nat} {b e p : Nat} (he : e ≤ l.length) : LP (fn (sub l b e)) (e - b) p ↔ 0 < p ∧ p ≤ e - b ∧ Per (vw l) b e p ∧ ∀ d, 0 < d → Per (vw l) b e d → p ≤ d := by
  constructor
  · intro h
    exact ⟨h.pos, h.le, (per_sub he).1 h.per, fun d d0 hd => h.least d d0 ((per_sub he).2 hd)⟩
  · rintro ⟨h1, h2, h3, h4⟩
    exact ⟨h1, h2, (per_sub he).2 h3, fun d d0 hd => h4 d d0 ((per_sub he).1 hd)⟩
abbrev Tr := Nat × Nat × Nat
def IsRun (l : List Nat) (r : Tr) : Prop := Run (vw l) l.length r.1 r.2.1 r.2.2

/-! ### the program's loops -/
/-- what is found ahead of half h, place a -/
structure Found (l : List Nat) (h a : Nat) (ks : List Tr) : Prop where
  nd : ks.Nodup
  mem : ∀ r : Tr, r ∈ ks ↔ IsRun l r ∧ (r.2.2 < h ∨ (r.2.2 = h ∧ r.2.1 < a + h))
theorem Found.start (l : List Nat) : Found l 1 0 [] := ⟨List.nodup_nil, fun r => ⟨(fun h => by cases h), fun ⟨h, g⟩ => by
  have h1 := h.pos
  have h2 := h.two
  omega⟩⟩
theorem Found.next {l : List Nat} {h : Nat} {ks : List Tr} (F : Found l h (l.length - h + 1) ks) (hh : h ≤ l.length) : Found l (h + 1) 0 ks := ⟨F.nd, fun r => by
  rw [F.mem]
  constructor
  · rintro ⟨h1, h2⟩
    exact ⟨h1, .inl (by omega)⟩
  · rintro ⟨h1, h2⟩
    have h3 := h1.le
    have h4 := h1.two
    refine ⟨h1, ?_⟩
    omega⟩
theorem Found.done {l : List Nat} {h a : Nat} {ks : List Tr} (F : Found l h a ks) (hh : l.length < 2 * h) : ∀ r, r ∈ ks ↔ IsRun l r := fun r => by
  rw [F.mem]
  constructor
  · exact fun h => h.1
  · intro h
    have h3 := h.le
    have h4 := h.two
    exact ⟨h, .inl (by omega)⟩
/-- where the stretch of equal letters begins -/
structure Beg (l : List Nat) (h a g : Nat) : Prop where
  le : g ≤ a
  eq : ∀ x, g ≤ x → x < a → vw l x = vw l (x + h)
  left : 0 < g → vw l (g - 1) ≠ vw l (g - 1 + h)
theorem Beg.start (l : List Nat) (h : Nat) : Beg l h 0 0 := ⟨Nat.le_refl _, fun x _ h => by omega, fun h => by omega⟩
theorem Beg.on {l : List Nat} {h a g : Nat} (B : Beg l h a g) (e : vw l a = vw l (a + h)) : Beg l h (a + 1) g := ⟨by have := B.le; omega, fun x h1 h2 => by
  by_cases g : x = a
  · rw [g]
    exact e
  · exact B.eq x h1 (by omega), B.left⟩
theorem Beg.stop {l : List Nat} {h a : Nat} (e : vw l a ≠ vw l (a + h)) : Beg l h (a + 1) (a + 1) := ⟨Nat.le_refl _, fun x h1 h2 => by omega, fun _ => e⟩
/-- the run that ends here, if there is one, begins there -/
theorem run_beg {l : List Nat} {h a g b : Nat} (B : Beg l h a g) (r : IsRun l (b, a + h, h)) : b = g := by
  have h1 := r.two
  have h0 := r.pos
  have hle := B.le
  simp only at h1 h0
  rcases Nat.lt_trichotomy b g with c | c | c
  · exact absurd (r.per (g - 1) (by omega) (by show g - 1 + h < a + h; omega)) (B.left (by omega))
  · exact c
  · exact absurd (B.eq (b - 1) (by omega) (by omega)) (r.left (by show 0 < b; omega))
/-- a stop with a long stretch whose least period is h is a run -/
theorem run_of {l : List Nat} {h a g : Nat} (h0 : 0 < h) (hn : a + h ≤ l.length) (B : Beg l h a g) (e : vw l a ≠ vw l (a + h)) (h2 : h ≤ a - g) (p : LP (fn (sub l g (a + h))) (a + h - g) h) : IsRun l (g, a + h, h) := by
  have hle := B.le
  obtain ⟨_, _, p3, p4⟩ := (lp_sub hn).1 p
  refine ⟨h0, by show g + 2 * h ≤ a + h; omega, hn, p3, p4, fun g0 => B.left g0, fun _ => ?_⟩
  show vw l (a + h) ≠ vw l (a + h - h)
  rw [Nat.add_sub_cancel]
  exact fun z => e z.symm
theorem run_lp {l : List Nat} {g e h : Nat} (r : IsRun l (g, e, h)) : LP (fn (sub l g e)) (e - g) h := by
  have h1 := r.two
  simp only at h1
  exact (lp_sub r.le).2 ⟨r.pos, by show h ≤ e - g; omega, r.per, r.least⟩
theorem Found.add {l : List Nat} {h a g : Nat} {ks : List Tr} (F : Found l h a ks) (h0 : 0 < h) (B : Beg l h a g) (r : IsRun l (g, a + h, h)) : Found l h (a + 1) (ks ++ [(g, a + h, h)]) := by
  have hnew : (g, a + h, h) ∉ ks := fun z => by
    have := ((F.mem _).1 z).2
    simp only at this
    omega
  refine ⟨?_, fun q => ?_⟩
  · rw [List.nodup_append]
    exact ⟨F.nd, List.pairwise_singleton _ _, fun a ha b hb e => by
      rw [List.mem_singleton] at hb
      rw [e, hb] at ha
      exact hnew ha⟩
  · rw [List.mem_append, List.mem_singleton, F.mem]
    obtain ⟨b, e, p⟩ := q
    constructor
    · rintro (⟨h1, h2⟩ | h1)
      · exact ⟨h1, by simp only at h2 ⊢; omega⟩
      · injection h1 with e1 e2
        injection e2 with e2 e3
        subst e1 e2 e3
        exact ⟨r, .inr ⟨rfl, by show a + p < a + 1 + p; omega⟩⟩
    · rintro ⟨h1, h2⟩
      simp only at h2
      by_cases c : p = h ∧ e = a + h
      · obtain ⟨rfl, rfl⟩ := c
        have := run_beg B h1
        subst this
        exact .inr rfl
      · exact .inl ⟨h1, by simp only; omega⟩
/-- no run ends here with this period -/
theorem Found.skip {l : List Nat} {h a : Nat} {ks : List Tr} (F : Found l h a ks) (no : ∀ b, ¬ IsRun l (b, a + h, h)) : Found l h (a + 1) ks := by
  refine ⟨F.nd, fun q => ?_⟩
  rw [F.mem]
  obtain ⟨b, e, p⟩ := q
  constructor
  · rintro ⟨h1, h2⟩
    exact ⟨h1, by simp only at h2 ⊢; omega⟩
  · rintro ⟨h1, h2⟩
    simp only at h2
    by_cases c : p = h ∧ e = a + h
    · obtain ⟨rfl, rfl⟩ := c
      exact absurd h1 (no b)
    · exact ⟨h1, by simp only; omega⟩
theorem no_go {l : List Nat} {h a : Nat} (hn : a + h < l.length) (e : vw l a = vw l (a + h)) : ∀ b, ¬ IsRun l (b, a + h, h) := fun b r => by
  have := r.right hn
  simp only [Nat.add_sub_cancel] at this
  exact this e.symm
theorem no_short {l : List Nat} {h a g : Nat} (B : Beg l h a g) (c : ¬ h ≤ a - g) : ∀ b, ¬ IsRun l (b, a + h, h) := fun b r => by
  have := run_beg B r
  subst this
  have h1 := r.two
  simp only at h1
  omega
theorem no_per {l : List Nat} {h a g q : Nat} (B : Beg l h a g) (p : LP (fn (sub l g (a + h))) (a + h - g) q) (c : q ≠ h) : ∀ b, ¬ IsRun l (b, a + h, h) := fun b r => by
  have := run_beg B r
  subst this
  exact c (lp_unique p (run_lp r))

/-! ### the law's loops -/
/-- what the law has found ahead of begin b, end e -/
structure Due (l : List Nat) (b e : Nat) (ks : List Tr) : Prop where
  nd : ks.Nodup
  mem : ∀ r : Tr, r ∈ ks ↔ IsRun l r ∧ (r.1 < b ∨ (r.1 = b ∧ r.2.1 < e))
theorem Due.start (l : List Nat) : Due l 0 2 [] := ⟨List.nodup_nil, fun r => ⟨(fun h => by cases h), fun ⟨h, g⟩ => by
  have h1 := h.pos
  have h2 := h.two
  omega⟩⟩
theorem Due.next {l : List Nat} {b e : Nat} {ks : List Tr} (D : Due l b e ks) (he : l.length < e) : Due l (b + 1) (b + 1 + 2) ks := ⟨D.nd, fun r => by
  rw [D.mem]
  constructor
  · rintro ⟨h1, h2⟩
    exact ⟨h1, .inl (by omega)⟩
  · rintro ⟨h1, h2⟩
    have h3 := h1.le
    have h4 := h1.two
    have h5 := h1.pos
    refine ⟨h1, ?_⟩
    omega⟩
theorem Due.done {l : List Nat} {e : Nat} {ks : List Tr} (D : Due l l.length e ks) : ∀ r, r ∈ ks ↔ IsRun l r := fun r => by
  rw [D.mem]
  constructor
  · exact fun h => h.1
  · intro h
    have h3 := h.le
    have h4 := h.two
    have h5 := h.pos
    exact ⟨h, .inl (by omega)⟩
theorem due_run {l : List Nat} {b e p : Nat} (he : e ≤ l.length) (hp : LP (fn (sub l b e)) (e - b) p) (h2 : 2 * p ≤ e - b) (hb : b ≤ e) (left : ¬ (0 < b ∧ fn l (b - 1) = fn l (b - 1 + p))) (right : ¬ (e < l.length ∧ fn l e = fn l (e - p))) : IsRun l (b, e, p) := by
  obtain ⟨p1, p2, p3, p4⟩ := (lp_sub he).1 hp
  refine ⟨p1, by show b + 2 * p ≤ e; omega, he, p3, p4, fun b0 z => left ⟨b0, ?_⟩, fun en z => right ⟨en, ?_⟩⟩
  · have z : vw l (b - 1) = vw l (b - 1 + p) := z
    rw [vw_lt (by omega), vw_lt (by omega)] at z
    omega
  · have z : vw l e = vw l (e - p) := z
    have en : e < l.length := en
    rw [vw_lt en, vw_lt (by omega)] at z
    omega
theorem due_not {l : List Nat} {b e p : Nat} (hb : b ≤ e) (hp : LP (fn (sub l b e)) (e - b) p) (c : ¬ 2 * p ≤ e - b ∨ (0 < b ∧ fn l (b - 1) = fn l (b - 1 + p)) ∨ (e < l.length ∧ fn l e = fn l (e - p))) : ∀ q, ¬ IsRun l (b, e, q) := fun q r => by
  have := lp_unique hp (run_lp r)
  subst this
  have h1 := r.two
  have h0 := r.pos
  have hle := r.le
  simp only at h1 h0 hle
  rcases c with c | ⟨c1, c2⟩ | ⟨c1, c2⟩
  · omega
  · have := r.left c1
    simp only at this
    rw [vw_lt (by omega), vw_lt (by omega)] at this
    omega
  · have := r.right c1
    simp only at this
    rw [vw_lt c1, vw_lt (by omega)] at this
    omega
theorem Due.add {l : List Nat} {b e p : Nat} {ks : List Tr} (D : Due l b e ks) (r : IsRun l (b, e, p)) : Due l b (e + 1) (ks ++ [(b, e, p)]) := by
  have hnew : (b, e, p) ∉ ks := fun z => by
    have := ((D.mem _).1 z).2
    simp only at this
    omega
  refine ⟨?_, fun q => ?_⟩
  · rw [List.nodup_append]
    exact ⟨D.nd, List.pairwise_singleton _ _, fun a ha b hb e => by
      rw [List.mem_singleton] at hb
      rw [e, hb] at ha
      exact hnew ha⟩
  · rw [List.mem_append, List.mem_singleton, D.mem]
    obtain ⟨b', e', p'⟩ := q
    constructor
    · rintro (⟨h1, h2⟩ | h1)
      · exact ⟨h1, by simp only at h2 ⊢; omega⟩
      · injection h1 with e1 e2
        injection e2 with e2 e3
        subst e1 e2 e3
        exact ⟨r, .inr ⟨rfl, by show e' < e' + 1; omega⟩⟩
    · rintro ⟨h1, h2⟩
      simp only at h2
      by_cases c : b' = b ∧ e' = e
      · obtain ⟨rfl, rfl⟩ := c
        have := lp_unique (run_lp h1) (run_lp r)
        subst this
        exact .inr rfl
      · exact .inl ⟨h1, by simp only; omega⟩
theorem Due.skip {l : List Nat} {b e : Nat} {ks : List Tr} (D : Due l b e ks) (no : ∀ p, ¬ IsRun l (b, e, p)) : Due l b (e + 1) ks := by
  refine ⟨D.nd, fun q => ?_⟩
  rw [D.mem]
  obtain ⟨b', e', p'⟩ := q
  constructor
  · rintro ⟨h1, h2⟩
    exact ⟨h1, by simp only at h2 ⊢; omega⟩
  · rintro ⟨h1, h2⟩
    simp only at h2
    by_cases c : b' = b ∧ e' = e
    · obtain ⟨rfl, rfl⟩ := c
      exact absurd h1 (no p')
    · exact ⟨h1, by simp only; omega⟩
/-- there are fewer than letters -/
theorem few {l : List Nat} {ks : List Tr} (nd : ks.Nodup) (h : ∀ r, r ∈ ks → IsRun l r) (h0 : 0 < l.length) : ks.length < l.length :=
  runs_few (vw_end l) ks nd h h0
theorem none_empty {l : List Nat} {ks : List Tr} (h : ∀ r, r ∈ ks → IsRun l r) (h0 : l.length = 0) : ks = [] := by
  cases ks with
  | nil => rfl
  | cons r ks =>
    have := h r (List.mem_cons_self ..)
    have h1 := this.two
    have h2 := this.pos
    have h3 := this.le
    omega
theorem few_le {l : List Nat} {ks : List Tr} (nd : ks.Nodup) (h : ∀ r, r ∈ ks → IsRun l r) : ks.length ≤ l.length := by
  by_cases h0 : l.length = 0
  · rw [none_empty h h0]
    exact Nat.zero_le _
  · exact Nat.le_of_lt (few nd h (by omega))
/-- the least period by the list of all -/
theorem per_iff {l : List Nat} {k : Nat} (hk : k ≤ l.length) : l.drop k = l.take (l.length - k) ↔ ∀ x, x + k < l.length → fn l x = fn l (x + k) := by
  constructor
  · intro h x hx
    have h1 : (l.drop k)[x]? = (l.take (l.length - k))[x]? := by rw [h]
    rw [List.getElem?_drop, List.getElem?_take, if_pos (by omega), Nat.add_comm] at h1
    unfold fn
    rw [List.getD_eq_getElem?_getD, List.getD_eq_getElem?_getD, h1]
  · intro h
    refine List.ext_getElem? fun x => ?_
    rw [List.getElem?_drop, List.getElem?_take]
    by_cases hx : x < l.length - k
    · rw [if_pos hx]
      have := h x (by omega)
      unfold fn at this
      rw [List.getD_eq_getElem?_getD, List.getD_eq_getElem?_getD, List.getElem?_eq_getElem (show x < l.length by omega), List.getElem?_eq_getElem (show x + k < l.length by omega)] at this
      rw [List.getElem?_eq_getElem (show x < l.length by omega), List.getElem?_eq_getElem (show k + x < l.length by omega)]
      simp only [Option.getD_some] at this
      simp only [Nat.add_comm k x]
      rw [this]
    · rw [if_neg hx, List.getElem?_eq_none (by omega)]
def pers (l : List Nat) : List Nat := (List.range' 1 l.length).filter fun k => decide (l.drop k = l.take (l.length - k))
theorem first_range {P : Nat → Bool} : ∀ (m s x : Nat), ((List.range' s m).filter P)[0]? = some x → P x = true ∧ s ≤ x ∧ x < s + m ∧ ∀ y, s ≤ y → y < x → P y = false
  | 0, s, x, h => by simp at h
  | m + 1, s, x, h => by
    rw [List.range'_succ] at h
    by_cases hs : P s = true
    · rw [List.filter_cons_of_pos hs] at h
      have : s = x := Option.some.inj h
      subst this
      exact ⟨hs, Nat.le_refl _, by omega, fun y h1 h2 => by omega⟩
    · rw [List.filter_cons_of_neg hs] at h
      obtain ⟨h1, h2, h3, h4⟩ := first_range m (s + 1) x h
      refine ⟨h1, by omega, by omega, fun y g1 g2 => ?_⟩
      by_cases e : y = s
      · rw [e]
        exact Bool.eq_false_iff.2 hs
      · exact h4 y (by omega) g2
theorem pers_first {l : List Nat} (h0 : 0 < l.length) : ∃ p, (pers l)[0]? = some p ∧ LP (fn l) l.length p := by
  have hm : l.length ∈ pers l := by
    unfold pers
    rw [List.mem_filter, List.mem_range'_1]
    refine ⟨by omega, decide_eq_true ?_⟩
    rw [List.drop_length, Nat.sub_self, List.take_zero]
  have hne : 0 < (pers l).length := List.length_pos_of_mem hm
  refine ⟨(pers l)[0], List.getElem?_eq_getElem hne, ?_⟩
  have h := first_range (P := fun k => decide (l.drop k = l.take (l.length - k))) l.length 1 ((pers l)[0]) (List.getElem?_eq_getElem hne)
  obtain ⟨h1, h2, h3, h4⟩ := h
  refine ⟨by omega, by omega, (per_iff (by omega)).1 (of_decide_eq_true h1), fun d d0 hd => ?_⟩
  by_cases g : d ≤ l.length
  · apply Nat.le_of_not_lt
    intro c
    have := h4 d (by omega) c
    exact of_decide_eq_false this ((per_iff g).2 hd)
  · omega
end KC
/-! KText -/
namespace KT
open PySem PySem.Spec PyProof.Rows L2
/-! ### the text -/
def topS (i : Nat) : Stmt := PySem.Challenge.pw_avoidwords_k02_whole_runs.main.body.getD i (.Pass ⟨0, 0, 0, 0⟩)
abbrev sIs : Stmt := topS 6
abbrev sNeed : Stmt := topS 7
abbrev sBord : Stmt := topS 8
abbrev sLeast : Stmt := topS 9
abbrev sRuns : Stmt := topS 10
abbrev sTaken : Stmt := topS 12
abbrev sAlike : Stmt := topS 13
abbrev sWord : Stmt := topS 14
abbrev sPers : Stmt := topS 15
abbrev sLaw : Stmt := topS 16
theorem scIs : FnScope ["value", "most", "sign"] ["value", "most"] (defScope sIs) := ⟨rfl, rfl, rfl, by decide +kernel, rfl, by decide +kernel, by decide +kernel⟩
theorem scNeed : FnScope ["value"] ["value"] (defScope sNeed) := ⟨rfl, rfl, rfl, by decide +kernel, rfl, by decide +kernel, by decide +kernel⟩
theorem scBord : FnScope ["word", "found", "at", "place"] ["word"] (defScope sBord) := ⟨rfl, rfl, rfl, by decide +kernel, rfl, by decide +kernel, by decide +kernel⟩
theorem scLeast : FnScope ["word"] ["word"] (defScope sLeast) := ⟨rfl, rfl, rfl, by decide +kernel, rfl, by decide +kernel, by decide +kernel⟩
theorem scRuns : FnScope ["word", "found", "half", "begin", "at"] ["word"] (defScope sRuns) := ⟨rfl, rfl, rfl, by decide +kernel, rfl, by decide +kernel, by decide +kernel⟩
theorem scTaken : FnScope ["_law_row", "_law_many", "_law_found", "_law_cell"] ["_law_row", "_law_many"] (defScope sTaken) := ⟨rfl, rfl, rfl, by decide +kernel, rfl, by decide +kernel, by decide +kernel⟩
theorem scAlike : FnScope ["_law_found", "_law_due", "_law_k"] ["_law_found", "_law_due"] (defScope sAlike) := ⟨rfl, rfl, rfl, by decide +kernel, rfl, by decide +kernel, by decide +kernel⟩
theorem scWord : FnScope ["_law_row", "_law_size", "_law_least", "_law_most", "_law_at"] ["_law_row", "_law_size", "_law_least", "_law_most"] (defScope sWord) := ⟨rfl, rfl, rfl, by decide +kernel, rfl, by decide +kernel, by decide +kernel⟩
theorem scPers : FnScope ["_law_word_here", "_law_part"] ["_law_word_here"] (defScope sPers) := ⟨rfl, rfl, rfl, by decide +kernel, rfl, by decide +kernel, by decide +kernel⟩
theorem scLaw : FnScope ["_law_script", "_law_row", "_law_word_here", "_law_due", "_law_begin", "_law_end", "_law_part", "_law_left", "_law_right"] ["_law_script"] (defScope sLaw) := ⟨rfl, rfl, rfl, by decide +kernel, rfl, by decide +kernel, by decide +kernel⟩
end KT
/-! KHead -/
namespace KT
open PySem PySem.Spec PyProof.Rows L2
/-- what the top has left -/
structure Txt (K : PySem.W.Frag) (mg : Str → Option Value) where
  fIs : Addr
  dIs : FuncData
  FIs : FunD K "is_word" "is_word" (defArgs sIs) (defBody sIs) (defScope sIs) [.int 200] [] fIs dIs
  gIs : mg "is_word" = some (.ref fIs)
  vIs : Value
  rIs : RelV (.int 200) vIs
  bIs : Binds K dIs ["value", "most"] [vIs]
  fNeed : Addr
  dNeed : FuncData
  FNeed : Fun K "need_word" "need_word" sNeed fNeed dNeed
  gNeed : mg "need_word" = some (.ref fNeed)
  bNeed : Binds K dNeed ["value"] []
  fBord : Addr
  dBord : FuncData
  FBord : Fun K "borders_of" "borders_of" sBord fBord dBord
  gBord : mg "borders_of" = some (.ref fBord)
  bBord : Binds K dBord ["word"] []
  fLeast : Addr
  dLeast : FuncData
  FLeast : Fun K "least_period" "least_period" sLeast fLeast dLeast
  gLeast : mg "least_period" = some (.ref fLeast)
  bLeast : Binds K dLeast ["word"] []
  fRuns : Addr
  dRuns : FuncData
  FRuns : Fun K "runs" "runs" sRuns fRuns dRuns
  gRuns : mg "runs" = some (.ref fRuns)
  bRuns : Binds K dRuns ["word"] []
  fTaken : Addr
  dTaken : FuncData
  FTaken : Fun K "_law_taken" "_law_taken" sTaken fTaken dTaken
  gTaken : mg "_law_taken" = some (.ref fTaken)
  bTaken : Binds K dTaken ["_law_row", "_law_many"] []
  fAlike : Addr
  dAlike : FuncData
  FAlike : Fun K "_law_alike" "_law_alike" sAlike fAlike dAlike
  gAlike : mg "_law_alike" = some (.ref fAlike)
  bAlike : Binds K dAlike ["_law_found", "_law_due"] []
  fWord : Addr
  dWord : FuncData
  FWord : Fun K "_law_word" "_law_word" sWord fWord dWord
  gWord : mg "_law_word" = some (.ref fWord)
  bWord : Binds K dWord ["_law_row", "_law_size", "_law_least", "_law_most"] []
  fPers : Addr
  dPers : FuncData
  FPers : Fun K "_law_periods" "_law_periods" sPers fPers dPers
  gPers : mg "_law_periods" = some (.ref fPers)
  bPers : Binds K dPers ["_law_word_here"] []
  fLaw : Addr
  dLaw : FuncData
  FLaw : Fun K "law" "law" sLaw fLaw dLaw
  gLaw : mg "law" = some (.ref fLaw)
  bLaw : Binds K dLaw ["_law_script"] []
  n_len : mg "len" = none
  n_isinstance : mg "isinstance" = none
  n_str : mg "str" = none
  n_all : mg "all" = none
  n_range : mg "range" = none
  n_sorted : mg "sorted" = none
  n_int : mg "int" = none
  n_tuple : mg "tuple" = none
  n_list : mg "list" = none
  n_bool : mg "bool" = none
  mL : ∃ u, mg "LETTERS" = some u ∧ RelV (.str "abcdefghijklmnopqrstuvwxyz") u
theorem txt_mk {K : PySem.W.Frag} {h : Heap} {mg : Str → Option Value} {fa : Addr} (X : K.In h) (G : h.Ns mainGlobals mg) (hfa : mg "law" = some (.ref fa))
    {f0 T : Addr} {od0 an0 odT : Option Addr} {sl0 slT : Array (Option Value)} {oc0 kV0 dc0 pm0 cd0 ct0 ocT : Value} {nT : Nat} {tT : Nat}
    (a0 : PySem.W.nsIn K mainGlobals "is_word" = some (some (.ref f0))) (l0 : K.lookup f0 = some ⟨oc0, od0, .func (PySem.W.fnOf "is_word" "is_word" (defArgs sIs) (defBody sIs) (defScope sIs) (.ref T) kV0 dc0 pm0 an0 cd0 ct0), sl0⟩) (c0 : PySem.W.codeIn K cd0 "is_word" = true) (k0 : PySem.W.keepIn K (.ref f0) = true)
    (lT : K.lookup T = some ⟨ocT, odT, .seq #[.int 200 tT] nT, slT⟩)
    {f1 : Addr} {od1 an1 : Option Addr} {sl1 : Array (Option Value)} {oc1 kV1 dc1 pm1 cd1 ct1 : Value} (a1 : PySem.W.nsIn K mainGlobals "need_word" = some (some (.ref f1))) (l1 : K.lookup f1 = some ⟨oc1, od1, .func (PySem.W.fnOf "need_word" "need_word" (defArgs sNeed) (defBody sNeed) (defScope sNeed) .none kV1 dc1 pm1 an1 cd1 ct1), sl1⟩) (c1 : PySem.W.codeIn K cd1 "need_word" = true) (k1 : PySem.W.keepIn K (.ref f1) = true)
    {f2 : Addr} {od2 an2 : Option Addr} {sl2 : Array (Option Value)} {oc2 kV2 dc2 pm2 cd2 ct2 : Value} (a2 : PySem.W.nsIn K mainGlobals "borders_of" = some (some (.ref f2))) (l2 : K.lookup f2 = some ⟨oc2, od2, .func (PySem.W.fnOf "borders_of" "borders_of" (defArgs sBord) (defBody sBord) (defScope sBord) .none kV2 dc2 pm2 an2 cd2 ct2), sl2⟩) (c2 : PySem.W.codeIn K cd2 "borders_of" = true) (k2 : PySem.W.keepIn K (.ref f2) = true)
    {f3 : Addr} {od3 an3 : Option Addr} {sl3 : Array (Option Value)} {oc3 kV3 dc3 pm3 cd3 ct3 : Value} (a3 : PySem.W.nsIn K mainGlobals "least_period" = some (some (.ref f3))) (l3 : K.lookup f3 = some ⟨oc3, od3, .func (PySem.W.fnOf "least_period" "least_period" (defArgs sLeast) (defBody sLeast) (defScope sLeast) .none kV3 dc3 pm3 an3 cd3 ct3), sl3⟩) (c3 : PySem.W.codeIn K cd3 "least_period" = true) (k3 : PySem.W.keepIn K (.ref f3) = true)
    {f4 : Addr} {od4 an4 : Option Addr} {sl4 : Array (Option Value)} {oc4 kV4 dc4 pm4 cd4 ct4 : Value} (a4 : PySem.W.nsIn K mainGlobals "runs" = some (some (.ref f4))) (l4 : K.lookup f4 = some ⟨oc4, od4, .func (PySem.W.fnOf "runs" "runs" (defArgs sRuns) (defBody sRuns) (defScope sRuns) .none kV4 dc4 pm4 an4 cd4 ct4), sl4⟩) (c4 : PySem.W.codeIn K cd4 "runs" = true) (k4 : PySem.W.keepIn K (.ref f4) = true)
    {f5 : Addr} {od5 an5 : Option Addr} {sl5 : Array (Option Value)} {oc5 kV5 dc5 pm5 cd5 ct5 : Value} (a5 : PySem.W.nsIn K mainGlobals "_law_taken" = some (some (.ref f5))) (l5 : K.lookup f5 = some ⟨oc5, od5, .func (PySem.W.fnOf "_law_taken" "_law_taken" (defArgs sTaken) (defBody sTaken) (defScope sTaken) .none kV5 dc5 pm5 an5 cd5 ct5), sl5⟩) (c5 : PySem.W.codeIn K cd5 "_law_taken" = true) (k5 : PySem.W.keepIn K (.ref f5) = true)
    {f6 : Addr} {od6 an6 : Option Addr} {sl6 : Array (Option Value)} {oc6 kV6 dc6 pm6 cd6 ct6 : Value} (a6 : PySem.W.nsIn K mainGlobals "_law_alike" = some (some (.ref f6))) (l6 : K.lookup f6 = some ⟨oc6, od6, .func (PySem.W.fnOf "_law_alike" "_law_alike" (defArgs sAlike) (defBody sAlike) (defScope sAlike) .none kV6 dc6 pm6 an6 cd6 ct6), sl6⟩) (c6 : PySem.W.codeIn K cd6 "_law_alike" = true) (k6 : PySem.W.keepIn K (.ref f6) = true)
    {f7 : Addr} {od7 an7 : Option Addr} {sl7 : Array (Option Value)} {oc7 kV7 dc7 pm7 cd7 ct7 : Value} (a7 : PySem.W.nsIn K mainGlobals "_law_word" = some (some (.ref f7))) (l7 : K.lookup f7 = some ⟨oc7, od7, .func (PySem.W.fnOf "_law_word" "_law_word" (defArgs sWord) (defBody sWord) (defScope sWord) .none kV7 dc7 pm7 an7 cd7 ct7), sl7⟩) (c7 : PySem.W.codeIn K cd7 "_law_word" = true) (k7 : PySem.W.keepIn K (.ref f7) = true)
    {f8 : Addr} {od8 an8 : Option Addr} {sl8 : Array (Option Value)} {oc8 kV8 dc8 pm8 cd8 ct8 : Value} (a8 : PySem.W.nsIn K mainGlobals "_law_periods" = some (some (.ref f8))) (l8 : K.lookup f8 = some ⟨oc8, od8, .func (PySem.W.fnOf "_law_periods" "_law_periods" (defArgs sPers) (defBody sPers) (defScope sPers) .none kV8 dc8 pm8 an8 cd8 ct8), sl8⟩) (c8 : PySem.W.codeIn K cd8 "_law_periods" = true) (k8 : PySem.W.keepIn K (.ref f8) = true)
    {f9 : Addr} {od9 an9 : Option Addr} {sl9 : Array (Option Value)} {oc9 kV9 dc9 pm9 cd9 ct9 : Value} (a9 : PySem.W.nsIn K mainGlobals "law" = some (some (.ref f9))) (l9 : K.lookup f9 = some ⟨oc9, od9, .func (PySem.W.fnOf "law" "law" (defArgs sLaw) (defBody sLaw) (defScope sLaw) .none kV9 dc9 pm9 an9 cd9 ct9), sl9⟩) (c9 : PySem.W.codeIn K cd9 "law" = true) (k9 : PySem.W.keepIn K (.ref f9) = true)
    (z0 : PySem.W.nsIn K mainGlobals "len" = some none)
    (z1 : PySem.W.nsIn K mainGlobals "isinstance" = some none)
    (z2 : PySem.W.nsIn K mainGlobals "str" = some none)
    (z3 : PySem.W.nsIn K mainGlobals "all" = some none)
    (z4 : PySem.W.nsIn K mainGlobals "range" = some none)
    (z5 : PySem.W.nsIn K mainGlobals "sorted" = some none)
    (z6 : PySem.W.nsIn K mainGlobals "int" = some none)
    (z7 : PySem.W.nsIn K mainGlobals "tuple" = some none)
    (z8 : PySem.W.nsIn K mainGlobals "list" = some none)
    (z9 : PySem.W.nsIn K mainGlobals "bool" = some none)
    {uL : Value} (zL : PySem.W.nsIn K mainGlobals "LETTERS" = some (some uL)) (rL : RelV (.str "abcdefghijklmnopqrstuvwxyz") uL) :
    ∃ T : Txt K mg, T.fLaw = fa ∧ ∀ (s : Shared) (v : Value), BindsTo s T.dLaw ⟨[v], []⟩ [("_law_script", v)] := by
  have e := hfa.symm.trans (PySem.W.mg_of X G a9)
  cases e
  have F0 : FunD K "is_word" "is_word" (defArgs sIs) (defBody sIs) (defScope sIs) [.int 200] [] f0 (PySem.W.fnOf "is_word" "is_word" (defArgs sIs) (defBody sIs) (defScope sIs) (.ref T) kV0 dc0 pm0 an0 cd0 ct0) := ⟨⟨oc0, od0, .ref T, kV0, dc0, pm0, an0, cd0, ct0, sl0, rfl, l0, c0, .inr ⟨(fun z => by cases z), T, _, [.int 200 tT], nT, rfl, lT, rfl, .cons ⟨tT, rfl⟩ .nil⟩, .inl rfl⟩, k0⟩
  obtain ⟨ds, rd, bd⟩ := F0.binds1 (ps := ["value", "most"]) 1 0 (by intro z; cases z) rfl (fun T kV doc pm an cdv ct us its hu hi => match us, its, hu, hi with | [_], [_], _, _ => ⟨_, rfl, rfl⟩)
  obtain ⟨v0, ed, rv⟩ : ∃ v0, ds = [v0] ∧ RelV (.int 200) v0 := by
    cases rd with
    | cons r t =>
      cases t
      exact ⟨_, rfl, r⟩
  subst ed
  have F1 := fun_mk (st := sNeed) l1 c1 k1
  have b1 := F1.binds (ps := ["value"]) fun _ _ _ _ _ _ us hl => match us, hl with | [_], _ => rfl
  have F2 := fun_mk (st := sBord) l2 c2 k2
  have b2 := F2.binds (ps := ["word"]) fun _ _ _ _ _ _ us hl => match us, hl with | [_], _ => rfl
  have F3 := fun_mk (st := sLeast) l3 c3 k3
  have b3 := F3.binds (ps := ["word"]) fun _ _ _ _ _ _ us hl => match us, hl with | [_], _ => rfl
  have F4 := fun_mk (st := sRuns) l4 c4 k4
  have b4 := F4.binds (ps := ["word"]) fun _ _ _ _ _ _ us hl => match us, hl with | [_], _ => rfl
  have F5 := fun_mk (st := sTaken) l5 c5 k5
  have b5 := F5.binds (ps := ["_law_row", "_law_many"]) fun _ _ _ _ _ _ us hl => match us, hl with | [_, _], _ => rfl
  have F6 := fun_mk (st := sAlike) l6 c6 k6
  have b6 := F6.binds (ps := ["_law_found", "_law_due"]) fun _ _ _ _ _ _ us hl => match us, hl with | [_, _], _ => rfl
  have F7 := fun_mk (st := sWord) l7 c7 k7
  have b7 := F7.binds (ps := ["_law_row", "_law_size", "_law_least", "_law_most"]) fun _ _ _ _ _ _ us hl => match us, hl with | [_, _, _, _], _ => rfl
  have F8 := fun_mk (st := sPers) l8 c8 k8
  have b8 := F8.binds (ps := ["_law_word_here"]) fun _ _ _ _ _ _ us hl => match us, hl with | [_], _ => rfl
  have F9 := fun_mk (st := sLaw) l9 c9 k9
  have b9 := F9.binds (ps := ["_law_script"]) fun _ _ _ _ _ _ us hl => match us, hl with | [_], _ => rfl
  exact ⟨{ fIs := f0, dIs := _, FIs := F0, gIs := PySem.W.mg_of X G a0, vIs := v0, rIs := rv, bIs := bd, fNeed := f1, dNeed := _, FNeed := F1, gNeed := PySem.W.mg_of X G a1, bNeed := b1, fBord := f2, dBord := _, FBord := F2, gBord := PySem.W.mg_of X G a2, bBord := b2, fLeast := f3, dLeast := _, FLeast := F3, gLeast := PySem.W.mg_of X G a3, bLeast := b3, fRuns := f4, dRuns := _, FRuns := F4, gRuns := PySem.W.mg_of X G a4, bRuns := b4, fTaken := f5, dTaken := _, FTaken := F5, gTaken := PySem.W.mg_of X G a5, bTaken := b5, fAlike := f6, dAlike := _, FAlike := F6, gAlike := PySem.W.mg_of X G a6, bAlike := b6, fWord := f7, dWord := _, FWord := F7, gWord := PySem.W.mg_of X G a7, bWord := b7, fPers := f8, dPers := _, FPers := F8, gPers := PySem.W.mg_of X G a8, bPers := b8, fLaw := fa, dLaw := _, FLaw := F9, gLaw := PySem.W.mg_of X G a9, bLaw := b9, n_len := PySem.W.mg_none_of X G z0, n_isinstance := PySem.W.mg_none_of X G z1, n_str := PySem.W.mg_none_of X G z2, n_all := PySem.W.mg_none_of X G z3, n_range := PySem.W.mg_none_of X G z4, n_sorted := PySem.W.mg_none_of X G z5, n_int := PySem.W.mg_none_of X G z6, n_tuple := PySem.W.mg_none_of X G z7, n_list := PySem.W.mg_none_of X G z8, n_bool := PySem.W.mg_none_of X G z9, mL := ⟨_, PySem.W.mg_of X G zL, rL⟩ }, rfl, fun s v => .of_eq rfl⟩
end KT
/-! KTaken -/
namespace KT
open PySem PySem.Spec PyProof.Rows L2
theorem sql_upd {K : PySem.W.Frag} {H : Hp} {a r : Addr} {xs ys : List V} {o : HO} (h : SqL K H a xs) (hr : H r = some (.lst ys)) (hne : xs ≠ ys) : SqL K (upd H r o) a xs := by
  rcases h with (h | ⟨u, h⟩) | h
  · have n : a ≠ r := ne_of h hr (fun e => hne (HO.lst.inj e))
    exact .inl (.inl (by rw [upd_ne n]; exact h))
  · have n : a ≠ r := ne_of h hr (fun e => by cases e)
    exact .inl (.inr ⟨u, by rw [upd_ne n]; exact h⟩)
  · exact .inr h
theorem script_ne {ns : List Int} {a : Addr} {xs : List V} : ns.map V.int ≠ .ref a :: xs := by
  intro e
  cases ns with
  | nil => cases e
  | cons n ns => cases e
/-- the row at r: the script at a, the place, the mixed number, the rest -/
def rowL (a : Addr) (i n m : Int) : HO := .lst [.ref a, .int i, .int n, .int m]
structure Row (K : PySem.W.Frag) (H : Hp) (r a : Addr) (ns : List Int) (i n m : Int) : Prop where
  at_ : H r = some (rowL a i n m)
  sc : SqL K H a (ns.map V.int)
  len : ns.length ≤ 63
  i0 : 0 ≤ i
  n0 : 0 ≤ n
  n1 : n < 2147483647
theorem Row.sq {K : PySem.W.Frag} {H : Hp} {r a : Addr} {ns : List Int} {i n m : Int} (R : Row K H r a ns i n m) : SqL K H r [.ref a, .int i, .int n, .int m] := .inl (.inl R.at_)
theorem Row.set {K : PySem.W.Frag} {H : Hp} {r a : Addr} {ns : List Int} {i n m i' n' m' : Int} (R : Row K H r a ns i n m) (h1 : 0 ≤ i') (h2 : 0 ≤ n') (h3 : n' < 2147483647) : Row K (upd H r (rowL a i' n' m')) r a ns i' n' m' :=
  ⟨upd_same, sql_upd R.sc R.at_ script_ne, R.len, h1, h2, h3⟩
def spTaken (K : PySem.W.Frag) : Sp := fun vs H Q _ => ∃ (r a : Addr) (ns : List Int) (i n m k : Int), vs = [.ref r, .int k] ∧ Row K H r a ns i n m ∧ 1 ≤ k ∧ k ≤ 1000 ∧
  ∀ i' n' m' v, 0 ≤ v → v < k → Row K (upd H r (rowL a i' n' m')) r a ns i' n' m' → Q (.int v) (upd H r (rowL a i' n' m'))
variable {P : Program} {w : World} {K : PySem.W.Frag} {mg : Str → Option Value} {base : Heap}
theorem ok_taken (T : Txt K mg) : FnOk P w K mg base CX0 1 T.fTaken T.dTaken ["_law_row", "_law_many"] (spTaken K) := by
  refine T.FTaken.ok scTaken (fun vs H Q E h => ?_) (fun cdv A outer s H vs Q E hr h => ?_)
  · obtain ⟨r, a, ns, i, n, m, k, rfl, _⟩ := h
    rfl
  · obtain ⟨r, a, ns, i, n, m, k, rfl, R, k1, k2, q⟩ := h
    have k0 : 0 < k := by omega
    have kd : k < 1073741824 := by omega
    refine ⟨_, pss_cons (ps_if (pt_cmpR op_gt (pe_ix ix_list (pv 0) pe_int (fun _ _ => rfl)) pe_int (nomark _))
        (pss_cons (ps_set (i := 2) scTaken.nd rfl (.inl rfl) (pe_op op_mod (pe_callTy call_int1 (by rfl) T.n_int (by decide +kernel) (pa_cons (pe_ix ix_list (pv 0) pe_int (fun _ _ => rfl)) pa_nil)) (pv 1)))
        (pss_cons (ps_asg (pe_op op_fdiv (pe_ix ix_list (pv 0) pe_int (fun _ _ => rfl)) (pv 1)) (pg_sub (pv 0) pe_int set_list))
        (pss_one (ps_ret (pv 2))))) pss_nil)
      (pss_cons (ps_asg (pe_op op_add (pe_ix ix_list (pv 0) pe_int (fun _ _ => rfl)) pe_int) (pg_sub (pv 0) pe_int set_list))
      (pss_cons (ps_if (pt_cmpR op_gt (pe_ix ix_list (pv 0) pe_int (fun _ _ => rfl)) (pe_callB call_len_seq (by rfl) T.n_len PySem.boot_len (pa_cons (pe_ix ix_list (pv 0) pe_int (fun _ _ => rfl)) pa_nil)) (nomark _))
        (pss_cons (ps_asg (pe_op op_mod (pe_callTy call_int1 (by rfl) T.n_int (by decide +kernel) (pa_cons (pe_op op_add (pe_op op_mul (pe_ix ix_list (pv 0) pe_int (fun _ _ => rfl)) pe_int) pe_int) pa_nil)) pe_int) (pg_sub (pv 0) pe_int set_list))
        (pss_one (ps_ret (pe_op op_mod (pe_callTy call_int1 (by rfl) T.n_int (by decide +kernel) (pa_cons (pe_op op_fdiv (pe_ix ix_list (pv 0) pe_int (fun _ _ => rfl)) pe_int) pa_nil)) (pv 1))))) pss_nil)
      (pss_cons (ps_set (i := 3) scTaken.nd rfl (.inl rfl) (pe_ix ix_list (pe_ix ix_list (pv 0) pe_int (fun _ _ => rfl)) (pe_op op_sub (pe_ix ix_list (pv 0) pe_int (fun _ _ => rfl)) pe_int) (fun _ _ => rfl)))
      (pss_cons (ps_asg (pe_op op_mod (pe_callTy call_int1 (by rfl) T.n_int (by decide +kernel) (pa_cons (pe_op op_add (pe_op op_add (pe_op op_mul (pe_ix ix_list (pv 0) pe_int (fun _ _ => rfl)) pe_int) (pv 3)) pe_int) pa_nil)) pe_int) (pg_sub (pv 0) pe_int set_list))
      (pss_cons (ps_if (pt_cmpR op_ge (pv 3) (pe_op op_pow pe_int pe_int) (nomark _))
        (pss_one (ps_asg (pe_op op_fdiv (pv 3) (pv 1)) (pg_sub (pv 0) pe_int set_list))) pss_nil)
      (pss_one (ps_ret (pe_op op_mod (pe_callTy call_int1 (by rfl) T.n_int (by decide +kernel) (pa_cons (pv 3) pa_nil)) (pv 1))))))))), ?_⟩
    -- if row[3] > 0
    refine ⟨.ref r, rfl, r, _, 3, .int m, rfl, rfl, R.sq, atI_nat (j := 3) rfl, m, 0, rfl, rfl, _, rfl, ite2 (fun e => ?_) (fun e => ?_)⟩
    · refine ⟨.ref r, rfl, r, _, 3, .int m, rfl, rfl, R.sq, atI_nat (j := 3) rfl, .inl ⟨m, rfl, .int k, rfl, m, k, rfl, rfl, k0, ?_⟩⟩
      refine ⟨.ref r, rfl, r, _, 3, .int m, rfl, rfl, R.sq, atI_nat (j := 3) rfl, .int k, rfl, m, k, rfl, rfl, ⟨k0, kd⟩, ?_⟩
      refine ⟨.ref r, rfl, r, _, 3, 3, rfl, rfl, R.at_, rfl, ?_⟩
      refine ⟨_, rfl, ?_⟩
      have R1 : Row K (upd H r (rowL a i n (m / k))) r a ns i n (m / k) := R.set R.i0 R.n0 R.n1
      exact q i n (m / k) (m % k) (Int.emod_nonneg _ (by omega)) (Int.emod_lt_of_pos _ k0) R1
    · -- row[1] = row[1] + 1
      refine ⟨.ref r, rfl, r, _, 1, .int i, rfl, rfl, R.sq, atI_nat (j := 1) rfl, i, 1, rfl, rfl, ?_⟩
      refine ⟨.ref r, rfl, r, _, 1, 1, rfl, rfl, R.at_, rfl, ?_⟩
      have R1 : Row K (upd H r (rowL a (i + 1) n m)) r a ns (i + 1) n m := R.set (by have := R.i0; omega) R.n0 R.n1
      show _
      -- if row[1] > len(row[0])
      refine ⟨.ref r, rfl, r, _, 1, .int (i + 1), rfl, rfl, R1.sq, atI_nat (j := 1) rfl, .ref r, rfl, r, _, 0, .ref a, rfl, rfl, R1.sq, atI_nat (j := 0) rfl, a, ns.map V.int, rfl, .inl R1.sc, i + 1, ((ns.map V.int).length : Int), rfl, rfl, _, rfl, ite2 (fun e2 => ?_) (fun e2 => ?_)⟩
      · -- row[2] = int(row[2] * 48271 + 11) % 2147483647
        refine ⟨.ref r, rfl, r, _, 2, .int n, rfl, rfl, R1.sq, atI_nat (j := 2) rfl, n, 48271, rfl, rfl, .inr ⟨by decide, by decide⟩, n * 48271, 11, rfl, rfl, .inl ⟨_, rfl, n * 48271 + 11, 2147483647, rfl, rfl, (show (0 : Int) < 2147483647 by decide), ?_⟩⟩
        refine ⟨.ref r, rfl, r, _, 2, 2, rfl, rfl, R1.at_, rfl, ?_⟩
        have R2 : Row K (upd (upd H r (rowL a (i + 1) n m)) r (rowL a (i + 1) ((n * 48271 + 11) % 2147483647) m)) r a ns (i + 1) ((n * 48271 + 11) % 2147483647) m :=
          R1.set R1.i0 (Int.emod_nonneg _ (by decide)) (Int.emod_lt_of_pos _ (by decide))
        refine ⟨.ref r, rfl, r, _, 2, .int ((n * 48271 + 11) % 2147483647), rfl, rfl, R2.sq, atI_nat (j := 2) rfl, _, 7, rfl, rfl, ⟨by decide, by decide⟩, .inl ⟨_, rfl, .int k, rfl, _, k, rfl, rfl, k0, ?_⟩⟩
        rw [upd_upd] at R2
        have hq := q _ _ _ ((n * 48271 + 11) % 2147483647 / 7 % k) (Int.emod_nonneg _ (by omega)) (Int.emod_lt_of_pos _ k0) R2
        rw [← upd_upd (o := rowL a (i + 1) n m)] at hq
        exact hq
      · -- cell = row[0][row[1] - 1]
        have e3 : ¬ ((ns.length : Int) < i + 1) := fun z => e2 (decide_eq_true (by rw [List.length_map]; exact z))
        have i0 := R.i0
        have hi : i.toNat < ns.length := by omega
        have g : (ns.map V.int)[i.toNat]? = some (.int ns[i.toNat]) := by
          rw [List.getElem?_map, List.getElem?_eq_getElem hi]
          rfl
        generalize ns[i.toNat] = c at g
        refine ⟨.ref r, rfl, r, _, 0, .ref a, rfl, rfl, R1.sq, atI_nat (j := 0) rfl, .ref r, rfl, r, _, 1, .int (i + 1), rfl, rfl, R1.sq, atI_nat (j := 1) rfl, i + 1, 1, rfl, rfl, a, _, i + 1 - 1, .int c, rfl, rfl, R1.sc, at_of (j := i.toNat) (by omega) g, ?_⟩
        -- row[2] = int(row[2] * 48271 + cell + 11) % 2147483647
        refine ⟨.ref r, rfl, r, _, 2, .int n, rfl, rfl, R1.sq, atI_nat (j := 2) rfl, n, 48271, rfl, rfl, .inr ⟨by decide, by decide⟩, .int c, rfl, n * 48271, c, rfl, rfl, n * 48271 + c, 11, rfl, rfl, .inl ⟨_, rfl, n * 48271 + c + 11, 2147483647, rfl, rfl, (show (0 : Int) < 2147483647 by decide), ?_⟩⟩
        refine ⟨.ref r, rfl, r, _, 2, 2, rfl, rfl, R1.at_, rfl, ?_⟩
        have R2 : Row K (upd (upd H r (rowL a (i + 1) n m)) r (rowL a (i + 1) ((n * 48271 + c + 11) % 2147483647) m)) r a ns (i + 1) ((n * 48271 + c + 11) % 2147483647) m :=
          R1.set R1.i0 (Int.emod_nonneg _ (by decide)) (Int.emod_lt_of_pos _ (by decide))
        -- if cell >= 10 ** 18
        refine ⟨.int c, rfl, 10, 18, rfl, rfl, ⟨by decide, by decide, by decide⟩, c, _, rfl, rfl, _, rfl, ite2 (fun e4 => ?_) (fun e4 => ?_)⟩
        · refine ⟨.int c, rfl, .int k, rfl, c, k, rfl, rfl, ⟨k0, kd⟩, ?_⟩
          refine ⟨.ref r, rfl, r, _, 3, 3, rfl, rfl, R2.at_, rfl, ?_⟩
          refine ⟨.int c, rfl, .inl ⟨c, rfl, .int k, rfl, c, k, rfl, rfl, k0, ?_⟩⟩
          have R3 : Row K _ r a ns (i + 1) ((n * 48271 + c + 11) % 2147483647) (c / k) := R2.set (m' := c / k) R2.i0 R2.n0 R2.n1
          rw [upd_upd, upd_upd] at R3
          have hq := q _ _ _ (c % k) (Int.emod_nonneg _ (by omega)) (Int.emod_lt_of_pos _ k0) R3
          rw [← upd_upd (o := rowL a (i + 1) n m), ← upd_upd (H := upd H r (rowL a (i + 1) n m)) (o := rowL a (i + 1) ((n * 48271 + c + 11) % 2147483647) m)] at hq
          exact hq
        · refine ⟨.int c, rfl, .inl ⟨c, rfl, .int k, rfl, c, k, rfl, rfl, k0, ?_⟩⟩
          rw [upd_upd] at R2
          have hq := q _ _ _ (c % k) (Int.emod_nonneg _ (by omega)) (Int.emod_lt_of_pos _ k0) R2
          rw [← upd_upd (o := rowL a (i + 1) n m)] at hq
          exact hq
end KT
/-! KWord -/
namespace KT
open PySem PySem.Spec PyProof.Rows L2
/-- text of codes -/
abbrev S (l : List Nat) : Str := ⟨l.toArray⟩
theorem S_join_ones : ∀ l : List Nat, Txt.join (S []) (l.map fun c => S [c]) = S l := by
  intro l
  have e : (l.map fun c => S [c]) = (l.map fun c => [c]).map SX.S := by
    rw [List.map_map]
    rfl
  rw [e]
  show Txt.join (SX.S []) _ = _
  rw [SX.join_S]
  show SX.S _ = SX.S l
  congr 1
  induction l with
  | nil => rfl
  | cons c l ih =>
    cases l with
    | nil => rfl
    | cons d l =>
      show [c] ++ ([] ++ TL.joinL [] ((d :: l).map fun c => [c])) = c :: d :: l
      rw [ih (by rw [List.map_map]; rfl)]
      rfl
/-- only the row at r is changed -/
def But (r : Addr) (H H' : Hp) : Prop := ∀ b o, b ≠ r → H b = some o → H' b = some o
theorem But.refl (r : Addr) (H : Hp) : But r H H := fun _ _ _ h => h
theorem But.trans {r : Addr} {H H1 H2 : Hp} (a : But r H H1) (b : But r H1 H2) : But r H H2 := fun c o h e => b c o h (a c o h e)
theorem But.put {r : Addr} {H : Hp} {o : HO} : But r H (upd H r o) := fun b u h e => by rw [upd_ne h]; exact e
theorem But.new {r p : Addr} {H : Hp} {o : HO} (h : H p = none) : But r H (upd H p o) := fun b u _ e => by rw [upd_ne (ne_of_none e h)]; exact e
theorem But.at_ {r p : Addr} {H H' : Hp} {o : HO} (h : But r H H') (e : H p = none) : But r H (upd H' p o) := fun b u n q => by rw [upd_ne (ne_of_none q e)]; exact h b u n q
theorem But.seq {K : PySem.W.Frag} {r a : Addr} {H H' : Hp} {xs : List V} (B : But r H H') (n : a ≠ r) (h : SqL K H a xs) : SqL K H' a xs := by
  rcases h with (h | ⟨o, h⟩) | h
  · exact .inl (.inl (B _ _ n h))
  · exact .inl (.inr ⟨o, B _ _ n h⟩)
  · exact .inr h
def Abc (l : List Nat) : Prop := ∀ c ∈ l, 97 ≤ c ∧ c ≤ 102
def spWord (K : PySem.W.Frag) : Sp := fun vs H Q _ => ∃ (r a : Addr) (ns : List Int) (i n m k lo hi : Int), vs = [.ref r, .int k, .int lo, .int hi] ∧ Row K H r a ns i n m ∧ 1 ≤ k ∧ k ≤ 6 ∧ 0 ≤ lo ∧ lo ≤ hi ∧ hi ≤ 100 ∧
  ∀ H' i' n' m' l, Abc l → (l.length : Int) ≤ hi → Row K H' r a ns i' n' m' → But r H H' → Q (.str (S l)) H'
theorem abcdef_at {v : Int} (h0 : 0 ≤ v) (h1 : v < 6) : (PySem.Str.ofString "abcdef").cps[v.toNat]? = some (97 + v.toNat) := by
  have : v = 0 ∨ v = 1 ∨ v = 2 ∨ v = 3 ∨ v = 4 ∨ v = 5 := by omega
  rcases this with rfl | rfl | rfl | rfl | rfl | rfl <;> decide +kernel
theorem Row.but {K : PySem.W.Frag} {H H' : Hp} {r a : Addr} {ns : List Int} {i n m i' n' m' : Int} (R : Row K H r a ns i n m) (B : But r H H') (e : H' r = some (rowL a i' n' m')) (h1 : 0 ≤ i') (h2 : 0 ≤ n') (h3 : n' < 2147483647) : Row K H' r a ns i' n' m' := by
  refine ⟨e, ?_, R.len, h1, h2, h3⟩
  rcases R.sc with (h | ⟨u, h⟩) | h
  · have n : a ≠ r := ne_of h R.at_ (fun e => script_ne (HO.lst.inj e))
    exact .inl (.inl (B _ _ n h))
  · have n : a ≠ r := ne_of h R.at_ (fun e => by cases e)
    exact .inl (.inr ⟨u, B _ _ n h⟩)
  · exact .inr h
variable {P : Program} {w : World} {K : PySem.W.Frag} {mg : Str → Option Value} {base : Heap}
theorem ok_word (T : Txt K mg) : FnOk P w K mg base CX0 2 T.fWord T.dWord ["_law_row", "_law_size", "_law_least", "_law_most"] (spWord K) := by
  have GT : FnOk P w K mg base CX0 1 T.fTaken T.dTaken ["_law_row", "_law_many"] (spTaken K) := ok_taken T
  refine T.FWord.ok scWord (fun vs H Q E h => ?_) (fun cdv A outer s H vs Q E hr h => ?_)
  · obtain ⟨r, a, ns, i, n, m, k, lo, hi, rfl, _⟩ := h
    rfl
  · obtain ⟨r, a, ns, i, n, m, k, lo, hi, rfl, R, k1, k2, l0, lh, h100, q⟩ := h
    refine ⟨_, pss_one (ps_ret (pe_join pe_str (pe_lc (own := [("_law_at", 4)]) (g := gName 4) (tt := tYes) rfl scWord.nd
        (pi_range1 (by rfl) T.n_range (pa_cons (pe_op op_add (pv 2) (pe_call GT hr (by rfl) T.gTaken T.FTaken.kp T.bTaken .nil pass0 (pa_cons (pv 0) (pa_cons (pe_op op_add (pe_op op_sub (pv 3) (pv 2)) pe_int) pa_nil)))) pa_nil))
        (blkOk_by (N := ["_law_row", "_law_size", "_law_least", "_law_most", "_law_at"]) (sc := defScope sWord) (by decide +kernel))
        (fun _ _ _ _ _ => pg_name (i := 4) scWord.nd rfl (.inl rfl)) (fun _ _ _ _ _ => pts_nil)
        (fun _ _ _ _ _ => pe_item_str pe_str (pe_call GT hr (by rfl) T.gTaken T.FTaken.kp T.bTaken .nil pass0 (pa_cons (pv 0) (pa_cons (pv 1) pa_nil))) (fun _ _ => rfl))))), ?_⟩
    refine ⟨⟨_, rfl⟩, .int lo, rfl, .ref r, rfl, .int hi, rfl, .int lo, rfl, hi, lo, rfl, rfl, _, 1, rfl, rfl, r, a, ns, i, n, m, hi - lo + 1, rfl, R, by omega, by omega, fun i1 n1 m1 v v0 v1 R1 => ?_⟩
    refine ⟨lo, v, rfl, rfl, lo + v, rfl, by omega, by omega, fun D hD => ?_⟩
    have B1 : But r H (upd H r (rowL a i1 n1 m1)) := But.put
    have nD : D ≠ r := fun e => by
      rw [e, upd_same] at hD
      cases hD
    refine lc_range (lo := 0) (n := (lo + v).toNat) (fun i H' => ∃ i' n' m' l, Row K H' r a ns i' n' m' ∧ But r H H' ∧ H' D = some (.lst ((l.map fun c => S [c]).map V.str)) ∧ l.length = i ∧ Abc l) ?_ (fun j H2 hj hP => ?_) (fun H2 hP => ?_)
    · have B2 := B1.trans (But.new (r := r) (o := .lst []) hD)
      exact ⟨i1, n1, m1, [], R.but B2 (by rw [upd_ne nD.symm, upd_same]) R1.i0 R1.n0 R1.n1, B2, upd_same, rfl, fun c hc => by cases hc⟩
    · obtain ⟨i', n', m', l, R2, B2, eD, hl, hA⟩ := hP
      refine ⟨rfl, ?_⟩
      refine ⟨.ref r, rfl, .int k, rfl, r, a, ns, i', n', m', k, rfl, R2, k1, by omega, fun i3 n3 m3 v' v0' v1' R3 => ?_⟩
      refine ⟨_, v', 97 + v'.toNat, rfl, rfl, v0', by omega, ?_, abcdef_at v0' (by omega), ?_⟩
      · show v' < ((PySem.Str.ofString "abcdef").length : Int)
        have : (PySem.Str.ofString "abcdef").length = 6 := by decide +kernel
        rw [this]
        omega
      · refine ⟨_, by rw [upd_ne nD]; exact eD, ?_, ?_⟩
        · rw [List.length_map, List.length_map, hl]
          exact small1000 (by omega)
        · have B3 : But r H (upd (upd H2 r (rowL a i3 n3 m3)) D (.lst ((l.map fun c => S [c]).map V.str ++ [.str ⟨#[97 + v'.toNat]⟩]))) := by
            intro b o nb e
            have : b ≠ D := fun z => by
              rw [z] at e
              rw [upd_ne nD, e] at hD
              cases hD
            rw [upd_ne this, upd_ne nb]
            exact B2 b o nb e
          refine ⟨i3, n3, m3, l ++ [97 + v'.toNat], R.but B3 (by rw [upd_ne nD.symm, upd_same]) R3.i0 R3.n0 R3.n1, B3, ?_, by rw [List.length_append, hl]; rfl, ?_⟩
          · rw [upd_same, List.map_append, List.map_append]
            rfl
          · intro c hc
            rcases List.mem_append.1 hc with h | h
            · exact hA c h
            · rw [List.mem_singleton] at h
              omega
    · obtain ⟨i', n', m', l, R2, B2, eD, hl, hA⟩ := hP
      refine ⟨_, D, l.map fun c => S [c], rfl, rfl, .inl (.inl (.inl eD)), ?_, ?_⟩
      · have e1 : (l.map fun c => S [c]).map (·.length) = List.replicate l.length 1 := by
          rw [List.map_map]
          exact List.map_eq_replicate_iff.2 fun c _ => rfl
        rw [e1, List.sum_replicate_nat, List.length_map, hl]
        have : (PySem.Str.ofString "").length = 0 := by decide +kernel
        rw [this]
        omega
      · have e2 : Txt.join (PySem.Str.ofString "") (l.map fun c => S [c]) = S l := S_join_ones l
        show Q (.str (Txt.join (PySem.Str.ofString "") (l.map fun c => S [c]))) H2
        rw [e2]
        exact q H2 i' n' m' l hA (by omega) R2 B2
end KT
/-! KIs -/
namespace KT
open PySem PySem.Spec PyProof.Rows L2
/-- a word: at most 22 of the first six letters -/
structure Wd (l : List Nat) : Prop where
  abc : Abc l
  len : l.length ≤ 22
theorem same_new {H : Hp} {p : Addr} {o : HO} (h : H p = none) : Same H (upd H p o) := fun b u e => by rw [upd_ne (ne_of_none e h)]; exact e
def spIs : Sp := fun vs H Q _ => ∃ l : List Nat, vs = [.str (S l), .int 200] ∧ Wd l ∧ ∀ H', Same H H' → Q (.bl true) H'
theorem letters_in {c : Nat} (h : 97 ≤ c ∧ c ≤ 102) : c ∈ (PySem.Str.ofString "abcdefghijklmnopqrstuvwxyz").cps.toList := by
  have : c = 97 ∨ c = 98 ∨ c = 99 ∨ c = 100 ∨ c = 101 ∨ c = 102 := by omega
  rcases this with rfl | rfl | rfl | rfl | rfl | rfl <;> decide +kernel
variable {P : Program} {w : World} {K : PySem.W.Frag} {mg : Str → Option Value} {base : Heap}
theorem S_len (l : List Nat) : (S l).length = l.length := by
  show l.toArray.size = l.length
  rw [List.size_toArray]
theorem ok_is (T : Txt K mg) : FnOk P w K mg base CX0 1 T.fIs T.dIs ["value", "most"] spIs := by
  obtain ⟨uL, gL, rL⟩ := T.mL
  refine T.FIs.ok scIs (fun vs H Q E h => ?_) (fun cdv A outer s H vs Q E hr h => ?_)
  · obtain ⟨l, rfl, _⟩ := h
    rfl
  · obtain ⟨l, rfl, W, q⟩ := h
    refine ⟨_, pss_one (ps_ret (pe_and (pe_callB call_isi (by rfl) T.n_isinstance (by decide +kernel) (pa_cons (pv 0) (pa_cons (pe_bltn (v := .ty "str") (by rfl) T.n_str (by decide +kernel) rfl) pa_nil)))
      (pe_and (pe_cmpR op_le (pe_callB call_len_str (by rfl) T.n_len PySem.boot_len (pa_cons (pv 0) pa_nil)) (pv 1) (nomark _))
      (pe_one (pe_callB (cr_all rfl) (by rfl) T.n_all (by decide +kernel) (pa_cons (pe_lc (own := [("sign", 2)]) (g := gName 2) (tt := tYes) rfl scIs.nd (pi_str (pv 0))
        (blkOk_by (N := ["value", "most", "sign"]) (sc := defScope sIs) (by decide +kernel))
        (fun _ _ _ _ _ => pg_name (i := 2) scIs.nd rfl (.inl rfl)) (fun _ _ _ _ _ => pts_nil)
        (fun _ _ _ _ _ => pe_cmpR op_in_sign (pv 2) (pe_glob (by rfl) gL rL) rfl)) pa_nil)))))), ?_⟩
    refine ⟨.str (S l), rfl, .str (S l), .ty "str", .type "str", .type "str", true, rfl, .ty _, .base (.str _), kit_ty (by decide +kernel), true, rfl, iteT ?_⟩
    refine ⟨.str (S l), rfl, S l, rfl, by rw [S_len]; exact Nat.le_of_lt (small1000 (by have := W.len; omega)), .int 200, rfl, ((S l).length : Int), 200, rfl, rfl, _, rfl, ?_⟩
    have e1 : ((S l).length : Int) ≤ 200 := by rw [S_len]; have := W.len; omega
    rw [decide_eq_true e1]
    refine iteT ⟨.str (S l), rfl, S l, rfl, fun D hD => ?_⟩
    refine lc_it walk_str (fun i H' => Same H H' ∧ H' D = some (.lst ((List.replicate i true).map V.bl))) ?_ (fun _ _ _ _ => True.intro) (fun i x H1 H2 hi hP hY => ?_) (fun H1 hP => ?_)
    · exact ⟨same_new hD, upd_same⟩
    · obtain ⟨rfl, c, hc, rfl⟩ := hY
      obtain ⟨sm, eD⟩ := hP
      have hm : c ∈ l := by
        have : (l.toArray)[i]? = some c := hc
        rw [List.getElem?_toArray] at this
        exact List.mem_of_getElem? this
      refine ⟨rfl, ?_⟩
      refine ⟨_, rfl, c, _, rfl, rfl, _, eD, ?_, ?_⟩
      · rw [List.length_map, List.length_replicate]
        have hl := W.len
        have : i < (S l).cps.size := hi
        have e : (S l).cps.size = l.length := by
          show l.toArray.size = l.length
          rw [List.size_toArray]
        exact small1000 (by omega)
      · refine ⟨fun b o e => ?_, ?_⟩
        · have : b ≠ D := ne_of_none e hD
          rw [upd_ne this]
          exact sm b o e
        · rw [upd_same, decide_eq_true (letters_in (W.abc c hm)), List.replicate_succ', List.map_append]
          rfl
    · obtain ⟨sm, eD⟩ := hP
      refine ⟨D, List.replicate _ true, rfl, .inl (.inl eD), ?_⟩
      have : (List.replicate (S l).cps.size true).all id = true := by
        rw [List.all_eq_true]
        intro x hx
        exact (List.mem_replicate.1 hx).2
      rw [this]
      exact q H1 sm
def spNeed : Sp := fun vs H Q _ => ∃ l : List Nat, vs = [.str (S l)] ∧ Wd l ∧ ∀ H', Same H H' → Q .non H'
theorem ok_need (T : Txt K mg) : FnOk P w K mg base CX0 2 T.fNeed T.dNeed ["value"] spNeed := by
  have GI : FnOk P w K mg base CX0 1 T.fIs T.dIs ["value", "most"] spIs := ok_is T
  refine T.FNeed.ok scNeed (fun vs H Q E h => ?_) (fun cdv A outer s H vs Q E hr h => ?_)
  · obtain ⟨l, rfl, _⟩ := h
    rfl
  · obtain ⟨l, rfl, W, q⟩ := h
    refine ⟨_, pss_one (ps_if (pt_not (pt_val (pe_call (dvs := [.int 200]) GI hr (by rfl) T.gIs T.FIs.kp T.bIs (.cons T.rIs .nil) pass0 (pa_cons (pv 0) pa_nil)))) (pss_one ps_never) pss_nil), ?_⟩
    refine ⟨.str (S l), rfl, l, rfl, W, fun H' sm => ⟨true, rfl, ?_⟩⟩
    exact q H' sm
end KT
/-! KPers -/
namespace KT
open PySem PySem.Spec PyProof.Rows L2 KC
theorem S_list (l : List Nat) : (S l).cps.toList = l := List.toList_toArray
theorem cut_from (l : List Nat) {i : Int} (k : Nat) (e : i = (k : Int)) : cutS (S l) (some i) none = S (l.drop k) := by
  subst e
  unfold cutS
  rw [HT.sIx_nat, HT.sIx_none, S_list, S_len]
  show S ((l.drop (min k l.length)).take (l.length - min k l.length)) = S (l.drop k)
  congr 1
  by_cases h : k ≤ l.length
  · rw [Nat.min_eq_left h]
    exact List.take_of_length_le (by rw [List.length_drop]; exact Nat.le_refl _)
  · rw [Nat.min_eq_right (by omega), List.drop_of_length_le (Nat.le_refl _), List.drop_of_length_le (by omega), List.take_nil]
theorem cut_to (l : List Nat) {i : Int} (k : Nat) (e : i = (k : Int)) : cutS (S l) none (some i) = S (l.take k) := by
  subst e
  unfold cutS
  rw [HT.sIx_nat, HT.sIx_none, S_list, S_len]
  show S ((l.drop 0).take (min k l.length - 0)) = S (l.take k)
  congr 1
  rw [List.drop_zero, Nat.sub_zero]
  by_cases h : k ≤ l.length
  · rw [Nat.min_eq_left h]
  · rw [Nat.min_eq_right (by omega), List.take_of_length_le (Nat.le_refl _), List.take_of_length_le (by omega)]
theorem cut_mid (l : List Nat) {i j : Int} (b e : Nat) (h1 : i = (b : Int)) (h2 : j = (e : Int)) (hb : b ≤ l.length) (he : e ≤ l.length) : cutS (S l) (some i) (some j) = S ((l.drop b).take (e - b)) := by
  subst h1 h2
  unfold cutS
  rw [HT.sIx_nat, HT.sIx_nat, S_list, S_len, Nat.min_eq_left hb, Nat.min_eq_left he]
theorem S_eq {a b : List Nat} : (V.str (S a) = V.str (S b)) ↔ a = b := by
  constructor
  · intro h
    have h2 : S a = S b := V.str.inj h
    have := congrArg (fun z : Str => z.cps.toList) h2
    exact this
  · intro h
    rw [h]
def spPers : Sp := fun vs H Q _ => ∃ l : List Nat, vs = [.str (S l)] ∧ l.length ≤ 200 ∧ ∀ H' p, Same H H' → H p = none → H' p = some (.lst ((pers l).map fun k => V.int (k : Nat))) → Q (.ref p) H'
variable {P : Program} {w : World} {K : PySem.W.Frag} {mg : Str → Option Value} {base : Heap}
theorem ok_pers (T : Txt K mg) : FnOk P w K mg base CX0 1 T.fPers T.dPers ["_law_word_here"] spPers := by
  refine T.FPers.ok scPers (fun vs H Q E h => ?_) (fun cdv A outer s H vs Q E hr h => ?_)
  · obtain ⟨l, rfl, _⟩ := h
    rfl
  · obtain ⟨l, rfl, hl, q⟩ := h
    have hz : (S l).length ≤ sizeLine := by rw [S_len]; exact Nat.le_of_lt (small1000 (by omega))
    refine ⟨_, pss_one (ps_ret (pe_lc (own := [("_law_part", 1)]) (g := gName 1) (tt := _) rfl scPers.nd
        (pi_range2 (by rfl) T.n_range (pa_cons pe_int (pa_cons (pe_op op_add (pe_callB call_len_str (by rfl) T.n_len PySem.boot_len (pa_cons (pv 0) pa_nil)) pe_int) pa_nil)))
        (blkOk_by (N := ["_law_word_here", "_law_part"]) (sc := defScope sPers) (by decide +kernel))
        (fun _ _ _ _ _ => pg_name (i := 1) scPers.nd rfl (.inl rfl))
        (fun _ _ _ _ _ => pts_one (pt_cmpR op_eq (pe_slice sl_str (pv 0) (po_some (pv 1)) po_none) (pe_slice sl_str (pv 0) po_none (po_some (pe_op op_sub (pe_callB call_len_str (by rfl) T.n_len PySem.boot_len (pa_cons (pv 0) pa_nil)) (pv 1)))) (nomark _)))
        (fun _ _ _ _ _ => pv 1))), ?_⟩
    refine ⟨.str (S l), rfl, S l, rfl, hz, ((S l).length : Int), 1, rfl, rfl, 1, ((S l).length : Int) + 1, rfl, ?_, fun D hD => ?_⟩
    · rw [S_len]
      refine ⟨by decide, by decide, by omega, by omega⟩
    · have en : (((S l).length : Int) + 1 - 1).toNat = l.length := by rw [S_len]; omega
      rw [en]
      refine lc_it (walk_range (lo := 1) (n := l.length)) (fun i H' => Same H H' ∧ H' D = some (.lst (((List.range' 1 i).filter fun k => decide (l.drop k = l.take (l.length - k))).map fun k => V.int (k : Nat)))) ?_ (fun _ _ _ _ => True.intro) (fun i x H1 H2 hi hP hY => ?_) (fun H1 hP => ?_)
      · exact ⟨same_new hD, upd_same⟩
      · obtain ⟨rfl, rfl⟩ := hY
        obtain ⟨sm, eD⟩ := hP
        refine ⟨rfl, .str (S l), rfl, .int (1 + (i : Int)), rfl, 1 + (i : Int), rfl, S l, rfl, hz, ?_⟩
        rw [cut_from l (1 + i) (by omega)]
        refine ⟨.str (S l), rfl, .str (S l), rfl, S l, rfl, hz, .int (1 + (i : Int)), rfl, ((S l).length : Int), 1 + (i : Int), rfl, rfl, _, rfl, S l, rfl, hz, ?_⟩
        rw [cut_to l (l.length - (1 + i)) (by rw [S_len]; omega)]
        refine ⟨rfl, _, rfl, ?_⟩
        have er : List.range' 1 (i + 1) = List.range' 1 i ++ [1 + i] := by
          rw [List.range'_concat, Nat.one_mul]
        have ei : (1 + (i : Int)) = ((1 + i : Nat) : Int) := by omega
        refine ite2 (fun h => ?_) (fun h => ?_)
        · have h2 : l.drop (1 + i) = l.take (l.length - (1 + i)) := S_eq.1 (of_decide_eq_true h)
          refine ⟨.int (1 + (i : Int)), rfl, _, eD, ?_, ?_⟩
          · rw [List.length_map]
            have := List.length_filter_le (fun k => decide (l.drop k = l.take (l.length - k))) (List.range' 1 i)
            rw [List.length_range'] at this
            exact small1000 (by omega)
          · refine ⟨fun b o e => ?_, ?_⟩
            · have : b ≠ D := ne_of_none e hD
              rw [upd_ne this]
              exact sm b o e
            · rw [upd_same, er, List.filter_append, List.map_append, List.filter_cons_of_pos (by exact decide_eq_true h2), ei]
              rfl
        · have h2 : ¬ l.drop (1 + i) = l.take (l.length - (1 + i)) := fun z => h (decide_eq_true (S_eq.2 z))
          refine ⟨sm, ?_⟩
          rw [eD, er, List.filter_append, List.filter_cons_of_neg (by rw [decide_eq_true_eq]; exact h2), List.filter_nil, List.append_nil]
      · exact q H1 D hP.1 hD hP.2
end KT
/-! KBordW -/
namespace KT
open PySem PySem.Spec PyProof.Rows L2 KB KC
theorem fn_at {l : List Nat} {i : Nat} (h : i < l.length) : (S l).cps[i]? = some (fn l i) := by
  show l.toArray[i]? = some (l.getD i 0)
  rw [List.getElem?_toArray, List.getD_eq_getElem?_getD, List.getElem?_eq_getElem h]
  rfl
theorem sign_eq {a b : Nat} : (V.str ⟨#[a]⟩ = V.str ⟨#[b]⟩) ↔ a = b := by
  constructor
  · intro h
    have h2 : (⟨#[a]⟩ : Str) = ⟨#[b]⟩ := V.str.inj h
    have := congrArg (fun z : Str => z.cps.toList) h2
    exact List.head_eq_of_cons_eq this
  · intro h
    rw [h]
theorem ixn_nat {n j : Nat} {i : Int} (e : i = (j : Int)) (h : j < n) : ixN n i = some j := by
  subst e
  unfold ixN
  rw [if_pos (by omega), if_pos (by omega)]
  rfl
/-- the table's list -/
def tabL (T : List Nat) : HO := .lst (T.map fun k => V.int (k : Nat))
theorem tab_at {T : List Nat} {i : Nat} (h : i < T.length) : (T.map fun k => V.int (k : Nat))[i]? = some (.int ((T.getD i 0 : Nat) : Int)) := by
  rw [List.getElem?_map, List.getElem?_eq_getElem h, List.getD_eq_getElem?_getD, List.getElem?_eq_getElem h]
  rfl
def spBord : Sp := fun vs H Q _ => ∃ l : List Nat, vs = [.str (S l)] ∧ 1 ≤ l.length ∧ l.length ≤ 200 ∧ ∀ H' p T, Same H H' → H p = none → H' p = some (tabL T) → T.length = l.length → (∀ i, i < l.length → LB (fn l) (i + 1) (T.getD i 0)) → Q (.ref p) H'
variable {P : Program} {w : World} {K : PySem.W.Frag} {mg : Str → Option Value} {base : Heap}
theorem ok_bord (T : Txt K mg) : FnOk P w K mg base CX0 1 T.fBord T.dBord ["word"] spBord := by
  refine T.FBord.ok scBord (fun vs H Q E h => ?_) (fun cdv A outer s H vs Q E hr h => ?_)
  · obtain ⟨l, rfl, _⟩ := h
    rfl
  · obtain ⟨l, rfl, hl1, hl, q⟩ := h
    have hz : (S l).length ≤ sizeLine := by rw [S_len]; exact Nat.le_of_lt (small1000 (by omega))
    refine ⟨_, pss_cons (ps_par (i := 1) (j := 2) (by rfl) scBord.nd rfl rfl (by decide) rfl rfl (pa_cons (pe_op op_rep (pe_lst (pa_cons pe_int pa_nil)) (pe_callB call_len_str (by rfl) T.n_len PySem.boot_len (pa_cons (pv 0) pa_nil))) (pa_cons pe_int pa_nil)) (by rfl))
      (pss_cons (ps_for PassesOwn.never rfl (pi_range2 (by rfl) T.n_range (pa_cons pe_int (pa_cons (pe_callB call_len_str (by rfl) T.n_len PySem.boot_len (pa_cons (pv 0) pa_nil)) pa_nil))) (pg_name (i := 3) scBord.nd rfl (.inl rfl))
        (C8.pss_cut (ps_while PassesOwn.never (PW.pt (pw_and (pt_cmpR op_gt (pv 2) pe_int (nomark _)) (pw_and1 (pt_cmpR op_ne (pe_item_str (pv 0) (pv 3) (fun _ _ => rfl)) (pe_item_str (pv 0) (pv 2) (fun _ _ => rfl)) (nomark _)))))
          (pss_one (ps_set (i := 2) scBord.nd rfl (.inl rfl) (pe_ix ix_list (pv 1) (pe_op op_sub (pv 2) pe_int) (fun _ _ => rfl)))))
        (pss_cons (ps_if (pt_cmpR op_eq (pe_item_str (pv 0) (pv 3) (fun _ _ => rfl)) (pe_item_str (pv 0) (pv 2) (fun _ _ => rfl)) (nomark _)) (pss_one (ps_aug (i := 2) scBord.nd rfl (.inl rfl) pe_int ip_add)) pss_nil)
        (pss_one (ps_asg (pv 2) (pg_sub (pv 1) (pv 3) set_list))))))
      (pss_one (ps_ret (pv 1)))), ?_⟩
    refine ⟨by decide, fun q1 nq1 => ⟨.str (S l), rfl, S l, rfl, hz, q1, ((S l).length : Int), [.int 0], rfl, rfl, upd_same, by omega, by rw [S_len]; omega, ?_, fun p np => ?_⟩⟩
    · rw [S_len]
      show 1 * ((l.length : Int)).toNat ≤ sizeLine
      exact Nat.le_of_lt (small1000 (by omega))
    have nH : H p = none := by
      have : p ≠ q1 := fun e => by
        rw [e, upd_same] at np
        cases np
      rw [upd_ne this] at np
      exact np
    have s1 : Same H (upd (upd H q1 (.lst [.int 0])) p (.lst (List.replicate ((S l).length : Int).toNat [V.int 0]).flatten)) := (same_new nq1).trans (same_new np)
    refine ⟨_, _, rfl, .str (S l), rfl, S l, rfl, hz, 1, ((S l).length : Int), rfl, by rw [S_len]; exact ⟨by decide, by decide, by omega, by omega⟩, ?_⟩
    have en : (((S l).length : Int) - 1).toNat = l.length - 1 := by rw [S_len]; omega
    rw [en]
    refine for_range (lo := 1) (n := l.length - 1) (fun i σ H' => ∃ (at_ : Nat) (T : List Nat) (y3 : Option V), σ = [some (.str (S l)), some (.ref p), some (.int (at_ : Nat)), y3] ∧ Same H H' ∧ H' p = some (tabL T) ∧ T.length = l.length ∧ (∀ j, j < i + 1 → LB (fn l) (j + 1) (T.getD j 0)) ∧ LB (fn l) (i + 1) at_) ?_ (fun i σ H1 hi hP => ?_) (fun σ H1 hP => ?_)
    · refine ⟨0, List.replicate l.length 0, none, rfl, s1, ?_, List.length_replicate, fun j hj => ?_, lb_one _⟩
      · rw [upd_same]
        have : ((S l).length : Int).toNat = l.length := by rw [S_len]; omega
        rw [this]
        show some (HO.lst _) = some (HO.lst _)
        rw [List.map_replicate]
        congr 2
        generalize l.length = m
        induction m with
        | zero => rfl
        | succ m ih =>
          rw [List.replicate_succ, List.flatten_cons, ih, List.replicate_succ]
          rfl
      · have : j = 0 := by omega
        subst this
        have e : (List.replicate l.length 0).getD 0 0 = 0 := by
          rw [List.getD_eq_getElem?_getD, List.getElem?_replicate]
          split <;> rfl
        rw [e]
        exact lb_one _
    · obtain ⟨at0, T, y3, rfl, sm, eT, lT, hT, hA⟩ := hP
      have hm : i + 1 < l.length := by omega
      have hi1 : (1 + (i : Int)).toNat = i + 1 := by omega
      -- word[place], word[at]
      have cP : (S l).cps[(1 + (i : Int)).toNat]? = some (fn l (i + 1)) := by
        rw [hi1]
        exact fn_at hm
      have hlen : ((S l).length : Int) = (l.length : Int) := by rw [S_len]
      refine ⟨fun σ' H' => ∃ m : Nat, σ' = [some (.str (S l)), some (.ref p), some (.int (m : Nat)), some (.int (1 + (i : Int)))] ∧ H' = H1 ∧ Cand (fn l) (i + 1) m ∧ (fn l (i + 1) = fn l m ∨ m = 0), ?_, ?_⟩
      · -- the inner loop
        refine ⟨fun m σ H' => ∃ at_ : Nat, m = at_ ∧ σ = [some (.str (S l)), some (.ref p), some (.int (at_ : Nat)), some (.int (1 + (i : Int)))] ∧ H' = H1 ∧ Cand (fn l) (i + 1) at_, ⟨at0, at0, rfl, rfl, rfl, Cand.of hA⟩, ?_⟩
        rintro m σ H' ⟨at_, rfl, rfl, rfl, hC⟩
        have hat := hC.b.lt
        refine ⟨.int (m : Nat), rfl, (m : Int), 0, rfl, rfl, _, rfl, ite2 (fun h0 => ?_) (fun h0 => ?_)⟩
        · have h0' : (0 : Int) < (m : Int) := of_decide_eq_true h0
          have cA : (S l).cps[((m : Int)).toNat]? = some (fn l m) := fn_at (by omega)
          refine ⟨.str (S l), rfl, .int (1 + (i : Int)), rfl, S l, 1 + (i : Int), fn l (i + 1), rfl, rfl, by omega, by omega, by omega, cP, .str (S l), rfl, .int (m : Nat), rfl, S l, (m : Int), fn l m, rfl, rfl, by omega, by omega, by omega, cA, rfl, _, rfl, ?_⟩
          by_cases e : fn l (i + 1) = fn l m
          · rw [decide_eq_true (sign_eq.2 e)]
            exact ⟨m, rfl, rfl, hC, .inl e⟩
          · rw [decide_eq_false (fun z => e (sign_eq.1 z))]
            have g := hT (m - 1) (by omega)
            rw [show m - 1 + 1 = m by omega] at g
            have hb := g.b.lt
            refine ⟨fun σ' H2 => ∃ m', m' < m ∧ ∃ at_ : Nat, m' = at_ ∧ σ' = [some (.str (S l)), some (.ref p), some (.int (at_ : Nat)), some (.int (1 + (i : Int)))] ∧ H2 = H' ∧ Cand (fn l) (i + 1) at_, fun _ _ h => h, ?_⟩
            refine ⟨.ref p, rfl, .int (m : Nat), rfl, (m : Int), 1, rfl, rfl, p, _, (m : Int) - 1, .int ((T.getD (m - 1) 0 : Nat) : Int), rfl, rfl, .inl (.inl eT), at_of (j := m - 1) (by omega) (tab_at (by omega)), ?_⟩
            exact ⟨T.getD (m - 1) 0, hb, _, rfl, rfl, rfl, hC.step e g⟩
        · have h0' : ¬ (0 : Int) < (m : Int) := fun z => h0 (decide_eq_true z)
          have : m = 0 := by omega
          exact ⟨m, rfl, rfl, hC, .inr this⟩
      · rintro σ' H' ⟨m, rfl, rfl, hC, hx⟩
        have hat := hC.b.lt
        have cA : (S l).cps[((m : Int)).toNat]? = some (fn l m) := fn_at (by omega)
        -- the new row of the table
        have fin : ∀ k : Nat, LB (fn l) (i + 1 + 1) k → ∃ (at_ : Nat) (T' : List Nat) (y3 : Option V), [some (.str (S l)), some (.ref p), some (.int (k : Nat)), some (.int (1 + (i : Int)))] = [some (.str (S l)), some (.ref p), some (.int (at_ : Nat)), y3] ∧ Same H (upd H' p (.lst ((T.map fun k => V.int (k : Nat)).set (i + 1) (.int (k : Nat))))) ∧ (upd H' p (.lst ((T.map fun k => V.int (k : Nat)).set (i + 1) (.int (k : Nat))))) p = some (tabL T') ∧ T'.length = l.length ∧ (∀ j, j < i + 1 + 1 → LB (fn l) (j + 1) (T'.getD j 0)) ∧ LB (fn l) (i + 1 + 1) at_ := by
          intro k hk
          refine ⟨k, T.set (i + 1) k, _, rfl, fun b o e => ?_, ?_, ?_, fun j hj => ?_, hk⟩
          · rw [upd_ne (ne_of_none e nH)]
            exact sm b o e
          · rw [upd_same]
            unfold tabL
            rw [List.map_set]
          · rw [List.length_set]
            exact lT
          · rw [List.getD_eq_getElem?_getD, List.getElem?_set]
            by_cases ej : i + 1 = j
            · subst ej
              rw [if_pos rfl, if_pos (by omega)]
              exact hk
            · rw [if_neg ej, ← List.getD_eq_getElem?_getD]
              exact hT j (by omega)
        have ixp : ixN (T.map fun k => V.int (k : Nat)).length (1 + (i : Int)) = some (i + 1) := by
          rw [List.length_map]
          exact ixn_nat (by omega) (by omega)
        refine ⟨.str (S l), rfl, .int (1 + (i : Int)), rfl, S l, 1 + (i : Int), fn l (i + 1), rfl, rfl, by omega, by omega, by omega, cP, .str (S l), rfl, .int (m : Nat), rfl, S l, (m : Int), fn l m, rfl, rfl, by omega, by omega, by omega, cA, rfl, _, rfl, ite2 (fun h => ?_) (fun h => ?_)⟩
        · have e := sign_eq.1 (of_decide_eq_true h)
          refine ⟨_, rfl, (m : Int), 1, rfl, rfl, ?_⟩
          refine ⟨.int ((m : Int) + 1), rfl, .ref p, rfl, .int (1 + (i : Int)), rfl, p, _, 1 + (i : Int), i + 1, rfl, rfl, eT, ixp, ?_⟩
          exact fin (m + 1) (hC.hit e)
        · have e : ¬ fn l (i + 1) = fn l m := fun z => h (decide_eq_true (sign_eq.2 z))
          have m0 : m = 0 := by
            rcases hx with z | z
            · exact absurd z e
            · exact z
          subst m0
          refine ⟨.int ((0 : Nat) : Int), rfl, .ref p, rfl, .int (1 + (i : Int)), rfl, p, _, 1 + (i : Int), i + 1, rfl, rfl, eT, ixp, ?_⟩
          exact fin 0 (hC.miss e)
    · obtain ⟨at_, T, y3, rfl, sm, eT, lT, hT, hA⟩ := hP
      exact ⟨.ref p, rfl, q H1 p T sm nH eT lT fun i hi => hT i (by omega)⟩
end KT
/-! KLeast -/
namespace KT
open PySem PySem.Spec PyProof.Rows L2 KB KC
def spLeast : Sp := fun vs H Q _ => ∃ l : List Nat, vs = [.str (S l)] ∧ 1 ≤ l.length ∧ l.length ≤ 200 ∧ ∀ H' p, Same H H' → LP (fn l) l.length p → Q (.int (p : Nat)) H'
variable {P : Program} {w : World} {K : PySem.W.Frag} {mg : Str → Option Value} {base : Heap}
theorem ok_least (T : Txt K mg) : FnOk P w K mg base CX0 2 T.fLeast T.dLeast ["word"] spLeast := by
  have GB : FnOk P w K mg base CX0 1 T.fBord T.dBord ["word"] spBord := ok_bord T
  refine T.FLeast.ok scLeast (fun vs H Q E h => ?_) (fun cdv A outer s H vs Q E hr h => ?_)
  · obtain ⟨l, rfl, _⟩ := h
    rfl
  · obtain ⟨l, rfl, hl1, hl, q⟩ := h
    have hz : (S l).length ≤ sizeLine := by rw [S_len]; exact Nat.le_of_lt (small1000 (by omega))
    refine ⟨_, pss_one (ps_ret (pe_op op_sub (pe_callB call_len_str (by rfl) T.n_len PySem.boot_len (pa_cons (pv 0) pa_nil))
      (pe_ix ix_list (pe_call GB hr (by rfl) T.gBord T.FBord.kp T.bBord .nil pass0 (pa_cons (pv 0) pa_nil)) (pe_un un_neg pe_int) (fun _ _ => rfl)))), ?_⟩
    refine ⟨.str (S l), rfl, S l, rfl, hz, .str (S l), rfl, l, rfl, hl1, hl, fun H' p T' sm nH eT lT hT => ?_⟩
    have g : (T'.map fun k => V.int (k : Nat))[l.length - 1]? = some (.int ((T'.getD (l.length - 1) 0 : Nat) : Int)) := tab_at (by omega)
    have at1 : atI (T'.map fun k => V.int (k : Nat)) (-1) = some (.int ((T'.getD (l.length - 1) 0 : Nat) : Int)) := by
      unfold atI ixN
      rw [if_neg (by decide), List.length_map, lT, if_pos (by omega)]
      show (T'.map fun k => V.int (k : Nat))[(-1 + (l.length : Int)).toNat]? = _
      rw [show (-1 + (l.length : Int)).toNat = l.length - 1 by omega]
      exact g
    have hL := hT (l.length - 1) (by omega)
    rw [show l.length - 1 + 1 = l.length by omega] at hL
    have hb := hL.b.lt
    refine ⟨1, rfl, p, _, -1, _, rfl, rfl, .inl (.inl eT), at1, ((S l).length : Int), _, rfl, rfl, ?_⟩
    have e : ((S l).length : Int) - ((T'.getD (l.length - 1) 0 : Nat) : Int) = ((l.length - T'.getD (l.length - 1) 0 : Nat) : Int) := by
      rw [S_len]
      omega
    show Q (.int (((S l).length : Int) - ((T'.getD (l.length - 1) 0 : Nat) : Int))) H'
    rw [e]
    exact q H' _ sm (lp_of hL)
end KT
/-! KSortD -/
namespace KS
open PySem PySem.Spec PyProof.Rows L2
def adr : Value → Addr
  | .ref a => a
  | _ => 0
theorem keys_ints {k : List Key} {n : List Int} (h : k = n.map Sum.inl) : k.map kV = n.map V.int := by
  rw [h, List.map_map]
  rfl
theorem rows_of {H : Hp} : ∀ {kvs : List (List Key × V)} {xs : List (List Key × Addr × Value)} {ks : List (List Int)}, L2.KT H kvs xs → kvs.map (·.1) = ks.map (fun k => k.map Sum.inl) →
    ∃ L0 : List (Addr × List Int), L0.map (·.2) = ks ∧ xs.map (fun y => y.2.1) = L0.map (·.1) ∧ ∀ q ∈ L0, H q.1 = some (.tup (q.2.map V.int))
  | [], _, [], .nil, _ => ⟨[], rfl, rfl, fun q hq => by cases hq⟩
  | [], _, _ :: _, .nil, h => by cases h
  | _ :: _, _, [], .cons _ _, h => by cases h
  | p :: kvs, y :: xs, k :: ks, .cons r t, h => by
    have h1 : p.1 = k.map Sum.inl := (List.cons.inj h).1
    have h2 : kvs.map (·.1) = ks.map (fun k => k.map Sum.inl) := (List.cons.inj h).2
    obtain ⟨L0, e1, e2, e3⟩ := rows_of t h2
    refine ⟨(y.2.1, k) :: L0, by rw [List.map_cons, e1], by rw [List.map_cons, List.map_cons, e2], fun q hq => ?_⟩
    rcases List.mem_cons.1 hq with z | z
    · subst z
      have := r.2.1
      rw [keys_ints h1] at this
      exact this
    · exact e3 q z
section
variable {X : Cx}
/-- sorted(d) of a dict with fewer than 64 keys, all tuples of d ints in [0, B): the keys' own tuples -/
theorem call_sortedDT {d : Nat} {B : Int} (hd1 : 1 ≤ d) (hcalm : X.calm = true) : CallR X (.builtin "sorted") (fun xs H Q => ∃ (a : Addr) (kvs : List (List Key × V)) (ks : List (List Int)), xs = [.ref a] ∧ Rd H a (.dT kvs) ∧ kvs.map (·.1) = ks.map (fun k => k.map Sum.inl) ∧ ks.length < 64 ∧ (∀ k ∈ ks, k.length = d ∧ TS.Bd B k) ∧
    ∀ (L : List (Addr × List Int)) (p : Addr), (L.map (·.2)).Perm ks → L.Pairwise (fun q r => TS.code B q.2 ≤ TS.code B r.2) → (∀ q ∈ L, H q.1 = some (.tup (q.2.map V.int))) → H p = none → Q (.ref p) (upd H p (.lst (L.map fun q => V.ref q.1)))) := by
  intro pins s σ H xs us Q I r q
  obtain ⟨a, kvs, ks, ex, hd, hks, h64, hB, q⟩ := q
  subst ex
  obtain ⟨u, eu, rx⟩ := vals1 r
  subst eu
  cases rx
  obtain ⟨z, lo, xs, rel, dh⟩ := dt_rd I.hok hd
  obtain ⟨es, ep, raw, hsz, hat⟩ := dh.raw
  obtain ⟨L0, eL, eA, tL⟩ := rows_of rel hks
  have lenL : L0.length = ks.length := by rw [← eL, List.length_map]
  have lenX : xs.length = ks.length := by
    have := congrArg List.length eA
    rw [List.length_map, List.length_map] at this
    omega
  have h16 : es.size ≤ sizeLine := by rw [hsz, lenX, sizeLine_eq]; omega
  refine Calls.call_function_entry PyProof.Rows.kind_sorted PyProof.Rows.plain_sorted PyProof.Rows.entry_sorted (PyProof.Rows.args_sorted1 _) ?_
  unfold Builtin.«sorted»
  refine wpAny_bind (m := checkCount "sorted" 1 1 _) (wpAny_pure ?_)
  refine wpAny_bind (PySem.W.kdu_collect (A := X.A.in1) (KdlSrc.rawDict (es := es) (ep := ep) lo) (I.ok.hd hcalm) raw h16 fun h' tk acc hk hacc => ?_)
  have eacc : acc.toList = L0.map fun q => Value.ref q.1 := by
    have e2 : (L0.map fun q => Value.ref q.1) = xs.map fun y => Value.ref y.2.1 := by
      have : (L0.map (·.1)).map Value.ref = (xs.map fun y => y.2.1).map Value.ref := by rw [eA]
      rw [List.map_map, List.map_map] at this
      exact this
    rw [e2]
    refine List.ext_getElem? fun j => ?_
    rw [Array.getElem?_toList]
    cases h : acc[j]? with
    | none =>
      have : acc.size ≤ j := by
        rw [Array.getElem?_eq_none_iff] at h
        exact h
      rw [List.getElem?_eq_none (by rw [List.length_map, ← hsz, ← hacc.1]; exact this)]
    | some v =>
      obtain ⟨hi, ev⟩ := hacc.2 j v h
      obtain ⟨y, e1, e3, _, _⟩ := hat j hi
      rw [List.getElem?_map, e1, ev, e3]
      rfl
  have hal : acc.toList.length = ks.length := by rw [eacc, List.length_map, lenL]
  have I1 : Inv X pins σ H { s with heap := h', toks := tk } := I.kept hk
  refine wpAny_bind (wpAny_newList ?_ (by rw [hal, sizeLine_eq]; omega))
  have hoL : (h'.push (seqObj "list" acc.toList.toArray 0)).get? h'.objs.size = some (seqObj "list" acc.toList.toArray 0) := Heap.get?_push_size _ rfl
  show wpAny _ _ _ _ _ { s with heap := h'.push (seqObj "list" acc.toList.toArray 0), toks := tk }
  have tk2 : ∀ q ∈ L0, TS.TupInts (h'.push (seqObj "list" acc.toList.toArray 0)) (.ref q.1) q.2 := fun q hq =>
    (tupI_raw I1 (.inl (.inl (tL q hq)))).keeps fun b o e _ => Heap.get?_push_of_some _ e
  have inL : ∀ v ∈ acc.toList, ∃ q ∈ L0, v = Value.ref q.1 := fun v hv => by
    rw [eacc] at hv
    obtain ⟨q, hq, e⟩ := List.mem_map.1 hv
    exact ⟨q, hq, e.symm⟩
  have hBL : ∀ q ∈ L0, q.2.length = d ∧ TS.Bd B q.2 := fun q hq => hB _ (by
    rw [← eL]
    exact List.mem_map.2 ⟨q, hq, rfl⟩)
  have x : TS.TupsOk (h'.push (seqObj "list" acc.toList.toArray 0)) d B acc.toList := fun v hv => by
    obtain ⟨q, hq, e⟩ := inL v hv
    rw [e]
    exact ⟨q.2, tk2 q hq, (hBL q hq).1, (hBL q hq).2⟩
  refine wpAny_bind (wpAny_holding (TS.call_sort_tups (s := { s with heap := h'.push (seqObj "list" acc.toList.toArray 0), toks := tk }) hoL (by rw [hal]; exact h64) hd1 x fun out a1 a2 => ?_))
  obtain ⟨c, hc⟩ := PyProof.Rows.sortedHeap_at (vs := acc.toList) (out := out) hoL
  -- the rows in their new order
  have inO : ∀ v ∈ out.toList, ∃ q ∈ L0, v = Value.ref q.1 := fun v hv => inL v (a1.mem_iff.1 hv)
  let I2 : Value → List Int := TS.intsOf (h'.push (seqObj "list" acc.toList.toArray 0))
  have i2 : ∀ q ∈ L0, I2 (.ref q.1) = q.2 := fun q hq => (tk2 q hq).ints
  let L : List (Addr × List Int) := out.toList.map fun u => (adr u, I2 u)
  have e1 : (L.map (·.2)).Perm ks := by
    have p1 : (out.toList.map I2).Perm (acc.toList.map I2) := a1.map _
    have p2 : acc.toList.map I2 = ks := by
      rw [eacc, List.map_map, ← eL]
      exact List.map_congr_left fun q hq => i2 q hq
    rw [p2] at p1
    show ((out.toList.map fun u => (adr u, I2 u)).map (·.2)).Perm ks
    rw [List.map_map]
    exact p1
  have e2 : L.Pairwise (fun q r => TS.code B q.2 ≤ TS.code B r.2) := by
    show (out.toList.map fun u => (adr u, I2 u)).Pairwise _
    rw [List.pairwise_map]
    exact a2
  have e3 : ∀ q ∈ L, H q.1 = some (.tup (q.2.map V.int)) := fun q hq => by
    obtain ⟨u, hu, e⟩ := List.mem_map.1 hq
    obtain ⟨q0, h0, eu⟩ := inO u hu
    rw [← e, eu]
    show H q0.1 = some (.tup ((I2 (.ref q0.1)).map V.int))
    rw [i2 q0 h0]
    exact tL q0 h0
  have e4 : out.toList = L.map fun q => Value.ref q.1 := by
    show _ = (out.toList.map fun u => (adr u, I2 u)).map _
    rw [List.map_map]
    conv => lhs; rw [← List.map_id out.toList]
    refine List.map_congr_left fun u hu => ?_
    obtain ⟨q0, h0, eu⟩ := inO u hu
    rw [eu]
    rfl
  have e5 : (L.map fun q => V.ref q.1).length ≤ sizeLine := by
    have := e1.length_eq
    rw [List.length_map] at this ⊢
    rw [this, sizeLine_eq]
    omega
  refine wpAny_pure ⟨_, rfl, .ref h'.objs.size, upd H h'.objs.size (.lst (L.map fun q => V.ref q.1)), I1.laid (t' := tk) (fun b u e => ?_) (Nat.le_refl _)
    (show ObjOk X.prog X.w _ _ _ (.lst (L.map fun q => V.ref q.1)) from ⟨e5, out.toList, c, by rw [e4]; exact vals_of_refs L, by rw [Array.toArray_toList]; exact hc⟩), rfl, q L _ e1 e2 e3 (I1.hok.fresh (Nat.le_refl _))⟩
  have hb : b < h'.objs.size := Heap.lt_size e
  rw [PyProof.Rows.sortedHeap_old (Nat.ne_of_lt hb) (by rw [size_push']; exact Nat.lt_succ_of_lt hb)]
  exact Heap.get?_push_of_some _ e
end
end KS
/-! KRuns -/
namespace KT
open PySem PySem.Spec PyProof.Rows L2 KB KC
theorem use_test {t : TT} {σ : L2.St} {H : Hp} {Q : Bool → Hp → Prop} (c : Bool) (hq : Q c H) (h : Q c H → t σ H Q) : t σ H Q := h hq
/-- a triple as a list of ints -/
def enc (r : Tr) : List Int := [(r.1 : Int), (r.2.1 : Int), (r.2.2 : Int)]
theorem enc_inj {r q : Tr} (h : enc r = enc q) : r = q := by
  obtain ⟨a, b, c⟩ := r
  obtain ⟨a', b', c'⟩ := q
  unfold enc at h
  injection h with h1 h2
  injection h2 with h2 h3
  injection h3 with h3 h4
  simp only at h1 h2 h3
  have e1 : a = a' := by omega
  have e2 : b = b' := by omega
  have e3 : c = c' := by omega
  rw [e1, e2, e3]
theorem enc_bd {l : List Nat} (W : Wd l) {r : Tr} (h : IsRun l r) : (enc r).length = 3 ∧ TS.Bd 64 (enc r) := by
  have h1 := h.le
  have h2 := h.two
  have h3 := W.len
  refine ⟨rfl, fun m hm => ?_⟩
  unfold enc at hm
  rcases List.mem_cons.1 hm with e | hm
  · omega
  · rcases List.mem_cons.1 hm with e | hm
    · omega
    · rw [List.mem_singleton] at hm
      omega
def keyOf (k : List Int) : List Key := k.map Sum.inl
/-- what the inner loop keeps -/
def InnerP (l : List Nat) (H : Hp) (D : Addr) (h j : Nat) (σ : L2.St) (H' : Hp) : Prop := ∃ (ks : List Tr) (kvs : List (List Key × V)) (g : Nat) (y4 : Option V),
  σ = [some (.str (S l)), some (.ref D), some (.int (h : Nat)), some (.int (g : Nat)), y4] ∧ Same H H' ∧ H' D = some (.dT kvs) ∧ kvs.map (·.1) = (ks.map enc).map (fun k => k.map Sum.inl) ∧ Found l h j ks ∧ Beg l h j g
def OuterP (l : List Nat) (H : Hp) (D : Addr) (i : Nat) (σ : L2.St) (H' : Hp) : Prop := ∃ (ks : List Tr) (kvs : List (List Key × V)) (y2 y3 y4 : Option V),
  σ = [some (.str (S l)), some (.ref D), y2, y3, y4] ∧ Same H H' ∧ H' D = some (.dT kvs) ∧ kvs.map (·.1) = (ks.map enc).map (fun k => k.map Sum.inl) ∧ Found l (i + 1) 0 ks
def spRuns : Sp := fun vs H Q _ => ∃ l : List Nat, vs = [.str (S l)] ∧ Wd l ∧ ∀ H' p (L : List (Addr × List Int)) (ks : List Tr), Same H H' → H p = none → H' p = some (.lst (L.map fun q => .ref q.1)) → (∀ q ∈ L, H' q.1 = some (.tup (q.2.map V.int))) →
  ks.Nodup → (∀ r, r ∈ ks ↔ IsRun l r) → (L.map (·.2)).Perm (ks.map enc) → L.Pairwise (fun q r => TS.code 64 q.2 ≤ TS.code 64 r.2) → Q (.ref p) H'
theorem same_put {H H' : Hp} {D : Addr} {o : HO} (s : Same H H') (n : H D = none) : Same H (upd H' D o) := fun b u e => by
  rw [upd_ne (ne_of_none e n)]
  exact s b u e
theorem keys_new {kvs : List (List Key × V)} {ks : List Tr} {r : Tr} (ek : kvs.map (·.1) = (ks.map enc).map (fun k => k.map Sum.inl)) (h : r ∉ ks) : valV kvs ((enc r).map Sum.inl) = none := by
  cases e : valV kvs ((enc r).map Sum.inl) with
  | none => rfl
  | some v =>
    exfalso
    have hm : (enc r).map Sum.inl ∈ kvs.map (·.1) := by
      unfold valV at e
      cases f : kvs.find? fun kv => decide (kv.1 = (enc r).map Sum.inl) with
      | none =>
        rw [f] at e
        cases e
      | some kv =>
        have h1 := List.find?_some f
        have h2 := List.mem_of_find?_eq_some f
        exact List.mem_map.2 ⟨kv, h2, of_decide_eq_true h1⟩
    rw [ek] at hm
    obtain ⟨k, hk, e1⟩ := List.mem_map.1 hm
    obtain ⟨r', hr, e2⟩ := List.mem_map.1 hk
    have e3 : k = enc r := by
      have inj : ∀ a b : List Int, a.map (Sum.inl (β := Str)) = b.map Sum.inl → a = b := by
        intro a
        induction a with
        | nil =>
          intro b hb
          cases b with
          | nil => rfl
          | cons _ _ => cases hb
        | cons x a ih =>
          intro b hb
          cases b with
          | nil => cases hb
          | cons y b =>
            have h1 := (List.cons.inj hb).1
            have h2 := (List.cons.inj hb).2
            have : x = y := Sum.inl.inj h1
            rw [this, ih b h2]
      exact inj _ _ e1
    rw [← e2] at e3
    rw [enc_inj e3] at hr
    exact h hr
variable {P : Program} {w : World} {K : PySem.W.Frag} {mg : Str → Option Value} {base : Heap}
theorem ok_runs (T : Txt K mg) : FnOk P w K mg base CX0 3 T.fRuns T.dRuns ["word"] spRuns := by
  have GN : FnOk P w K mg base CX0 2 T.fNeed T.dNeed ["value"] spNeed := ok_need T
  have GL : FnOk P w K mg base CX0 2 T.fLeast T.dLeast ["word"] spLeast := ok_least T
  refine T.FRuns.ok scRuns (fun vs H Q E h => ?_) (fun cdv A outer s H vs Q E hr h => ?_)
  · obtain ⟨l, rfl, _⟩ := h
    rfl
  · obtain ⟨l, rfl, W, q⟩ := h
    have hl := W.len
    have hu := hu_of hr
    have hz : (S l).length ≤ sizeLine := by rw [S_len]; exact Nat.le_of_lt (small1000 (by omega))
    have eS : ((S l).length : Int) = (l.length : Int) := by rw [S_len]
    refine ⟨_, pss_cons (ps_expr (pe_call GN hr (by rfl) T.gNeed T.FNeed.kp T.bNeed .nil pass0 (pa_cons (pv 0) pa_nil)))
      (pss_cons (ps_set (i := 1) scRuns.nd rfl (.inl rfl) pe_dnewT)
      (pss_cons (ps_for PassesOwn.never rfl (pi_range2 (by rfl) T.n_range (pa_cons pe_int (pa_cons (pe_op op_add (pe_op op_fdiv (pe_callB call_len_str (by rfl) T.n_len PySem.boot_len (pa_cons (pv 0) pa_nil)) pe_int) pe_int) pa_nil))) (pg_name (i := 2) scRuns.nd rfl (.inl rfl))
        (pss_cons (ps_set (i := 3) scRuns.nd rfl (.inl rfl) pe_int)
        (pss_one (ps_for PassesOwn.never rfl (pi_range1 (by rfl) T.n_range (pa_cons (pe_op op_add (pe_op op_sub (pe_callB call_len_str (by rfl) T.n_len PySem.boot_len (pa_cons (pv 0) pa_nil)) (pv 2)) pe_int) pa_nil)) (pg_name (i := 4) scRuns.nd rfl (.inl rfl))
          (pss_one (ps_if (PW.pt (pw_or (pt_cmpR op_eq (pv 4) (pe_op op_sub (pe_callB call_len_str (by rfl) T.n_len PySem.boot_len (pa_cons (pv 0) pa_nil)) (pv 2)) (nomark _)) (pw_or1 (pt_cmpR op_ne (pe_item_str (pv 0) (pv 4) (fun _ _ => rfl)) (pe_item_str (pv 0) (pe_op op_add (pv 4) (pv 2)) (fun _ _ => rfl)) (nomark _)))))
            (pss_cons (ps_if (PW.pt (pw_and (pt_cmpR op_ge (pe_op op_sub (pv 4) (pv 3)) (pv 2) (nomark _)) (pw_and1 (pt_cmpR op_eq (pe_call GL hr (by rfl) T.gLeast T.FLeast.kp T.bLeast .nil pass0 (pa_cons (pe_slice sl_str (pv 0) (po_some (pv 3)) (po_some (pe_op op_add (pv 4) (pv 2)))) pa_nil)) (pv 2) (nomark _)))))
              (pss_one (ps_dput hu (pv 1) (pe_tup (pa_cons (pv 3) (pa_cons (pe_op op_add (pv 4) (pv 2)) (pa_cons (pv 2) pa_nil)))) pe_bl rfl)) pss_nil)
            (pss_one (ps_set (i := 3) scRuns.nd rfl (.inl rfl) (pe_op op_add (pv 4) pe_int)))) pss_nil))))))
      (pss_one (ps_ret (pe_callB (KS.call_sortedDT (d := 3) (B := 64) (by decide) rfl) (by rfl) T.n_sorted (by decide +kernel) (pa_cons (pv 1) pa_nil)))))), ?_⟩
    refine ⟨.str (S l), rfl, l, rfl, W, fun H1 sm1 => ?_⟩
    intro D hD
    have nD : H D = none := sm1.free hD
    refine ⟨.str (S l), rfl, S l, rfl, hz, ((S l).length : Int), 2, rfl, rfl, ⟨by decide, by decide⟩, ((S l).length : Int) / 2, 1, rfl, rfl, 1, ((S l).length : Int) / 2 + 1, rfl, ⟨by decide, by decide, by omega, by omega⟩, ?_⟩
    have en : (((S l).length : Int) / 2 + 1 - 1).toNat = l.length / 2 := by rw [eS]; omega
    rw [en]
    refine for_range (lo := 1) (n := l.length / 2) (OuterP l H D) ?_ (fun i σ H2 hi hP => ?_) (fun σ H2 hP => ?_)
    · exact ⟨[], [], _, _, _, rfl, same_put sm1 nD, upd_same, rfl, Found.start l⟩
    · obtain ⟨ks, kvs, y2, y3, y4, rfl, sm2, eD, ek, F⟩ := hP
      have ei : (1 + (i : Int)) = ((i + 1 : Nat) : Int) := by omega
      rw [ei]
      generalize hh : i + 1 = h at F
      have h0 : 0 < h := by omega
      have hn : 2 * h ≤ l.length := by omega
      refine ⟨.str (S l), rfl, S l, rfl, hz, .int (h : Nat), rfl, ((S l).length : Int), (h : Int), rfl, rfl, ((S l).length : Int) - (h : Int), 1, rfl, rfl, ((S l).length : Int) - (h : Int) + 1, rfl, by omega, by omega, ?_⟩
      have em : (((S l).length : Int) - (h : Int) + 1).toNat = l.length - h + 1 := by rw [eS]; omega
      rw [em]
      refine for_range (lo := 0) (n := l.length - h + 1) (InnerP l H D h) ?_ (fun j σ H3 hj hP => ?_) (fun σ H3 hP => ?_)
      · exact ⟨ks, kvs, 0, _, rfl, sm2, eD, ek, F, Beg.start l h⟩
      · obtain ⟨ks, kvs, g, y4, rfl, sm3, eD, ek, F, B⟩ := hP
        rw [Int.zero_add]
        show tOr _ _ _ _ _
        have hB := B.le
        have cA : (S l).cps[((j : Int)).toNat]? = some (fn l j) := fn_at (by omega)
        by_cases hs : vw l j = vw l (j + h)
        · -- the letters are equal
          have hlt : j + h < l.length := by
            apply Nat.lt_of_le_of_ne (by omega)
            intro z
            rw [z, vw_lt (by omega)] at hs
            rw [vw_ge (Nat.le_refl _)] at hs
            omega
          have cB : (S l).cps[((j : Int) + (h : Int)).toNat]? = some (fn l (j + h)) := by
            rw [show ((j : Int) + (h : Int)).toNat = j + h by omega]
            exact fn_at hlt
          have he : fn l j = fn l (j + h) := by
            rw [vw_lt (by omega), vw_lt hlt] at hs
            omega
          refine ⟨.int (j : Nat), rfl, .str (S l), rfl, S l, rfl, hz, .int (h : Nat), rfl, ((S l).length : Int), (h : Int), rfl, rfl, rfl, _, rfl, ite2 (fun hA => ?_) (fun hA => ?_)⟩
          · have := V.int.inj (of_decide_eq_true hA)
            omega
          · refine ⟨.str (S l), rfl, .int (j : Nat), rfl, S l, (j : Int), fn l j, rfl, rfl, by omega, by omega, by omega, cA, .str (S l), rfl, .int (j : Nat), rfl, .int (h : Nat), rfl, (j : Int), (h : Int), rfl, rfl, S l, (j : Int) + (h : Int), fn l (j + h), rfl, rfl, by omega, by omega, by omega, cB, rfl, _, rfl, ?_⟩
            rw [decide_eq_true (sign_eq.2 he)]
            exact ⟨ks, kvs, g, _, rfl, sm3, eD, ek, F.skip (no_go hlt hs), B.on hs⟩
        · refine use_test true ?_ (fun hq => ?_)
          · -- a stop
            refine ⟨.int (j : Nat), rfl, .int (g : Nat), rfl, (j : Int), (g : Int), rfl, rfl, .int (h : Nat), rfl, (j : Int) - (g : Int), (h : Int), rfl, rfl, _, rfl, ite2 (fun hA => ?_) (fun hA => ?_)⟩
            · have hA' : (h : Int) ≤ (j : Int) - (g : Int) := of_decide_eq_true hA
              have hc : cutS (S l) (some (g : Int)) (some ((j : Int) + (h : Int))) = S (sub l g (j + h)) := cut_mid l g (j + h) rfl (by omega) (by omega) (by omega)
              have hsl : (sub l g (j + h)).length = j + h - g := sub_len (by omega)
              refine ⟨.str (S l), rfl, .int (g : Nat), rfl, (g : Int), rfl, .int (j : Nat), rfl, .int (h : Nat), rfl, (j : Int), (h : Int), rfl, rfl, (j : Int) + (h : Int), rfl, S l, rfl, hz, ?_⟩
              rw [hc]
              refine ⟨sub l g (j + h), rfl, by omega, by omega, fun H4 p sm4 hp => ?_⟩
              rw [hsl] at hp
              refine ⟨.int (h : Nat), rfl, rfl, _, rfl, ite2 (fun hC => ?_) (fun hC => ?_)⟩
              · -- a run is noted
                have hC' : p = h := by
                  have := V.int.inj (of_decide_eq_true hC)
                  omega
                subst hC'
                have R : IsRun l (g, j + p, p) := run_of h0 (by omega) B hs (by omega) hp
                have eD4 : H4 D = some (.dT kvs) := sm4 _ _ eD
                have few := few_le F.nd fun r hr => ((F.mem r).1 hr).1
                have lk : kvs.length = ks.length := by
                  have := congrArg List.length ek
                  rw [List.length_map, List.length_map, List.length_map] at this
                  exact this
                refine ⟨.ref D, rfl, .int (g : Nat), rfl, .int (j : Nat), rfl, .int (p : Nat), rfl, (j : Int), (p : Int), rfl, rfl, .int (p : Nat), rfl, (show (3 : Nat) ≤ sizeLine by decide), fun tp ntp => ?_⟩
                have nDt : D ≠ tp := ne_of_none eD4 ntp
                have hnew : (g, j + p, p) ∉ ks := fun z => by
                  have := ((F.mem _).1 z).2
                  simp only at this
                  omega
                have F' := F.add h0 B R
                refine ⟨D, _, rfl, DPut.t (kvs := kvs) (k := (enc (g, j + p, p)).map Sum.inl) (by rw [upd_ne nDt]; exact eD4) upd_same (small1000 (by omega)), ?_⟩
                rw [putK_new _ (keys_new ek hnew)]
                refine ⟨.int (j : Nat), rfl, (j : Int), 1, rfl, rfl, ks ++ [(g, j + p, p)], kvs ++ [((enc (g, j + p, p)).map Sum.inl, .bl true)], j + 1, _, rfl, ?_, upd_same, ?_, F', Beg.stop hs⟩
                · exact same_put ((sm3.trans sm4).trans (same_new ntp)) nD
                · rw [List.map_append, List.map_append, List.map_append, ek]
                  rfl
              · have hC' : p ≠ h := fun z => hC (decide_eq_true (by rw [z]))
                exact ⟨.int (j : Nat), rfl, (j : Int), 1, rfl, rfl, ks, kvs, j + 1, _, rfl, sm3.trans sm4, sm4 _ _ eD, ek, F.skip (no_per B hp hC'), Beg.stop hs⟩
            · have hA' : ¬ (h : Int) ≤ (j : Int) - (g : Int) := fun z => hA (decide_eq_true z)
              exact ⟨.int (j : Nat), rfl, (j : Int), 1, rfl, rfl, ks, kvs, j + 1, _, rfl, sm3, eD, ek, F.skip (no_short B (by omega)), Beg.stop hs⟩
          · refine ⟨.int (j : Nat), rfl, .str (S l), rfl, S l, rfl, hz, .int (h : Nat), rfl, ((S l).length : Int), (h : Int), rfl, rfl, rfl, _, rfl, ite2 (fun hA => ?_) (fun hA => ?_)⟩
            · exact hq
            · have hA' : (j : Int) ≠ ((S l).length : Int) - (h : Int) := fun z => hA (decide_eq_true (by rw [z]))
              have hlt : j + h < l.length := by omega
              have cB : (S l).cps[((j : Int) + (h : Int)).toNat]? = some (fn l (j + h)) := by
                rw [show ((j : Int) + (h : Int)).toNat = j + h by omega]
                exact fn_at hlt
              have he : fn l j ≠ fn l (j + h) := fun z => hs (by rw [vw_lt (by omega), vw_lt hlt, z])
              refine ⟨.str (S l), rfl, .int (j : Nat), rfl, S l, (j : Int), fn l j, rfl, rfl, by omega, by omega, by omega, cA, .str (S l), rfl, .int (j : Nat), rfl, .int (h : Nat), rfl, (j : Int), (h : Int), rfl, rfl, S l, (j : Int) + (h : Int), fn l (j + h), rfl, rfl, by omega, by omega, by omega, cB, rfl, _, rfl, ?_⟩
              rw [decide_eq_false (fun z => he (sign_eq.1 z))]
              exact hq
      · obtain ⟨ks, kvs, g, y4, rfl, sm3, eD, ek, F, B⟩ := hP
        subst hh
        exact ⟨ks, kvs, _, _, _, rfl, sm3, eD, ek, F.next (by omega)⟩
    · obtain ⟨ks, kvs, y2, y3, y4, rfl, sm2, eD, ek, F⟩ := hP
      have mem := F.done (by omega)
      have few := few_le F.nd fun r hr => (mem r).1 hr
      refine ⟨.ref D, rfl, D, kvs, ks.map enc, rfl, .inl eD, ek, by rw [List.length_map]; omega, fun k hk => ?_, fun L p e1 e2 e3 np => ?_⟩
      · obtain ⟨r, hr, e⟩ := List.mem_map.1 hk
        rw [← e]
        exact enc_bd W ((mem r).1 hr)
      · exact q _ p L ks (sm2.trans (same_new np)) (sm2.free np) upd_same (fun q hq => by
          rw [upd_ne (ne_of_none (e3 q hq) np)]
          exact e3 q hq) F.nd mem e1 e2
end KT
/-! KAlike -/
namespace KT
open PySem PySem.Spec PyProof.Rows L2
/-- data that are equal: an int; a list or tuple of such -/
def Alike : Nat → Hp → V → V → Prop
  | 0, _, x, y => ∃ i, x = .int i ∧ y = .int i
  | d + 1, H, x, y => ∃ (a b : Addr) (xs ys : List V), x = .ref a ∧ y = .ref b ∧ ((H a = some (.lst xs) ∧ H b = some (.lst ys)) ∨ (H a = some (.tup xs) ∧ H b = some (.tup ys))) ∧ xs.length = ys.length ∧ ys.length ≤ 100 ∧
    ∀ (i : Nat) (x y : V), xs[i]? = some x → ys[i]? = some y → Alike d H x y
theorem Alike.keep : ∀ (d : Nat) {H H' : Hp} {x y : V}, Same H H' → Alike d H x y → Alike d H' x y
  | 0, _, _, _, _, _, h => by
    obtain ⟨i, e1, e2⟩ := h
    exact ⟨i, e1, e2⟩
  | d + 1, H, H', x, y, s, h => by
    obtain ⟨a, b, xs, ys, e1, e2, h1, h2, h3, h4⟩ := h
    refine ⟨a, b, xs, ys, e1, e2, ?_, h2, h3, fun i x y g1 g2 => Alike.keep d s (h4 i x y g1 g2)⟩
    rcases h1 with ⟨h, g⟩ | ⟨h, g⟩
    · exact .inl ⟨s _ _ h, s _ _ g⟩
    · exact .inr ⟨s _ _ h, s _ _ g⟩
def spAlike (d : Nat) : Sp := fun vs H Q _ => ∃ x y : V, vs = [x, y] ∧ Alike d H x y ∧ ∀ H', Same H H' → Q (.bl true) H'
variable {P : Program} {w : World} {K : PySem.W.Frag} {mg : Str → Option Value} {base : Heap}
theorem cls2 : Paired ClsV [V.ty "tuple", V.ty "list"] [Value.type "tuple", Value.type "list"] := .cons (.ty _) (.cons (.ty _) .nil)
theorem ok_alike0 (T : Txt K mg) : FnOk P w K mg base CX0 1 T.fAlike T.dAlike ["_law_found", "_law_due"] (spAlike 0) := by
  refine T.FAlike.ok scAlike (fun vs H Q E h => ?_) (fun cdv A outer s H vs Q E hr h => ?_)
  · obtain ⟨x, y, rfl, _⟩ := h
    rfl
  · obtain ⟨x, y, rfl, ⟨i, rfl, rfl⟩, q⟩ := h
    refine ⟨_, pss_cons (ps_if (pt_val (pe_callB call_isiT (by rfl) T.n_isinstance (by decide +kernel) (pa_cons (pv 1) (pa_cons (pe_tup (pa_cons (pe_bltn (v := .ty "tuple") (by rfl) T.n_tuple (by decide +kernel) rfl) (pa_cons (pe_bltn (v := .ty "list") (by rfl) T.n_list (by decide +kernel) rfl) pa_nil))) pa_nil)))) pss_never pss_nil)
      (pss_cons (ps_if (PW.pt (pw_or (pt_cmpR op_isN (pv 1) pe_non (nomark _)) (pw_or1 (pt_val (pe_callB call_isi (by rfl) T.n_isinstance (by decide +kernel) (pa_cons (pv 1) (pa_cons (pe_bltn (v := .ty "str") (by rfl) T.n_str (by decide +kernel) rfl) pa_nil))))))) pss_never pss_nil)
      (pss_one (ps_ret (pe_and (pe_callB call_isi (by rfl) T.n_isinstance (by decide +kernel) (pa_cons (pv 0) (pa_cons (pe_bltn (v := .ty "int") (by rfl) T.n_int (by decide +kernel) rfl) pa_nil)))
        (pe_and (pe_cmpR op_eq (pe_callB call_isi (by rfl) T.n_isinstance (by decide +kernel) (pa_cons (pv 0) (pa_cons (pe_bltn (v := .ty "bool") (by rfl) T.n_bool (by decide +kernel) rfl) pa_nil))) (pe_callB call_isi (by rfl) T.n_isinstance (by decide +kernel) (pa_cons (pv 1) (pa_cons (pe_bltn (v := .ty "bool") (by rfl) T.n_bool (by decide +kernel) rfl) pa_nil))) (nomark _))
        (pe_one (pe_cmpR op_eq (pv 0) (pv 1) (nomark _)))))))), ?_⟩
    refine ⟨.int i, rfl, (show (2 : Nat) ≤ sizeLine by decide), fun tp np => ⟨.int i, tp, _, .type "int", _, false, rfl, upd_same, cls2, .base (.int i), kitAny_cons (kit_ty (b := "tuple") (r := false) (by decide +kernel)) (fun _ => kitAny_cons (kit_ty (b := "list") (r := false) (by decide +kernel)) (fun _ => rfl) (fun z => by cases z)) (fun z => by cases z), false, rfl, ?_⟩⟩
    refine ⟨.int i, rfl, rfl, _, rfl, ite2 (fun h => ?_) (fun h => ?_)⟩
    · have := of_decide_eq_true h
      cases this
    · refine ⟨.int i, rfl, .int i, .ty "str", .type "int", .type "str", false, rfl, .ty _, .base (.int i), kit_ty (by decide +kernel), false, rfl, ?_⟩
      refine ⟨.int i, rfl, .int i, .ty "int", .type "int", .type "int", true, rfl, .ty _, .base (.int i), kit_ty (by decide +kernel), true, rfl, iteT ?_⟩
      refine ⟨.int i, rfl, .int i, .ty "bool", .type "int", .type "bool", false, rfl, .ty _, .base (.int i), kit_ty (by decide +kernel), ?_⟩
      refine ⟨.int i, rfl, .int i, .ty "bool", .type "int", .type "bool", false, rfl, .ty _, .base (.int i), kit_ty (by decide +kernel), rfl, _, rfl, ?_⟩
      rw [decide_eq_true rfl]
      refine iteT ⟨.int i, rfl, .int i, rfl, rfl, ?_⟩
      rw [decide_eq_true rfl]
      exact q _ (same_new np)
structure SqF (K : PySem.W.Frag) (H : Hp) (a b : Addr) (xs ys : List V) (T : String) (c : Bool) : Prop where
  ta : ∀ H', Same H H' → TyX K H' (.ref a) (.type T)
  tb : ∀ H', Same H H' → TyX K H' (.ref b) (.type T)
  sa : ∀ H', Same H H' → SqL K H' a xs ∨ SqT K H' a xs
  sb : ∀ H', Same H H' → SqL K H' b ys ∨ SqT K H' b ys
  any : PySem.W.kitAny K (.type T) [.type "tuple", .type "list"] = some true
  one : PySem.W.kitOne K (.type T) (.type "list") = some c
theorem sqf {K : PySem.W.Frag} {H : Hp} {a b : Addr} {xs ys : List V} (h : (H a = some (.lst xs) ∧ H b = some (.lst ys)) ∨ (H a = some (.tup xs) ∧ H b = some (.tup ys))) : ∃ T c, SqF K H a b xs ys T c := by
  rcases h with ⟨h, g⟩ | ⟨h, g⟩
  · exact ⟨"list", true, fun H' s => .base (.lst (s _ _ h)), fun H' s => .base (.lst (s _ _ g)), fun H' s => .inl (.inl (.inl (s _ _ h))), fun H' s => .inl (.inl (.inl (s _ _ g))),
      kitAny_cons (kit_ty (b := "tuple") (r := false) (by decide +kernel)) (fun _ => kitAny_cons (kit_ty (b := "list") (r := true) (by decide +kernel)) (fun z => by cases z) (fun _ => rfl)) (fun z => by cases z), kit_ty (by decide +kernel)⟩
  · exact ⟨"tuple", false, fun H' s => .base (.tup (s _ _ h)), fun H' s => .base (.tup (s _ _ g)), fun H' s => .inr (.inl (.inl (s _ _ h))), fun H' s => .inr (.inl (.inl (s _ _ g))),
      kitAny_cons (kit_ty (b := "tuple") (r := true) (by decide +kernel)) (fun z => by cases z) (fun _ => rfl), kit_ty (by decide +kernel)⟩
theorem ix_any {K : PySem.W.Frag} {H : Hp} {a : Addr} {xs : List V} {i : Int} {j : Nat} {v : V} {Q : VK} (h : SqL K H a xs ∨ SqT K H a xs) (e : i = (j : Int)) (g : xs[j]? = some v) (q : Q v H) : rIx K (.ref a) (.int i) H Q := by
  rcases h with h | h
  · exact .inl ⟨a, xs, i, v, rfl, rfl, h, at_of e g, q⟩
  · exact .inr (.inl ⟨a, xs, i, v, rfl, rfl, h, at_of e g, q⟩)
theorem ok_alikeS {d k : Nat} (T : Txt K mg) (GA : FnOk P w K mg base CX0 (k + 1) T.fAlike T.dAlike ["_law_found", "_law_due"] (spAlike d)) : FnOk P w K mg base CX0 (k + 2) T.fAlike T.dAlike ["_law_found", "_law_due"] (spAlike (d + 1)) := by
  refine T.FAlike.ok scAlike (fun vs H Q E h => ?_) (fun cdv A outer s H vs Q E hr h => ?_)
  · obtain ⟨x, y, rfl, _⟩ := h
    rfl
  · obtain ⟨x, y, rfl, ⟨a, b, xs, ys, rfl, rfl, hab, hl, h100, hel⟩, q⟩ := h
    obtain ⟨TT, c, F⟩ := sqf (K := K) hab
    refine ⟨_, pss_cons (ps_if (pt_val (pe_callB call_isiT (by rfl) T.n_isinstance (by decide +kernel) (pa_cons (pv 1) (pa_cons (pe_tup (pa_cons (pe_bltn (v := .ty "tuple") (by rfl) T.n_tuple (by decide +kernel) rfl) (pa_cons (pe_bltn (v := .ty "list") (by rfl) T.n_list (by decide +kernel) rfl) pa_nil))) pa_nil))))
        (pss_cons (ps_if (PW.pt (pw_or (pt_not (pt_val (pe_callB call_isiT (by rfl) T.n_isinstance (by decide +kernel) (pa_cons (pv 0) (pa_cons (pe_tup (pa_cons (pe_bltn (v := .ty "tuple") (by rfl) T.n_tuple (by decide +kernel) rfl) (pa_cons (pe_bltn (v := .ty "list") (by rfl) T.n_list (by decide +kernel) rfl) pa_nil))) pa_nil)))))
            (pw_or1 (pt_cmpR op_ne (pe_callB call_isi (by rfl) T.n_isinstance (by decide +kernel) (pa_cons (pv 0) (pa_cons (pe_bltn (v := .ty "list") (by rfl) T.n_list (by decide +kernel) rfl) pa_nil))) (pe_callB call_isi (by rfl) T.n_isinstance (by decide +kernel) (pa_cons (pv 1) (pa_cons (pe_bltn (v := .ty "list") (by rfl) T.n_list (by decide +kernel) rfl) pa_nil))) (nomark _))))) pss_never pss_nil)
        (pss_cons (ps_if (pt_cmpR op_ne (pe_callB call_len_seq (by rfl) T.n_len PySem.boot_len (pa_cons (pv 0) pa_nil)) (pe_callB call_len_seq (by rfl) T.n_len PySem.boot_len (pa_cons (pv 1) pa_nil)) (nomark _)) pss_never pss_nil)
        (pss_one (ps_ret (pe_cmpR (op_eqD hr.units) (pe_lc (own := [("_law_k", 2)]) (g := gName 2) (tt := _) rfl scAlike.nd
          (pi_range1 (by rfl) T.n_range (pa_cons (pe_callB call_len_seq (by rfl) T.n_len PySem.boot_len (pa_cons (pv 1) pa_nil)) pa_nil))
          (blkOk_by (N := ["_law_found", "_law_due", "_law_k"]) (sc := defScope sAlike) (by decide +kernel))
          (fun _ _ _ _ _ => pg_name (i := 2) scAlike.nd rfl (.inl rfl))
          (fun _ _ _ _ _ => pts_one (pt_not (pt_val (pe_call GA hr (by rfl) T.gAlike T.FAlike.kp T.bAlike .nil pass0 (pa_cons (pe_ix (r := rIx K) ix_seq (pv 0) (pv 2) (fun _ _ => rfl)) (pa_cons (pe_ix (r := rIx K) ix_seq (pv 1) (pv 2) (fun _ _ => rfl)) pa_nil))))))
          (fun _ _ _ _ _ => pv 2)) (pe_lst pa_nil) (nomark _)))))) pss_nil)
      pss_never, ?_⟩
    refine ⟨.ref b, rfl, (show (2 : Nat) ≤ sizeLine by decide), fun tp np => ⟨.ref b, tp, _, .type TT, _, true, rfl, upd_same, cls2, F.tb _ (same_new np), F.any, true, rfl, ?_⟩⟩
    have s1 := same_new (o := .tup [V.ty "tuple", V.ty "list"]) np
    refine ⟨.ref a, rfl, (show (2 : Nat) ≤ sizeLine by decide), fun tp2 np2 => ⟨.ref a, tp2, _, .type TT, _, true, rfl, upd_same, cls2, F.ta _ (s1.trans (same_new np2)), F.any, true, rfl, ?_⟩⟩
    have s2 := s1.trans (same_new (o := .tup [V.ty "tuple", V.ty "list"]) np2)
    refine ⟨.ref a, rfl, .ref a, .ty "list", .type TT, .type "list", c, rfl, .ty _, F.ta _ s2, F.one, .ref b, rfl, .ref b, .ty "list", .type TT, .type "list", c, rfl, .ty _, F.tb _ s2, F.one, rfl, _, rfl, ?_⟩
    rw [decide_eq_true rfl]
    refine ⟨.ref a, rfl, a, xs, rfl, F.sa _ s2, .ref b, rfl, b, ys, rfl, F.sb _ s2, rfl, _, rfl, ?_⟩
    rw [hl, decide_eq_true rfl]
    refine ⟨.ref b, rfl, b, ys, rfl, F.sb _ s2, (ys.length : Int), rfl, by omega, by omega, fun D hD => ?_⟩
    rw [show ((ys.length : Int)).toNat = ys.length by omega]
    refine lc_it (walk_range (lo := 0) (n := ys.length)) (fun i H' => Same H H' ∧ H' D = some (.lst [])) ?_ (fun _ _ _ _ => True.intro) (fun i x H1 H2 hi hP hY => ?_) (fun H1 hP => ?_)
    · exact ⟨s2.trans (same_new hD), upd_same⟩
    · obtain ⟨rfl, rfl⟩ := hY
      obtain ⟨sm, eD⟩ := hP
      have gx : xs[i]? = some xs[i] := List.getElem?_eq_getElem (by omega)
      have gy : ys[i]? = some ys[i] := List.getElem?_eq_getElem hi
      refine ⟨rfl, .ref a, rfl, .int (0 + (i : Int)), rfl, ix_any (F.sa _ sm) (by omega) gx ?_⟩
      refine ⟨.ref b, rfl, .int (0 + (i : Int)), rfl, ix_any (F.sb _ sm) (by omega) gy ?_⟩
      refine ⟨_, _, rfl, Alike.keep d sm (hel i _ _ gx gy), fun H' sm' => ⟨true, rfl, ?_⟩⟩
      exact ⟨sm.trans sm', sm' _ _ eD⟩
    · obtain ⟨sm, eD⟩ := hP
      refine ⟨by decide, fun p np3 => ?_⟩
      have nDp : D ≠ p := ne_of_none eD np3
      refine ⟨.list [], .list [], .lst (.inl (.inl (by rw [upd_ne nDp]; exact eD))) .nil, .lst (.inl (.inl upd_same)) .nil, rfl, rfl, ?_⟩
      exact q _ (sm.trans (same_new np3))
end KT
/-! KLawA -/
namespace KT
open PySem PySem.Spec PyProof.Rows L2 KB KC
/-! ### a text times a number -/
theorem op_mul_txt {X : Cx} : OpR X (binaryOp .Mult) (fun x y H Q => ∃ z k, x = .str z ∧ y = .int k ∧ z.length ≤ 1000 ∧ 0 ≤ k ∧ k ≤ 1000 ∧ Q (.str (Txt.mul z k)) H) := by
  intro pins s σ H x y v u Q I rx ry h
  obtain ⟨z, k, rfl, rfl, hz, k0, k1, q⟩ := h
  obtain ⟨t, rfl⟩ := rx
  obtain ⟨t', rfl⟩ := ry
  exact SB.mul (PyProof.Rows.mulOk_of 1000 1000 hz (by omega) (by omega) (by decide) (by decide)) fun t' tk => ⟨.str (Txt.mul z k), H, I.tok tk, ⟨t', rfl⟩, q⟩
theorem mul4 (l : List Nat) : ∃ l' : List Nat, Txt.mul (S l) 4 = S l' ∧ ∀ c ∈ l', c ∈ l := by
  refine ⟨(Txt.mul (S l) 4).cps.toList, (SX.S_tl _).symm, fun c hc => ?_⟩
  unfold Txt.mul at hc
  rw [if_neg (by decide)] at hc
  split at hc
  · rw [S_list] at hc
    exact hc
  · have e : (4 : Int).toNat = 4 := rfl
    rw [e] at hc
    simp only [List.replicate, List.foldl, Array.toList_append, List.mem_append] at hc
    rcases hc with (((hc | hc) | hc) | hc) | hc
    · cases hc
    all_goals exact hc
/-! ### sorted rows -/
theorem code_inj {B : Int} : ∀ {a b : List Int}, a.length = b.length → TS.Bd B a → TS.Bd B b → TS.code B a = TS.code B b → a = b
  | [], [], _, _, _, _ => rfl
  | [], _ :: _, h, _, _, _ => by cases h
  | _ :: _, [], h, _, _, _ => by cases h
  | d :: r, e :: q, hl, ha, hb, h => by
    have hl' : r.length = q.length := Nat.succ.inj hl
    rcases Int.lt_trichotomy d e with g | g | g
    · have := TS.code_lt hl' ha.tail hb.tail g
      omega
    · subst g
      have h2 : TS.code B r = TS.code B q := by
        have h3 : d * B ^ r.length + TS.code B r = d * B ^ q.length + TS.code B q := h
        rw [hl'] at h3
        omega
      rw [code_inj hl' ha.tail hb.tail h2]
    · have := TS.code_lt hl'.symm hb.tail ha.tail g
      omega
/-- the ints of a tuple in the heap -/
def rdI (H : Hp) : V → List Int
  | .ref t => match H t with
    | some (.tup xs) => xs.map fun x => match x with
      | .int i => i
      | _ => 0
    | _ => []
  | _ => []
theorem rdI_at {H : Hp} {t : Addr} {ns : List Int} (h : H t = some (.tup (ns.map V.int))) : rdI H (.ref t) = ns := by
  show (match H t with
    | some (.tup xs) => xs.map fun x => match x with
      | .int i => i
      | _ => 0
    | _ => []) = ns
  rw [h]
  show (ns.map V.int).map _ = ns
  rw [List.map_map]
  conv => rhs; rw [← List.map_id ns]
  rfl
/-- the two sorted lists hold the same rows -/
theorem sorted_same {A B : List (List Int)} {ks ks' : List Tr} {l : List Nat} (W : Wd l) (n1 : ks.Nodup) (m1 : ∀ r, r ∈ ks ↔ IsRun l r) (n2 : ks'.Nodup) (m2 : ∀ r, r ∈ ks' ↔ IsRun l r)
    (p1 : A.Perm (ks.map enc)) (p2 : B.Perm (ks'.map enc)) (s1 : A.Pairwise (fun a b => TS.code 64 a ≤ TS.code 64 b)) (s2 : B.Pairwise (fun a b => TS.code 64 a ≤ TS.code 64 b)) : A = B := by
  have pk : ks.Perm ks' := (List.perm_ext_iff_of_nodup n1 n2).2 fun r => (m1 r).trans (m2 r).symm
  have pAB : A.Perm B := p1.trans ((pk.map enc).trans p2.symm)
  have inA : ∀ a ∈ A, a.length = 3 ∧ TS.Bd 64 a := fun a ha => by
    obtain ⟨r, hr, e⟩ := List.mem_map.1 (p1.mem_iff.1 ha)
    rw [← e]
    exact enc_bd W ((m1 r).1 hr)
  have inB : ∀ a ∈ B, a.length = 3 ∧ TS.Bd 64 a := fun a ha => by
    obtain ⟨r, hr, e⟩ := List.mem_map.1 (p2.mem_iff.1 ha)
    rw [← e]
    exact enc_bd W ((m2 r).1 hr)
  refine List.Perm.eq_of_pairwise (fun a b ha hb h1 h2 => ?_) s1 s2 pAB
  exact code_inj ((inA a ha).1.trans (inB b hb).1.symm) (inA a ha).2 (inB b hb).2 (by omega)
/-- the law's list as it stands in the heap -/
def DueP (l : List Nat) (D : Addr) (b e : Nat) (H : Hp) : Prop := ∃ L : List (Addr × Tr), H D = some (.lst (L.map fun q => V.ref q.1)) ∧ (∀ q ∈ L, H q.1 = some (.tup ((enc q.2).map V.int))) ∧ Due l b e (L.map (·.2))
theorem DueP.keep {l : List Nat} {D : Addr} {b e : Nat} {H H' : Hp} (s : Same H H') (h : DueP l D b e H) : DueP l D b e H' := by
  obtain ⟨L, h1, h2, h3⟩ := h
  exact ⟨L, s _ _ h1, fun q hq => s _ _ (h2 q hq), h3⟩
/-- the end: what `runs` and the law's sorted list hold is alike -/
theorem alike_end {K : PySem.W.Frag} {H : Hp} {l : List Nat} (W : Wd l) {p1 p2 : Addr} {L : List (Addr × List Int)} {Ld : List (Addr × Tr)} {ks : List Tr} {ys : List V}
    (h1 : H p1 = some (.lst (L.map fun q => V.ref q.1))) (t1 : ∀ q ∈ L, H q.1 = some (.tup (q.2.map V.int))) (n1 : ks.Nodup) (m1 : ∀ r, r ∈ ks ↔ IsRun l r) (e1 : (L.map (·.2)).Perm (ks.map enc)) (s1 : L.Pairwise (fun q r => TS.code 64 q.2 ≤ TS.code 64 r.2))
    (h2 : H p2 = some (.lst ys)) (t2 : ∀ q ∈ Ld, H q.1 = some (.tup ((enc q.2).map V.int))) (n2 : (Ld.map (·.2)).Nodup) (m2 : ∀ r, r ∈ Ld.map (·.2) ↔ IsRun l r) (e2 : ys.Perm (Ld.map fun q => V.ref q.1))
    (s2 : ys.Pairwise (fun x y => ∀ n m, TupI K H x n → TupI K H y m → TS.code 64 n ≤ TS.code 64 m)) : Alike 2 H (.ref p1) (.ref p2) := by
  have inY : ∀ y ∈ ys, ∃ q ∈ Ld, y = V.ref q.1 := fun y hy => by
    obtain ⟨q, hq, e⟩ := List.mem_map.1 (e2.mem_iff.1 hy)
    exact ⟨q, hq, e.symm⟩
  have eA : (L.map fun q => V.ref q.1).map (rdI H) = L.map (·.2) := by
    rw [List.map_map]
    exact List.map_congr_left fun q hq => rdI_at (t1 q hq)
  have pB : (ys.map (rdI H)).Perm ((Ld.map (·.2)).map enc) := by
    have h := e2.map (rdI H)
    have e : (Ld.map fun q => V.ref q.1).map (rdI H) = (Ld.map (·.2)).map enc := by
      rw [List.map_map, List.map_map]
      exact List.map_congr_left fun q hq => rdI_at (t2 q hq)
    rw [e] at h
    exact h
  have sB : (ys.map (rdI H)).Pairwise (fun a b => TS.code 64 a ≤ TS.code 64 b) := by
    rw [List.pairwise_map]
    refine List.Pairwise.imp_of_mem (fun {x y} hx hy h => ?_) s2
    obtain ⟨q, hq, ex⟩ := inY x hx
    obtain ⟨r, hr, ey⟩ := inY y hy
    subst ex ey
    rw [rdI_at (t2 q hq), rdI_at (t2 r hr)]
    exact h _ _ ⟨q.1, rfl, .inl (.inl (t2 q hq))⟩ ⟨r.1, rfl, .inl (.inl (t2 r hr))⟩
  have same : L.map (·.2) = ys.map (rdI H) := sorted_same W n1 m1 n2 m2 e1 pB (List.pairwise_map.2 s1) sB
  have len : (L.map fun q => V.ref q.1).length = ys.length := by
    have := congrArg List.length same
    rw [List.length_map, List.length_map] at this
    rw [List.length_map]
    exact this
  have few := few_le n2 fun r hr => (m2 r).1 hr
  have lenY : ys.length = Ld.length := by
    have := e2.length_eq
    rw [List.length_map] at this
    exact this
  have hl := W.len
  rw [List.length_map] at few
  refine ⟨p1, p2, _, ys, rfl, rfl, .inl ⟨h1, h2⟩, len, by omega, fun i x y gx gy => ?_⟩
  rw [List.getElem?_map] at gx
  cases gL : L[i]? with
  | none =>
    rw [gL] at gx
    cases gx
  | some q =>
    rw [gL] at gx
    have ex : V.ref q.1 = x := Option.some.inj gx
    subst ex
    have hq : q ∈ L := List.mem_of_getElem? gL
    obtain ⟨r, hr, ey⟩ := inY y (List.mem_of_getElem? gy)
    subst ey
    have e3 : q.2 = enc r.2 := by
      have h3 : (L.map (·.2))[i]? = (ys.map (rdI H))[i]? := by rw [same]
      rw [List.getElem?_map, List.getElem?_map, gL, gy] at h3
      have h4 : q.2 = rdI H (.ref r.1) := Option.some.inj h3
      rw [h4, rdI_at (t2 r hr)]
    have tq := t1 q hq
    rw [e3] at tq
    refine ⟨q.1, r.1, _, _, rfl, rfl, .inr ⟨tq, t2 r hr⟩, rfl, ?_, fun j u v gu gv => ?_⟩
    · rw [List.length_map]
      show 3 ≤ 100
      decide
    · rw [gu] at gv
      have : u = v := Option.some.inj gv
      subst this
      rw [List.getElem?_map] at gu
      cases ge : (enc r.2)[j]? with
      | none =>
        rw [ge] at gu
        cases gu
      | some z =>
        rw [ge] at gu
        have : V.int z = u := Option.some.inj gu
        exact ⟨z, this.symm, this.symm⟩
end KT
/-! KLaw -/
namespace KT
open PySem PySem.Spec PyProof.Rows L2 KB KC
def spLaw (K : PySem.W.Frag) : Sp := fun vs H Q _ => ∃ (a : Addr) (ns : List Int), vs = [.ref a] ∧ SqL K H a (ns.map V.int) ∧ ns.length ≤ 63 ∧ ∀ H', Q (.bl true) H'
def OutP (l : List Nat) (a r D : Addr) (b : Nat) (σ : L2.St) (H : Hp) : Prop := ∃ y4 y5 y6 y7 y8, σ = [some (.ref a), some (.ref r), some (.str (S l)), some (.ref D), y4, y5, y6, y7, y8] ∧ DueP l D b (b + 2) H
def InP (l : List Nat) (a r D : Addr) (b j : Nat) (σ : L2.St) (H : Hp) : Prop := ∃ y5 y6 y7 y8, σ = [some (.ref a), some (.ref r), some (.str (S l)), some (.ref D), some (.int (b : Nat)), y5, y6, y7, y8] ∧ DueP l D b (b + 2 + j) H
variable {P : Program} {w : World} {K : PySem.W.Frag} {mg : Str → Option Value} {base : Heap}
theorem ok_law (T : Txt K mg) : FnOk P w K mg base CX0 4 T.fLaw T.dLaw ["_law_script"] (spLaw K) := by
  have GT : FnOk P w K mg base CX0 1 T.fTaken T.dTaken ["_law_row", "_law_many"] (spTaken K) := ok_taken T
  have GW : FnOk P w K mg base CX0 2 T.fWord T.dWord ["_law_row", "_law_size", "_law_least", "_law_most"] (spWord K) := ok_word T
  have GP : FnOk P w K mg base CX0 1 T.fPers T.dPers ["_law_word_here"] spPers := ok_pers T
  have GR : FnOk P w K mg base CX0 3 T.fRuns T.dRuns ["word"] spRuns := ok_runs T
  have GA : FnOk P w K mg base CX0 3 T.fAlike T.dAlike ["_law_found", "_law_due"] (spAlike 2) := ok_alikeS T (ok_alikeS T (ok_alike0 T))
  refine T.FLaw.ok scLaw (fun vs H Q E h => ?_) (fun cdv A outer s H vs Q E hr h => ?_)
  · obtain ⟨a, ns, rfl, _⟩ := h
    rfl
  · obtain ⟨a, ns, rfl, hS, h63, q⟩ := h
    have hr1 := hr.mono (show 1 ≤ 3 by decide)
    have hr2 := hr.mono (show 2 ≤ 3 by decide)
    refine ⟨_, pss_cons (ps_set (i := 1) scLaw.nd rfl (.inl rfl) (pe_lst (pa_cons (pv 0) (pa_cons pe_int (pa_cons pe_int (pa_cons pe_int pa_nil))))))
      (pss_cons (ps_set (i := 2) scLaw.nd rfl (.inl rfl) (pe_call GW hr2 (by rfl) T.gWord T.FWord.kp T.bWord .nil pass0 (pa_cons (pv 1) (pa_cons (pe_op op_add pe_int (pe_call GT hr1 (by rfl) T.gTaken T.FTaken.kp T.bTaken .nil pass0 (pa_cons (pv 1) (pa_cons pe_int pa_nil)))) (pa_cons pe_int (pa_cons pe_int pa_nil))))))
      (C8.pss_cut (ps_if (pt_cmpR op_eq (pe_call GT hr1 (by rfl) T.gTaken T.FTaken.kp T.bTaken .nil pass0 (pa_cons (pv 1) (pa_cons pe_int pa_nil))) pe_int (nomark _))
        (pss_one (ps_set (i := 2) scLaw.nd rfl (.inl rfl) (pe_op op_add_str (pe_slice sl_str (pe_op op_mul_txt (pe_call GW hr2 (by rfl) T.gWord T.FWord.kp T.bWord .nil pass0 (pa_cons (pv 1) (pa_cons pe_int (pa_cons pe_int (pa_cons pe_int pa_nil))))) pe_int) po_none (po_some pe_int)) (pe_slice sl_str (pv 2) po_none (po_some pe_int))))) pss_nil)
      (pss_cons (ps_set (i := 3) scLaw.nd rfl (.inl rfl) (pe_lst pa_nil))
      (pss_cons (ps_for PassesOwn.never rfl (pi_range1 (by rfl) T.n_range (pa_cons (pe_callB call_len_str (by rfl) T.n_len PySem.boot_len (pa_cons (pv 2) pa_nil)) pa_nil)) (pg_name (i := 4) scLaw.nd rfl (.inl rfl))
        (pss_one (ps_for PassesOwn.never rfl (pi_range2 (by rfl) T.n_range (pa_cons (pe_op op_add (pv 4) pe_int) (pa_cons (pe_op op_add (pe_callB call_len_str (by rfl) T.n_len PySem.boot_len (pa_cons (pv 2) pa_nil)) pe_int) pa_nil))) (pg_name (i := 5) scLaw.nd rfl (.inl rfl))
          (pss_cons (ps_set (i := 6) scLaw.nd rfl (.inl rfl) (pe_ix ix_list (pe_call GP hr1 (by rfl) T.gPers T.FPers.kp T.bPers .nil pass0 (pa_cons (pe_slice sl_str (pv 2) (po_some (pv 4)) (po_some (pv 5))) pa_nil)) pe_int (fun _ _ => rfl)))
          (pss_one (ps_if (pt_cmpR op_le (pe_op op_mul pe_int (pv 6)) (pe_op op_sub (pv 5) (pv 4)) (nomark _))
            (C8.pss_cut (ps_set (i := 7) scLaw.nd rfl (.inl rfl) (pe_and (pe_cmpR op_gt (pv 4) pe_int (nomark _)) (pe_one (pe_cmpR op_eq (pe_item_str (pv 2) (pe_op op_sub (pv 4) pe_int) (fun _ _ => rfl)) (pe_item_str (pv 2) (pe_op op_add (pe_op op_sub (pv 4) pe_int) (pv 6)) (fun _ _ => rfl)) (nomark _)))))
            (C8.pss_cut (ps_set (i := 8) scLaw.nd rfl (.inl rfl) (pe_and (pe_cmpR op_lt (pv 5) (pe_callB call_len_str (by rfl) T.n_len PySem.boot_len (pa_cons (pv 2) pa_nil)) (nomark _)) (pe_one (pe_cmpR op_eq (pe_item_str (pv 2) (pv 5) (fun _ _ => rfl)) (pe_item_str (pv 2) (pe_op op_sub (pv 5) (pv 6)) (fun _ _ => rfl)) (nomark _)))))
            (pss_one (ps_if (PW.pt (pw_and (pt_not (pt_val (pv 7))) (pw_and1 (pt_not (pt_val (pv 8))))))
              (pss_one (ps_expr (pe_bm PySem.F.plainAttrs_list PySem.F.slot_list_append PySem.F.type_list_append mt_append (pv 3) (pa_cons (pe_tup (pa_cons (pv 4) (pa_cons (pv 5) (pa_cons (pv 6) pa_nil)))) pa_nil)))) pss_nil)))) pss_nil))))))
      (pss_one (ps_ret (pe_and (pe_call GA hr (by rfl) T.gAlike T.FAlike.kp T.bAlike .nil pass0 (pa_cons (pe_call GR hr (by rfl) T.gRuns T.FRuns.kp T.bRuns .nil pass0 (pa_cons (pv 2) pa_nil)) (pa_cons (pe_callB (cr_sortT (d := 3) (B := 64) (by decide)) (by rfl) T.n_sorted (by decide +kernel) (pa_cons (pv 3) pa_nil)) pa_nil)))
        (pe_one (pe_or (pe_cmpR op_lt (pe_callB call_len_seq (by rfl) T.n_len PySem.boot_len (pa_cons (pv 3) pa_nil)) (pe_callB call_len_str (by rfl) T.n_len PySem.boot_len (pa_cons (pv 2) pa_nil)) (nomark _)) (pe_one (pe_cmpR op_eq (pv 2) pe_str (nomark _)))))))))))), ?_⟩
    -- row = [script, 0, 4402, 0]
    refine ⟨.ref a, rfl, (show (4 : Nat) ≤ sizeLine by decide), fun r nr => ?_⟩
    have R0 : Row K (upd H r (rowL a 0 4402 0)) r a ns 0 4402 0 := ⟨upd_same, (same_new nr).seq hS, h63, by decide, by decide, by decide⟩
    -- the word
    refine ⟨.ref r, rfl, .ref r, rfl, r, a, ns, 0, 4402, 0, 3, rfl, R0, by decide, by decide, fun i1 n1 m1 v v0 v1 R1 => ?_⟩
    refine ⟨1, v, rfl, rfl, r, a, ns, i1, n1, m1, 1 + v, 0, 20, rfl, R1, by omega, by omega, by decide, by decide, by decide, fun H2 i2 n2 m2 l hA hl R2 B2 => ?_⟩
    refine ⟨fun σ H' => ∃ l : List Nat, Wd l ∧ σ = [some (.ref a), some (.ref r), some (.str (S l)), none, none, none, none, none, none], ?_, ?_⟩
    · refine ⟨.ref r, rfl, r, a, ns, i2, n2, m2, 3, rfl, R2, by decide, by decide, fun i3 n3 m3 v' v0' v1' R3 => ?_⟩
      refine ⟨rfl, _, rfl, ite2 (fun _ => ?_) (fun _ => ?_)⟩
      · refine ⟨.ref r, rfl, r, a, ns, i3, n3, m3, 2, 1, 3, rfl, R3, by decide, by decide, by decide, by decide, by decide, fun H4 i4 n4 m4 l2 hA2 hl2 R4 B4 => ?_⟩
        obtain ⟨l3, e3, m3⟩ := mul4 l2
        have len3 : l3.length ≤ 12 := by
          have h : (Txt.mul (S l2) 4).length ≤ 3 * 4 := PyProof.Rows.len_mul_leN (by rw [S_len]; omega) (by decide)
          rw [e3, S_len] at h
          omega
        refine ⟨S l2, 4, rfl, rfl, by rw [S_len]; omega, by decide, by decide, ?_⟩
        rw [e3]
        refine ⟨12, rfl, S l3, rfl, by rw [S_len]; exact Nat.le_of_lt (small1000 (by omega)), ?_⟩
        rw [cut_to (i := 12) l3 12 rfl]
        refine ⟨.str (S l), rfl, 10, rfl, S l, rfl, by rw [S_len]; exact Nat.le_of_lt (small1000 (by omega)), ?_⟩
        rw [cut_to (i := 10) l 10 rfl]
        refine ⟨S (l3.take 12), S (l.take 10), rfl, rfl, ?_, l3.take 12 ++ l.take 10, ⟨fun c hc => ?_, ?_⟩, ?_⟩
        · rw [S_len, S_len, List.length_take, List.length_take]
          exact Nat.le_of_lt (small1000 (by omega))
        · rcases List.mem_append.1 hc with h | h
          · exact hA2 c (m3 c (List.mem_of_mem_take h))
          · exact hA c (List.mem_of_mem_take h)
        · rw [List.length_append, List.length_take, List.length_take]
          omega
        · have e4 : S (l3.take 12) ++ S (l.take 10) = S (l3.take 12 ++ l.take 10) := SX.S_cat _ _
          rw [e4]
          rfl
      · exact ⟨l, ⟨hA, by omega⟩, rfl⟩
    · rintro σ' H3 ⟨l, W, rfl⟩
      have hl := W.len
      have hz : (S l).length ≤ sizeLine := by rw [S_len]; exact Nat.le_of_lt (small1000 (by omega))
      have eS : ((S l).length : Int) = (l.length : Int) := by rw [S_len]
      -- due = []
      refine ⟨by decide, fun D nD => ?_⟩
      refine ⟨.str (S l), rfl, S l, rfl, hz, ((S l).length : Int), rfl, by omega, by omega, ?_⟩
      rw [show (((S l).length : Int)).toNat = l.length by omega]
      refine for_range (lo := 0) (n := l.length) (OutP l a r D) ?_ (fun b σ H4 hb hP => ?_) (fun σ H4 hP => ?_)
      · exact ⟨none, none, none, none, none, rfl, [], upd_same, (fun q hq => by cases hq), Due.start l⟩
      · obtain ⟨y4, y5, y6, y7, y8, rfl, hD⟩ := hP
        rw [Int.zero_add]
        refine ⟨.int (b : Nat), rfl, (b : Int), 2, rfl, rfl, .str (S l), rfl, S l, rfl, hz, ((S l).length : Int), 1, rfl, rfl, (b : Int) + 2, ((S l).length : Int) + 1, rfl, ⟨by omega, by omega, by omega, by omega⟩, ?_⟩
        have ec : (((S l).length : Int) + 1 - ((b : Int) + 2)).toNat = l.length - 1 - b := by omega
        rw [ec]
        refine for_range (lo := (b : Int) + 2) (n := l.length - 1 - b) (InP l a r D b) ?_ (fun j σ H5 hj hP => ?_) (fun σ H5 hP => ?_)
        · exact ⟨_, _, _, _, rfl, hD⟩
        · obtain ⟨y5, y6, y7, y8, rfl, hD⟩ := hP
          have ee : (b : Int) + 2 + (j : Int) = ((b + 2 + j : Nat) : Int) := by omega
          rw [ee]
          obtain ⟨e, he⟩ : ∃ e, e = b + 2 + j := ⟨_, rfl⟩
          rw [← he] at hD ⊢
          have hen : e ≤ l.length := by omega
          have hbe : b + 2 ≤ e := by omega
          have fin : ∀ {y5 y6 y7 y8 : Option V} {H' : Hp}, DueP l D b (e + 1) H' → InP l a r D b (j + 1) [some (.ref a), some (.ref r), some (.str (S l)), some (.ref D), some (.int (b : Nat)), y5, y6, y7, y8] H' := fun {y5 y6 y7 y8 H'} h => ⟨y5, y6, y7, y8, rfl, by
            rw [show b + 2 + (j + 1) = e + 1 by omega]
            exact h⟩
          have hc : cutS (S l) (some (b : Int)) (some (e : Int)) = S (sub l b e) := cut_mid l b e rfl rfl (by omega) hen
          have hsl : (sub l b e).length = e - b := sub_len hen
          obtain ⟨p, hp0, hp⟩ := pers_first (l := sub l b e) (by omega)
          rw [hsl] at hp
          have pp := hp.pos
          have ple := hp.le
          -- part = periods(word[begin:end])[0]
          refine ⟨.str (S l), rfl, .int (b : Nat), rfl, (b : Int), rfl, .int (e : Nat), rfl, (e : Int), rfl, S l, rfl, hz, ?_⟩
          rw [hc]
          refine ⟨sub l b e, rfl, by omega, fun H6 p6 sm6 np6 ep6 => ?_⟩
          refine ⟨p6, _, 0, .int (p : Nat), rfl, rfl, .inl (.inl ep6), at_of (j := 0) rfl (by rw [List.getElem?_map, hp0]; rfl), ?_⟩
          have hD6 := hD.keep sm6
          refine ⟨.int (p : Nat), rfl, 2, (p : Int), rfl, rfl, .inl ⟨by decide, by decide⟩, .int (e : Nat), rfl, .int (b : Nat), rfl, (e : Int), (b : Int), rfl, rfl, 2 * (p : Int), (e : Int) - (b : Int), rfl, rfl, _, rfl, ite2 (fun h2 => ?_) (fun h2 => ?_)⟩
          · have h2' : 2 * (p : Int) ≤ (e : Int) - (b : Int) := of_decide_eq_true h2
            -- left
            refine ⟨fun σ' H' => ∃ cL : Bool, (cL = true ↔ (0 < b ∧ fn l (b - 1) = fn l (b - 1 + p))) ∧ σ' = [some (.ref a), some (.ref r), some (.str (S l)), some (.ref D), some (.int (b : Nat)), some (.int (e : Nat)), some (.int (p : Nat)), some (.bl cL), y8] ∧ H' = H6, ?_, ?_⟩
            · refine ⟨.int (b : Nat), rfl, (b : Int), 0, rfl, rfl, _, rfl, ite2 (fun h0 => ?_) (fun h0 => ?_)⟩
              · have h0' : (0 : Int) < (b : Int) := of_decide_eq_true h0
                have c1 : (S l).cps[((b : Int) - 1).toNat]? = some (fn l (b - 1)) := by
                  rw [show ((b : Int) - 1).toNat = b - 1 by omega]
                  exact fn_at (by omega)
                have c2 : (S l).cps[((b : Int) - 1 + (p : Int)).toNat]? = some (fn l (b - 1 + p)) := by
                  rw [show ((b : Int) - 1 + (p : Int)).toNat = b - 1 + p by omega]
                  exact fn_at (by omega)
                refine ⟨.str (S l), rfl, .int (b : Nat), rfl, (b : Int), 1, rfl, rfl, S l, (b : Int) - 1, fn l (b - 1), rfl, rfl, by omega, by omega, by omega, c1, .str (S l), rfl, .int (b : Nat), rfl, (b : Int), 1, rfl, rfl, .int (p : Nat), rfl, (b : Int) - 1, (p : Int), rfl, rfl, S l, (b : Int) - 1 + (p : Int), fn l (b - 1 + p), rfl, rfl, by omega, by omega, by omega, c2, rfl, ?_⟩
                refine ⟨_, ?_, rfl, rfl⟩
                rw [decide_eq_true_eq, sign_eq]
                exact ⟨fun z => ⟨by omega, z⟩, fun z => z.2⟩
              · have h0' : ¬ (0 : Int) < (b : Int) := fun z => h0 (decide_eq_true z)
                exact ⟨false, ⟨(fun z => by cases z), fun z => absurd z.1 (by omega)⟩, rfl, rfl⟩
            · rintro σ' H' ⟨cL, hL, rfl, rfl⟩
              -- right
              refine ⟨fun σ' H2 => ∃ cR : Bool, (cR = true ↔ (e < l.length ∧ fn l e = fn l (e - p))) ∧ σ' = [some (.ref a), some (.ref r), some (.str (S l)), some (.ref D), some (.int (b : Nat)), some (.int (e : Nat)), some (.int (p : Nat)), some (.bl cL), some (.bl cR)] ∧ H2 = H', ?_, ?_⟩
              · refine ⟨.int (e : Nat), rfl, .str (S l), rfl, S l, rfl, hz, (e : Int), ((S l).length : Int), rfl, rfl, _, rfl, ite2 (fun h0 => ?_) (fun h0 => ?_)⟩
                · have h0' : (e : Int) < ((S l).length : Int) := of_decide_eq_true h0
                  have c1 : (S l).cps[((e : Int)).toNat]? = some (fn l e) := fn_at (by omega)
                  have c2 : (S l).cps[((e : Int) - (p : Int)).toNat]? = some (fn l (e - p)) := by
                    rw [show ((e : Int) - (p : Int)).toNat = e - p by omega]
                    exact fn_at (by omega)
                  refine ⟨.str (S l), rfl, .int (e : Nat), rfl, S l, (e : Int), fn l e, rfl, rfl, by omega, by omega, by omega, c1, .str (S l), rfl, .int (e : Nat), rfl, .int (p : Nat), rfl, (e : Int), (p : Int), rfl, rfl, S l, (e : Int) - (p : Int), fn l (e - p), rfl, rfl, by omega, by omega, by omega, c2, rfl, ?_⟩
                  refine ⟨_, ?_, rfl, rfl⟩
                  rw [decide_eq_true_eq, sign_eq]
                  exact ⟨fun z => ⟨by omega, z⟩, fun z => z.2⟩
                · have h0' : ¬ (e : Int) < ((S l).length : Int) := fun z => h0 (decide_eq_true z)
                  exact ⟨false, ⟨(fun z => by cases z), fun z => absurd z.1 (by omega)⟩, rfl, rfl⟩
              · rintro σ' H2 ⟨cR, hR, rfl, rfl⟩
                cases cL with
                | true =>
                  refine ⟨.bl true, rfl, true, rfl, ?_⟩
                  exact fin (by
                    obtain ⟨L, g1, g2, g3⟩ := hD6
                    exact ⟨L, g1, g2, g3.skip (due_not (by omega) hp (.inr (.inl (hL.1 rfl))))⟩)
                | false =>
                  refine ⟨.bl false, rfl, false, rfl, .bl cR, rfl, cR, rfl, ?_⟩
                  cases cR with
                  | true =>
                    exact fin (by
                      obtain ⟨L, g1, g2, g3⟩ := hD6
                      exact ⟨L, g1, g2, g3.skip (due_not (by omega) hp (.inr (.inr (hR.1 rfl))))⟩)
                  | false =>
                    obtain ⟨L, g1, g2, g3⟩ := hD6
                    have nL : ¬ (0 < b ∧ fn l (b - 1) = fn l (b - 1 + p)) := fun z => by
                      have := hL.2 z
                      cases this
                    have nR : ¬ (e < l.length ∧ fn l e = fn l (e - p)) := fun z => by
                      have := hR.2 z
                      cases this
                    have R : IsRun l (b, e, p) := due_run hen hp (by omega) (by omega) nL nR
                    have few := few_le g3.nd fun r hr => ((g3.mem r).1 hr).1
                    rw [List.length_map] at few
                    refine ⟨.ref D, rfl, .inl ⟨rfl, _, .inl (.inl g1)⟩, .int (b : Nat), rfl, .int (e : Nat), rfl, .int (p : Nat), rfl, (show (3 : Nat) ≤ sizeLine by decide), fun tp ntp => ?_⟩
                    have nDt : D ≠ tp := ne_of_none g1 ntp
                    refine ⟨D, _, _, rfl, rfl, by rw [upd_ne nDt]; exact g1, by rw [List.length_map]; exact small1000 (by omega), ?_⟩
                    refine fin ⟨L ++ [(tp, (b, e, p))], ?_, fun q hq => ?_, ?_⟩
                    · rw [upd_same, List.map_append]
                      rfl
                    · have nDq : q.1 ≠ D := by
                        rcases List.mem_append.1 hq with z | z
                        · exact ne_of (g2 q z) g1 (by intro e; cases e)
                        · rw [List.mem_singleton] at z
                          rw [z]
                          exact nDt.symm
                      rw [upd_ne nDq]
                      rcases List.mem_append.1 hq with z | z
                      · rw [upd_ne (ne_of_none (g2 q z) ntp)]
                        exact g2 q z
                      · rw [List.mem_singleton] at z
                        rw [z, upd_same]
                        rfl
                    · rw [List.map_append]
                      exact g3.add R
          · have h2' : ¬ 2 * (p : Int) ≤ (e : Int) - (b : Int) := fun z => h2 (decide_eq_true z)
            exact fin (by
              obtain ⟨L, g1, g2, g3⟩ := hD6
              exact ⟨L, g1, g2, g3.skip (due_not (by omega) hp (.inl (by omega)))⟩)
        · obtain ⟨y5, y6, y7, y8, rfl, L, h1, h2, h3⟩ := hP
          exact ⟨_, _, _, _, _, rfl, L, h1, h2, h3.next (by omega)⟩
      · obtain ⟨y4, y5, y6, y7, y8, rfl, L, hL, hT, hD⟩ := hP
        have mem := hD.done
        have few := few_le hD.nd fun r hr => (mem r).1 hr
        have hlL : (L.map (·.2)).length = L.length := List.length_map _
        -- runs(word), sorted(due)
        refine ⟨.str (S l), rfl, l, rfl, W, fun H5 p1 L1 ks sm5 np1 e1 t1 n1 m1 pm1 s1 => ?_⟩
        have hL5 := sm5 _ _ hL
        have hT5 : ∀ q ∈ L, H5 q.1 = some (.tup ((enc q.2).map V.int)) := fun q hq => sm5 _ _ (hT q hq)
        refine ⟨.ref D, rfl, D, _, rfl, .inl (.inl hL5), by rw [List.length_map]; omega, fun x hx => ?_, fun ys p2 pm2 s2 np2 => ?_⟩
        · obtain ⟨q, hq, ex⟩ := List.mem_map.1 hx
          subst ex
          have hr := (mem q.2).1 (List.mem_map.2 ⟨q, hq, rfl⟩)
          exact ⟨enc q.2, ⟨q.1, rfl, .inl (.inl (hT5 q hq))⟩, (enc_bd W hr).1, (enc_bd W hr).2⟩
        · have s6 : Same H5 (upd H5 p2 (.lst ys)) := same_new np2
          have inY : ∀ y ∈ ys, ∃ q ∈ L, y = V.ref q.1 := fun y hy => by
            obtain ⟨q, hq, e⟩ := List.mem_map.1 (pm2.mem_iff.1 hy)
            exact ⟨q, hq, e.symm⟩
          have tupI_one : ∀ {q : Addr × Tr} {n : List Int}, q ∈ L → TupI K (upd H5 p2 (.lst ys)) (.ref q.1) n → TupI K H5 (.ref q.1) n := by
            intro q n hq h
            obtain ⟨t, et, h⟩ := h
            cases et
            have hn : q.1 ≠ p2 := ne_of_none (hT5 q hq) np2
            refine ⟨q.1, rfl, ?_⟩
            rcases h with (h | ⟨o, h⟩) | h
            · rw [upd_ne hn] at h
              exact .inl (.inl h)
            · rw [upd_ne hn] at h
              exact .inl (.inr ⟨o, h⟩)
            · exact .inr h
          have s2' : ys.Pairwise (fun x y => ∀ n m, TupI K (upd H5 p2 (.lst ys)) x n → TupI K (upd H5 p2 (.lst ys)) y m → TS.code 64 n ≤ TS.code 64 m) := by
            refine List.Pairwise.imp_of_mem (fun {x y} hx hy h n m hn hm => ?_) s2
            obtain ⟨q, hq, ex⟩ := inY x hx
            obtain ⟨r, hr, ey⟩ := inY y hy
            subst ex ey
            exact h n m (tupI_one hq hn) (tupI_one hr hm)
          have al : Alike 2 (upd H5 p2 (.lst ys)) (.ref p1) (.ref p2) := alike_end W (s6 _ _ e1) (fun q hq => s6 _ _ (t1 q hq)) n1 m1 pm1 s1 upd_same (fun q hq => s6 _ _ (hT5 q hq)) hD.nd mem pm2 s2'
          refine ⟨_, _, rfl, al, fun H7 sm7 => ?_⟩
          have hL7 := sm7 _ _ (s6 _ _ hL5)
          refine ⟨true, rfl, iteT ?_⟩
          refine ⟨.ref D, rfl, D, _, rfl, .inl (.inl (.inl hL7)), .str (S l), rfl, S l, rfl, hz, _, ((S l).length : Int), rfl, rfl, _, rfl, ite2 (fun h => ?_) (fun h => ?_)⟩
          · exact q _
          · have h0 : l.length = 0 := by
              apply Classical.byContradiction
              intro z
              have f := KC.few hD.nd (fun r hr => (mem r).1 hr) (by omega)
              refine h (decide_eq_true ?_)
              rw [List.length_map, eS]
              omega
            have hl0 : l = [] := List.length_eq_zero_iff.1 h0
            subst hl0
            refine ⟨.str (S []), rfl, rfl, ?_⟩
            have e : decide (V.str (S []) = V.str (PySem.Str.ofString "")) = true := decide_eq_true rfl
            show Q (.bl (decide (V.str (S []) = V.str (PySem.Str.ofString "")))) H7
            rw [e]
            exact q _
end KT
/-! KEnd -/
namespace KT
open PySem PySem.Spec PyProof.Rows L2
theorem fin {l : PySem.W.OpenLaw} {w : World} {K : PySem.W.Frag} {mg : Str → Option Value} {fa : Addr} (e : ∃ T : Txt K mg, T.fLaw = fa ∧ ∀ (s : Shared) (v : Value), BindsTo s T.dLaw ⟨[v], []⟩ [("_law_script", v)]) :
    ∃ fd : FuncData, (∀ (s : Shared) (u : Value), BindsTo s fd ⟨[u], []⟩ [("_law_script", u)]) ∧ ∀ base : Heap, K.In base → base.Ns mainGlobals mg → FnOk l.prog w K mg base CX0 4 fa fd ["_law_script"] (spLaw K) := by
  obtain ⟨T, e1, e2⟩ := e
  exact ⟨T.dLaw, e2, fun base _ _ => e1 ▸ ok_law T⟩
end KT
open PySem PySem.W PyProof.Rows
set_option maxHeartbeats 0 in
theorem PySem.Challenge.cw_avoidwords_k02_whole_runs_holds : PySem.Challenge.rw_avoidwords_k02_whole_runs.Holds := by
  w_on; o_law; k_head; (case hw => w_witness2)
  k_fill
  refine L2.walk_of (l := PySem.Challenge.rw_avoidwords_k02_whole_runs) (n := 63) (k := 4) (x := "_law_script") (CX := fun _ => L2.CX0) (sp := fun w => KT.spLaw _) rfl (by decide) rfl ⟨rfl, by decide, by decide⟩ (fun w h Y => PySem.W.kIn_of Y) ?F (fun _ _ a ns hl _ hS => ⟨a, ns, rfl, hS, hl, fun _ => rfl⟩) (fun _ _ _ _ _ h => h)
  case F =>
    intro w mg fa h KX G hmg
    refine KT.fin (l := PySem.Challenge.rw_avoidwords_k02_whole_runs) ?_
    refine' KT.txt_mk KX G hmg ?a0 ?l0 ?c0 ?k0 ?lT ?a1 ?l1 ?c1 ?k1 ?a2 ?l2 ?c2 ?k2 ?a3 ?l3 ?c3 ?k3 ?a4 ?l4 ?c4 ?k4 ?a5 ?l5 ?c5 ?k5 ?a6 ?l6 ?c6 ?k6 ?a7 ?l7 ?c7 ?k7 ?a8 ?l8 ?c8 ?k8 ?a9 ?l9 ?c9 ?k9 ?z0 ?z1 ?z2 ?z3 ?z4 ?z5 ?z6 ?z7 ?z8 ?z9 ?zL ?rL
    (case a0 => k_is)
    (case l0 => k_is)
    (case c0 => k_is)
    (case k0 => k_is)
    (case lT => k_is)
    (case a1 => k_is)
    (case l1 => k_is)
    (case c1 => k_is)
    (case k1 => k_is)
    (case a2 => k_is)
    (case l2 => k_is)
    (case c2 => k_is)
    (case k2 => k_is)
    (case a3 => k_is)
    (case l3 => k_is)
    (case c3 => k_is)
    (case k3 => k_is)
    (case a4 => k_is)
    (case l4 => k_is)
    (case c4 => k_is)
    (case k4 => k_is)
    (case a5 => k_is)
    (case l5 => k_is)
    (case c5 => k_is)
    (case k5 => k_is)
    (case a6 => k_is)
    (case l6 => k_is)
    (case c6 => k_is)
    (case k6 => k_is)
    (case a7 => k_is)
    (case l7 => k_is)
    (case c7 => k_is)
    (case k7 => k_is)
    (case a8 => k_is)
    (case l8 => k_is)
    (case c8 => k_is)
    (case k8 => k_is)
    (case a9 => k_is)
    (case l9 => k_is)
    (case c9 => k_is)
    (case k9 => k_is)
    (case z0 => k_is)
    (case z1 => k_is)
    (case z2 => k_is)
    (case z3 => k_is)
    (case z4 => k_is)
    (case z5 => k_is)
    (case z6 => k_is)
    (case z7 => k_is)
    (case z8 => k_is)
    (case z9 => k_is)
    (case zL => k_is)
    (case rL => exact ⟨_, rfl⟩)
