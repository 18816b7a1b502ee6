import PyProof.Rows.All
import Wide.All
import OpenK.AllK
import Wide.FinOn
import Lean
import PySem.Challenge.RW_rh0200_01
open PySem PySem.W PyProof.Rows
set_option Elab.async false
set_option linter.unusedVariables false
namespace Mine
set_option maxRecDepth 100000 in
set_option maxHeartbeats 8000000 in
open_top hd for PySem.Challenge.rw_rh0200_01
end Mine

namespace Mine
/-! plain words -/
def decF (p s h : Int) : Int := (Int.fdiv (p * (2 * h - Int.fmod s h)) (2 * h)).fdiv (2 ^ (Int.fdiv s h).toNat)
def leftF (p s h : Int) : Int := (p * (2 * h - Int.fmod s h)).fdiv (2 * h * 2 ^ (min (Int.fdiv s h) 60).toNat)

/-- what seconds_until hands back -/
def Until (p goal h u : Int) : Prop :=
  (p ≤ goal ∧ u = 0) ∨ (goal < p ∧ ∃ k : Int, 0 ≤ k ∧ k ≤ 60 ∧ (k = 0 ∨ goal < decF p (k * h) h) ∧ decF p ((k + 1) * h) h ≤ goal ∧
    u = k * h + max 0 (2 * h - ((goal + 1) * (2 * h * 2 ^ k.toNat) - 1).fdiv p))

/-! a frame's map with one name set anew -/
theorem fr_put {h₀ h : Heap} {L : Addr} {m m₁ : Str → Option Value} {x : Str} {v : Value} (F : Fr h₀ L h m₁) (h1 : m₁ x = some v) (h2 : ∀ z, z ≠ x → m₁ z = m z) :
    Fr h₀ L h (fun y => if y = x then some v else m y) := by
  have e : (fun y => if y = x then some v else m y) = m₁ := by
    funext y
    by_cases hy : y = x
    · subst hy; rw [if_pos rfl, h1]
    · rw [if_neg hy, h2 y hy]
  rw [e]; exact F

/-! an entry taken out of a ledger -/
inductive Pick (x : Addr × Obj) : List (Addr × Obj) → List (Addr × Obj) → Prop
  | here {r : List (Addr × Obj)} : Pick x (x :: r) r
  | there {y : Addr × Obj} {r r' : List (Addr × Obj)} : Pick x r r' → Pick x (y :: r) (y :: r')
theorem Pick.mem {x : Addr × Obj} {l r : List (Addr × Obj)} (P : Pick x l r) : ∀ p ∈ x :: r, p ∈ l := by
  induction P with
  | here => exact fun p hp => hp
  | @there y r r' _ ih =>
    intro p hp
    rcases List.mem_cons.mp hp with rfl | hp
    · exact .tail _ (ih _ (.head _))
    · rcases List.mem_cons.mp hp with rfl | hp
      · exact .head _
      · exact .tail _ (ih _ (.tail _ hp))

/-! a while that counts one name up from nought -/
def WUp (h₀ : Heap) (L : Addr) (x : Str) (m0 : Str → Option Value) (news : List (Addr × Obj)) (P : Int → Prop) (top : Nat) (k : Int) (s : Shared) (f : Flow) (s₃ : Shared) : Prop :=
  f = .next ∧ ∃ h' tk m₂ t', s₃ = { s with heap := h', toks := tk } ∧ Fr h₀ L h' m₂ ∧ News h₀ L h' news ∧ m₂ x = some (.int (k + 1) t') ∧ (∀ z, z ≠ x → m₂ z = m0 z) ∧ P (k + 1) ∧ k < top
theorem while_up {prog : Program} {w : World} {A : Around} {E : Value → Shared → Prop} {Q : Flow → Shared → Prop} {s : Shared} {env : Env} {h₀ : Heap} {L : Addr} {test : Expr} {body : List Stmt} {pos : Pos} {m0 : Str → Option Value} {news : List (Addr × Obj)} {x : Str} {t₀ : Tok}
    (P : Int → Prop) (top : Nat) (F : Fr h₀ L s.heap (fun y => if y = x then some (.int 0 t₀) else m0 y)) (N : News h₀ L s.heap news) (hP : P 0)
    (turn : ∀ k t h₁ tk₁, 0 ≤ k → P k → Fr h₀ L h₁ (fun y => if y = x then some (.int k t) else m0 y) → News h₀ L h₁ news →
      wpAny (model prog w) A (isTrue test env (eval test env)) (fun b s₂ =>
        if b = true then wpAny (model prog w) A (execs body env) (WUp h₀ L x m0 news P top k s) E s₂ else Q .next s₂) E { s with heap := h₁, toks := tk₁ })
    (hE : PassesOwn (model prog w) A env E := by passes_own) :
    wpAny (model prog w) A (exec (.While test body [] pos) env) Q E s := by
  refine While_inv (J := fun n m₁ news₁ => news₁ = news ∧ ∃ k t, m₁ x = some (.int k t) ∧ (∀ z, z ≠ x → m₁ z = m0 z) ∧ P k ∧ 0 ≤ k ∧ n = (top + 1 - k).toNat) (n₀ := (top + 1 - 0 : Int).toNat) F N
    ⟨rfl, 0, t₀, by simp, fun z hz => by simp [hz], hP, Int.le_refl 0, rfl⟩ ?_ hE
  rintro n m₁ news₁ h₁ tk₁ F₁ N₁ ⟨rfl, k, t, hx, hz, hk, hk0, rfl⟩
  refine wpAny_mono (turn k t h₁ tk₁ hk0 hk (fr_put F₁ hx hz) N₁) (fun b s₂ hb => ?_) fun _ _ e => e
  cases b with
  | false => exact hb
  | true =>
    simp only [if_true] at hb ⊢
    refine wpAny_mono hb (fun f s₃ hf => ?_) fun _ _ e => e
    obtain ⟨rfl, h', tk, m₂, t', rfl, F₂, N₂, e1, e2, e3, e4⟩ := hf
    exact WhileStep.intro F₂ N₂ (by omega) ⟨rfl, k + 1, t', e1, e2, e3, by omega, rfl⟩
end Mine

namespace Mine
/-! the plain law: no program in sight -/
theorem two_pow_pos' (n : Nat) : (0 : Int) < 2 ^ n := Int.pow_pos (by decide)
theorem two_pow_le {a b : Nat} (h : a ≤ b) : (2 : Int) ^ a ≤ 2 ^ b := by
  have := Nat.pow_le_pow_right (n := 2) (by decide) h
  exact_mod_cast this
theorem fdiv_pos {a b : Int} (h : 0 ≤ b) : a.fdiv b = a / b := Int.fdiv_eq_ediv_of_nonneg a h
theorem fmod_pos {a b : Int} (h : 0 ≤ b) : a.fmod b = a % b := Int.fmod_eq_emod_of_nonneg a h

/-- what is left behind k half lives and r more -/
theorem dec_at {p k r h : Int} (h5 : 0 < h) (hr0 : 0 ≤ r) (hr : r < h) : decF p (k * h + r) h = p * (2 * h - r) / (2 * h * 2 ^ k.toNat) := by
  have e1 : (k * h + r) / h = k := by
    rw [Int.add_comm, Int.add_mul_ediv_right _ _ (by omega), Int.ediv_eq_zero_of_lt hr0 hr]; omega
  have e2 : (k * h + r) % h = r := by
    rw [Int.add_comm, Int.add_mul_emod_self_right, Int.emod_eq_of_lt hr0 hr]
  unfold decF
  rw [fdiv_pos (Int.le_of_lt h5), fmod_pos (Int.le_of_lt h5), e1, e2, fdiv_pos (b := 2 * h) (by omega), fdiv_pos (b := 2 ^ k.toNat) (Int.le_of_lt (two_pow_pos' _)), Int.ediv_ediv_of_nonneg (by omega)]
theorem dec_mul {p k h : Int} (h5 : 0 < h) : decF p (k * h) h = p / 2 ^ k.toNat := by
  have := dec_at (p := p) (k := k) (r := 0) h5 (Int.le_refl 0) h5
  rw [Int.add_zero] at this
  rw [this, Int.sub_zero, Int.mul_comm p, Int.mul_ediv_mul_of_pos _ _ (by omega)]
theorem dec_zero {p h : Int} (h5 : 0 < h) : decF p 0 h = p := by
  have := dec_mul (p := p) (k := 0) h5
  rw [Int.zero_mul] at this
  rw [this]
  simp
theorem split_of {s h : Int} (h5 : 0 < h) : s = s / h * h + s % h := by
  have := Int.mul_ediv_add_emod s h
  rw [Int.mul_comm] at this
  omega
theorem dec_is {p s h : Int} (h5 : 0 < h) : decF p s h = p * (2 * h - s % h) / (2 * h * 2 ^ (s / h).toNat) := by
  have e := dec_at (p := p) (k := s / h) (r := s % h) h5 (Int.emod_nonneg _ (by omega)) (Int.emod_lt_of_pos _ h5)
  rw [← split_of h5] at e
  exact e
theorem pow_of_lt {p : Int} {n : Nat} {g : Int} (h0 : 0 ≤ p) (h2 : p < 2 ^ 60) (hg : 0 ≤ g) (h : g < p / 2 ^ n) : n < 60 := by
  refine Nat.lt_of_not_le fun hn => ?_
  have h1 : p < 2 ^ n := Int.lt_of_lt_of_le h2 (two_pow_le hn)
  rw [Int.ediv_eq_zero_of_lt h0 h1] at h
  omega
theorem dec_lt60 {p k h g : Int} (h5 : 0 < h) (h0 : 0 ≤ p) (h2 : p < 2 ^ 60) (hg : 0 ≤ g) (hk : 0 ≤ k) (h : g < decF p (k * h) h) : k < 60 := by
  rw [dec_mul h5] at h
  have := pow_of_lt h0 h2 hg h
  omega
theorem dec_nonneg {p s h : Int} (h5 : 0 < h) (h0 : 0 ≤ p) : 0 ≤ decF p s h := by
  rw [dec_is h5]
  have h1 := Int.emod_lt_of_pos s h5
  refine Int.ediv_nonneg (Int.mul_nonneg h0 (by omega)) (Int.le_of_lt (Int.mul_pos (by omega) (two_pow_pos' _)))

theorem dec_left {p s h : Int} (h0 : 0 ≤ p) (h2 : p < 2 ^ 60) (h3 : 0 ≤ s) (h5 : 0 < h) : decF p s h = leftF p s h := by
  rw [dec_is h5]
  unfold leftF
  have hh : 0 ≤ h := Int.le_of_lt h5
  have h1 := Int.emod_lt_of_pos s h5
  have h1' := Int.emod_nonneg s (show h ≠ 0 by omega)
  have hq := Int.ediv_nonneg h3 hh
  rw [fdiv_pos hh, fmod_pos hh, fdiv_pos (Int.le_of_lt (Int.mul_pos (by omega) (two_pow_pos' _)))]
  by_cases ht : s / h ≤ 60
  · rw [Int.min_eq_left ht]
  · rw [Int.min_eq_right (by omega)]
    have hX0 : 0 ≤ p * (2 * h - s % h) := Int.mul_nonneg h0 (by omega)
    have hX : p * (2 * h - s % h) < 2 * h * 2 ^ 60 := by
      calc p * (2 * h - s % h) ≤ p * (2 * h) := Int.mul_le_mul_of_nonneg_left (by omega) h0
        _ < 2 ^ 60 * (2 * h) := Int.mul_lt_mul_of_pos_right h2 (by omega)
        _ = 2 * h * 2 ^ 60 := Int.mul_comm _ _
    have e60 : (60 : Int).toNat = 60 := rfl
    rw [e60, Int.ediv_eq_zero_of_lt hX0 hX]
    refine Int.ediv_eq_zero_of_lt hX0 (Int.lt_of_lt_of_le hX ?_)
    exact Int.mul_le_mul_of_nonneg_left (two_pow_le (by omega)) (by omega)

theorem until_dec {p goal h u : Int} (U : Until p goal h u) (h3 : 0 ≤ goal) (h5 : 0 < h) : 0 ≤ u ∧ decF p u h ≤ goal ∧ (0 < u → goal < decF p (u - 1) h) := by
  rcases U with ⟨hp, rfl⟩ | ⟨hp, k, hk0, hk60, hk, hk1, rfl⟩
  · exact ⟨Int.le_refl 0, by rw [dec_zero h5]; exact hp, fun h => absurd h (by decide)⟩
  · have hpp : 0 < p := by omega
    rw [fdiv_pos (Int.le_of_lt hpp)]
    have hA : 0 < 2 * h * 2 ^ k.toNat := Int.mul_pos (by omega) (two_pow_pos' _)
    have hA2 : (2 : Int) ^ (k + 1).toNat = 2 * 2 ^ k.toNat := by
      have : (k + 1).toNat = k.toNat + 1 := by omega
      rw [this, Int.pow_succ, Int.mul_comm]
    have key : ∀ y : Int, y ≤ ((goal + 1) * (2 * h * 2 ^ k.toNat) - 1) / p ↔ y * p < (goal + 1) * (2 * h * 2 ^ k.toNat) := fun y => by
      rw [Int.le_ediv_iff_mul_le hpp]; omega
    generalize hb : ((goal + 1) * (2 * h * 2 ^ k.toNat) - 1) / p = b at key
    -- the start of the span is above the goal
    have up : b < 2 * h := by
      refine Int.lt_of_not_ge fun hc => ?_
      have h7 := (key (2 * h)).mp hc
      have h8 : goal + 1 ≤ p / 2 ^ k.toNat := by
        rcases hk with hk | hk
        · subst hk
          simp
          omega
        · rw [dec_mul h5] at hk
          omega
      rw [Int.le_ediv_iff_mul_le (two_pow_pos' _)] at h8
      have h9 : (goal + 1) * 2 ^ k.toNat * (2 * h) ≤ p * (2 * h) := Int.mul_le_mul_of_nonneg_right h8 (by omega)
      have e : (goal + 1) * 2 ^ k.toNat * (2 * h) = (goal + 1) * (2 * h * 2 ^ k.toNat) := by
        rw [Int.mul_assoc, Int.mul_comm (2 ^ k.toNat)]
      rw [e, Int.mul_comm p] at h9
      omega
    -- its end is not
    have dn : h ≤ b := by
      refine (key h).mpr ?_
      rw [dec_mul h5, hA2] at hk1
      have h8 : p / (2 * 2 ^ k.toNat) < goal + 1 := by omega
      rw [Int.ediv_lt_iff_lt_mul (Int.mul_pos (by decide) (two_pow_pos' _))] at h8
      have h9 : h * p < h * ((goal + 1) * (2 * 2 ^ k.toNat)) := Int.mul_lt_mul_of_pos_left h8 h5
      have e : h * ((goal + 1) * (2 * 2 ^ k.toNat)) = (goal + 1) * (2 * h * 2 ^ k.toNat) := by
        rw [Int.mul_left_comm, ← Int.mul_assoc h, Int.mul_comm h]
      rw [e] at h9
      exact h9
    have em : max 0 (2 * h - b) = 2 * h - b := by omega
    rw [em]
    have kh : 0 ≤ k * h := Int.mul_nonneg hk0 (by omega)
    refine ⟨by omega, ?_, fun _ => ?_⟩
    · by_cases hr : 2 * h - b < h
      · rw [dec_at h5 (by omega) hr]
        have h7 := (key b).mp (Int.le_refl b)
        have e : 2 * h - (2 * h - b) = b := by omega
        rw [e]
        have : p * b / (2 * h * 2 ^ k.toNat) < goal + 1 := by
          rw [Int.ediv_lt_iff_lt_mul hA, Int.mul_comm p]; exact h7
        omega
      · have e : k * h + (2 * h - b) = (k + 1) * h := by
          have : b = h := by omega
          rw [this, Int.add_mul]; omega
        rw [e]; exact hk1
    · have e : k * h + (2 * h - b) - 1 = k * h + (2 * h - b - 1) := by omega
      rw [e, dec_at h5 (by omega) (by omega)]
      have h7 : ¬ b + 1 ≤ b := by omega
      rw [key] at h7
      have e2 : 2 * h - (2 * h - b - 1) = b + 1 := by omega
      rw [e2]
      have : goal + 1 ≤ p * (b + 1) / (2 * h * 2 ^ k.toNat) := by
        rw [Int.le_ediv_iff_mul_le hA, Int.mul_comm p]; omega
      omega

theorem until_left {p goal h u : Int} (U : Until p goal h u) (h0 : 0 ≤ p) (h2 : p < 2 ^ 60) (h3 : 0 ≤ goal) (h5 : 0 < h) : 0 ≤ u ∧ leftF p u h ≤ goal ∧ (0 < u → goal < leftF p (u - 1) h) := by
  obtain ⟨a, b, c⟩ := until_dec U h3 h5
  exact ⟨a, by rw [← dec_left h0 h2 a h5]; exact b, fun hu => by rw [← dec_left h0 h2 (by omega) h5]; exact c hu⟩

theorem np60 {p : Int} (h0 : 0 ≤ p) (h2 : p < 2 ^ 60) : p.natAbs.log2 < 9000 := by
  by_cases hz : p.natAbs = 0
  · rw [hz]; decide +kernel
  · have h60 : p.natAbs < 2 ^ 60 := by omega
    have := (Nat.log2_lt hz).mpr h60
    omega
theorem until_end {p goal h k : Int} (a : ¬p ≤ goal) (hk0 : 0 ≤ k) (hk60 : k ≤ 60) (hk : k = 0 ∨ goal < decF p (k * h) h) (hd : ¬goal < decF p ((k + 1) * h) h) :
    Until p goal h (k * h + if 2 * h - ((goal + 1) * (2 * h * 2 ^ k.toNat) - 1).fdiv p > 0 then 2 * h - ((goal + 1) * (2 * h * 2 ^ k.toNat) - 1).fdiv p else 0) := by
  refine .inr ⟨by omega, k, hk0, hk60, hk, by omega, ?_⟩
  congr 1
  generalize 2 * h - ((goal + 1) * (2 * h * 2 ^ k.toNat) - 1).fdiv p = y
  split <;> omega
/-! the damper's numbers -/
theorem until_four {r h u : Int} (U : Until (4 * r) r h u) (hr : 100 ≤ r) (h5 : 0 < h) (h6 : h ≤ 5) : u = 2 * h := by
  rcases U with ⟨hp, rfl⟩ | ⟨hp, k, hk0, hk60, hk, hk1, rfl⟩
  · omega
  · have k0 : k ≠ 0 := by
      rintro rfl
      rw [dec_mul h5] at hk1
      have : (0 + 1 : Int).toNat = 1 := rfl
      rw [this] at hk1
      omega
    have k1 : k < 2 := by
      refine Int.lt_of_not_ge fun hc => ?_
      rcases hk with hk | hk
      · omega
      · rw [dec_mul h5] at hk
        have h4 : 4 * r / 2 ^ k.toNat ≤ 4 * r / 2 ^ 2 := by
          have h8 : (2 : Int) ^ 2 ≤ 2 ^ k.toNat := two_pow_le (by omega)
          rw [Int.le_ediv_iff_mul_le (by decide)]
          refine Int.le_trans (Int.mul_le_mul_of_nonneg_left h8 (Int.ediv_nonneg (by omega) (Int.le_of_lt (two_pow_pos' _)))) ?_
          exact Int.ediv_mul_le _ (Int.ne_of_gt (two_pow_pos' _))
        omega
    have e1 : k = 1 := by omega
    subst e1
    rw [fdiv_pos (by omega)]
    have e2 : (1 : Int).toNat = 1 := rfl
    rw [e2]
    have a1 : h ≤ ((r + 1) * (2 * h * 2 ^ 1) - 1) / (4 * r) := by
      rw [Int.le_ediv_iff_mul_le (by omega)]
      have : h = 1 ∨ h = 2 ∨ h = 3 ∨ h = 4 ∨ h = 5 := by omega
      rcases this with rfl | rfl | rfl | rfl | rfl <;> omega
    have a2 : ((r + 1) * (2 * h * 2 ^ 1) - 1) / (4 * r) < h + 1 := by
      rw [Int.ediv_lt_iff_lt_mul (by omega)]
      have : h = 1 ∨ h = 2 ∨ h = 3 ∨ h = 4 ∨ h = 5 := by omega
      rcases this with rfl | rfl | rfl | rfl | rfl <;> omega
    omega
theorem dec_five {p s h : Int} (h0 : 0 ≤ p) (h5 : 0 < h) (hs : 5 * h ≤ s) : decF p s h ≤ p / 32 := by
  rw [dec_is h5]
  have h1 := Int.emod_lt_of_pos s h5
  have h1' := Int.emod_nonneg s (show h ≠ 0 by omega)
  have hq : 5 ≤ s / h := by rw [Int.le_ediv_iff_mul_le h5]; exact hs
  have h8 : (2 : Int) ^ 5 ≤ 2 ^ (s / h).toNat := two_pow_le (by omega)
  have hA : 0 < 2 * h * 2 ^ (s / h).toNat := Int.mul_pos (by omega) (two_pow_pos' _)
  have hX : p * (2 * h - s % h) ≤ p * (2 * h) := Int.mul_le_mul_of_nonneg_left (by omega) h0
  have e : p * (2 * h - s % h) / (2 * h * 2 ^ (s / h).toNat) * 32 ≤ p := by
    generalize hd : p * (2 * h - s % h) / (2 * h * 2 ^ (s / h).toNat) = d
    have d0 : 0 ≤ d := by rw [← hd]; exact Int.ediv_nonneg (Int.mul_nonneg h0 (by omega)) (Int.le_of_lt hA)
    have d1 : d * (2 * h * 2 ^ (s / h).toNat) ≤ p * (2 * h) := by
      rw [← hd]
      exact Int.le_trans (Int.ediv_mul_le _ (Int.ne_of_gt hA)) hX
    have d2 : d * (2 * h * 2 ^ 5) ≤ d * (2 * h * 2 ^ (s / h).toNat) := Int.mul_le_mul_of_nonneg_left (Int.mul_le_mul_of_nonneg_left h8 (by omega)) d0
    have d3 : d * 32 * (2 * h) ≤ p * (2 * h) := by
      have e : d * 32 * (2 * h) = d * (2 * h * 2 ^ 5) := by rw [Int.mul_assoc, Int.mul_comm 32]; rfl
      rw [e]; exact Int.le_trans d2 d1
    exact Int.le_of_mul_le_mul_right d3 (by omega)
  rw [Int.le_ediv_iff_mul_le (by decide)]
  exact e
theorem most_q {half : Int} (h5 : 0 < half) : (4 * half).fdiv half = 4 := by
  rw [fdiv_pos (Int.le_of_lt h5)]; exact Int.mul_ediv_cancel _ (by omega)
theorem most_r {half : Int} (h5 : 0 < half) : (4 * half).fmod half = 0 := by
  rw [fmod_pos (Int.le_of_lt h5)]; exact Int.mul_emod_left _ _
theorem top_is {half reuse : Int} (h5 : 0 < half) : (reuse * (2 * half * 2 ^ ((4 * half).fdiv half).toNat)).fdiv (2 * half - (4 * half).fmod half) = 16 * reuse := by
  rw [most_q h5, most_r h5, fdiv_pos (by omega), Int.sub_zero]
  have e : reuse * (2 * half * 2 ^ (4 : Int).toNat) = 16 * reuse * (2 * half) := by
    have e4 : (2 : Int) ^ (4 : Int).toNat = 16 := by decide
    rw [e4, Int.mul_comm (2 * half), ← Int.mul_assoc, Int.mul_comm reuse]
  rw [e]
  exact Int.mul_ediv_cancel _ (by omega)
end Mine

namespace Mine
set_option linter.unusedSectionVars false
theorem left_start {h : Int} (h5 : 0 < h) : 0 < 2 * h ∧ 2 * h = 2 * h * 2 ^ ([] : List Int).length := ⟨by omega, by simp⟩
theorem left_turn {h b x : Int} {pre : List Int} (h1 : 0 < b) (h2 : b = 2 * h * 2 ^ pre.length) : 0 < 2 * b ∧ 2 * b = 2 * h * 2 ^ (pre ++ [x]).length := by
  refine ⟨by omega, ?_⟩
  rw [List.length_append, List.length_singleton, Int.pow_succ, h2, Int.mul_comm 2, ← Int.mul_assoc]
theorem left_fin {h q b : Int} (hq : 0 ≤ q) (h5 : 0 < h) (h6 : h < 2 ^ 20) (e : b = 2 * h * 2 ^ (rangeKs 0 ((if 60 < q then 60 else q) - 0).toNat).length) :
    b = 2 * h * 2 ^ (min q 60).toNat ∧ b ≠ 0 ∧ b.natAbs.log2 < 9000 := by
  rw [rangeKs_length] at e
  have en : ((if 60 < q then 60 else q) - 0).toNat = (min q 60).toNat := by
    congr 1
    split <;> omega
  rw [en] at e
  have hn : (min q 60).toNat ≤ 60 := by omega
  generalize (min q 60).toNat = n at e hn
  have hp : (0 : Int) < 2 ^ n := Int.pow_pos (by decide)
  have hle : (2 : Int) ^ n ≤ 2 ^ 60 := by
    have := Nat.pow_le_pow_right (n := 2) (by decide) hn
    exact_mod_cast this
  have hb : 0 < b := by rw [e]; exact Int.mul_pos (by omega) hp
  refine ⟨e, by omega, ?_⟩
  have hlt : b < 2 ^ 81 := by
    rw [e]
    calc 2 * h * 2 ^ n ≤ 2 * h * 2 ^ 60 := Int.mul_le_mul_of_nonneg_left hle (by omega)
      _ < 2 ^ 81 := by omega
  have hz : b.natAbs ≠ 0 := by omega
  have h81 : b.natAbs < 2 ^ 81 := by omega
  have := (Nat.log2_lt hz).mpr h81
  omega

section
variable {w : World} {mean : ExcName → Option Value} {mg mb : Str → Option Value} {dp un : Nat} {gd : Option (List Code)} {cn : Str} {cs : Scope} {a : Addr} {ccd : Value} {cl : List (Str × Addr)} {outer : List Env}
  {A₀ : Around} {base h₀ : Heap} {L : Addr} {m : Str → Option Value} {s : Shared} {Q E : Value → Shared → Prop} {news : List (Addr × Obj)}
  (B : Below A₀ base outer h₀) (X : (hd.heap_39 w.params).In h₀) (T : Top hd.view_39 (looseW hd.view_39 []) mean mg mb h₀) (hk : cs.kind = .function) (hdp : dp + 1 < recursionLimit) (hun : un + 8 < cLine)
  (F : Fr h₀ L s.heap m) (N : News h₀ L s.heap news)
include B X T hk hdp hun F N

set_option maxRecDepth 100000 in
set_option maxHeartbeats 4000000 in
theorem decayed_ok {p sec h : Int} {tp ts th : Tok} (h1 : 0 ≤ p) (h2 : p < 2 ^ 60) (h3 : 0 ≤ sec) (h5 : 0 < h) (h6 : h < 2 ^ 20)
    (hret : ∀ (t : Tok) (h' : Heap) (tk' : Nat), Fr h₀ L h' m → News h₀ L h' news → Q (.int (decF p sec h) t) { s with heap := h', toks := tk' }) :
    wpAny (model PySem.Challenge.rw_rh0200_01.row.prog w) (ktrTop dp un gd cn cs L a ccd cl outer) (call (.ref 60) [.int p tp, .int sec ts, .int h th]) Q E s := by
  revert X
  k_fill
  intro X
  have hq : 0 ≤ sec.fdiv h := Int.fdiv_nonneg h3 (Int.le_of_lt h5)
  refine wpAny_call ?_
  k_dflt cell_enter
  k_steps
  all_goals (refine cb_retI (Q := Q) hret ?_ (by k_asm) (cb_drop (by assumption) (fun p hp => .tail _ hp)); rfl)

local macro_rules | `(tactic| walk_at "binaryOp FloorDiv int int") => `(tactic| k_extra "binaryOp FloorDiv int int")
theorem rows_PC_1 : True := by
  k_with_none
  k_with "binaryOp FloorDiv int int" => ((k_here; (rename 0 < _ => hb0); (rename _ = _ * 2 ^ List.length _ => hbe); (obtain ⟨hb1, hb2, hb3⟩ := left_fin (by assumption) (by assumption) (by assumption) hbe); (clear hbe); (subst hb1); (refine floordiv_int hb2 ?_ (Or.inl (PyProof.noPylong_of_log2 hb3)))))
  trivial
set_option maxRecDepth 100000 in
set_option maxHeartbeats 4000000 in
theorem left_ok {p sec h : Int} {tp ts th : Tok} (h1 : 0 ≤ p) (h2 : p < 2 ^ 60) (h3 : 0 ≤ sec) (h5 : 0 < h) (h6 : h < 2 ^ 20)
    (hret : ∀ (t : Tok) (h' : Heap) (tk' : Nat), Fr h₀ L h' m → News h₀ L h' news → Q (.int (decF p sec h) t) { s with heap := h', toks := tk' }) :
    wpAny (model PySem.Challenge.rw_rh0200_01.row.prog w) (ktrTop dp un gd cn cs L a ccd cl outer) (call (.ref 159) [.int p tp, .int sec ts, .int h th]) Q E s := by
  revert X
  k_fill
  intro X
  have hq : 0 ≤ sec.fdiv h := Int.fdiv_nonneg h3 (Int.le_of_lt h5)
  k_with "pyIter ref" => k_state (fun pre b => 0 < b ∧ b = 2 * h * 2 ^ pre.length) "bottom"
  k_with "state" => first | exact left_start (by assumption) | exact left_turn (by assumption) (by assumption)
  refine wpAny_call ?_
  k_dflt cell_enter
  k_steps
  all_goals (refine cb_retI (Q := Q) hret ?_ (by k_asm) (cb_drop (by assumption) (fun p hp => .tail _ hp)); exact (dec_left h1 h2 h3 h5).symm)
end
end Mine

namespace Mine
local macro_rules | `(tactic| walk_at "Pad0") => `(tactic| skip)
set_option linter.unusedSectionVars false
local macro_rules | `(tactic| walk_at "call ref") => `(tactic| k_extra "call ref")
theorem rows_PD_1 : True := by
  k_with_none
  k_with "call ref" => ((k_here; (with_reducible show wpAny _ _ (call (Value.ref 60) _) _ _ _); k_dflt (refine' decayed_ok ?q9kB ?q9kX ?q9kT ?q9kk ?q9kd ?q9ku ?q9kF ?q9kN ?q9a0 ?q9a1 ?q9a2 ?q9a3 ?q9a4 ?_; (case q9kB => k_asm); (case q9kX => k_asm); (case q9kT => k_asm); (case q9kk => first | exact rfl | assumption); (case q9kd => ktr_room); (case q9ku => ktr_units); (case q9kF => k_asm); (case q9kN => k_asm); (case q9a0 => first | assumption | omega); (case q9a1 => first | assumption | omega); (case q9a2 => first | assumption | omega | (refine Int.mul_nonneg ?_ ?_ <;> omega)); (case q9a3 => first | assumption | omega); (case q9a4 => first | assumption | omega); intro t9 h9 tk9 F9 N9; (try dsimp only))))
  k_with "call ref" => ((k_here; (with_reducible show wpAny _ _ (call (Value.ref 159) _) _ _ _); k_dflt (refine' left_ok ?q9kB ?q9kX ?q9kT ?q9kk ?q9kd ?q9ku ?q9kF ?q9kN ?q9a0 ?q9a1 ?q9a2 ?q9a3 ?q9a4 ?_; (case q9kB => k_asm); (case q9kX => k_asm); (case q9kT => k_asm); (case q9kk => first | exact rfl | assumption); (case q9kd => ktr_room); (case q9ku => ktr_units); (case q9kF => k_asm); (case q9kN => k_asm); (case q9a0 => first | assumption | omega); (case q9a1 => first | assumption | omega); (case q9a2 => first | assumption | omega | (refine Int.mul_nonneg ?_ ?_ <;> omega)); (case q9a3 => first | assumption | omega); (case q9a4 => first | assumption | omega); intro t9 h9 tk9 F9 N9; (try dsimp only))))
  trivial
section
variable {w : World} {mean : ExcName → Option Value} {mg mb : Str → Option Value} {dp un : Nat} {gd : Option (List Code)} {cn : Str} {cs : Scope} {a : Addr} {ccd : Value} {cl : List (Str × Addr)} {outer : List Env}
  {A₀ : Around} {base h₀ : Heap} {L : Addr} {m : Str → Option Value} {s : Shared} {Q E : Value → Shared → Prop} {news : List (Addr × Obj)}
  (B : Below A₀ base outer h₀) (X : (hd.heap_39 w.params).In h₀) (T : Top hd.view_39 (looseW hd.view_39 []) mean mg mb h₀) (hk : cs.kind = .function) (hdp : dp + 3 < recursionLimit) (hun : un + 24 < cLine)
  (F : Fr h₀ L s.heap m) (N : News h₀ L s.heap news)
include B X T hk hdp hun F N

set_option maxRecDepth 100000 in
set_option maxHeartbeats 4000000 in
theorem until_ok {p goal h : Int} {tp ts th : Tok} (h1 : 0 ≤ p) (h2 : p < 2 ^ 60) (h3 : 0 ≤ goal) (h4 : goal < 2 ^ 30) (h5 : 0 < h) (h6 : h < 2 ^ 20)
    (hret : ∀ (u : Int) (t : Tok) (h' : Heap) (tk' : Nat), Until p goal h u → Fr h₀ L h' m → News h₀ L h' news → Q (.int u t) { s with heap := h', toks := tk' }) :
    wpAny (model PySem.Challenge.rw_rh0200_01.row.prog w) (ktrTop dp un gd cn cs L a ccd cl outer) (call (.ref 74) [.int p tp, .int goal ts, .int h th]) Q E s := by
  revert X
  k_fill
  intro X
  k_with "exec While Compare cons nil" => (refine' while_up (fun k => k ≤ 60 ∧ (k = 0 ∨ goal < decF p (k * h) h)) 60 ?F ?N ?hP ?_; (case F => k_asm); (case N => k_asm); (case hP => exact ⟨by omega, .inl rfl⟩); intro k t h₁ tk₁ hk0 hk F1 N1; obtain ⟨hk60, hk⟩ := hk; (try dsimp only))
  k_with "WUp next" => (
    (rename _ < decF _ _ _ => hd)
    have hk2 := dec_lt60 h5 h1 h2 h3 (by omega) hd
    refine ⟨rfl, _, _, _, _, rfl, by k_asm, by k_asm, rfl, fun z hz => by simp only [if_neg hz], ⟨by omega, .inr hd⟩, by omega⟩)
  k_with "binaryOp FloorDiv int int" => refine floordiv_int (by omega) ?_ (Or.inl (PyProof.noPylong_of_log2 (np60 h1 h2)))
  refine wpAny_call ?_
  k_dflt cell_enter
  k_steps
  · exact hret 0 _ _ _ (.inl ⟨by assumption, rfl⟩) (by k_asm) (by k_asm)
  · exact hret _ _ _ _ (until_end (by assumption) (by assumption) (by assumption) (by assumption) (by assumption)) (by k_asm) (by k_asm)
end
end Mine

namespace Mine
set_option linter.unusedSectionVars false
theorem fmod_lo {n k : Int} (h : 0 < k) : 0 ≤ n.fmod k := by rw [fmod_pos (Int.le_of_lt h)]; exact Int.emod_nonneg _ (by omega)
theorem fmod_hi {n k : Int} (h : 0 < k) : n.fmod k < k := by rw [fmod_pos (Int.le_of_lt h)]; exact Int.emod_lt_of_pos _ h
theorem add_forget {prog : Program} {w : World} {A : Around} {E : Value → Shared → Prop} {s : Shared} {a b : Int} {t u : Tok} {Q : Value → Shared → Prop} (h : ∀ z : Int, Q (.int z s.toks) { s with toks := s.toks + 1 }) :
    wpAny (model prog w) A (binaryOp .Add (.int a t) (.int b u)) Q E s := add_int (h _)
theorem seq_first (n : Nat) : seqIndex? 0 (n + 1) = some 0 := by
  unfold seqIndex?
  simp
  try omega
theorem pop_first {prog : Program} {w : World} {A : Around} {E : Value → Shared → Prop} {s : Shared} {h₀ : Heap} {L l : Addr} {m : Str → Option Value} {news : List (Addr × Obj)} {news' : List Value → List (Addr × Obj)} {ws : List Value} {ns : List Int} {e2 : Nat} {u : Tok} {Q : Value → Shared → Prop}
    (F : Fr h₀ L s.heap m) (N : News h₀ L s.heap news) (U : ∀ q, Upd l (W.listOf ws.toArray e2) (W.listOf q.toArray (e2 + 1)) news (news' q)) (hI : IntsAre ws ns) (h0 : 0 < ns.length) (hz : ns.length ≤ 63)
    (h : ∀ h' n t q nq, IntsAre q nq → nq.length ≤ 63 → Fr h₀ L h' m → News h₀ L h' (news' q) → Q (.int n t) { s with heap := h' }) : wpAny (model prog w) A (call (.builtin "list.pop") [.ref l, .int 0 u]) Q E s := by
  cases hI with
  | nil => exact absurd h0 (Nat.lt_irrefl 0)
  | @cons n t ws ns hI =>
    have hl := hI.length
    simp only [List.length_cons] at hz
    refine kl_popAt F N rfl (k := 0) (p := []) (y := .int n t) (q := ws) ?_ rfl (U ws) ?_ fun h' F' N' => h h' n t ws ns hI (by omega) F' N'
    · rw [List.size_toArray, List.length_cons]; exact seq_first _
    · show (Value.int n t :: ws).length ≤ sizeLine
      rw [List.length_cons, sizeLine_eq]; omega
local macro_rules | `(tactic| k_all) => `(tactic| assumption)
section
variable {w : World} {mean : ExcName → Option Value} {mg mb : Str → Option Value} {dp un : Nat} {gd : Option (List Code)} {cn : Str} {cs : Scope} {a : Addr} {ccd : Value} {cl : List (Str × Addr)} {outer : List Env}
  {A₀ : Around} {base h₀ : Heap} {L : Addr} {m : Str → Option Value} {s : Shared} {Q E : Value → Shared → Prop} {news : List (Addr × Obj)}
  (B : Below A₀ base outer h₀) (X : (hd.heap_39 w.params).In h₀) (T : Top hd.view_39 (looseW hd.view_39 []) mean mg mb h₀) (hk : cs.kind = .function) (hdp : dp + 3 < recursionLimit) (hun : un + 24 < cLine)
  (F : Fr h₀ L s.heap m) (N : News h₀ L s.heap news)
include B X T hk hdp hun F N

set_option maxRecDepth 100000 in
set_option maxHeartbeats 4000000 in
theorem draw_ok {b l : Addr} {ws : List Value} {ns : List Int} {c k : Int} {tc tk : Tok} {e1 e2 : Nat} {n1 rest : List (Addr × Obj)}
    (P1 : Pick (b, W.listOf #[.ref l, .int c tc] e1) news n1) (P2 : Pick (l, W.listOf ws.toArray e2) n1 rest) (hI : IntsAre ws ns) (hlen : ns.length ≤ 63) (hbl : @Ne Nat b l) (hb : ∀ p ∈ rest, p.1 ≠ b) (hl : ∀ p ∈ rest, p.1 ≠ l) (hk0 : 0 < k) (hk1 : k < 2 ^ 20)
    (hret : ∀ (r : Int) (t : Tok) (h' : Heap) (tk' : Nat) (ws' : List Value) (ns' : List Int) (c' : Int) (tc' : Tok) (e1' e2' : Nat), 0 ≤ r → r < k → IntsAre ws' ns' → ns'.length ≤ 63 → Fr h₀ L h' m →
      News h₀ L h' ((b, W.listOf #[.ref l, .int c' tc'] e1') :: (l, W.listOf ws'.toArray e2') :: rest) → Q (.int r t) { s with heap := h', toks := tk' }) :
    wpAny (model PySem.Challenge.rw_rh0200_01.row.prog w) (ktrTop dp un gd cn cs L a ccd cl outer) (call (.ref 152) [.ref b, .int k tk]) Q E s := by
  k_with_none
  revert X
  k_fill
  intro X
  k_with "call builtin:list.pop" => (k_dflt (refine' pop_first ?F ?N ?U ?i ?z0 ?z1 ?_; (case F => k_asm); (case N => k_asm); (case U => (intro q; k_upd)); (case i => k_asm); (case z0 => omega); (case z1 => k_asm)); intro h9 n9 t9 q9 nq9 I9 z9 F9 N9; (try dsimp only))
  k_with "binaryOp Add int int" => (refine add_forget ?_; intro z; (try dsimp only))
  have N2 : News h₀ L s.heap ((b, W.listOf #[.ref l, .int c tc] e1) :: (l, W.listOf ws.toArray e2) :: rest) := fun p hp => N p (by
    rcases List.mem_cons.mp hp with rfl | hp
    · exact P1.mem _ (.head _)
    · exact P1.mem _ (.tail _ (P2.mem _ hp)))
  clear N P1 P2
  refine wpAny_call ?_
  k_dflt cell_enter
  k_steps
  all_goals (refine' hret _ _ _ _ _ _ _ _ _ _ (fmod_lo hk0) (fmod_hi hk0) ?eI ?ez ?eF ?eN; (case eN => k_asm); (case eF => k_asm); (case eI => k_asm); (case ez => k_asm))
end
end Mine

namespace Mine
/-! the loop over range(3) that draws from the box -/
abbrev boxOf (b l : Addr) (c : Int) (tc : Tok) (e1 e2 : Nat) (ws : List Value) : List (Addr × Obj) := [(b, W.listOf #[.ref l, .int c tc] e1), (l, W.listOf ws.toArray e2)]
def BoxTurn (h₀ : Heap) (L b l I : Addr) (it : Obj) (s : Shared) (f : Flow) (s₂ : Shared) : Prop :=
  f = .next ∧ ∃ h' tk' m' ws ns c tc e1 e2, s₂ = { s with heap := h', toks := tk' } ∧ Fr h₀ L h' m' ∧ m' "box" = some (.ref b) ∧ News h₀ L h' ((I, it) :: boxOf b l c tc e1 e2 ws) ∧ IntsAre ws ns ∧ ns.length ≤ 63
theorem BoxTurn.intro {h₀ h' : Heap} {L b l I : Addr} {it : Obj} {s : Shared} {tk' : Nat} {m' : Str → Option Value} {news n1 n2 n3 : List (Addr × Obj)} {ws : List Value} {ns : List Int} {c : Int} {tc : Tok} {e1 e2 : Nat}
    (F : Fr h₀ L h' m') (hm : m' "box" = some (.ref b)) (N : News h₀ L h' news) (P1 : Pick (b, W.listOf #[.ref l, .int c tc] e1) news n1) (P2 : Pick (l, W.listOf ws.toArray e2) n1 n2) (P3 : Pick (I, it) n2 n3) (hi : IntsAre ws ns) (hz : ns.length ≤ 63) :
    BoxTurn h₀ L b l I it s .next { s with heap := h', toks := tk' } :=
  ⟨rfl, h', tk', m', ws, ns, c, tc, e1, e2, rfl, F, hm, fun p hp => N p (by
    rcases List.mem_cons.mp hp with rfl | hp
    · exact P1.mem _ (.tail _ (P2.mem _ (.tail _ (P3.mem _ (.head _)))))
    · rcases List.mem_cons.mp hp with rfl | hp
      · exact P1.mem _ (.head _)
      · rw [List.mem_singleton.mp hp]; exact P1.mem _ (.tail _ (P2.mem _ (.head _)))), hi, hz⟩
theorem fr_box {h₀ h : Heap} {L b : Addr} {m : Str → Option Value} {x : Str} {v : Value} (F : Fr h₀ L h (fun y => if y = x then some v else m y)) (hb : m "box" = some (.ref b)) : Fr h₀ L h (fun y => if y = x then some v else if y = "box" then some (.ref b) else m y) := by
  have e : (fun y => if y = x then some v else if y = "box" then some (.ref b) else m y) = fun y => if y = x then some v else m y := by
    funext y
    by_cases hx : y = x
    · rw [if_pos hx, if_pos hx]
    · rw [if_neg hx, if_neg hx]
      by_cases hy : y = "box"
      · rw [if_pos hy, hy, hb]
      · rw [if_neg hy]
  rw [e]; exact F
theorem fr_box' {h₀ h : Heap} {L b : Addr} {m : Str → Option Value} (F : Fr h₀ L h m) (hb : m "box" = some (.ref b)) : Fr h₀ L h (fun y => if y = "box" then some (.ref b) else m y) := fr_put F hb fun _ _ => rfl

section
variable {prog : Program} {w : World} {A : Around} {E : Value → Shared → Prop} {s : Shared} {env : Env} {h₀ : Heap} {x : Str} {body : List Stmt} {Q : Flow → Shared → Prop}
theorem box_rest {b l I : Addr} (n : Nat) (hbI : b < I) (hlI : l < I)
    (turn : ∀ it i t h tk (m : Str → Option Value) ws ns c tc e1 e2, IntsAre ws ns → ns.length ≤ 63 → Fr h₀ env.locals h (fun y => if y = x then some (.int i t) else if y = "box" then some (.ref b) else m y) → News h₀ env.locals h ((I, it) :: boxOf b l c tc e1 e2 ws) →
      wpAny (model prog w) A (execs body env) (BoxTurn h₀ env.locals b l I it s) E { s with heap := h, toks := tk })
    (done : ∀ h tk (m : Str → Option Value) ws ns c tc e1 e2, IntsAre ws ns → ns.length ≤ 63 → Fr h₀ env.locals h (fun y => if y = "box" then some (.ref b) else m y) → News h₀ env.locals h (boxOf b l c tc e1 e2 ws) → Q .next { s with heap := h, toks := tk }) :
    ∀ k i m ws ns c tc e1 e2, m "box" = some (.ref b) → IntsAre ws ns → ns.length ≤ 63 → RangeRest prog w A E h₀ env x body Q s I 0 n k i m (boxOf b l c tc e1 e2 ws)
  | 0, i, m, ws, ns, c, tc, e1, e2, hm, hi, hz => RangeRest.zero fun h tk F N => done h tk m ws ns c tc e1 e2 hi hz (fr_box' F hm) N
  | k + 1, i, m, ws, ns, c, tc, e1, e2, hm, hi, hz => RangeRest.succ fun t h tk F N => by
    refine wpAny_mono (turn _ _ t h tk m ws ns c tc e1 e2 hi hz (fr_box F hm) N) (fun f s₂ p => ?_) fun _ _ e => e
    obtain ⟨rfl, h', tk', m', ws', ns', c', tc', e1', e2', rfl, F', hm', N', hi', hz'⟩ := p
    refine UnrEnd.intro F' N' (boxOf b l c' tc' e1' e2' ws') (fun p hp => hp) (fun p hp => ?_) (box_rest n hbI hlI turn done k (i + 1) m' ws' ns' c' tc' e1' e2' hm' hi' hz')
    rcases List.mem_cons.mp hp with rfl | hp
    · exact Nat.ne_of_lt hbI
    · rw [List.mem_singleton.mp hp]; exact Nat.ne_of_lt hlI

theorem box_loop {r b l : Addr} {t₀ u₀ v₀ : Tok} {m₀ : Str → Option Value} {news n1 rest : List (Addr × Obj)} {ws : List Value} {ns : List Int} {c : Int} {tc : Tok} {e1 e2 : Nat}
    (hh : A.handled = none) (hr : IsRange s.heap r 0 3 1 t₀ u₀ v₀) (F : Fr h₀ env.locals s.heap m₀) (N : News h₀ env.locals s.heap news) (hb : m₀ "box" = some (.ref b))
    (P1 : Pick (b, W.listOf #[.ref l, .int c tc] e1) news n1) (P2 : Pick (l, W.listOf ws.toArray e2) n1 rest) (hI : IntsAre ws ns) (hz : ns.length ≤ 63)
    (turn : ∀ I it i t h tk (m : Str → Option Value) ws ns c tc e1 e2, @LT.lt Nat _ b I → @LT.lt Nat _ l I → IntsAre ws ns → ns.length ≤ 63 → Fr h₀ env.locals h (fun y => if y = x then some (.int i t) else if y = "box" then some (.ref b) else m y) → News h₀ env.locals h ((I, it) :: boxOf b l c tc e1 e2 ws) →
      wpAny (model prog w) A (execs body env) (BoxTurn h₀ env.locals b l I it s) E { s with heap := h, toks := tk })
    (done : ∀ h tk (m : Str → Option Value) ws ns c tc e1 e2, IntsAre ws ns → ns.length ≤ 63 → Fr h₀ env.locals h (fun y => if y = "box" then some (.ref b) else m y) → News h₀ env.locals h (boxOf b l c tc e1 e2 ws) → Q .next { s with heap := h, toks := tk }) :
    wpAny (model prog w) A (pyIter (.ref r)) (fun it s₂ => LoopAtV prog w A h₀ env x body Q E it s₂) E s := by
  have N' : News h₀ env.locals s.heap (boxOf b l c tc e1 e2 ws) := fun p hp => by
    rcases List.mem_cons.mp hp with rfl | hp
    · exact N _ (P1.mem _ (.head _))
    · rw [List.mem_singleton.mp hp]; exact N _ (P1.mem _ (.tail _ (P2.mem _ (.head _))))
  refine iter_rangeUnr (n := 3) hh hr (by decide) (by decide) F N' fun I hlt => ?_
  have h1 : b < I := hlt _ (.head _)
  have h2 : l < I := hlt _ (.tail _ (.head _))
  exact box_rest 3 h1 h2 (fun it i t h tk m ws ns c tc e1 e2 => turn I it i t h tk m ws ns c tc e1 e2 h1 h2) done 3 0 m₀ ws ns c tc e1 e2 hb hI hz
end

/-! an item of a written menu at an open place: its first item is the least -/
theorem item_menu {prog : Program} {w : World} {A : Around} {E : Value → Shared → Prop} {s : Shared} {value slice : PySem.Expr} {l : Addr} {vs : List Value} {n0 : Int} {ns : List Int} {k : Int} {u : Tok} {Q : Value → Shared → Prop} (hl : s.heap.IsList l vs.toArray) (hi : IntsAre vs (n0 :: ns))
    (h0 : 0 ≤ k) (h1 : k < (n0 :: ns).length) (hfit : k < 2 ^ 63) (hb : ∀ i ∈ n0 :: ns, n0 ≤ i ∧ i < 2 ^ 58) (h : ∀ v t, n0 ≤ v → v < 2 ^ 58 → Q (.int v t) s)
    (hs : subscripted slice false (.ref l) (.int k u) = operate [.ref l, .int k u] (getItem (.ref l) (.int k u)) := by with_unfolding_all rfl) :
    wpAny (model prog w) A (subscriptTail value slice (.ref l) (.int k u)) Q E s := by
  refine item_anyK hl hi h0 h1 hfit (fun t => ?_) hs
  have hk : k.toNat < (n0 :: ns).length := by omega
  have hm : (n0 :: ns).getD k.toNat 0 ∈ n0 :: ns := by
    rw [List.getD_eq_getElem?_getD, List.getElem?_eq_getElem hk]
    exact List.getElem_mem hk
  exact h _ t (hb _ hm).1 (hb _ hm).2
end Mine

namespace Mine
open PySem.Spec PyProof.V
/-! the damper's settings: a dict keyed by texts -/
def cfgD (half reuse : Int) : List (PyData × PyData) :=
  [(.str "half", .int half), (.str "most", .int (4 * half)), (.str "reuse", .int reuse), (.str "suppress", .int (3 * reuse)), (.str "withdrawn", .int (4 * reuse)), (.str "changed", .int reuse), (.str "again", .int 0)]
theorem cfg_merge (half reuse : Int) : ktMergeD [(PyData.str "half", PyData.int half), (PyData.str "most", PyData.int (4 * half)), (PyData.str "reuse", PyData.int reuse), (PyData.str "suppress", PyData.int (3 * reuse))]
    [(PyData.str "withdrawn", PyData.int (4 * reuse)), (PyData.str "changed", PyData.int reuse), (PyData.str "again", PyData.int 0)] = cfgD half reuse := by rfl
theorem cfg_half (half reuse : Int) : lookup (.str "half") (cfgD half reuse) = some (.int half) := by rfl
theorem cfg_most (half reuse : Int) : lookup (.str "most") (cfgD half reuse) = some (.int (4 * half)) := by rfl
theorem cfg_reuse (half reuse : Int) : lookup (.str "reuse") (cfgD half reuse) = some (.int reuse) := by rfl
theorem cfg_suppress (half reuse : Int) : lookup (.str "suppress") (cfgD half reuse) = some (.int (3 * reuse)) := by rfl
theorem cfg_withdrawn (half reuse : Int) : lookup (.str "withdrawn") (cfgD half reuse) = some (.int (4 * reuse)) := by rfl
theorem cfg_changed (half reuse : Int) : lookup (.str "changed") (cfgD half reuse) = some (.int reuse) := by rfl
theorem cfg_again (half reuse : Int) : lookup (.str "again") (cfgD half reuse) = some (.int 0) := by rfl

structure CfgObj (prog : Program) (w : World) (cfg : Addr) (o : Obj) (half reuse : Int) : Prop where
  lo : (cfg == sysModules) = false
  dict : ∃ kvs, o.IsDictOf (PySem.strKind prog w) kvs ∧ FlatPairs PyData.str kvs (cfgD half reuse)

section
variable {prog : Program} {w : World} {A : Around} {E : Value → Shared → Prop} {s : Shared} {h₀ : Heap} {L cfg : Addr} {m : Str → Option Value} {news : List (Addr × Obj)} {o : Obj} {half reuse : Int}
theorem cfg_item {value slice : Expr} {x : Str} {t : Tok} {v : Int} {Q : Value → Shared → Prop} (C : CfgObj prog w cfg o half reuse) (N : News h₀ L s.heap news) (hm : (cfg, o) ∈ news) (hl : lookup (.str x) (cfgD half reuse) = some (.int v))
    (h : ∀ t' tk', Q (.int v t') { s with toks := tk' })
    (hs : subscripted slice false (.ref cfg) (.str x t) = operate [.ref cfg, .str x t] (getItem (.ref cfg) (.str x t)) := by with_unfolding_all rfl) (hg : ∀ r, letTemporaryGo value (.ref cfg) r = pure () := by intro _; with_unfolding_all rfl) :
    wpAny (model prog w) A (subscriptTail value slice (.ref cfg) (.str x t)) Q E s := by
  obtain ⟨kvs, hd, hf⟩ := C.dict
  refine item_strTab ⟨C.lo, kvs, Heap.dictOf_iff.mpr ⟨o, (N _ hm).1, hd⟩, hf⟩ hl (fun v' hv => ?_) hs hg
  obtain ⟨t', rfl⟩ := hv.int_inv
  exact h _ _
end

/-! the damper's rows: a dict keyed by pairs of ints -/
abbrev PairKind (prog : Program) (w : World) : HeapKind prog w (List Int) := tupleKind (PySem.intKind prog w)
structure RowsObj (prog : Program) (w : World) (rows : Addr) (o : Obj) (R : List (List Int × Addr × Value)) : Prop where
  lo : (rows == sysModules) = false
  exact : o.ExactDict
  data : ∃ es ep, o.data = .dict es ep ∧ es.toList = R.map (entryOfKey (PairKind prog w))
  nodup : (R.map (·.1)).Nodup
abbrev KeyObj (prog : Program) (w : World) (ks : List Int) (o : Obj) : Prop := TupKeyObj (PySem.intKind prog w) ks o
def KeysIn (prog : Program) (w : World) (news : List (Addr × Obj)) (R : List (List Int × Addr × Value)) : Prop := ∀ x ∈ R, ∃ ok, (x.2.1, ok) ∈ news ∧ KeyObj prog w x.1 ok
theorem keyObj_pair {prog : Program} {w : World} {i j : Int} {t u : Tok} {n : Nat} : KeyObj prog w [i, j] { cls := .type "tuple", data := .seq #[.int i t, .int j u] n } :=
  ⟨rfl, _, n, rfl, .cons (intKind_is _ _ _ _) (.cons (intKind_is _ _ _ _) .nil)⟩

section
variable {prog : Program} {w : World} {A : Around} {E : Value → Shared → Prop} {s : Shared} {h h₀ : Heap} {L rows a : Addr} {m : Str → Option Value} {news rest : List (Addr × Obj)} {o ok : Obj} {R : List (List Int × Addr × Value)} {ks : List Int}
theorem RowsObj.at (X : RowsObj prog w rows o R) (N : News h₀ L h news) (hm : (rows, o) ∈ news) (hK : KeysIn prog w news R) : h.DictOfH (PairKind prog w) rows R := by
  obtain ⟨es, ep, hd, he⟩ := X.data
  exact ⟨o, es, ep, (N _ hm).1, X.exact, hd, he, fun x hx => let ⟨_, h1, h2⟩ := hK x hx; h2.key (N _ h1).1, X.nodup⟩
theorem rows_in_no {Q : Value → Shared → Prop} (X : RowsObj prog w rows o R) (N : News h₀ L s.heap news) (hm : (rows, o) ∈ news) (hK : KeysIn prog w news R) (hk : (a, ok) ∈ news) (tk : KeyObj prog w ks ok) (hu : A.units + 1 < cLine) (ha : atKey R ks = none)
    (h : ∀ tk', Q (.bool false) { s with toks := tk' }) : wpAny (model prog w) A (compareOp .In (.ref a) (.ref rows)) Q E s :=
  wpAny_in_heap (tupleKind_room_in1 hu) (tk.key (N _ hk).1) X.lo (X.at N hm hK) (by rw [ha]; exact h _)
theorem rows_in_yes {p : Addr × Value} {Q : Value → Shared → Prop} (X : RowsObj prog w rows o R) (N : News h₀ L s.heap news) (hm : (rows, o) ∈ news) (hK : KeysIn prog w news R) (hk : (a, ok) ∈ news) (tk : KeyObj prog w ks ok) (hu : A.units + 1 < cLine) (ha : atKey R ks = some p)
    (h : ∀ tk', Q (.bool true) { s with toks := tk' }) : wpAny (model prog w) A (compareOp .In (.ref a) (.ref rows)) Q E s :=
  wpAny_in_heap (tupleKind_room_in1 hu) (tk.key (N _ hk).1) X.lo (X.at N hm hK) (by rw [ha]; exact h _)
theorem rows_notin_no {Q : Value → Shared → Prop} (X : RowsObj prog w rows o R) (N : News h₀ L s.heap news) (hm : (rows, o) ∈ news) (hK : KeysIn prog w news R) (hk : (a, ok) ∈ news) (tk : KeyObj prog w ks ok) (hu : A.units + 1 < cLine) (ha : atKey R ks = none)
    (h : ∀ tk', Q (.bool true) { s with toks := tk' }) : wpAny (model prog w) A (compareOp .NotIn (.ref a) (.ref rows)) Q E s :=
  wpAny_notIn_heap (tupleKind_room_in1 hu) (tk.key (N _ hk).1) X.lo (X.at N hm hK) (by rw [ha]; exact h _)
theorem rows_notin_yes {p : Addr × Value} {Q : Value → Shared → Prop} (X : RowsObj prog w rows o R) (N : News h₀ L s.heap news) (hm : (rows, o) ∈ news) (hK : KeysIn prog w news R) (hk : (a, ok) ∈ news) (tk : KeyObj prog w ks ok) (hu : A.units + 1 < cLine) (ha : atKey R ks = some p)
    (h : ∀ tk', Q (.bool false) { s with toks := tk' }) : wpAny (model prog w) A (compareOp .NotIn (.ref a) (.ref rows)) Q E s :=
  wpAny_notIn_heap (tupleKind_room_in1 hu) (tk.key (N _ hk).1) X.lo (X.at N hm hK) (by rw [ha]; exact h _)
theorem rows_item {value slice : Expr} {p : Addr × Value} {Q : Value → Shared → Prop} (X : RowsObj prog w rows o R) (N : News h₀ L s.heap news) (hm : (rows, o) ∈ news) (hK : KeysIn prog w news R) (hk : (a, ok) ∈ news) (tk : KeyObj prog w ks ok) (hu : A.units + 1 < cLine)
    (hp : atKey R ks = some p) (h : ∀ tk', Q p.2 { s with toks := tk' })
    (hs : subscripted slice false (.ref rows) (.ref a) = operate [.ref rows, .ref a] (getItem (.ref rows) (.ref a)) := by with_unfolding_all rfl) (hg : ∀ r, letTemporaryGo value (.ref rows) r = pure () := by intro _; with_unfolding_all rfl) :
    wpAny (model prog w) A (subscriptTail value slice (.ref rows) (.ref a)) Q E s := by
  have D := X.at N hm hK
  exact subscriptTail_builtin D.typeIs slot_dict_getitem.lookup (wpAny_getItem_heap (tupleKind_room_in1 hu) (tk.key (N _ hk).1) D hp (h _)) hs hg
theorem rows_set {v : Value} {Q : Unit → Shared → Prop} (F : Fr h₀ L s.heap m) (X : RowsObj prog w rows o R) (N : News h₀ L s.heap news) (P : Pick (rows, o) news rest) (hne : ∀ p ∈ rest, p.1 ≠ rows) (hK : KeysIn prog w news R) (hk : (a, ok) ∈ news) (tk : KeyObj prog w ks ok) (hu : A.units + 1 < cLine)
    (hz : R.length ≤ 100)
    (h : ∀ h' tk' o', Fr h₀ L h' m → News h₀ L h' ((rows, o') :: rest) → RowsObj prog w rows o' (storedH R ks a v) → Q () { s with heap := h', toks := tk' }) :
    wpAny (model prog w) A (setItem (.ref rows) (.ref a) v) Q E s := by
  have hm : (rows, o) ∈ news := P.mem _ (.head _)
  refine wpAny_setItem_heap (tupleKind_room_in1 hu) (tk.key (N _ hk).1) (X.at N hm hK) (fun h' D hs => ?_) (by rw [sizeLine_eq]; omega)
  obtain ⟨o', es, ep, ho, hc, hd, he, _, hn⟩ := D
  have z := N _ hm
  refine h h' _ o' (F.change hs z.2.1 z.2.2) (fun p hp => ?_) ⟨X.lo, hc, ⟨es, ep, hd, he⟩, hn⟩
  rcases List.mem_cons.mp hp with rfl | hp
  · exact ⟨ho, z.2⟩
  · have y := N _ (P.mem _ (.tail _ hp))
    exact ⟨(hs.2 _ (hne p hp)).trans y.1, y.2⟩
end
theorem min_three_N {prog : Program} {w : World} {A : Around} {E : Value → Shared → Prop} {s : Shared} {h₀ : Heap} {L : Addr} {m : Str → Option Value} {news : List (Addr × Obj)} {a b c : Int} {t u x : Tok} {Q : Value → Shared → Prop} (hh : A.handled = none) (F : Fr h₀ L s.heap m) (N : News h₀ L s.heap news)
    (h : ∀ v t' h' tk, (v = a ∨ v = b ∨ v = c) → Fr h₀ L h' m → News h₀ L h' news → Q (.int v t') { s with heap := h', toks := tk }) : wpAny (model prog w) A (call (.builtin "min") [.int a t, .int b u, .int c x]) Q E s := by
  refine min_three_ints hh fun h' tk hk => ?_
  have F' := F.grownK hk
  have N' := N.grown hk
  split
  · split
    · exact h _ _ _ _ (.inr (.inr rfl)) F' N'
    · exact h _ _ _ _ (.inr (.inl rfl)) F' N'
  · split
    · exact h _ _ _ _ (.inr (.inr rfl)) F' N'
    · exact h _ _ _ _ (.inl rfl) F' N'
theorem rows_empty {prog : Program} {w : World} {K : Type} [DecidableEq K] {knd : KeyKind prog w K} {rows : Addr} {o : Obj} (lo : (rows == sysModules) = false) (hd : o.IsDictOf knd []) : RowsObj prog w rows o [] := by
  obtain ⟨es, ep, hc, hdat, _, hp, _⟩ := hd
  have he : es.toList = [] := List.length_eq_zero_iff.mp hp.length
  exact ⟨lo, hc, ⟨es, ep, hdat, he⟩, List.nodup_nil⟩
abbrev dmpObj (w : World) (cfg rows : Addr) (top : Int) (t1 t2 t3 t4 : Tok) : Obj :=
  dictOf [DictEntry.mk (PyData.keyHash w.params "config") (.str "config" t1) (.ref cfg), DictEntry.mk (PyData.keyHash w.params "rows") (.str "rows" t2) (.ref rows), DictEntry.mk (PyData.keyHash w.params "top") (.str "top" t3) (.int top t4)] 3
theorem keysIn_sub {prog : Program} {w : World} {news news' : List (Addr × Obj)} {R : List (List Int × Addr × Value)} (h : KeysIn prog w news R) (hs : ∀ p ∈ news, p ∈ news') : KeysIn prog w news' R :=
  fun x hx => let ⟨ok, h1, h2⟩ := h x hx; ⟨ok, hs _ h1, h2⟩
abbrev rowObj (fine since : Int) (out : Bool) (tf ts : Tok) (n : Nat) : Obj := { cls := .type "tuple", data := .seq #[.int fine tf, .int since ts, .bool out] n }
theorem bool_end {h₀ h' : Heap} {L : Addr} {m : Str → Option Value} {news : List (Addr × Obj)} {s : Shared} {Q : Value → Shared → Prop} {b c : Bool} {tk' : Nat}
    (hret : ∀ (h' : Heap) (tk' : Nat), Fr h₀ L h' m → News h₀ L h' news → Q (.bool b) { s with heap := h', toks := tk' }) (e : c = b) (F : Fr h₀ L h' m) (N : News h₀ L h' news) : Q (.bool c) { s with heap := h', toks := tk' } := by
  subst e; exact hret _ _ F N
theorem min_le_N {prog : Program} {w : World} {A : Around} {E : Value → Shared → Prop} {s : Shared} {h₀ : Heap} {L : Addr} {m : Str → Option Value} {news : List (Addr × Obj)} {a b v : Int} {t u : Tok} {Q : Value → Shared → Prop} (hh : A.handled = none) (F : Fr h₀ L s.heap m) (N : News h₀ L s.heap news) (hle : b ≤ a) (hv : b = v)
    (h : ∀ t' h' tk, Fr h₀ L h' m → News h₀ L h' news → Q (.int v t') { s with heap := h', toks := tk }) : wpAny (model prog w) A (call (.builtin "min") [.int a t, .int b u]) Q E s := by
  refine min_two_N hh F N fun h' tk F' N' => ?_
  have e : (if b < a then b else a) = v := by split <;> omega
  rw [e]
  exact h _ _ _ F' N'
theorem news_swap {h₀ h : Heap} {L : Addr} {p q : Addr × Obj} {r : List (Addr × Obj)} (N : News h₀ L h (p :: q :: r)) : News h₀ L h (q :: p :: r) := fun x hx => N x (by
  rcases List.mem_cons.mp hx with rfl | hx
  · exact .tail _ (.head _)
  · rcases List.mem_cons.mp hx with rfl | hx
    · exact .head _
    · exact .tail _ (.tail _ hx))
end Mine

namespace Mine
set_option linter.unusedSectionVars false
local macro_rules | `(tactic| k_all) => `(tactic| assumption)
local macro_rules | `(tactic| walk_at "call builtin:min") => `(tactic| k_extra "call builtin:min")
theorem rows_PH_1 : True := by
  k_with_none
  k_with "call builtin:min" => ((k_here; (with_reducible show wpAny _ _ (call (Value.builtin _) [Value.int _ _, Value.int _ _, Value.int _ _]) _ _ _); k_dflt (refine' min_three_N ?q9a ?q9F ?q9N ?_; (case q9a => exact rfl); (case q9F => k_asm); (case q9N => k_asm)); intro v9 t9 h9 tk9 e9 F9 N9; (try dsimp only)))
  trivial
local macro_rules | `(tactic| k_mem) => `(tactic| assumption)
local macro_rules | `(tactic| k_room) => `(tactic| ktr_room)
local macro_rules | `(tactic| walk_at "subscriptTail") => `(tactic| k_extra "subscriptTail")
theorem rows_PH_2 : True := by
  k_with "subscriptTail" => ((k_here; (with_reducible show wpAny _ _ (subscriptTail _ _ (Value.ref _) (Value.str _ _)) _ _ _); k_dflt (refine' cfg_item ?q9c ?q9N ?q9m ?q9l ?_; (case q9c => assumption); (case q9N => k_asm); (case q9m => k_mem); (case q9l => first | assumption | exact cfg_half _ _ | exact cfg_most _ _ | exact cfg_reuse _ _ | exact cfg_suppress _ _ | exact cfg_withdrawn _ _ | exact cfg_changed _ _ | exact cfg_again _ _)); intro t9 tk9; (try dsimp only)))
  trivial
section
variable {w : World} {mean : ExcName → Option Value} {mg mb : Str → Option Value} {dp un : Nat} {gd : Option (List Code)} {cn : Str} {cs : Scope} {a : Addr} {ccd : Value} {cl : List (Str × Addr)} {outer : List Env}
  {A₀ : Around} {base h₀ : Heap} {L : Addr} {m : Str → Option Value} {s : Shared} {Q E : Value → Shared → Prop} {news : List (Addr × Obj)}
  (B : Below A₀ base outer h₀) (X : (hd.heap_39 w.params).In h₀) (T : Top hd.view_39 (looseW hd.view_39 []) mean mg mb h₀) (hk : cs.kind = .function) (hdp : dp + 8 < recursionLimit) (hun : un + 64 < cLine)
  (F : Fr h₀ L s.heap m) (N : News h₀ L s.heap news)
include B X T hk hdp hun F N

set_option maxRecDepth 100000 in
set_option maxHeartbeats 4000000 in
theorem new_ok {cfg : Addr} {oc : Obj} {half reuse : Int} (hc : (cfg, oc) ∈ news) (C : CfgObj PySem.Challenge.rw_rh0200_01.row.prog w cfg oc half reuse) (h5 : 0 < half) (h6 : half ≤ 5) (hr : 100 ≤ reuse) (hr' : reuse < 130)
    (hret : ∀ (x dx rows : Addr) (ro : Obj) (t1 t2 t3 t4 : Tok) (h' : Heap) (tk' : Nat), (∀ p ∈ news, p.1 < dx) → @LT.lt Nat _ dx x → @LT.lt Nat _ x rows → RowsObj PySem.Challenge.rw_rh0200_01.row.prog w rows ro [] → Fr h₀ L h' m →
      News h₀ L h' ((rows, ro) :: (x, instObj 141 dx) :: (dx, dmpObj w cfg rows (16 * reuse) t1 t2 t3 t4) :: news) → Q (.ref x) { s with heap := h', toks := tk' }) :
    wpAny (model PySem.Challenge.rw_rh0200_01.row.prog w) (ktrTop dp un gd cn cs L a ccd cl outer) (call (.ref 141) [.ref cfg]) Q E s := by
  have q4 := most_q h5
  have r4 := most_r h5
  have tp := top_is (reuse := reuse) h5
  revert X
  k_fill
  intro X
  k_dflt (refine' call_cls ?k1 ?k2 ?k3 ?k4 ?k5 ?k6 ?_; (case k1 => k_asm); (case k2 => k_asm); (case k3 => k_asm); (case k4 => k_is); (case k5 => k_is); (case k6 => k_is); k_whole; intro x d' h' F' N' l1 l2; (try k_sweep))
  replace l2 := ltN l2
  have n1 : ∀ p ∈ news, p.1 ≠ d' := fun p hp => Nat.ne_of_lt (l1 p hp)
  have n2 : ∀ p ∈ news, p.1 ≠ x := fun p hp => Nat.ne_of_lt (Nat.lt_trans (l1 p hp) l2)
  k_dflt cell_enter
  k_steps
  have kN9 := (by assumption : News h₀ L _ (_ :: _ :: _))
  rw [tp] at kN9
  (rename Obj.IsDictOf _ _ _ => hd9)
  exact hret x d' _ _ _ _ _ _ _ _ l1 l2 (by omega) (rows_empty (by assumption) hd9) (by k_asm) (cb_drop kN9 (fun p hp => .tail _ hp))
end
end Mine

namespace Mine
set_option linter.unusedSectionVars false
local macro_rules | `(tactic| walk_at "call ref") => `(tactic| k_extra "call ref")
theorem rows_PI_1 : True := by
  k_with_none
  k_with "call ref" => ((k_here; (with_reducible show wpAny _ _ (call (Value.ref 60) _) _ _ _); k_dflt (refine' decayed_ok ?q9kB ?q9kX ?q9kT ?q9kk ?q9kd ?q9ku ?q9kF ?q9kN ?q9a0 ?q9a1 ?q9a2 ?q9a3 ?q9a4 ?_; (case q9kB => k_asm); (case q9kX => k_asm); (case q9kT => k_asm); (case q9kk => first | exact rfl | assumption); (case q9kd => ktr_room); (case q9ku => ktr_units); (case q9kF => k_asm); (case q9kN => k_asm); (case q9a0 => first | assumption | omega); (case q9a1 => first | assumption | omega); (case q9a2 => first | assumption | omega | (refine Int.mul_nonneg ?_ ?_ <;> omega)); (case q9a3 => first | assumption | omega); (case q9a4 => first | assumption | omega); intro t9 h9 tk9 F9 N9; (try dsimp only))))
  k_with "call ref" => ((k_here; (with_reducible show wpAny _ _ (call (Value.ref 159) _) _ _ _); k_dflt (refine' left_ok ?q9kB ?q9kX ?q9kT ?q9kk ?q9kd ?q9ku ?q9kF ?q9kN ?q9a0 ?q9a1 ?q9a2 ?q9a3 ?q9a4 ?_; (case q9kB => k_asm); (case q9kX => k_asm); (case q9kT => k_asm); (case q9kk => first | exact rfl | assumption); (case q9kd => ktr_room); (case q9ku => ktr_units); (case q9kF => k_asm); (case q9kN => k_asm); (case q9a0 => first | assumption | omega); (case q9a1 => first | assumption | omega); (case q9a2 => first | assumption | omega | (refine Int.mul_nonneg ?_ ?_ <;> omega)); (case q9a3 => first | assumption | omega); (case q9a4 => first | assumption | omega); intro t9 h9 tk9 F9 N9; (try dsimp only))))
  trivial
local macro_rules | `(tactic| k_all) => `(tactic| assumption)
local macro_rules | `(tactic| walk_at "call builtin:min") => `(tactic| k_extra "call builtin:min")
theorem rows_PI_2 : True := by
  k_with "call builtin:min" => ((k_here; (with_reducible show wpAny _ _ (call (Value.builtin _) [Value.int _ _, Value.int _ _, Value.int _ _]) _ _ _); k_dflt (refine' min_three_N ?q9a ?q9F ?q9N ?_; (case q9a => exact rfl); (case q9F => k_asm); (case q9N => k_asm)); intro v9 t9 h9 tk9 e9 F9 N9; (try dsimp only)))
  trivial
local macro_rules | `(tactic| k_mem) => `(tactic| assumption)
local macro_rules | `(tactic| k_room) => `(tactic| ktr_room)
local macro_rules | `(tactic| walk_at "subscriptTail") => `(tactic| k_extra "subscriptTail")
local macro_rules | `(tactic| walk_at "compareOp NotIn ref ref") => `(tactic| k_extra "compareOp NotIn ref ref")
local macro_rules | `(tactic| walk_at "compareOp In ref ref") => `(tactic| k_extra "compareOp In ref ref")
theorem rows_PI_3 : True := by
  k_with "subscriptTail" => ((k_here; (with_reducible show wpAny _ _ (subscriptTail _ _ (Value.ref _) (Value.str _ _)) _ _ _); k_dflt (refine' cfg_item ?q9c ?q9N ?q9m ?q9l ?_; (case q9c => assumption); (case q9N => k_asm); (case q9m => k_mem); (case q9l => first | assumption | exact cfg_half _ _ | exact cfg_most _ _ | exact cfg_reuse _ _ | exact cfg_suppress _ _ | exact cfg_withdrawn _ _ | exact cfg_changed _ _ | exact cfg_again _ _)); intro t9 tk9; (try dsimp only)))
  k_with "compareOp NotIn ref ref" => ((k_here; k_dflt (first | (refine' rows_notin_no ?q9c ?q9N ?q9m ?q9K ?q9k ?q9t ?q9u ?q9p ?_; (case q9c => assumption); (case q9N => k_asm); (case q9m => k_mem); (case q9K => (first | exact keysIn_sub (by assumption) (fun p9 hp9 => (by repeat (first | exact hp9 | refine List.Mem.tail _ ?_))) | assumption)); (case q9k => k_mem); (case q9t => first | assumption | exact keyObj_pair); (case q9u => ktr_units); (case q9p => first | assumption | rfl)) | (refine' rows_notin_yes ?q9c ?q9N ?q9m ?q9K ?q9k ?q9t ?q9u ?q9p ?_; (case q9c => assumption); (case q9N => k_asm); (case q9m => k_mem); (case q9K => (first | exact keysIn_sub (by assumption) (fun p9 hp9 => (by repeat (first | exact hp9 | refine List.Mem.tail _ ?_))) | assumption)); (case q9k => k_mem); (case q9t => first | assumption | exact keyObj_pair); (case q9u => ktr_units); (case q9p => first | assumption | rfl))); intro tk9; (try dsimp only)))
  k_with "compareOp In ref ref" => ((k_here; k_dflt (first | (refine' rows_in_no ?q9c ?q9N ?q9m ?q9K ?q9k ?q9t ?q9u ?q9p ?_; (case q9c => assumption); (case q9N => k_asm); (case q9m => k_mem); (case q9K => (first | exact keysIn_sub (by assumption) (fun p9 hp9 => (by repeat (first | exact hp9 | refine List.Mem.tail _ ?_))) | assumption)); (case q9k => k_mem); (case q9t => first | assumption | exact keyObj_pair); (case q9u => ktr_units); (case q9p => first | assumption | rfl)) | (refine' rows_in_yes ?q9c ?q9N ?q9m ?q9K ?q9k ?q9t ?q9u ?q9p ?_; (case q9c => assumption); (case q9N => k_asm); (case q9m => k_mem); (case q9K => (first | exact keysIn_sub (by assumption) (fun p9 hp9 => (by repeat (first | exact hp9 | refine List.Mem.tail _ ?_))) | assumption)); (case q9k => k_mem); (case q9t => first | assumption | exact keyObj_pair); (case q9u => ktr_units); (case q9p => first | assumption | rfl))); intro tk9; (try dsimp only)))
  k_with "subscriptTail" => ((k_here; (with_reducible show wpAny _ _ (subscriptTail _ _ (Value.ref _) (Value.ref _)) _ _ _); k_dflt (refine' rows_item ?q9c ?q9N ?q9m ?q9K ?q9k ?q9t ?q9u ?q9p ?_; (case q9c => assumption); (case q9N => k_asm); (case q9m => k_mem); (case q9K => (first | exact keysIn_sub (by assumption) (fun p9 hp9 => (by repeat (first | exact hp9 | refine List.Mem.tail _ ?_))) | assumption)); (case q9k => k_mem); (case q9t => first | assumption | exact keyObj_pair); (case q9u => ktr_units); (case q9p => first | assumption | rfl)); intro tk9; (try dsimp only)))
  trivial
section
variable {w : World} {mean : ExcName → Option Value} {mg mb : Str → Option Value} {dp un : Nat} {gd : Option (List Code)} {cn : Str} {cs : Scope} {a : Addr} {ccd : Value} {cl : List (Str × Addr)} {outer : List Env}
  {A₀ : Around} {base h₀ : Heap} {L : Addr} {m : Str → Option Value} {s : Shared} {Q E : Value → Shared → Prop} {news : List (Addr × Obj)}
  (B : Below A₀ base outer h₀) (X : (hd.heap_39 w.params).In h₀) (T : Top hd.view_39 (looseW hd.view_39 []) mean mg mb h₀) (hk : cs.kind = .function) (hdp : dp + 8 < recursionLimit) (hun : un + 64 < cLine)
  (F : Fr h₀ L s.heap m) (N : News h₀ L s.heap news)
include B X T hk hdp hun F N

variable {x dx cfg rows ka : Addr} {oc ro ko : Obj} {half reuse top now : Int} {t1 t2 t3 t4 tn : Tok} {R : List (List Int × Addr × Value)} {ks : List Int}
  (hx : (x, instObj 141 dx) ∈ news) (hdx : (dx, dmpObj w cfg rows top t1 t2 t3 t4) ∈ news) (hc : (cfg, oc) ∈ news) (hro : (rows, ro) ∈ news) (hka : (ka, ko) ∈ news)
  (C : CfgObj PySem.Challenge.rw_rh0200_01.row.prog w cfg oc half reuse) (RO : RowsObj PySem.Challenge.rw_rh0200_01.row.prog w rows ro R) (RK : KeysIn PySem.Challenge.rw_rh0200_01.row.prog w news R) (KO : KeyObj PySem.Challenge.rw_rh0200_01.row.prog w ks ko)
  (h5 : 0 < half) (h6 : half ≤ 5) (hr : 100 ≤ reuse) (hr' : reuse < 130)
include hx hdx hc hro hka C RO RK KO h5 h6 hr hr'
set_option maxRecDepth 100000 in
set_option maxHeartbeats 4000000 in
theorem penalty_none (ha : atKey R ks = none)
    (hret : ∀ (t : Tok) (h' : Heap) (tk' : Nat), Fr h₀ L h' m → News h₀ L h' news → Q (.int 0 t) { s with heap := h', toks := tk' }) :
    wpAny (model PySem.Challenge.rw_rh0200_01.row.prog w) (ktrTop dp un gd cn cs L a ccd cl outer) (call (.ref 95) [.ref x, .ref ka, .int now tn]) Q E s := by
  revert X
  k_fill
  intro X
  refine wpAny_call ?_
  k_dflt cell_enter
  k_steps
  all_goals exact hret _ _ _ (by k_asm) (by k_asm)

set_option maxRecDepth 100000 in
set_option maxHeartbeats 4000000 in
theorem penalty_some {kb ra : Addr} {fine since : Int} {out : Bool} {tf ts : Tok} {n : Nat} (ha : atKey R ks = some (kb, .ref ra)) (hra : (ra, rowObj fine since out tf ts n) ∈ news) (f0 : 0 ≤ fine) (f1 : fine < 2 ^ 60) (fs : since ≤ now)
    (hret : ∀ (t : Tok) (h' : Heap) (tk' : Nat), Fr h₀ L h' m → News h₀ L h' news → Q (.int (decF fine (now - since) half) t) { s with heap := h', toks := tk' }) :
    wpAny (model PySem.Challenge.rw_rh0200_01.row.prog w) (ktrTop dp un gd cn cs L a ccd cl outer) (call (.ref 95) [.ref x, .ref ka, .int now tn]) Q E s := by
  revert X
  k_fill
  intro X
  refine wpAny_call ?_
  k_dflt cell_enter
  k_steps
  all_goals exact hret _ _ _ (by k_asm) (by k_asm)
end

theorem rows_PI_4 : True := by
  k_with "call ref" => ((k_here; (with_reducible show wpAny _ _ (call (Value.ref 95) _) _ _ _); k_dflt (first | (refine' penalty_none ?q9kB ?q9kX ?q9kT ?q9kk ?q9kd ?q9ku ?q9kF ?q9kN ?q9hx ?q9hdx ?q9hc ?q9hro ?q9hka ?q9C ?q9RO ?q9RK ?q9KO ?q9h5 ?q9h6 ?q9hr ?q9hr2 ?q9a0 ?_; (case q9kB => k_asm); (case q9kX => k_asm); (case q9kT => k_asm); (case q9kk => first | exact rfl | assumption); (case q9kd => ktr_room); (case q9ku => ktr_units); (case q9kF => k_asm); (case q9kN => k_asm); (case q9hx => k_mem); (case q9hdx => k_mem); (case q9hc => k_mem); (case q9hro => k_mem); (case q9hka => k_mem); (case q9C => assumption); (case q9RO => assumption); (case q9RK => (first | exact keysIn_sub (by assumption) (fun p9 hp9 => (by repeat (first | exact hp9 | refine List.Mem.tail _ ?_))) | assumption)); (case q9KO => first | assumption | exact keyObj_pair); (case q9h5 => omega); (case q9h6 => omega); (case q9hr => omega); (case q9hr2 => omega); (case q9a0 => first | assumption | rfl)) | (refine' penalty_some ?q9kB ?q9kX ?q9kT ?q9kk ?q9kd ?q9ku ?q9kF ?q9kN ?q9hx ?q9hdx ?q9hc ?q9hro ?q9hka ?q9C ?q9RO ?q9RK ?q9KO ?q9h5 ?q9h6 ?q9hr ?q9hr2 ?q9a0 ?q9a1 ?q9a2 ?q9a3 ?q9a4 ?_; (case q9kB => k_asm); (case q9kX => k_asm); (case q9kT => k_asm); (case q9kk => first | exact rfl | assumption); (case q9kd => ktr_room); (case q9ku => ktr_units); (case q9kF => k_asm); (case q9kN => k_asm); (case q9hx => k_mem); (case q9hdx => k_mem); (case q9hc => k_mem); (case q9hro => k_mem); (case q9hka => k_mem); (case q9C => assumption); (case q9RO => assumption); (case q9RK => (first | exact keysIn_sub (by assumption) (fun p9 hp9 => (by repeat (first | exact hp9 | refine List.Mem.tail _ ?_))) | assumption)); (case q9KO => first | assumption | exact keyObj_pair); (case q9h5 => omega); (case q9h6 => omega); (case q9hr => omega); (case q9hr2 => omega); (case q9a0 => first | assumption | rfl); (case q9a1 => k_mem); (case q9a2 => first | assumption | omega); (case q9a3 => first | assumption | omega); (case q9a4 => first | assumption | omega))); intro t9 h9 tk9 F9 N9; (try dsimp only)))
  trivial
section
variable {w : World} {mean : ExcName → Option Value} {mg mb : Str → Option Value} {dp un : Nat} {gd : Option (List Code)} {cn : Str} {cs : Scope} {a : Addr} {ccd : Value} {cl : List (Str × Addr)} {outer : List Env}
  {A₀ : Around} {base h₀ : Heap} {L : Addr} {m : Str → Option Value} {s : Shared} {Q E : Value → Shared → Prop} {news : List (Addr × Obj)}
  (B : Below A₀ base outer h₀) (X : (hd.heap_39 w.params).In h₀) (T : Top hd.view_39 (looseW hd.view_39 []) mean mg mb h₀) (hk : cs.kind = .function) (hdp : dp + 10 < recursionLimit) (hun : un + 84 < cLine)
  (F : Fr h₀ L s.heap m) (N : News h₀ L s.heap news)
include B X T hk hdp hun F N

variable {x dx cfg rows ka : Addr} {oc ro ko : Obj} {half reuse top now : Int} {t1 t2 t3 t4 tn : Tok} {R : List (List Int × Addr × Value)} {ks : List Int}
  (hx : (x, instObj 141 dx) ∈ news) (hdx : (dx, dmpObj w cfg rows top t1 t2 t3 t4) ∈ news) (hc : (cfg, oc) ∈ news) (hro : (rows, ro) ∈ news) (hka : (ka, ko) ∈ news)
  (C : CfgObj PySem.Challenge.rw_rh0200_01.row.prog w cfg oc half reuse) (RO : RowsObj PySem.Challenge.rw_rh0200_01.row.prog w rows ro R) (RK : KeysIn PySem.Challenge.rw_rh0200_01.row.prog w news R) (KO : KeyObj PySem.Challenge.rw_rh0200_01.row.prog w ks ko)
  (h5 : 0 < half) (h6 : half ≤ 5) (hr : 100 ≤ reuse) (hr' : reuse < 130)
include hx hdx hc hro hka C RO RK KO h5 h6 hr hr'
set_option maxRecDepth 100000 in
set_option maxHeartbeats 4000000 in
theorem out_none (ha : atKey R ks = none)
    (hret : ∀ (h' : Heap) (tk' : Nat), Fr h₀ L h' m → News h₀ L h' news → Q (.bool false) { s with heap := h', toks := tk' }) :
    wpAny (model PySem.Challenge.rw_rh0200_01.row.prog w) (ktrTop dp un gd cn cs L a ccd cl outer) (call (.ref 109) [.ref x, .ref ka, .int now tn]) Q E s := by
  revert X
  k_fill
  intro X
  refine wpAny_call ?_
  k_dflt cell_enter
  k_steps
  all_goals exact hret _ _ (by k_asm) (by k_asm)

set_option maxRecDepth 100000 in
set_option maxHeartbeats 4000000 in
theorem out_some {kb ra : Addr} {fine since : Int} {out : Bool} {tf ts : Tok} {n : Nat} (ha : atKey R ks = some (kb, .ref ra)) (hra : (ra, rowObj fine since out tf ts n) ∈ news) (f0 : 0 ≤ fine) (f1 : fine < 2 ^ 60) (fs : since ≤ now)
    (hret : ∀ (h' : Heap) (tk' : Nat), Fr h₀ L h' m → News h₀ L h' news → Q (.bool (out && decide (reuse < decF fine (now - since) half))) { s with heap := h', toks := tk' }) :
    wpAny (model PySem.Challenge.rw_rh0200_01.row.prog w) (ktrTop dp un gd cn cs L a ccd cl outer) (call (.ref 109) [.ref x, .ref ka, .int now tn]) Q E s := by
  revert X
  k_fill
  intro X
  refine wpAny_call ?_
  k_dflt cell_enter
  k_steps
  all_goals (refine bool_end hret ?_ (by k_asm) (by k_asm); simp_all)

set_option maxRecDepth 100000 in
theorem out_val {b : Bool} {kb ra : Addr} {fine since : Int} {out : Bool} {tf ts : Tok} {n : Nat} (hb : (out && decide (reuse < decF fine (now - since) half)) = b) (ha : atKey R ks = some (kb, .ref ra)) (hra : (ra, rowObj fine since out tf ts n) ∈ news) (f0 : 0 ≤ fine) (f1 : fine < 2 ^ 60) (fs : since ≤ now)
    (hret : ∀ (h' : Heap) (tk' : Nat), Fr h₀ L h' m → News h₀ L h' news → Q (.bool b) { s with heap := h', toks := tk' }) :
    wpAny (model PySem.Challenge.rw_rh0200_01.row.prog w) (ktrTop dp un gd cn cs L a ccd cl outer) (call (.ref 109) [.ref x, .ref ka, .int now tn]) Q E s := by
  subst hb
  exact out_some B X T hk hdp hun F N hx hdx hc hro hka C RO RK KO h5 h6 hr hr' ha hra f0 f1 fs hret
end
end Mine

namespace Mine
local macro_rules | `(tactic| walk_at "Pad0") => `(tactic| skip)
set_option linter.unusedSectionVars false
local macro_rules | `(tactic| walk_at "call ref") => `(tactic| k_extra "call ref")
theorem rows_PJ_1 : True := by
  k_with_none
  k_with "call ref" => ((k_here; (with_reducible show wpAny _ _ (call (Value.ref 60) _) _ _ _); k_dflt (refine' decayed_ok ?q9kB ?q9kX ?q9kT ?q9kk ?q9kd ?q9ku ?q9kF ?q9kN ?q9a0 ?q9a1 ?q9a2 ?q9a3 ?q9a4 ?_; (case q9kB => k_asm); (case q9kX => k_asm); (case q9kT => k_asm); (case q9kk => first | exact rfl | assumption); (case q9kd => ktr_room); (case q9ku => ktr_units); (case q9kF => k_asm); (case q9kN => k_asm); (case q9a0 => first | assumption | omega); (case q9a1 => first | assumption | omega); (case q9a2 => first | assumption | omega | (refine Int.mul_nonneg ?_ ?_ <;> omega)); (case q9a3 => first | assumption | omega); (case q9a4 => first | assumption | omega); intro t9 h9 tk9 F9 N9; (try dsimp only))))
  k_with "call ref" => ((k_here; (with_reducible show wpAny _ _ (call (Value.ref 159) _) _ _ _); k_dflt (refine' left_ok ?q9kB ?q9kX ?q9kT ?q9kk ?q9kd ?q9ku ?q9kF ?q9kN ?q9a0 ?q9a1 ?q9a2 ?q9a3 ?q9a4 ?_; (case q9kB => k_asm); (case q9kX => k_asm); (case q9kT => k_asm); (case q9kk => first | exact rfl | assumption); (case q9kd => ktr_room); (case q9ku => ktr_units); (case q9kF => k_asm); (case q9kN => k_asm); (case q9a0 => first | assumption | omega); (case q9a1 => first | assumption | omega); (case q9a2 => first | assumption | omega | (refine Int.mul_nonneg ?_ ?_ <;> omega)); (case q9a3 => first | assumption | omega); (case q9a4 => first | assumption | omega); intro t9 h9 tk9 F9 N9; (try dsimp only))))
  trivial
local macro_rules | `(tactic| k_all) => `(tactic| assumption)
local macro_rules | `(tactic| walk_at "call builtin:min") => `(tactic| k_extra "call builtin:min")
theorem rows_PJ_2 : True := by
  k_with "call builtin:min" => ((k_here; (with_reducible show wpAny _ _ (call (Value.builtin _) [Value.int _ _, Value.int _ _, Value.int _ _]) _ _ _); k_dflt (refine' min_three_N ?q9a ?q9F ?q9N ?_; (case q9a => exact rfl); (case q9F => k_asm); (case q9N => k_asm)); intro v9 t9 h9 tk9 e9 F9 N9; (try dsimp only)))
  trivial
local macro_rules | `(tactic| k_mem) => `(tactic| assumption)
local macro_rules | `(tactic| k_room) => `(tactic| ktr_room)
local macro_rules | `(tactic| walk_at "subscriptTail") => `(tactic| k_extra "subscriptTail")
local macro_rules | `(tactic| walk_at "compareOp NotIn ref ref") => `(tactic| k_extra "compareOp NotIn ref ref")
local macro_rules | `(tactic| walk_at "compareOp In ref ref") => `(tactic| k_extra "compareOp In ref ref")
theorem rows_PJ_3 : True := by
  k_with "subscriptTail" => ((k_here; (with_reducible show wpAny _ _ (subscriptTail _ _ (Value.ref _) (Value.str _ _)) _ _ _); k_dflt (refine' cfg_item ?q9c ?q9N ?q9m ?q9l ?_; (case q9c => assumption); (case q9N => k_asm); (case q9m => k_mem); (case q9l => first | assumption | exact cfg_half _ _ | exact cfg_most _ _ | exact cfg_reuse _ _ | exact cfg_suppress _ _ | exact cfg_withdrawn _ _ | exact cfg_changed _ _ | exact cfg_again _ _)); intro t9 tk9; (try dsimp only)))
  k_with "compareOp NotIn ref ref" => ((k_here; k_dflt (first | (refine' rows_notin_no ?q9c ?q9N ?q9m ?q9K ?q9k ?q9t ?q9u ?q9p ?_; (case q9c => assumption); (case q9N => k_asm); (case q9m => k_mem); (case q9K => (first | exact keysIn_sub (by assumption) (fun p9 hp9 => (by repeat (first | exact hp9 | refine List.Mem.tail _ ?_))) | assumption)); (case q9k => k_mem); (case q9t => first | assumption | exact keyObj_pair); (case q9u => ktr_units); (case q9p => first | assumption | rfl)) | (refine' rows_notin_yes ?q9c ?q9N ?q9m ?q9K ?q9k ?q9t ?q9u ?q9p ?_; (case q9c => assumption); (case q9N => k_asm); (case q9m => k_mem); (case q9K => (first | exact keysIn_sub (by assumption) (fun p9 hp9 => (by repeat (first | exact hp9 | refine List.Mem.tail _ ?_))) | assumption)); (case q9k => k_mem); (case q9t => first | assumption | exact keyObj_pair); (case q9u => ktr_units); (case q9p => first | assumption | rfl))); intro tk9; (try dsimp only)))
  k_with "compareOp In ref ref" => ((k_here; k_dflt (first | (refine' rows_in_no ?q9c ?q9N ?q9m ?q9K ?q9k ?q9t ?q9u ?q9p ?_; (case q9c => assumption); (case q9N => k_asm); (case q9m => k_mem); (case q9K => (first | exact keysIn_sub (by assumption) (fun p9 hp9 => (by repeat (first | exact hp9 | refine List.Mem.tail _ ?_))) | assumption)); (case q9k => k_mem); (case q9t => first | assumption | exact keyObj_pair); (case q9u => ktr_units); (case q9p => first | assumption | rfl)) | (refine' rows_in_yes ?q9c ?q9N ?q9m ?q9K ?q9k ?q9t ?q9u ?q9p ?_; (case q9c => assumption); (case q9N => k_asm); (case q9m => k_mem); (case q9K => (first | exact keysIn_sub (by assumption) (fun p9 hp9 => (by repeat (first | exact hp9 | refine List.Mem.tail _ ?_))) | assumption)); (case q9k => k_mem); (case q9t => first | assumption | exact keyObj_pair); (case q9u => ktr_units); (case q9p => first | assumption | rfl))); intro tk9; (try dsimp only)))
  k_with "subscriptTail" => ((k_here; (with_reducible show wpAny _ _ (subscriptTail _ _ (Value.ref _) (Value.ref _)) _ _ _); k_dflt (refine' rows_item ?q9c ?q9N ?q9m ?q9K ?q9k ?q9t ?q9u ?q9p ?_; (case q9c => assumption); (case q9N => k_asm); (case q9m => k_mem); (case q9K => (first | exact keysIn_sub (by assumption) (fun p9 hp9 => (by repeat (first | exact hp9 | refine List.Mem.tail _ ?_))) | assumption)); (case q9k => k_mem); (case q9t => first | assumption | exact keyObj_pair); (case q9u => ktr_units); (case q9p => first | assumption | rfl)); intro tk9; (try dsimp only)))
  k_with "call ref" => ((k_here; (with_reducible show wpAny _ _ (call (Value.ref 95) _) _ _ _); k_dflt (first | (refine' penalty_none ?q9kB ?q9kX ?q9kT ?q9kk ?q9kd ?q9ku ?q9kF ?q9kN ?q9hx ?q9hdx ?q9hc ?q9hro ?q9hka ?q9C ?q9RO ?q9RK ?q9KO ?q9h5 ?q9h6 ?q9hr ?q9hr2 ?q9a0 ?_; (case q9kB => k_asm); (case q9kX => k_asm); (case q9kT => k_asm); (case q9kk => first | exact rfl | assumption); (case q9kd => ktr_room); (case q9ku => ktr_units); (case q9kF => k_asm); (case q9kN => k_asm); (case q9hx => k_mem); (case q9hdx => k_mem); (case q9hc => k_mem); (case q9hro => k_mem); (case q9hka => k_mem); (case q9C => assumption); (case q9RO => assumption); (case q9RK => (first | exact keysIn_sub (by assumption) (fun p9 hp9 => (by repeat (first | exact hp9 | refine List.Mem.tail _ ?_))) | assumption)); (case q9KO => first | assumption | exact keyObj_pair); (case q9h5 => omega); (case q9h6 => omega); (case q9hr => omega); (case q9hr2 => omega); (case q9a0 => first | assumption | rfl)) | (refine' penalty_some ?q9kB ?q9kX ?q9kT ?q9kk ?q9kd ?q9ku ?q9kF ?q9kN ?q9hx ?q9hdx ?q9hc ?q9hro ?q9hka ?q9C ?q9RO ?q9RK ?q9KO ?q9h5 ?q9h6 ?q9hr ?q9hr2 ?q9a0 ?q9a1 ?q9a2 ?q9a3 ?q9a4 ?_; (case q9kB => k_asm); (case q9kX => k_asm); (case q9kT => k_asm); (case q9kk => first | exact rfl | assumption); (case q9kd => ktr_room); (case q9ku => ktr_units); (case q9kF => k_asm); (case q9kN => k_asm); (case q9hx => k_mem); (case q9hdx => k_mem); (case q9hc => k_mem); (case q9hro => k_mem); (case q9hka => k_mem); (case q9C => assumption); (case q9RO => assumption); (case q9RK => (first | exact keysIn_sub (by assumption) (fun p9 hp9 => (by repeat (first | exact hp9 | refine List.Mem.tail _ ?_))) | assumption)); (case q9KO => first | assumption | exact keyObj_pair); (case q9h5 => omega); (case q9h6 => omega); (case q9hr => omega); (case q9hr2 => omega); (case q9a0 => first | assumption | rfl); (case q9a1 => k_mem); (case q9a2 => first | assumption | omega); (case q9a3 => first | assumption | omega); (case q9a4 => first | assumption | omega))); intro t9 h9 tk9 F9 N9; (try dsimp only)))
  k_with "call ref" => ((k_here; (with_reducible show wpAny _ _ (call (Value.ref 109) _) _ _ _); k_dflt (first | (refine' out_val ?q9kB ?q9kX ?q9kT ?q9kk ?q9kd ?q9ku ?q9kF ?q9kN ?q9hx ?q9hdx ?q9hc ?q9hro ?q9hka ?q9C ?q9RO ?q9RK ?q9KO ?q9h5 ?q9h6 ?q9hr ?q9hr2 ?q9a0 ?q9a1 ?q9a2 ?q9a3 ?q9a4 ?q9a5 ?_; (case q9kB => k_asm); (case q9kX => k_asm); (case q9kT => k_asm); (case q9kk => first | exact rfl | assumption); (case q9kd => ktr_room); (case q9ku => ktr_units); (case q9kF => k_asm); (case q9kN => k_asm); (case q9hx => k_mem); (case q9hdx => k_mem); (case q9hc => k_mem); (case q9hro => k_mem); (case q9hka => k_mem); (case q9C => assumption); (case q9RO => assumption); (case q9RK => (first | exact keysIn_sub (by assumption) (fun p9 hp9 => (by repeat (first | exact hp9 | refine List.Mem.tail _ ?_))) | assumption)); (case q9KO => first | assumption | exact keyObj_pair); (case q9h5 => omega); (case q9h6 => omega); (case q9hr => omega); (case q9hr2 => omega); (case q9a0 => assumption); (case q9a1 => first | assumption | rfl); (case q9a2 => k_mem); (case q9a3 => first | assumption | omega); (case q9a4 => first | assumption | omega); (case q9a5 => first | assumption | omega)) | (refine' out_none ?q9kB ?q9kX ?q9kT ?q9kk ?q9kd ?q9ku ?q9kF ?q9kN ?q9hx ?q9hdx ?q9hc ?q9hro ?q9hka ?q9C ?q9RO ?q9RK ?q9KO ?q9h5 ?q9h6 ?q9hr ?q9hr2 ?q9a0 ?_; (case q9kB => k_asm); (case q9kX => k_asm); (case q9kT => k_asm); (case q9kk => first | exact rfl | assumption); (case q9kd => ktr_room); (case q9ku => ktr_units); (case q9kF => k_asm); (case q9kN => k_asm); (case q9hx => k_mem); (case q9hdx => k_mem); (case q9hc => k_mem); (case q9hro => k_mem); (case q9hka => k_mem); (case q9C => assumption); (case q9RO => assumption); (case q9RK => (first | exact keysIn_sub (by assumption) (fun p9 hp9 => (by repeat (first | exact hp9 | refine List.Mem.tail _ ?_))) | assumption)); (case q9KO => first | assumption | exact keyObj_pair); (case q9h5 => omega); (case q9h6 => omega); (case q9hr => omega); (case q9hr2 => omega); (case q9a0 => first | assumption | rfl)) | (refine' out_some ?q9kB ?q9kX ?q9kT ?q9kk ?q9kd ?q9ku ?q9kF ?q9kN ?q9hx ?q9hdx ?q9hc ?q9hro ?q9hka ?q9C ?q9RO ?q9RK ?q9KO ?q9h5 ?q9h6 ?q9hr ?q9hr2 ?q9a0 ?q9a1 ?q9a2 ?q9a3 ?q9a4 ?_; (case q9kB => k_asm); (case q9kX => k_asm); (case q9kT => k_asm); (case q9kk => first | exact rfl | assumption); (case q9kd => ktr_room); (case q9ku => ktr_units); (case q9kF => k_asm); (case q9kN => k_asm); (case q9hx => k_mem); (case q9hdx => k_mem); (case q9hc => k_mem); (case q9hro => k_mem); (case q9hka => k_mem); (case q9C => assumption); (case q9RO => assumption); (case q9RK => (first | exact keysIn_sub (by assumption) (fun p9 hp9 => (by repeat (first | exact hp9 | refine List.Mem.tail _ ?_))) | assumption)); (case q9KO => first | assumption | exact keyObj_pair); (case q9h5 => omega); (case q9h6 => omega); (case q9hr => omega); (case q9hr2 => omega); (case q9a0 => first | assumption | rfl); (case q9a1 => k_mem); (case q9a2 => first | assumption | omega); (case q9a3 => first | assumption | omega); (case q9a4 => first | assumption | omega))); intro h9 tk9 F9 N9; (try dsimp only)))
  k_with "call builtin:min" => ((k_here; (with_reducible show wpAny _ _ (call (Value.builtin _) [Value.int _ _, Value.int _ _]) _ _ _); k_dflt (refine' min_le_N ?q9a ?q9F ?q9N ?q9l ?q9v ?_; (case q9a => exact rfl); (case q9F => k_asm); (case q9N => k_asm); (case q9v => first | exact Int.zero_add _ | rfl); (case q9l => omega)); intro t9 h9 tk9 F9 N9; (try dsimp only)))
  trivial
section
variable {w : World} {mean : ExcName → Option Value} {mg mb : Str → Option Value} {dp un : Nat} {gd : Option (List Code)} {cn : Str} {cs : Scope} {a : Addr} {ccd : Value} {cl : List (Str × Addr)} {outer : List Env}
  {A₀ : Around} {base h₀ : Heap} {L : Addr} {m : Str → Option Value} {s : Shared} {Q E : Value → Shared → Prop} {news : List (Addr × Obj)}
  (B : Below A₀ base outer h₀) (X : (hd.heap_39 w.params).In h₀) (T : Top hd.view_39 (looseW hd.view_39 []) mean mg mb h₀) (hk : cs.kind = .function) (hdp : dp + 12 < recursionLimit) (hun : un + 108 < cLine)
  (F : Fr h₀ L s.heap m) (N : News h₀ L s.heap news)
include B X T hk hdp hun F N

variable {x dx cfg rows ka : Addr} {oc ro ko : Obj} {half reuse top now : Int} {t1 t2 t3 t4 tn : Tok} {R : List (List Int × Addr × Value)} {ks : List Int}
  (hx : (x, instObj 141 dx) ∈ news) (hdx : (dx, dmpObj w cfg rows top t1 t2 t3 t4) ∈ news) (hc : (cfg, oc) ∈ news) (hro : (rows, ro) ∈ news) (hka : (ka, ko) ∈ news)
  (C : CfgObj PySem.Challenge.rw_rh0200_01.row.prog w cfg oc half reuse) (RO : RowsObj PySem.Challenge.rw_rh0200_01.row.prog w rows ro R) (RK : KeysIn PySem.Challenge.rw_rh0200_01.row.prog w news R) (KO : KeyObj PySem.Challenge.rw_rh0200_01.row.prog w ks ko)
  (h5 : 0 < half) (h6 : half ≤ 5) (hr : 100 ≤ reuse) (hr' : reuse < 130)
include hx hdx hc hro hka C RO RK KO h5 h6 hr hr'
set_option maxRecDepth 100000 in
set_option maxHeartbeats 4000000 in
theorem fined_new {rest : List (Addr × Obj)} {word : Str} {tw : Tok} {fw : Int} (ha : atKey R ks = none) (hw : Spec.lookup (.str word) (cfgD half reuse) = some (.int fw)) (hf0 : 0 ≤ fw) (hf1 : fw ≤ top) (P : Pick (rows, ro) news rest) (hne : ∀ p ∈ rest, p.1 ≠ rows) (hz : R.length ≤ 10)
    (hret : ∀ (ra : Addr) (tf ts : Tok) (ro' : Obj) (h' : Heap) (tk' : Nat), (∀ p ∈ news, p.1 < ra) → RowsObj PySem.Challenge.rw_rh0200_01.row.prog w rows ro' (storedH R ks ka (.ref ra)) → Fr h₀ L h' m →
      News h₀ L h' ((ra, rowObj fw now (decide (3 * reuse ≤ fw)) tf ts 0) :: (rows, ro') :: rest) → Q (.bool (decide (3 * reuse ≤ fw))) { s with heap := h', toks := tk' }) :
    wpAny (model PySem.Challenge.rw_rh0200_01.row.prog w) (ktrTop dp un gd cn cs L a ccd cl outer) (call (.ref 102) [.ref x, .ref ka, .str word tw, .int now tn]) Q E s := by
  k_with "setItem ref ref" => ((rename ∀ p ∈ news, p.1 < _ => l9); k_dflt (refine' rows_set ?F RO ?N (Pick.there P) ?hne (keysIn_sub RK fun p9 hp9 => .tail _ hp9) (.tail _ hka) KO ?u ?z ?_; (case F => k_asm); (case N => k_asm); (case hne => exact List.forall_mem_cons.mpr ⟨Nat.ne_of_gt (l9 _ hro), hne⟩); (case u => ktr_units); (case z => omega)); intro h9 tk9 ro9 F9 N9 RO9; (try dsimp only))
  revert X
  k_fill
  intro X
  refine wpAny_call ?_
  k_dflt cell_enter
  k_steps
  (rename ∀ p ∈ news, p.1 < _ => l9)
  have kN9 := (by assumption : News h₀ L _ (_ :: _ :: _))
  exact hret _ _ _ _ _ _ l9 (by assumption) (by k_asm) (news_swap kN9)
end
end Mine

namespace Mine
open PySem.W.X PySem.W.XRun
/-! sorted(self.rows): run step by step, its end handed on -/
theorem mem_keep {h₀ h : Heap} {news : List (Addr × Obj)} (M : Mem h₀ h [] news) : ∀ b o, h₀.get? b = some o → h.get? b = some o := fun b o e => M.keep b o e (by simp [away])
theorem wpAny_lower {α : Type} {M : Model} {A A' : Around} {t : Sem α} {Q : α → Shared → Prop} {E : Value → Shared → Prop} {s : Shared} (h : wpAny M A' t Q E s) (e1 : A.handled = A'.handled) (e2 : A.depth ≤ A'.depth) (e3 : A'.frames = A.frames) (e4 : A'.guards = A.guards) (e5 : A.units ≤ A'.units) : wpAny M A t Q E s :=
  fun Γ p hΓ => h Γ p ⟨hΓ.1.trans e1, Nat.le_trans hΓ.2.1 e2, fun l hl => hΓ.2.2.1 l (e3 ▸ hl), fun g hg => hΓ.2.2.2.1 g (e4 ▸ hg), Nat.le_trans hΓ.2.2.2.2 e5⟩
local macro_rules | `(tactic| x_close) => `(tactic| k_extra "xend")
set_option maxRecDepth 100000 in
set_option maxHeartbeats 4000000 in
theorem sorted_x {w : World} {env : Env} {outer : List Env} {gd : Option (List Code)} {s : Shared} {rows k1 k2 : Addr} {v1 v2 : Value} {h1 h2 : Int} {ep n1 n2 : Nat} {t1 t2 t3 t4 : Tok} {Q E : Value → Shared → Prop}
  (hne : ¬ @Eq Nat rows sysModules)
  (hd : s.heap.get? rows = some ⟨.type "dict", none, .dict #[⟨h1, .ref k1, v1⟩, ⟨h2, .ref k2, v2⟩] ep, #[]⟩)
  (hk1 : s.heap.get? k1 = some ⟨.type "tuple", none, .seq #[.int 16 t1, .int 4 t2] n1, #[]⟩)
  (hk2 : s.heap.get? k2 = some ⟨.type "tuple", none, .seq #[.int 32 t3, .int 4 t4] n2, #[]⟩)
  (hret : ∀ (h' : Heap) (D : Addr) (n tk : Nat), (∀ b o, s.heap.get? b = some o → h'.get? b = some o) → h'.get? D = some (W.listOf #[.ref k1, .ref k2] n) → s.heap.get? D = none → Q (.ref D) { s with heap := h', toks := tk }) :
  wpAny (model PySem.Challenge.rw_rh0200_01.row.prog w) { handled := none, depth := 990, frames := some (env :: outer), guards := gd, units := 9800 } (call (.builtin "sorted") [.ref rows]) Q E s := by
  k_with_none
  k_with "xend" => ((rename Mem _ _ _ _ => M9); refine' hret _ _ ?n _ (mem_keep M9) ?e1 ?e2; (case e1 => exact (M9.nw (_, _) (by k_mem)).1); (case e2 => exact (M9.nw (_, _) (by k_mem)).2))
  x_run

theorem RowsObj.two {prog : Program} {w : World} {rows k1 k2 : Addr} {o : Obj} {ks1 ks2 : List Int} {v1 v2 : Value} (X : RowsObj prog w rows o [(ks1, k1, v1), (ks2, k2, v2)]) :
    ∃ ep, o = ⟨.type "dict", none, .dict #[⟨(PairKind prog w).hash ks1, .ref k1, v1⟩, ⟨(PairKind prog w).hash ks2, .ref k2, v2⟩] ep, #[]⟩ := by
  obtain ⟨es, ep, hd, he⟩ := X.data
  obtain ⟨c1, c2, c3⟩ := X.exact
  refine ⟨ep, ?_⟩
  have e : es = #[⟨(PairKind prog w).hash ks1, .ref k1, v1⟩, ⟨(PairKind prog w).hash ks2, .ref k2, v2⟩] := by
    apply Array.toList_inj.mp
    rw [he]; rfl
  obtain ⟨a, b, c, d⟩ := o
  simp only at c1 c2 c3 hd
  subst c1 c2 c3 hd e
  rfl
theorem not_sys {rows : Addr} (h : (rows == sysModules) = false) : ¬ @Eq Nat rows sysModules := fun e => by
  rw [e] at h
  simp at h

section
variable {w : World} {s : Shared} {dp un : Nat} {gd : Option (List Code)} {cn : Str} {cs : Scope} {a : Addr} {ccd : Value} {cl : List (Str × Addr)} {outer : List Env} {E Q : Value → Shared → Prop} {h₀ : Heap} {L rows k1 k2 : Addr} {m : Str → Option Value} {news : List (Addr × Obj)} {o : Obj} {v1 v2 : Value} {t1 t2 t3 t4 : Tok} {n1 n2 : Nat}
theorem fresh_of {h h' : Heap} {D : Addr} (F : Fr h₀ L h m) (hk : ∀ b o, h.get? b = some o → h'.get? b = some o) (hn : h.get? D = none) : D ≠ L ∧ h₀.get? D = none := by
  refine ⟨fun e => ?_, ?_⟩
  · obtain ⟨oL, _, _, hL, _⟩ := F.ns
    rw [e, hL] at hn; cases hn
  · cases q : h₀.get? D with
    | none => rfl
    | some o => rw [F.keep _ _ q] at hn; cases hn
theorem sorted_rows (hdp : dp ≤ 990) (hun : un ≤ 9800) (F : Fr h₀ L s.heap m) (X : RowsObj PySem.Challenge.rw_rh0200_01.row.prog w rows o [([16, 4], k1, v1), ([32, 4], k2, v2)]) (N : News h₀ L s.heap news) (hm : (rows, o) ∈ news)
    (hk1 : (k1, (⟨.type "tuple", none, .seq #[.int 16 t1, .int 4 t2] n1, #[]⟩ : Obj)) ∈ news) (hk2 : (k2, (⟨.type "tuple", none, .seq #[.int 32 t3, .int 4 t4] n2, #[]⟩ : Obj)) ∈ news)
    (h : ∀ D n h' tk, (∀ p ∈ news, p.1 ≠ D) → Fr h₀ L h' m → News h₀ L h' ((D, W.listOf #[.ref k1, .ref k2] n) :: news) → Q (.ref D) { s with heap := h', toks := tk }) :
    wpAny (model PySem.Challenge.rw_rh0200_01.row.prog w) (ktrTop dp un gd cn cs L a ccd cl outer) (call (.builtin "sorted") [.ref rows]) Q E s := by
  obtain ⟨ep, e⟩ := X.two
  refine wpAny_lower (sorted_x (not_sys X.lo) ((N _ hm).1.trans (congrArg some e)) (N _ hk1).1 (N _ hk2).1 fun h' D n tk hk hD hn => ?_) rfl hdp rfl rfl hun
  have fr := fresh_of F hk hn
  refine h D n h' tk (fun p hp q => ?_) (F.grownK hk) (fun p hp => ?_)
  · have := (N p hp).1
    rw [q, hn] at this; cases this
  · rcases List.mem_cons.mp hp with rfl | hp
    · exact ⟨hD, fr⟩
    · exact N.grown hk p hp
end
theorem keysIn_two {prog : Program} {w : World} {news : List (Addr × Obj)} {k1 k2 : Addr} {v1 v2 : Value} {u1 u2 u3 u4 : Tok} {m1 m2 : Nat}
    (hk1 : (k1, (⟨.type "tuple", none, .seq #[.int 16 u1, .int 4 u2] m1, #[]⟩ : Obj)) ∈ news) (hk2 : (k2, (⟨.type "tuple", none, .seq #[.int 32 u3, .int 4 u4] m2, #[]⟩ : Obj)) ∈ news) : KeysIn prog w news [([16, 4], k1, v1), ([32, 4], k2, v2)] := by
  intro x hx
  rcases List.mem_cons.mp hx with rfl | hx
  · exact ⟨_, hk1, keyObj_pair⟩
  · rw [List.mem_singleton.mp hx]; exact ⟨_, hk2, keyObj_pair⟩
theorem off1_all {D : Addr} : ∀ {l : List (Addr × Obj)}, LCg.Off1 D l → ∀ p ∈ l, p.1 ≠ D
  | [], _, _, hp => nomatch hp
  | _ :: _, x, p, hp => by
    rcases List.mem_cons.mp hp with rfl | hp
    · exact x.1
    · exact off1_all x.2 p hp
theorem news_head3 {h₀ h : Heap} {L : Addr} {p a b c : Addr × Obj} {r : List (Addr × Obj)} (N : News h₀ L h (p :: a :: b :: c :: r)) : News h₀ L h (p :: r) := fun q hq => N q (by
  rcases List.mem_cons.mp hq with rfl | hq
  · exact .head _
  · exact .tail _ (.tail _ (.tail _ (.tail _ hq))))
theorem comp_sub {t i c d : Addr × Obj} {r : List (Addr × Obj)} : ∀ p ∈ i :: c :: d :: t :: r, p ∈ t :: i :: c :: d :: r := fun p hp => by
  simp only [List.mem_cons] at hp ⊢
  rcases hp with h | h | h | h | h
  · exact .inr (.inl h)
  · exact .inr (.inr (.inl h))
  · exact .inr (.inr (.inr (.inl h)))
  · exact .inl h
  · exact .inr (.inr (.inr (.inr h)))
theorem allLt_all {D : Addr} : ∀ {l : List (Addr × Obj)}, AllLt D l → ∀ p ∈ l, p.1 ≠ D
  | [], _, _, hp => nomatch hp
  | _ :: _, x, p, hp => by
    rcases List.mem_cons.mp hp with rfl | hp
    · exact Nat.ne_of_lt x.1
    · exact allLt_all x.2 p hp
theorem news_head4 {h₀ h : Heap} {L : Addr} {p q a b c : Addr × Obj} {r : List (Addr × Obj)} (N : News h₀ L h (p :: q :: a :: b :: c :: r)) : News h₀ L h (p :: q :: r) := fun x hx => N x (by
  rcases List.mem_cons.mp hx with rfl | hx
  · exact .head _
  · rcases List.mem_cons.mp hx with rfl | hx
    · exact .tail _ (.head _)
    · exact .tail _ (.tail _ (.tail _ (.tail _ (.tail _ hx)))))
end Mine

namespace Mine
local macro_rules | `(tactic| walk_at "Pad0") => `(tactic| skip)
set_option linter.unusedSectionVars false
local macro_rules | `(tactic| walk_at "call ref") => `(tactic| k_extra "call ref")
theorem rows_PM_1 : True := by
  k_with_none
  k_with "call ref" => ((k_here; (with_reducible show wpAny _ _ (call (Value.ref 60) _) _ _ _); k_dflt (refine' decayed_ok ?q9kB ?q9kX ?q9kT ?q9kk ?q9kd ?q9ku ?q9kF ?q9kN ?q9a0 ?q9a1 ?q9a2 ?q9a3 ?q9a4 ?_; (case q9kB => k_asm); (case q9kX => k_asm); (case q9kT => k_asm); (case q9kk => first | exact rfl | assumption); (case q9kd => ktr_room); (case q9ku => ktr_units); (case q9kF => k_asm); (case q9kN => k_asm); (case q9a0 => first | assumption | omega); (case q9a1 => first | assumption | omega); (case q9a2 => first | assumption | omega | (refine Int.mul_nonneg ?_ ?_ <;> omega)); (case q9a3 => first | assumption | omega); (case q9a4 => first | assumption | omega); intro t9 h9 tk9 F9 N9; (try dsimp only))))
  k_with "call ref" => ((k_here; (with_reducible show wpAny _ _ (call (Value.ref 159) _) _ _ _); k_dflt (refine' left_ok ?q9kB ?q9kX ?q9kT ?q9kk ?q9kd ?q9ku ?q9kF ?q9kN ?q9a0 ?q9a1 ?q9a2 ?q9a3 ?q9a4 ?_; (case q9kB => k_asm); (case q9kX => k_asm); (case q9kT => k_asm); (case q9kk => first | exact rfl | assumption); (case q9kd => ktr_room); (case q9ku => ktr_units); (case q9kF => k_asm); (case q9kN => k_asm); (case q9a0 => first | assumption | omega); (case q9a1 => first | assumption | omega); (case q9a2 => first | assumption | omega | (refine Int.mul_nonneg ?_ ?_ <;> omega)); (case q9a3 => first | assumption | omega); (case q9a4 => first | assumption | omega); intro t9 h9 tk9 F9 N9; (try dsimp only))))
  k_with "call ref" => ((k_here; (with_reducible show wpAny _ _ (call (Value.ref 74) _) _ _ _); k_dflt (refine' until_ok ?q9kB ?q9kX ?q9kT ?q9kk ?q9kd ?q9ku ?q9kF ?q9kN ?q9a0 ?q9a1 ?q9a2 ?q9a3 ?q9a4 ?q9a5 ?_; (case q9kB => k_asm); (case q9kX => k_asm); (case q9kT => k_asm); (case q9kk => first | exact rfl | assumption); (case q9kd => ktr_room); (case q9ku => ktr_units); (case q9kF => k_asm); (case q9kN => k_asm); (case q9a0 => first | assumption | omega); (case q9a1 => first | assumption | omega); (case q9a2 => first | assumption | omega); (case q9a3 => first | assumption | omega); (case q9a4 => first | assumption | omega); (case q9a5 => first | assumption | omega); intro u9 t9 h9 tk9 U9 F9 N9; (have d9 := until_dec U9 (by omega) (by omega)); (obtain ⟨d0, d1, d2⟩ := d9); (try dsimp only))))
  trivial
local macro_rules | `(tactic| k_all) => `(tactic| assumption)
local macro_rules | `(tactic| walk_at "call builtin:min") => `(tactic| k_extra "call builtin:min")
theorem rows_PM_2 : True := by
  k_with "call builtin:min" => ((k_here; (with_reducible show wpAny _ _ (call (Value.builtin _) [Value.int _ _, Value.int _ _, Value.int _ _]) _ _ _); k_dflt (refine' min_three_N ?q9a ?q9F ?q9N ?_; (case q9a => exact rfl); (case q9F => k_asm); (case q9N => k_asm)); intro v9 t9 h9 tk9 e9 F9 N9; (try dsimp only)))
  trivial
local macro_rules | `(tactic| k_mem) => `(tactic| assumption)
local macro_rules | `(tactic| k_room) => `(tactic| ktr_room)
local macro_rules | `(tactic| walk_at "subscriptTail") => `(tactic| k_extra "subscriptTail")
local macro_rules | `(tactic| walk_at "compareOp NotIn ref ref") => `(tactic| k_extra "compareOp NotIn ref ref")
local macro_rules | `(tactic| walk_at "compareOp In ref ref") => `(tactic| k_extra "compareOp In ref ref")
local macro_rules | `(tactic| walk_at "PadM") => `(tactic| k_extra "PadM")
theorem rows_PM_3 : True := by
  k_with "subscriptTail" => ((k_here; (with_reducible show wpAny _ _ (subscriptTail _ _ (Value.ref _) (Value.str _ _)) _ _ _); k_dflt (refine' cfg_item ?q9c ?q9N ?q9m ?q9l ?_; (case q9c => assumption); (case q9N => k_asm); (case q9m => k_mem); (case q9l => first | assumption | exact cfg_half _ _ | exact cfg_most _ _ | exact cfg_reuse _ _ | exact cfg_suppress _ _ | exact cfg_withdrawn _ _ | exact cfg_changed _ _ | exact cfg_again _ _)); intro t9 tk9; (try dsimp only)))
  k_with "compareOp NotIn ref ref" => ((k_here; k_dflt (first | (refine' rows_notin_no ?q9c ?q9N ?q9m ?q9K ?q9k ?q9t ?q9u ?q9p ?_; (case q9c => assumption); (case q9N => k_asm); (case q9m => k_mem); (case q9K => (first | exact keysIn_sub (by assumption) (fun p9 hp9 => (by repeat (first | exact hp9 | refine List.Mem.tail _ ?_))) | assumption)); (case q9k => k_mem); (case q9t => first | assumption | exact keyObj_pair); (case q9u => ktr_units); (case q9p => first | assumption | rfl)) | (refine' rows_notin_yes ?q9c ?q9N ?q9m ?q9K ?q9k ?q9t ?q9u ?q9p ?_; (case q9c => assumption); (case q9N => k_asm); (case q9m => k_mem); (case q9K => (first | exact keysIn_sub (by assumption) (fun p9 hp9 => (by repeat (first | exact hp9 | refine List.Mem.tail _ ?_))) | assumption)); (case q9k => k_mem); (case q9t => first | assumption | exact keyObj_pair); (case q9u => ktr_units); (case q9p => first | assumption | rfl))); intro tk9; (try dsimp only)))
  k_with "compareOp In ref ref" => ((k_here; k_dflt (first | (refine' rows_in_no ?q9c ?q9N ?q9m ?q9K ?q9k ?q9t ?q9u ?q9p ?_; (case q9c => assumption); (case q9N => k_asm); (case q9m => k_mem); (case q9K => (first | exact keysIn_sub (by assumption) (fun p9 hp9 => (by repeat (first | exact hp9 | refine List.Mem.tail _ ?_))) | assumption)); (case q9k => k_mem); (case q9t => first | assumption | exact keyObj_pair); (case q9u => ktr_units); (case q9p => first | assumption | rfl)) | (refine' rows_in_yes ?q9c ?q9N ?q9m ?q9K ?q9k ?q9t ?q9u ?q9p ?_; (case q9c => assumption); (case q9N => k_asm); (case q9m => k_mem); (case q9K => (first | exact keysIn_sub (by assumption) (fun p9 hp9 => (by repeat (first | exact hp9 | refine List.Mem.tail _ ?_))) | assumption)); (case q9k => k_mem); (case q9t => first | assumption | exact keyObj_pair); (case q9u => ktr_units); (case q9p => first | assumption | rfl))); intro tk9; (try dsimp only)))
  k_with "subscriptTail" => ((k_here; (with_reducible show wpAny _ _ (subscriptTail _ _ (Value.ref _) (Value.ref _)) _ _ _); k_dflt (refine' rows_item ?q9c ?q9N ?q9m ?q9K ?q9k ?q9t ?q9u ?q9p ?_; (case q9c => assumption); (case q9N => k_asm); (case q9m => k_mem); (case q9K => (first | exact keysIn_sub (by assumption) (fun p9 hp9 => (by repeat (first | exact hp9 | refine List.Mem.tail _ ?_))) | assumption)); (case q9k => k_mem); (case q9t => first | assumption | exact keyObj_pair); (case q9u => ktr_units); (case q9p => first | assumption | rfl)); intro tk9; (try dsimp only)))
  k_with "call ref" => ((k_here; (with_reducible show wpAny _ _ (call (Value.ref 95) _) _ _ _); k_dflt (first | (refine' penalty_none ?q9kB ?q9kX ?q9kT ?q9kk ?q9kd ?q9ku ?q9kF ?q9kN ?q9hx ?q9hdx ?q9hc ?q9hro ?q9hka ?q9C ?q9RO ?q9RK ?q9KO ?q9h5 ?q9h6 ?q9hr ?q9hr2 ?q9a0 ?_; (case q9kB => k_asm); (case q9kX => k_asm); (case q9kT => k_asm); (case q9kk => first | exact rfl | assumption); (case q9kd => ktr_room); (case q9ku => ktr_units); (case q9kF => k_asm); (case q9kN => k_asm); (case q9hx => k_mem); (case q9hdx => k_mem); (case q9hc => k_mem); (case q9hro => k_mem); (case q9hka => k_mem); (case q9C => assumption); (case q9RO => assumption); (case q9RK => (first | exact keysIn_sub (by assumption) (fun p9 hp9 => (by repeat (first | exact hp9 | refine List.Mem.tail _ ?_))) | assumption)); (case q9KO => first | assumption | exact keyObj_pair); (case q9h5 => omega); (case q9h6 => omega); (case q9hr => omega); (case q9hr2 => omega); (case q9a0 => first | assumption | rfl)) | (refine' penalty_some ?q9kB ?q9kX ?q9kT ?q9kk ?q9kd ?q9ku ?q9kF ?q9kN ?q9hx ?q9hdx ?q9hc ?q9hro ?q9hka ?q9C ?q9RO ?q9RK ?q9KO ?q9h5 ?q9h6 ?q9hr ?q9hr2 ?q9a0 ?q9a1 ?q9a2 ?q9a3 ?q9a4 ?_; (case q9kB => k_asm); (case q9kX => k_asm); (case q9kT => k_asm); (case q9kk => first | exact rfl | assumption); (case q9kd => ktr_room); (case q9ku => ktr_units); (case q9kF => k_asm); (case q9kN => k_asm); (case q9hx => k_mem); (case q9hdx => k_mem); (case q9hc => k_mem); (case q9hro => k_mem); (case q9hka => k_mem); (case q9C => assumption); (case q9RO => assumption); (case q9RK => (first | exact keysIn_sub (by assumption) (fun p9 hp9 => (by repeat (first | exact hp9 | refine List.Mem.tail _ ?_))) | assumption)); (case q9KO => first | assumption | exact keyObj_pair); (case q9h5 => omega); (case q9h6 => omega); (case q9hr => omega); (case q9hr2 => omega); (case q9a0 => first | assumption | rfl); (case q9a1 => k_mem); (case q9a2 => first | assumption | omega); (case q9a3 => first | assumption | omega); (case q9a4 => first | assumption | omega))); intro t9 h9 tk9 F9 N9; (try dsimp only)))
  k_with "call ref" => ((k_here; (with_reducible show wpAny _ _ (call (Value.ref 109) _) _ _ _); k_dflt (first | (refine' out_val ?q9kB ?q9kX ?q9kT ?q9kk ?q9kd ?q9ku ?q9kF ?q9kN ?q9hx ?q9hdx ?q9hc ?q9hro ?q9hka ?q9C ?q9RO ?q9RK ?q9KO ?q9h5 ?q9h6 ?q9hr ?q9hr2 ?q9a0 ?q9a1 ?q9a2 ?q9a3 ?q9a4 ?q9a5 ?_; (case q9kB => k_asm); (case q9kX => k_asm); (case q9kT => k_asm); (case q9kk => first | exact rfl | assumption); (case q9kd => ktr_room); (case q9ku => ktr_units); (case q9kF => k_asm); (case q9kN => k_asm); (case q9hx => k_mem); (case q9hdx => k_mem); (case q9hc => k_mem); (case q9hro => k_mem); (case q9hka => k_mem); (case q9C => assumption); (case q9RO => assumption); (case q9RK => (first | exact keysIn_sub (by assumption) (fun p9 hp9 => (by repeat (first | exact hp9 | refine List.Mem.tail _ ?_))) | assumption)); (case q9KO => first | assumption | exact keyObj_pair); (case q9h5 => omega); (case q9h6 => omega); (case q9hr => omega); (case q9hr2 => omega); (case q9a0 => assumption); (case q9a1 => first | assumption | rfl); (case q9a2 => k_mem); (case q9a3 => first | assumption | omega); (case q9a4 => first | assumption | omega); (case q9a5 => first | assumption | omega)) | (refine' out_none ?q9kB ?q9kX ?q9kT ?q9kk ?q9kd ?q9ku ?q9kF ?q9kN ?q9hx ?q9hdx ?q9hc ?q9hro ?q9hka ?q9C ?q9RO ?q9RK ?q9KO ?q9h5 ?q9h6 ?q9hr ?q9hr2 ?q9a0 ?_; (case q9kB => k_asm); (case q9kX => k_asm); (case q9kT => k_asm); (case q9kk => first | exact rfl | assumption); (case q9kd => ktr_room); (case q9ku => ktr_units); (case q9kF => k_asm); (case q9kN => k_asm); (case q9hx => k_mem); (case q9hdx => k_mem); (case q9hc => k_mem); (case q9hro => k_mem); (case q9hka => k_mem); (case q9C => assumption); (case q9RO => assumption); (case q9RK => (first | exact keysIn_sub (by assumption) (fun p9 hp9 => (by repeat (first | exact hp9 | refine List.Mem.tail _ ?_))) | assumption)); (case q9KO => first | assumption | exact keyObj_pair); (case q9h5 => omega); (case q9h6 => omega); (case q9hr => omega); (case q9hr2 => omega); (case q9a0 => first | assumption | rfl)) | (refine' out_some ?q9kB ?q9kX ?q9kT ?q9kk ?q9kd ?q9ku ?q9kF ?q9kN ?q9hx ?q9hdx ?q9hc ?q9hro ?q9hka ?q9C ?q9RO ?q9RK ?q9KO ?q9h5 ?q9h6 ?q9hr ?q9hr2 ?q9a0 ?q9a1 ?q9a2 ?q9a3 ?q9a4 ?_; (case q9kB => k_asm); (case q9kX => k_asm); (case q9kT => k_asm); (case q9kk => first | exact rfl | assumption); (case q9kd => ktr_room); (case q9ku => ktr_units); (case q9kF => k_asm); (case q9kN => k_asm); (case q9hx => k_mem); (case q9hdx => k_mem); (case q9hc => k_mem); (case q9hro => k_mem); (case q9hka => k_mem); (case q9C => assumption); (case q9RO => assumption); (case q9RK => (first | exact keysIn_sub (by assumption) (fun p9 hp9 => (by repeat (first | exact hp9 | refine List.Mem.tail _ ?_))) | assumption)); (case q9KO => first | assumption | exact keyObj_pair); (case q9h5 => omega); (case q9h6 => omega); (case q9hr => omega); (case q9hr2 => omega); (case q9a0 => first | assumption | rfl); (case q9a1 => k_mem); (case q9a2 => first | assumption | omega); (case q9a3 => first | assumption | omega); (case q9a4 => first | assumption | omega))); intro h9 tk9 F9 N9; (try dsimp only)))
  k_with "PadM" => (skip)
  trivial
section
variable {w : World} {mean : ExcName → Option Value} {mg mb : Str → Option Value} {dp un : Nat} {gd : Option (List Code)} {cn : Str} {cs : Scope} {a : Addr} {ccd : Value} {cl : List (Str × Addr)} {outer : List Env}
  {A₀ : Around} {base h₀ : Heap} {L : Addr} {m : Str → Option Value} {s : Shared} {Q E : Value → Shared → Prop} {news : List (Addr × Obj)}
  (B : Below A₀ base outer h₀) (X : (hd.heap_39 w.params).In h₀) (T : Top hd.view_39 (looseW hd.view_39 []) mean mg mb h₀) (hk : cs.kind = .function) (hdp : dp + 12 < recursionLimit) (hun : un + 108 < cLine)
  (F : Fr h₀ L s.heap m) (N : News h₀ L s.heap news)
include B X T hk hdp hun F N

variable {x dx cfg rows ka : Addr} {oc ro ko : Obj} {half reuse top now : Int} {t1 t2 t3 t4 tn : Tok} {R : List (List Int × Addr × Value)} {ks : List Int}
  (hx : (x, instObj 141 dx) ∈ news) (hdx : (dx, dmpObj w cfg rows top t1 t2 t3 t4) ∈ news) (hc : (cfg, oc) ∈ news) (hro : (rows, ro) ∈ news) (hka : (ka, ko) ∈ news)
  (C : CfgObj PySem.Challenge.rw_rh0200_01.row.prog w cfg oc half reuse) (RO : RowsObj PySem.Challenge.rw_rh0200_01.row.prog w rows ro R) (RK : KeysIn PySem.Challenge.rw_rh0200_01.row.prog w news R) (KO : KeyObj PySem.Challenge.rw_rh0200_01.row.prog w ks ko)
  (h5 : 0 < half) (h6 : half ≤ 5) (hr : 100 ≤ reuse) (hr' : reuse < 130)
include hx hdx hc hro hka C RO RK KO h5 h6 hr hr'
set_option maxRecDepth 100000 in
set_option maxHeartbeats 4000000 in
theorem reuse_time_some {kb ra : Addr} {fine since : Int} {out : Bool} {tf ts : Tok} {n : Nat} (hb : (out && decide (reuse < decF fine (now - since) half)) = true) (ha : atKey R ks = some (kb, .ref ra)) (hra : (ra, rowObj fine since out tf ts n) ∈ news) (f0 : 0 ≤ fine) (f1 : fine < 2 ^ 60) (fs : since ≤ now)
    (hret : ∀ (u : Int) (t : Tok) (h' : Heap) (tk' : Nat), Until fine reuse half u → Fr h₀ L h' m → News h₀ L h' news → Q (.int (since + u) t) { s with heap := h', toks := tk' }) :
    wpAny (model PySem.Challenge.rw_rh0200_01.row.prog w) (ktrTop dp un gd cn cs L a ccd cl outer) (call (.ref 116) [.ref x, .ref ka, .int now tn]) Q E s := by
  revert X
  k_fill
  intro X
  refine wpAny_call ?_
  k_dflt cell_enter
  k_steps
  all_goals exact hret _ _ _ _ (by assumption) (by k_asm) (by k_asm)
end
end Mine

namespace Mine
local macro_rules | `(tactic| walk_at "Pad0") => `(tactic| skip)
set_option linter.unusedSectionVars false
local macro_rules | `(tactic| k_all) => `(tactic| assumption)
local macro_rules | `(tactic| walk_at "call builtin:min") => `(tactic| k_extra "call builtin:min")
theorem rows_PN_1 : True := by
  k_with_none
  k_with "call builtin:min" => ((k_here; (with_reducible show wpAny _ _ (call (Value.builtin _) [Value.int _ _, Value.int _ _, Value.int _ _]) _ _ _); k_dflt (refine' min_three_N ?q9a ?q9F ?q9N ?_; (case q9a => exact rfl); (case q9F => k_asm); (case q9N => k_asm)); intro v9 t9 h9 tk9 e9 F9 N9; (try dsimp only)))
  trivial
local macro_rules | `(tactic| k_mem) => `(tactic| assumption)
local macro_rules | `(tactic| k_room) => `(tactic| ktr_room)
local macro_rules | `(tactic| walk_at "subscriptTail") => `(tactic| k_extra "subscriptTail")
local macro_rules | `(tactic| walk_at "compareOp NotIn ref ref") => `(tactic| k_extra "compareOp NotIn ref ref")
local macro_rules | `(tactic| walk_at "compareOp In ref ref") => `(tactic| k_extra "compareOp In ref ref")
local macro_rules | `(tactic| walk_at "call ref") => `(tactic| k_extra "call ref")
local macro_rules | `(tactic| walk_at "call builtin:sorted") => `(tactic| k_extra "call builtin:sorted")
local macro_rules | `(tactic| walk_at "CompEnd") => `(tactic| k_extra "CompEnd")
theorem rows_PN_2 : True := by
  k_with "subscriptTail" => ((k_here; (with_reducible show wpAny _ _ (subscriptTail _ _ (Value.ref _) (Value.str _ _)) _ _ _); k_dflt (refine' cfg_item ?q9c ?q9N ?q9m ?q9l ?_; (case q9c => assumption); (case q9N => k_asm); (case q9m => k_mem); (case q9l => first | assumption | exact cfg_half _ _ | exact cfg_most _ _ | exact cfg_reuse _ _ | exact cfg_suppress _ _ | exact cfg_withdrawn _ _ | exact cfg_changed _ _ | exact cfg_again _ _)); intro t9 tk9; (try dsimp only)))
  k_with "compareOp NotIn ref ref" => ((k_here; k_dflt (first | (refine' rows_notin_no ?q9c ?q9N ?q9m ?q9K ?q9k ?q9t ?q9u ?q9p ?_; (case q9c => assumption); (case q9N => k_asm); (case q9m => k_mem); (case q9K => (first | exact keysIn_sub (by assumption) (fun p9 hp9 => (by repeat (first | exact hp9 | refine List.Mem.tail _ ?_))) | assumption)); (case q9k => k_mem); (case q9t => first | assumption | exact keyObj_pair); (case q9u => ktr_units); (case q9p => first | assumption | rfl)) | (refine' rows_notin_yes ?q9c ?q9N ?q9m ?q9K ?q9k ?q9t ?q9u ?q9p ?_; (case q9c => assumption); (case q9N => k_asm); (case q9m => k_mem); (case q9K => (first | exact keysIn_sub (by assumption) (fun p9 hp9 => (by repeat (first | exact hp9 | refine List.Mem.tail _ ?_))) | assumption)); (case q9k => k_mem); (case q9t => first | assumption | exact keyObj_pair); (case q9u => ktr_units); (case q9p => first | assumption | rfl))); intro tk9; (try dsimp only)))
  k_with "compareOp In ref ref" => ((k_here; k_dflt (first | (refine' rows_in_no ?q9c ?q9N ?q9m ?q9K ?q9k ?q9t ?q9u ?q9p ?_; (case q9c => assumption); (case q9N => k_asm); (case q9m => k_mem); (case q9K => (first | exact keysIn_sub (by assumption) (fun p9 hp9 => (by repeat (first | exact hp9 | refine List.Mem.tail _ ?_))) | assumption)); (case q9k => k_mem); (case q9t => first | assumption | exact keyObj_pair); (case q9u => ktr_units); (case q9p => first | assumption | rfl)) | (refine' rows_in_yes ?q9c ?q9N ?q9m ?q9K ?q9k ?q9t ?q9u ?q9p ?_; (case q9c => assumption); (case q9N => k_asm); (case q9m => k_mem); (case q9K => (first | exact keysIn_sub (by assumption) (fun p9 hp9 => (by repeat (first | exact hp9 | refine List.Mem.tail _ ?_))) | assumption)); (case q9k => k_mem); (case q9t => first | assumption | exact keyObj_pair); (case q9u => ktr_units); (case q9p => first | assumption | rfl))); intro tk9; (try dsimp only)))
  k_with "subscriptTail" => ((k_here; (with_reducible show wpAny _ _ (subscriptTail _ _ (Value.ref _) (Value.ref _)) _ _ _); k_dflt (refine' rows_item ?q9c ?q9N ?q9m ?q9K ?q9k ?q9t ?q9u ?q9p ?_; (case q9c => assumption); (case q9N => k_asm); (case q9m => k_mem); (case q9K => (first | exact keysIn_sub (by assumption) (fun p9 hp9 => (by repeat (first | exact hp9 | refine List.Mem.tail _ ?_))) | assumption)); (case q9k => k_mem); (case q9t => first | assumption | exact keyObj_pair); (case q9u => ktr_units); (case q9p => first | assumption | rfl)); intro tk9; (try dsimp only)))
  k_with "call ref" => ((k_here; (with_reducible show wpAny _ _ (call (Value.ref 95) _) _ _ _); k_dflt (first | (refine' penalty_none ?q9kB ?q9kX ?q9kT ?q9kk ?q9kd ?q9ku ?q9kF ?q9kN ?q9hx ?q9hdx ?q9hc ?q9hro ?q9hka ?q9C ?q9RO ?q9RK ?q9KO ?q9h5 ?q9h6 ?q9hr ?q9hr2 ?q9a0 ?_; (case q9kB => k_asm); (case q9kX => k_asm); (case q9kT => k_asm); (case q9kk => first | exact rfl | assumption); (case q9kd => ktr_room); (case q9ku => ktr_units); (case q9kF => k_asm); (case q9kN => k_asm); (case q9hx => k_mem); (case q9hdx => k_mem); (case q9hc => k_mem); (case q9hro => k_mem); (case q9hka => k_mem); (case q9C => assumption); (case q9RO => assumption); (case q9RK => (first | exact keysIn_sub (by assumption) (fun p9 hp9 => (by repeat (first | exact hp9 | refine List.Mem.tail _ ?_))) | assumption)); (case q9KO => first | assumption | exact keyObj_pair); (case q9h5 => omega); (case q9h6 => omega); (case q9hr => omega); (case q9hr2 => omega); (case q9a0 => first | assumption | rfl)) | (refine' penalty_some ?q9kB ?q9kX ?q9kT ?q9kk ?q9kd ?q9ku ?q9kF ?q9kN ?q9hx ?q9hdx ?q9hc ?q9hro ?q9hka ?q9C ?q9RO ?q9RK ?q9KO ?q9h5 ?q9h6 ?q9hr ?q9hr2 ?q9a0 ?q9a1 ?q9a2 ?q9a3 ?q9a4 ?_; (case q9kB => k_asm); (case q9kX => k_asm); (case q9kT => k_asm); (case q9kk => first | exact rfl | assumption); (case q9kd => ktr_room); (case q9ku => ktr_units); (case q9kF => k_asm); (case q9kN => k_asm); (case q9hx => k_mem); (case q9hdx => k_mem); (case q9hc => k_mem); (case q9hro => k_mem); (case q9hka => k_mem); (case q9C => assumption); (case q9RO => assumption); (case q9RK => (first | exact keysIn_sub (by assumption) (fun p9 hp9 => (by repeat (first | exact hp9 | refine List.Mem.tail _ ?_))) | assumption)); (case q9KO => first | assumption | exact keyObj_pair); (case q9h5 => omega); (case q9h6 => omega); (case q9hr => omega); (case q9hr2 => omega); (case q9a0 => first | assumption | rfl); (case q9a1 => k_mem); (case q9a2 => first | assumption | omega); (case q9a3 => first | assumption | omega); (case q9a4 => first | assumption | omega))); intro t9 h9 tk9 F9 N9; (try dsimp only)))
  k_with "call ref" => ((k_here; (with_reducible show wpAny _ _ (call (Value.ref 109) _) _ _ _); k_dflt (first | (refine' out_val ?q9kB ?q9kX ?q9kT ?q9kk ?q9kd ?q9ku ?q9kF ?q9kN ?q9hx ?q9hdx ?q9hc ?q9hro ?q9hka ?q9C ?q9RO ?q9RK ?q9KO ?q9h5 ?q9h6 ?q9hr ?q9hr2 ?q9a0 ?q9a1 ?q9a2 ?q9a3 ?q9a4 ?q9a5 ?_; (case q9kB => k_asm); (case q9kX => k_asm); (case q9kT => k_asm); (case q9kk => first | exact rfl | assumption); (case q9kd => ktr_room); (case q9ku => ktr_units); (case q9kF => k_asm); (case q9kN => k_asm); (case q9hx => k_mem); (case q9hdx => k_mem); (case q9hc => k_mem); (case q9hro => k_mem); (case q9hka => k_mem); (case q9C => assumption); (case q9RO => assumption); (case q9RK => (first | exact keysIn_sub (by assumption) (fun p9 hp9 => (by repeat (first | exact hp9 | refine List.Mem.tail _ ?_))) | assumption)); (case q9KO => first | assumption | exact keyObj_pair); (case q9h5 => omega); (case q9h6 => omega); (case q9hr => omega); (case q9hr2 => omega); (case q9a0 => assumption); (case q9a1 => first | assumption | rfl); (case q9a2 => k_mem); (case q9a3 => first | assumption | omega); (case q9a4 => first | assumption | omega); (case q9a5 => first | assumption | omega)) | (refine' out_none ?q9kB ?q9kX ?q9kT ?q9kk ?q9kd ?q9ku ?q9kF ?q9kN ?q9hx ?q9hdx ?q9hc ?q9hro ?q9hka ?q9C ?q9RO ?q9RK ?q9KO ?q9h5 ?q9h6 ?q9hr ?q9hr2 ?q9a0 ?_; (case q9kB => k_asm); (case q9kX => k_asm); (case q9kT => k_asm); (case q9kk => first | exact rfl | assumption); (case q9kd => ktr_room); (case q9ku => ktr_units); (case q9kF => k_asm); (case q9kN => k_asm); (case q9hx => k_mem); (case q9hdx => k_mem); (case q9hc => k_mem); (case q9hro => k_mem); (case q9hka => k_mem); (case q9C => assumption); (case q9RO => assumption); (case q9RK => (first | exact keysIn_sub (by assumption) (fun p9 hp9 => (by repeat (first | exact hp9 | refine List.Mem.tail _ ?_))) | assumption)); (case q9KO => first | assumption | exact keyObj_pair); (case q9h5 => omega); (case q9h6 => omega); (case q9hr => omega); (case q9hr2 => omega); (case q9a0 => first | assumption | rfl)) | (refine' out_some ?q9kB ?q9kX ?q9kT ?q9kk ?q9kd ?q9ku ?q9kF ?q9kN ?q9hx ?q9hdx ?q9hc ?q9hro ?q9hka ?q9C ?q9RO ?q9RK ?q9KO ?q9h5 ?q9h6 ?q9hr ?q9hr2 ?q9a0 ?q9a1 ?q9a2 ?q9a3 ?q9a4 ?_; (case q9kB => k_asm); (case q9kX => k_asm); (case q9kT => k_asm); (case q9kk => first | exact rfl | assumption); (case q9kd => ktr_room); (case q9ku => ktr_units); (case q9kF => k_asm); (case q9kN => k_asm); (case q9hx => k_mem); (case q9hdx => k_mem); (case q9hc => k_mem); (case q9hro => k_mem); (case q9hka => k_mem); (case q9C => assumption); (case q9RO => assumption); (case q9RK => (first | exact keysIn_sub (by assumption) (fun p9 hp9 => (by repeat (first | exact hp9 | refine List.Mem.tail _ ?_))) | assumption)); (case q9KO => first | assumption | exact keyObj_pair); (case q9h5 => omega); (case q9h6 => omega); (case q9hr => omega); (case q9hr2 => omega); (case q9a0 => first | assumption | rfl); (case q9a1 => k_mem); (case q9a2 => first | assumption | omega); (case q9a3 => first | assumption | omega); (case q9a4 => first | assumption | omega))); intro h9 tk9 F9 N9; (try dsimp only)))
  k_with "call ref" => ((k_here; (with_reducible show wpAny _ _ (call (Value.ref 116) _) _ _ _); k_dflt (first | (refine' reuse_time_some ?q9kB ?q9kX ?q9kT ?q9kk ?q9kd ?q9ku ?q9kF ?q9kN ?q9hx ?q9hdx ?q9hc ?q9hro ?q9hka ?q9C ?q9RO ?q9RK ?q9KO ?q9h5 ?q9h6 ?q9hr ?q9hr2 ?q9a0 ?q9a1 ?q9a2 ?q9a3 ?q9a4 ?q9a5 ?_; (case q9kB => k_asm); (case q9kX => k_asm); (case q9kT => k_asm); (case q9kk => first | exact rfl | assumption); (case q9kd => ktr_room); (case q9ku => ktr_units); (case q9kF => k_asm); (case q9kN => k_asm); (case q9hx => k_mem); (case q9hdx => k_mem); (case q9hc => k_mem); (case q9hro => k_mem); (case q9hka => k_mem); (case q9C => assumption); (case q9RO => assumption); (case q9RK => (first | exact keysIn_sub (by assumption) (fun p9 hp9 => (by repeat (first | exact hp9 | refine List.Mem.tail _ ?_))) | assumption)); (case q9KO => first | assumption | exact keyObj_pair); (case q9h5 => omega); (case q9h6 => omega); (case q9hr => omega); (case q9hr2 => omega); (case q9a0 => assumption); (case q9a1 => first | assumption | rfl); (case q9a2 => k_mem); (case q9a3 => first | assumption | omega); (case q9a4 => first | assumption | omega); (case q9a5 => first | assumption | omega))); intro u9 t9 h9 tk9 U9 F9 N9; (try dsimp only)))
  k_with "call builtin:sorted" => ((k_here; (with_reducible show wpAny _ _ (call (Value.builtin _) [Value.ref _]) _ _ _); k_dflt (refine' sorted_rows ?q9kd ?q9ku ?q9F ?q9X ?q9N ?q9m ?q9k1 ?q9k2 ?_; (case q9kd => (first | ktr_room | (simp only [depth_deeper, depth_in1] at *; simp only [recursionLimit] at *; omega) | (simp only [recursionLimit] at *; (try dsimp only [ktrTop] at *); (try simp only [depth_deeper]); omega))); (case q9ku => ((try simp only [units_deeper, units_in1]); (have hcL9 := cLine_is); omega)); (case q9F => k_asm); (case q9X => assumption); (case q9N => k_asm); (case q9m => k_mem); (case q9k1 => k_mem); (case q9k2 => k_mem)); intro D9 n9 h9 tk9 ne9 F9 N9; (try dsimp only)))
  k_with "CompEnd" => (first | (k_dflt (refine LCg.CompEnd.intro (by k_asm) (by k_asm) _ (fun p hp => hp) (by assumption) (by lcg_src) ?_)) | (k_dflt (refine LCg.CompEnd.intro (by k_asm) (by k_asm) (_ :: _) comp_sub ⟨⟨by omega, by omega, by omega⟩, by assumption⟩ (by lcg_src) ?_)))
  trivial
section
variable {w : World} {mean : ExcName → Option Value} {mg mb : Str → Option Value} {dp un : Nat} {gd : Option (List Code)} {cn : Str} {cs : Scope} {a : Addr} {ccd : Value} {cl : List (Str × Addr)} {outer : List Env}
  {A₀ : Around} {base h₀ : Heap} {L : Addr} {m : Str → Option Value} {s : Shared} {Q E : Value → Shared → Prop} {news : List (Addr × Obj)}
  (B : Below A₀ base outer h₀) (X : (hd.heap_39 w.params).In h₀) (T : Top hd.view_39 (looseW hd.view_39 []) mean mg mb h₀) (hk : cs.kind = .function) (hdp : dp + 16 < recursionLimit) (hun : un + 160 < cLine)
  (F : Fr h₀ L s.heap m) (N : News h₀ L s.heap news)
include B X T hk hdp hun F N

variable {x dx cfg rows k1 k2 r1 r2 : Addr} {oc ro : Obj} {half reuse top now f1 s1 f2 s2 : Int} {o1 o2 : Bool} {t1 t2 t3 t4 tn u1 u2 u3 u4 tf1 ts1 tf2 ts2 : Tok} {m1 m2 q1 q2 : Nat}
  (hx : (x, instObj 141 dx) ∈ news) (hdx : (dx, dmpObj w cfg rows top t1 t2 t3 t4) ∈ news) (hc : (cfg, oc) ∈ news) (hro : (rows, ro) ∈ news)
  (C : CfgObj PySem.Challenge.rw_rh0200_01.row.prog w cfg oc half reuse) (RO : RowsObj PySem.Challenge.rw_rh0200_01.row.prog w rows ro [([16, 4], k1, .ref r1), ([32, 4], k2, .ref r2)])
  (hk1 : (k1, (⟨.type "tuple", none, .seq #[.int 16 u1, .int 4 u2] m1, #[]⟩ : Obj)) ∈ news) (hk2 : (k2, (⟨.type "tuple", none, .seq #[.int 32 u3, .int 4 u4] m2, #[]⟩ : Obj)) ∈ news)
  (hr1 : (r1, rowObj f1 s1 o1 tf1 ts1 q1) ∈ news) (hr2 : (r2, rowObj f2 s2 o2 tf2 ts2 q2) ∈ news)
  (h5 : 0 < half) (h6 : half ≤ 5) (hr : 100 ≤ reuse) (hr' : reuse < 130) (g1 : 0 ≤ f1) (g1' : f1 < 2 ^ 60) (g2 : 0 ≤ f2) (g2' : f2 < 2 ^ 60) (w1 : s1 ≤ now) (w2 : s2 ≤ now)
include hx hdx hc hro C RO hk1 hk2 hr1 hr2 h5 h6 hr hr' g1 g1' g2 g2' w1 w2
set_option maxRecDepth 100000 in
set_option maxHeartbeats 4000000 in
theorem left_none (b1 : (o1 && decide (reuse < decF f1 (now - s1) half)) = false) (b2 : (o2 && decide (reuse < decF f2 (now - s2) half)) = false)
    (hret : ∀ (D : Addr) (n : Nat) (h' : Heap) (tk' : Nat), (∀ p ∈ news, p.1 ≠ D) → Fr h₀ L h' m → News h₀ L h' ((D, W.listOf #[] n) :: news) → Q (.ref D) { s with heap := h', toks := tk' }) :
    wpAny (model PySem.Challenge.rw_rh0200_01.row.prog w) (ktrTop dp un gd cn cs L a ccd cl outer) (call (.ref 121) [.ref x, .int now tn]) Q E s := by
  have RK := keysIn_two (prog := PySem.Challenge.rw_rh0200_01.row.prog) (w := w) (v1 := .ref r1) (v2 := .ref r2) hk1 hk2
  revert X
  k_fill
  intro X
  refine wpAny_call ?_
  k_dflt (refine' code_defC ?k1 ?k2 ?k3 ?k4 ?k5 ?kA ?kF ?kK ?k6 ?k7 ?k8 ?k9 ?kB ?kD ?_ ?c2 ?c3 ?c4; (case kA => exact rfl); (case kF => exact rfl); (case kK => assumption); (case k1 => k_asm); (case k2 => k_asm); (case k3 => k_asm); (case k4 => k_asm); (case k5 => k_asm); (case k6 => k_is); (case k7 => k_is); (case k8 => ktr_room); (case k9 => exact BindsTo.of_eq rfl); (case kB => exact rfl); (case kD => decide +kernel); (case c2 => exact rfl); (case c3 => exact rfl); (case c4 => exact rfl); k_whole; intro g' L' h' tk' cells' FG' F' N' Y' B' X' T' l1; k_cells Y'; (try simp only [List.cons_append, List.nil_append] at N'); (try dsimp only); (try k_fold))
  k_steps
  (rename _ ∧ _ ∧ _ ∧ LCg.Off1 _ _ => o9)
  have kN9 := (by assumption : News h₀ L _ ((_, LCg.lst _) :: _ :: _))
  exact hret _ _ _ _ (off1_all o9.2.2.2) (by k_asm) (news_head3 kN9)

set_option maxRecDepth 100000 in
set_option maxHeartbeats 4000000 in
theorem left_one (b1 : (o1 && decide (reuse < decF f1 (now - s1) half)) = true) (b2 : (o2 && decide (reuse < decF f2 (now - s2) half)) = false)
    (hret : ∀ (u : Int) (t : Tok) (D T : Addr) (n n' : Nat) (h' : Heap) (tk' : Nat), Until f1 reuse half u → (∀ p ∈ news, p.1 ≠ D) → (∀ p ∈ news, p.1 ≠ T) → Fr h₀ L h' m →
      News h₀ L h' ((D, W.listOf #[.ref T] n) :: (T, (⟨.type "tuple", none, .seq #[.ref k1, .int (s1 + u) t] n', #[]⟩ : Obj)) :: news) → Q (.ref D) { s with heap := h', toks := tk' }) :
    wpAny (model PySem.Challenge.rw_rh0200_01.row.prog w) (ktrTop dp un gd cn cs L a ccd cl outer) (call (.ref 121) [.ref x, .int now tn]) Q E s := by
  have RK := keysIn_two (prog := PySem.Challenge.rw_rh0200_01.row.prog) (w := w) (v1 := .ref r1) (v2 := .ref r2) hk1 hk2
  revert X
  k_fill
  intro X
  refine wpAny_call ?_
  k_dflt (refine' code_defC ?k1 ?k2 ?k3 ?k4 ?k5 ?kA ?kF ?kK ?k6 ?k7 ?k8 ?k9 ?kB ?kD ?_ ?c2 ?c3 ?c4; (case kA => exact rfl); (case kF => exact rfl); (case kK => assumption); (case k1 => k_asm); (case k2 => k_asm); (case k3 => k_asm); (case k4 => k_asm); (case k5 => k_asm); (case k6 => k_is); (case k7 => k_is); (case k8 => ktr_room); (case k9 => exact BindsTo.of_eq rfl); (case kB => exact rfl); (case kD => decide +kernel); (case c2 => exact rfl); (case c3 => exact rfl); (case c4 => exact rfl); k_whole; intro g' L' h' tk' cells' FG' F' N' Y' B' X' T' l1; k_cells Y'; (try simp only [List.cons_append, List.nil_append] at N'); (try dsimp only); (try k_fold))
  k_steps
  (rename _ ∧ _ ∧ _ ∧ _ ∧ LCg.Off1 _ _ => o9)
  (rename _ ∧ _ ∧ _ ∧ _ ∧ _ ∧ _ ∧ AllLt _ _ => l9)
  have kN9 := (by assumption : News h₀ L _ ((_, LCg.lst _) :: _ :: _))
  exact hret _ _ _ _ _ _ _ _ (by assumption) (off1_all o9.2.2.2.2) (allLt_all l9.2.2.2.2.2.2) (by k_asm) (news_head4 kN9)
end
end Mine

namespace Mine
set_option linter.unusedSectionVars false
local macro_rules | `(tactic| k_all) => `(tactic| assumption)
local macro_rules | `(tactic| walk_at "call builtin:min") => `(tactic| k_extra "call builtin:min")
theorem rows_PO_1 : True := by
  k_with_none
  k_with "call builtin:min" => ((k_here; (with_reducible show wpAny _ _ (call (Value.builtin _) [Value.int _ _, Value.int _ _, Value.int _ _]) _ _ _); k_dflt (refine' min_three_N ?q9a ?q9F ?q9N ?_; (case q9a => exact rfl); (case q9F => k_asm); (case q9N => k_asm)); intro v9 t9 h9 tk9 e9 F9 N9; (try dsimp only)))
  trivial
local macro_rules | `(tactic| k_mem) => `(tactic| assumption)
local macro_rules | `(tactic| k_room) => `(tactic| ktr_room)
local macro_rules | `(tactic| walk_at "subscriptTail") => `(tactic| k_extra "subscriptTail")
local macro_rules | `(tactic| walk_at "call ref") => `(tactic| k_extra "call ref")
theorem rows_PO_2 : True := by
  k_with "subscriptTail" => ((k_here; (with_reducible show wpAny _ _ (subscriptTail _ _ (Value.ref _) (Value.str _ _)) _ _ _); k_dflt (refine' cfg_item ?q9c ?q9N ?q9m ?q9l ?_; (case q9c => assumption); (case q9N => k_asm); (case q9m => k_mem); (case q9l => first | assumption | exact cfg_half _ _ | exact cfg_most _ _ | exact cfg_reuse _ _ | exact cfg_suppress _ _ | exact cfg_withdrawn _ _ | exact cfg_changed _ _ | exact cfg_again _ _)); intro t9 tk9; (try dsimp only)))
  k_with "call ref" => ((k_here; (with_reducible show wpAny _ _ (call (Value.ref 121) _) _ _ _); k_dflt (refine' left_none ?q9kB ?q9kX ?q9kT ?q9kk ?q9kd ?q9ku ?q9kF ?q9kN ?q9hx ?q9hdx ?q9hc ?q9hro ?q9C ?q9RO ?q9hk1 ?q9hk2 ?q9hr1 ?q9hr2 ?q9h5 ?q9h6 ?q9hr ?q9hrb ?q9g1 ?q9g1b ?q9g2 ?q9g2b ?q9w1 ?q9w2 ?q9a0 ?q9a1 ?_; (case q9kB => k_asm); (case q9kX => k_asm); (case q9kT => k_asm); (case q9kk => first | exact rfl | assumption); (case q9kd => ktr_room); (case q9ku => ktr_units); (case q9kF => k_asm); (case q9kN => k_asm); (case q9hx => k_mem); (case q9hdx => k_mem); (case q9hc => k_mem); (case q9hro => k_mem); (case q9C => assumption); (case q9RO => assumption); (case q9hk1 => k_mem); (case q9hk2 => k_mem); (case q9hr1 => k_mem); (case q9hr2 => k_mem); (case q9h5 => omega); (case q9h6 => omega); (case q9hr => omega); (case q9hrb => omega); (case q9g1 => first | omega | assumption); (case q9g1b => first | omega | assumption); (case q9g2 => first | omega | assumption); (case q9g2b => first | omega | assumption); (case q9w1 => first | omega | assumption); (case q9w2 => first | omega | assumption); (case q9a0 => assumption); (case q9a1 => assumption)); intro D9 n9 h9 tk9 ne9 F9 N9; (try dsimp only)))
  trivial
section
variable {w : World} {mean : ExcName → Option Value} {mg mb : Str → Option Value} {dp un : Nat} {gd : Option (List Code)} {cn : Str} {cs : Scope} {a : Addr} {ccd : Value} {cl : List (Str × Addr)} {outer : List Env}
  {A₀ : Around} {base h₀ : Heap} {L : Addr} {m : Str → Option Value} {s : Shared} {Q E : Value → Shared → Prop} {news : List (Addr × Obj)}
  (B : Below A₀ base outer h₀) (X : (hd.heap_39 w.params).In h₀) (T : Top hd.view_39 (looseW hd.view_39 []) mean mg mb h₀) (hk : cs.kind = .function) (hdp : dp + 18 < recursionLimit) (hun : un + 190 < cLine)
  (F : Fr h₀ L s.heap m) (N : News h₀ L s.heap news)
include B X T hk hdp hun F N

variable {x dx cfg rows k1 k2 r1 r2 : Addr} {oc ro : Obj} {half reuse top now f1 s1 f2 s2 : Int} {o1 o2 : Bool} {t1 t2 t3 t4 tn u1 u2 u3 u4 tf1 ts1 tf2 ts2 : Tok} {m1 m2 q1 q2 : Nat}
  (hx : (x, instObj 141 dx) ∈ news) (hdx : (dx, dmpObj w cfg rows top t1 t2 t3 t4) ∈ news) (hc : (cfg, oc) ∈ news) (hro : (rows, ro) ∈ news)
  (C : CfgObj PySem.Challenge.rw_rh0200_01.row.prog w cfg oc half reuse) (RO : RowsObj PySem.Challenge.rw_rh0200_01.row.prog w rows ro [([16, 4], k1, .ref r1), ([32, 4], k2, .ref r2)])
  (hk1 : (k1, (⟨.type "tuple", none, .seq #[.int 16 u1, .int 4 u2] m1, #[]⟩ : Obj)) ∈ news) (hk2 : (k2, (⟨.type "tuple", none, .seq #[.int 32 u3, .int 4 u4] m2, #[]⟩ : Obj)) ∈ news)
  (hr1 : (r1, rowObj f1 s1 o1 tf1 ts1 q1) ∈ news) (hr2 : (r2, rowObj f2 s2 o2 tf2 ts2 q2) ∈ news)
  (h5 : 0 < half) (h6 : half ≤ 5) (hr : 100 ≤ reuse) (hr' : reuse < 130) (g1 : 0 ≤ f1) (g1' : f1 < 2 ^ 60) (g2 : 0 ≤ f2) (g2' : f2 < 2 ^ 60) (w1 : s1 ≤ now) (w2 : s2 ≤ now)
include hx hdx hc hro C RO hk1 hk2 hr1 hr2 h5 h6 hr hr' g1 g1' g2 g2' w1 w2
set_option maxRecDepth 100000 in
set_option maxHeartbeats 4000000 in
theorem next_none (b1 : (o1 && decide (reuse < decF f1 (now - s1) half)) = false) (b2 : (o2 && decide (reuse < decF f2 (now - s2) half)) = false)
    (hret : ∀ (h' : Heap) (tk' : Nat), Fr h₀ L h' m → News h₀ L h' news → Q .none { s with heap := h', toks := tk' }) :
    wpAny (model PySem.Challenge.rw_rh0200_01.row.prog w) (ktrTop dp un gd cn cs L a ccd cl outer) (call (.ref 126) [.ref x, .int now tn]) Q E s := by
  revert X
  k_fill
  intro X
  refine wpAny_call ?_
  k_dflt cell_enter
  k_steps
  all_goals exact hret _ _ (by k_asm) (cb_drop (by assumption) (fun p hp => .tail _ (.tail _ hp)))
end
end Mine

namespace Mine
set_option linter.unusedSectionVars false
theorem storedH_two {k1 k2 : Addr} {v1 v2 v : Value} : PySem.storedH [([16, 4], k1, v1), ([32, 4], k2, v2)] [(16 : Int), 4] k1 v = [([16, 4], k1, v), ([32, 4], k2, v2)] := rfl
theorem keysIn_of {prog : Program} {w : World} {rows : Addr} {o : Obj} {news : List (Addr × Obj)} {k1 k2 : Addr} {v1 v2 : Value} {u1 u2 u3 u4 : Tok} {m1 m2 : Nat} (X : RowsObj prog w rows o [([16, 4], k1, v1), ([32, 4], k2, v2)])
    (hk1 : (k1, (⟨.type "tuple", none, .seq #[.int 16 u1, .int 4 u2] m1, #[]⟩ : Obj)) ∈ news) (hk2 : (k2, (⟨.type "tuple", none, .seq #[.int 32 u3, .int 4 u4] m2, #[]⟩ : Obj)) ∈ news) : KeysIn prog w news [([16, 4], k1, v1), ([32, 4], k2, v2)] := keysIn_two hk1 hk2
theorem off_four {I : Addr} {a b c d : Addr × Obj} {r : List (Addr × Obj)} (ha : a.1 ≠ I) (hb : b.1 ≠ I) (hc : c.1 ≠ I) (hd : d.1 ≠ I) (hr : ∀ p ∈ r, p.1 ≠ I) : ∀ p ∈ a :: b :: c :: d :: r, p.1 ≠ I := by
  intro p hp
  simp only [List.mem_cons] at hp
  rcases hp with rfl | rfl | rfl | rfl | hp
  · exact ha
  · exact hb
  · exact hc
  · exact hd
  · exact hr p hp
theorem sub_four {i a b c d : Addr × Obj} {r : List (Addr × Obj)} : ∀ p ∈ i :: a :: b :: c :: d :: r, p ∈ a :: b :: i :: c :: d :: r := fun p hp => by
  simp only [List.mem_cons] at hp ⊢
  rcases hp with h | h | h | h | h | h
  · exact .inr (.inr (.inl h))
  · exact .inl h
  · exact .inr (.inl h)
  · exact .inr (.inr (.inr (.inl h)))
  · exact .inr (.inr (.inr (.inr (.inl h))))
  · exact .inr (.inr (.inr (.inr (.inr h))))
theorem sub_same {r : List (Addr × Obj)} : ∀ p ∈ r, p ∈ r := fun _ hp => hp
theorem news_last {h₀ h : Heap} {L : Addr} {a b c d : Addr × Obj} {r : List (Addr × Obj)} (N : News h₀ L h (a :: b :: c :: d :: r)) : News h₀ L h (d :: b :: a :: r) := fun q hq => N q (by
  simp only [List.mem_cons] at hq ⊢
  rcases hq with h | h | h | h
  · exact .inr (.inr (.inr (.inl h)))
  · exact .inr (.inl h)
  · exact .inl h
  · exact .inr (.inr (.inr (.inr h))))
local macro_rules | `(tactic| k_all) => `(tactic| assumption)
local macro_rules | `(tactic| walk_at "call builtin:min") => `(tactic| k_extra "call builtin:min")
theorem rows_PQ_1 : True := by
  k_with_none
  k_with "call builtin:min" => ((k_here; (with_reducible show wpAny _ _ (call (Value.builtin _) [Value.int _ _, Value.int _ _, Value.int _ _]) _ _ _); k_dflt (refine' min_three_N ?q9a ?q9F ?q9N ?_; (case q9a => exact rfl); (case q9F => k_asm); (case q9N => k_asm)); intro v9 t9 h9 tk9 e9 F9 N9; (try dsimp only)))
  trivial
local macro_rules | `(tactic| k_mem) => `(tactic| assumption)
local macro_rules | `(tactic| k_room) => `(tactic| ktr_room)
local macro_rules | `(tactic| walk_at "subscriptTail") => `(tactic| k_extra "subscriptTail")
local macro_rules | `(tactic| walk_at "compareOp NotIn ref ref") => `(tactic| k_extra "compareOp NotIn ref ref")
local macro_rules | `(tactic| walk_at "compareOp In ref ref") => `(tactic| k_extra "compareOp In ref ref")
local macro_rules | `(tactic| walk_at "call ref") => `(tactic| k_extra "call ref")
local macro_rules | `(tactic| walk_at "call builtin:sorted") => `(tactic| k_extra "call builtin:sorted")
local macro_rules | `(tactic| walk_at "pyIter ref") => `(tactic| k_extra "pyIter ref")
theorem rows_PQ_2 : True := by
  k_with "subscriptTail" => ((k_here; (with_reducible show wpAny _ _ (subscriptTail _ _ (Value.ref _) (Value.str _ _)) _ _ _); k_dflt (refine' cfg_item ?q9c ?q9N ?q9m ?q9l ?_; (case q9c => assumption); (case q9N => k_asm); (case q9m => k_mem); (case q9l => first | assumption | exact cfg_half _ _ | exact cfg_most _ _ | exact cfg_reuse _ _ | exact cfg_suppress _ _ | exact cfg_withdrawn _ _ | exact cfg_changed _ _ | exact cfg_again _ _)); intro t9 tk9; (try dsimp only)))
  k_with "compareOp NotIn ref ref" => ((k_here; k_dflt (first | (refine' rows_notin_no ?q9c ?q9N ?q9m ?q9K ?q9k ?q9t ?q9u ?q9p ?_; (case q9c => assumption); (case q9N => k_asm); (case q9m => k_mem); (case q9K => (first | exact keysIn_sub (by assumption) (fun p9 hp9 => (by repeat (first | exact hp9 | refine List.Mem.tail _ ?_))) | assumption)); (case q9k => k_mem); (case q9t => first | assumption | exact keyObj_pair); (case q9u => ktr_units); (case q9p => first | assumption | rfl)) | (refine' rows_notin_yes ?q9c ?q9N ?q9m ?q9K ?q9k ?q9t ?q9u ?q9p ?_; (case q9c => assumption); (case q9N => k_asm); (case q9m => k_mem); (case q9K => (first | exact keysIn_sub (by assumption) (fun p9 hp9 => (by repeat (first | exact hp9 | refine List.Mem.tail _ ?_))) | assumption)); (case q9k => k_mem); (case q9t => first | assumption | exact keyObj_pair); (case q9u => ktr_units); (case q9p => first | assumption | rfl))); intro tk9; (try dsimp only)))
  k_with "compareOp In ref ref" => ((k_here; k_dflt (first | (refine' rows_in_no ?q9c ?q9N ?q9m ?q9K ?q9k ?q9t ?q9u ?q9p ?_; (case q9c => assumption); (case q9N => k_asm); (case q9m => k_mem); (case q9K => (first | exact keysIn_sub (by assumption) (fun p9 hp9 => (by repeat (first | exact hp9 | refine List.Mem.tail _ ?_))) | assumption)); (case q9k => k_mem); (case q9t => first | assumption | exact keyObj_pair); (case q9u => ktr_units); (case q9p => first | assumption | rfl)) | (refine' rows_in_yes ?q9c ?q9N ?q9m ?q9K ?q9k ?q9t ?q9u ?q9p ?_; (case q9c => assumption); (case q9N => k_asm); (case q9m => k_mem); (case q9K => (first | exact keysIn_sub (by assumption) (fun p9 hp9 => (by repeat (first | exact hp9 | refine List.Mem.tail _ ?_))) | assumption)); (case q9k => k_mem); (case q9t => first | assumption | exact keyObj_pair); (case q9u => ktr_units); (case q9p => first | assumption | rfl))); intro tk9; (try dsimp only)))
  k_with "subscriptTail" => ((k_here; (with_reducible show wpAny _ _ (subscriptTail _ _ (Value.ref _) (Value.ref _)) _ _ _); k_dflt (refine' rows_item ?q9c ?q9N ?q9m ?q9K ?q9k ?q9t ?q9u ?q9p ?_; (case q9c => assumption); (case q9N => k_asm); (case q9m => k_mem); (case q9K => (first | exact keysIn_sub (by assumption) (fun p9 hp9 => (by repeat (first | exact hp9 | refine List.Mem.tail _ ?_))) | assumption)); (case q9k => k_mem); (case q9t => first | assumption | exact keyObj_pair); (case q9u => ktr_units); (case q9p => first | assumption | rfl)); intro tk9; (try dsimp only)))
  k_with "call ref" => ((k_here; (with_reducible show wpAny _ _ (call (Value.ref 95) _) _ _ _); k_dflt (first | (refine' penalty_none ?q9kB ?q9kX ?q9kT ?q9kk ?q9kd ?q9ku ?q9kF ?q9kN ?q9hx ?q9hdx ?q9hc ?q9hro ?q9hka ?q9C ?q9RO ?q9RK ?q9KO ?q9h5 ?q9h6 ?q9hr ?q9hr2 ?q9a0 ?_; (case q9kB => k_asm); (case q9kX => k_asm); (case q9kT => k_asm); (case q9kk => first | exact rfl | assumption); (case q9kd => ktr_room); (case q9ku => ktr_units); (case q9kF => k_asm); (case q9kN => k_asm); (case q9hx => k_mem); (case q9hdx => k_mem); (case q9hc => k_mem); (case q9hro => k_mem); (case q9hka => k_mem); (case q9C => assumption); (case q9RO => assumption); (case q9RK => (first | exact keysIn_sub (by assumption) (fun p9 hp9 => (by repeat (first | exact hp9 | refine List.Mem.tail _ ?_))) | assumption)); (case q9KO => first | assumption | exact keyObj_pair); (case q9h5 => omega); (case q9h6 => omega); (case q9hr => omega); (case q9hr2 => omega); (case q9a0 => first | assumption | rfl)) | (refine' penalty_some ?q9kB ?q9kX ?q9kT ?q9kk ?q9kd ?q9ku ?q9kF ?q9kN ?q9hx ?q9hdx ?q9hc ?q9hro ?q9hka ?q9C ?q9RO ?q9RK ?q9KO ?q9h5 ?q9h6 ?q9hr ?q9hr2 ?q9a0 ?q9a1 ?q9a2 ?q9a3 ?q9a4 ?_; (case q9kB => k_asm); (case q9kX => k_asm); (case q9kT => k_asm); (case q9kk => first | exact rfl | assumption); (case q9kd => ktr_room); (case q9ku => ktr_units); (case q9kF => k_asm); (case q9kN => k_asm); (case q9hx => k_mem); (case q9hdx => k_mem); (case q9hc => k_mem); (case q9hro => k_mem); (case q9hka => k_mem); (case q9C => assumption); (case q9RO => assumption); (case q9RK => (first | exact keysIn_sub (by assumption) (fun p9 hp9 => (by repeat (first | exact hp9 | refine List.Mem.tail _ ?_))) | assumption)); (case q9KO => first | assumption | exact keyObj_pair); (case q9h5 => omega); (case q9h6 => omega); (case q9hr => omega); (case q9hr2 => omega); (case q9a0 => first | assumption | rfl); (case q9a1 => k_mem); (case q9a2 => first | assumption | omega); (case q9a3 => first | assumption | omega); (case q9a4 => first | assumption | omega))); intro t9 h9 tk9 F9 N9; (try dsimp only)))
  k_with "call ref" => ((k_here; (with_reducible show wpAny _ _ (call (Value.ref 109) _) _ _ _); k_dflt (first | (refine' out_val ?q9kB ?q9kX ?q9kT ?q9kk ?q9kd ?q9ku ?q9kF ?q9kN ?q9hx ?q9hdx ?q9hc ?q9hro ?q9hka ?q9C ?q9RO ?q9RK ?q9KO ?q9h5 ?q9h6 ?q9hr ?q9hr2 ?q9a0 ?q9a1 ?q9a2 ?q9a3 ?q9a4 ?q9a5 ?_; (case q9kB => k_asm); (case q9kX => k_asm); (case q9kT => k_asm); (case q9kk => first | exact rfl | assumption); (case q9kd => ktr_room); (case q9ku => ktr_units); (case q9kF => k_asm); (case q9kN => k_asm); (case q9hx => k_mem); (case q9hdx => k_mem); (case q9hc => k_mem); (case q9hro => k_mem); (case q9hka => k_mem); (case q9C => assumption); (case q9RO => assumption); (case q9RK => (first | exact keysIn_sub (by assumption) (fun p9 hp9 => (by repeat (first | exact hp9 | refine List.Mem.tail _ ?_))) | assumption)); (case q9KO => first | assumption | exact keyObj_pair); (case q9h5 => omega); (case q9h6 => omega); (case q9hr => omega); (case q9hr2 => omega); (case q9a0 => assumption); (case q9a1 => first | assumption | rfl); (case q9a2 => k_mem); (case q9a3 => first | assumption | omega); (case q9a4 => first | assumption | omega); (case q9a5 => first | assumption | omega)) | (refine' out_none ?q9kB ?q9kX ?q9kT ?q9kk ?q9kd ?q9ku ?q9kF ?q9kN ?q9hx ?q9hdx ?q9hc ?q9hro ?q9hka ?q9C ?q9RO ?q9RK ?q9KO ?q9h5 ?q9h6 ?q9hr ?q9hr2 ?q9a0 ?_; (case q9kB => k_asm); (case q9kX => k_asm); (case q9kT => k_asm); (case q9kk => first | exact rfl | assumption); (case q9kd => ktr_room); (case q9ku => ktr_units); (case q9kF => k_asm); (case q9kN => k_asm); (case q9hx => k_mem); (case q9hdx => k_mem); (case q9hc => k_mem); (case q9hro => k_mem); (case q9hka => k_mem); (case q9C => assumption); (case q9RO => assumption); (case q9RK => (first | exact keysIn_sub (by assumption) (fun p9 hp9 => (by repeat (first | exact hp9 | refine List.Mem.tail _ ?_))) | assumption)); (case q9KO => first | assumption | exact keyObj_pair); (case q9h5 => omega); (case q9h6 => omega); (case q9hr => omega); (case q9hr2 => omega); (case q9a0 => first | assumption | rfl)) | (refine' out_some ?q9kB ?q9kX ?q9kT ?q9kk ?q9kd ?q9ku ?q9kF ?q9kN ?q9hx ?q9hdx ?q9hc ?q9hro ?q9hka ?q9C ?q9RO ?q9RK ?q9KO ?q9h5 ?q9h6 ?q9hr ?q9hr2 ?q9a0 ?q9a1 ?q9a2 ?q9a3 ?q9a4 ?_; (case q9kB => k_asm); (case q9kX => k_asm); (case q9kT => k_asm); (case q9kk => first | exact rfl | assumption); (case q9kd => ktr_room); (case q9ku => ktr_units); (case q9kF => k_asm); (case q9kN => k_asm); (case q9hx => k_mem); (case q9hdx => k_mem); (case q9hc => k_mem); (case q9hro => k_mem); (case q9hka => k_mem); (case q9C => assumption); (case q9RO => assumption); (case q9RK => (first | exact keysIn_sub (by assumption) (fun p9 hp9 => (by repeat (first | exact hp9 | refine List.Mem.tail _ ?_))) | assumption)); (case q9KO => first | assumption | exact keyObj_pair); (case q9h5 => omega); (case q9h6 => omega); (case q9hr => omega); (case q9hr2 => omega); (case q9a0 => first | assumption | rfl); (case q9a1 => k_mem); (case q9a2 => first | assumption | omega); (case q9a3 => first | assumption | omega); (case q9a4 => first | assumption | omega))); intro h9 tk9 F9 N9; (try dsimp only)))
  k_with "call builtin:sorted" => ((k_here; (with_reducible show wpAny _ _ (call (Value.builtin _) [Value.ref _]) _ _ _); k_dflt (refine' sorted_rows ?q9kd ?q9ku ?q9F ?q9X ?q9N ?q9m ?q9k1 ?q9k2 ?_; (case q9kd => (first | ktr_room | (simp only [depth_deeper, depth_in1] at *; simp only [recursionLimit] at *; omega) | (simp only [recursionLimit] at *; (try dsimp only [ktrTop] at *); (try simp only [depth_deeper]); omega))); (case q9ku => ((try simp only [units_deeper, units_in1]); (have hcL9 := cLine_is); omega)); (case q9F => k_asm); (case q9X => assumption); (case q9N => k_asm); (case q9m => k_mem); (case q9k1 => k_mem); (case q9k2 => k_mem)); intro D9 n9 h9 tk9 ne9 F9 N9; (try dsimp only)))
  k_with "pyIter ref" => ((k_here; (with_reducible show wpAny _ _ (pyIter (Value.ref _)) (fun it s₂ => LoopAtV _ _ _ _ _ _ _ _ _ it s₂) _ _); (with_unfolding_all refine iter_listUnr (vs := [_, _]) (by rfl) (by k_asm) (by k_asm) (by k_mem) (by rfl) (by rfl) ?_); intro i9 l9))
  trivial
local macro_rules | `(tactic| walk_at "UnrEnd") => `(tactic| first | k_extra "UnrEnd" | (refine UnrEnd.intro (by k_asm) (by k_asm) _ (fun p hp => hp) (fun p hp => Nat.ne_of_lt ((by assumption : ∀ p ∈ _, p.1 < _) p hp)) ⟨by k_mem, ?_⟩))
section
variable {w : World} {mean : ExcName → Option Value} {mg mb : Str → Option Value} {dp un : Nat} {gd : Option (List Code)} {cn : Str} {cs : Scope} {a : Addr} {ccd : Value} {cl : List (Str × Addr)} {outer : List Env}
  {A₀ : Around} {base h₀ : Heap} {L : Addr} {m : Str → Option Value} {s : Shared} {Q E : Value → Shared → Prop} {news : List (Addr × Obj)}
  (B : Below A₀ base outer h₀) (X : (hd.heap_39 w.params).In h₀) (T : Top hd.view_39 (looseW hd.view_39 []) mean mg mb h₀) (hk : cs.kind = .function) (hdp : dp + 18 < recursionLimit) (hun : un + 190 < cLine)
  (F : Fr h₀ L s.heap m) (N : News h₀ L s.heap news)
include B X T hk hdp hun F N

variable {x dx cfg rows k1 k2 r1 r2 : Addr} {oc ro : Obj} {half reuse top now f1 s1 f2 s2 : Int} {o1 o2 : Bool} {t1 t2 t3 t4 tn u1 u2 u3 u4 tf1 ts1 tf2 ts2 : Tok} {m1 m2 q1 q2 : Nat}
  (hx : (x, instObj 141 dx) ∈ news) (hdx : (dx, dmpObj w cfg rows top t1 t2 t3 t4) ∈ news) (hc : (cfg, oc) ∈ news) (hro : (rows, ro) ∈ news)
  (C : CfgObj PySem.Challenge.rw_rh0200_01.row.prog w cfg oc half reuse) (RO : RowsObj PySem.Challenge.rw_rh0200_01.row.prog w rows ro [([16, 4], k1, .ref r1), ([32, 4], k2, .ref r2)])
  (hk1 : (k1, (⟨.type "tuple", none, .seq #[.int 16 u1, .int 4 u2] m1, #[]⟩ : Obj)) ∈ news) (hk2 : (k2, (⟨.type "tuple", none, .seq #[.int 32 u3, .int 4 u4] m2, #[]⟩ : Obj)) ∈ news)
  (hr1 : (r1, rowObj f1 s1 o1 tf1 ts1 q1) ∈ news) (hr2 : (r2, rowObj f2 s2 o2 tf2 ts2 q2) ∈ news)
  (h5 : 0 < half) (h6 : half ≤ 5) (hr : 100 ≤ reuse) (hr' : reuse < 130) (g1 : 0 ≤ f1) (g1' : f1 < 2 ^ 60) (g2 : 0 ≤ f2) (g2' : f2 < 2 ^ 60) (w1 : s1 ≤ now) (w2 : s2 ≤ now)
include hx hdx hc hro C RO hk1 hk2 hr1 hr2 h5 h6 hr hr' g1 g1' g2 g2' w1 w2
set_option maxRecDepth 100000 in
set_option maxHeartbeats 4000000 in
theorem reused_none (e1 : o1 = false) (e2 : o2 = false)
    (hret : ∀ (D : Addr) (n : Nat) (h' : Heap) (tk' : Nat), (∀ p ∈ news, p.1 ≠ D) → Fr h₀ L h' m → News h₀ L h' ((D, W.listOf #[] n) :: news) → Q (.ref D) { s with heap := h', toks := tk' }) :
    wpAny (model PySem.Challenge.rw_rh0200_01.row.prog w) (ktrTop dp un gd cn cs L a ccd cl outer) (call (.ref 133) [.ref x, .int now tn]) Q E s := by
  have RK := keysIn_two (prog := PySem.Challenge.rw_rh0200_01.row.prog) (w := w) (v1 := .ref r1) (v2 := .ref r2) hk1 hk2
  subst e1 e2
  revert X
  k_fill
  intro X
  refine wpAny_call ?_
  k_dflt cell_enter
  k_steps
  have kN9 := (by assumption : News h₀ L _ (_ :: _ :: _))
  exact hret _ _ _ _ (fun p hp => Nat.ne_of_lt ((by assumption : ∀ p ∈ _, p.1 < _) p hp)) (by k_asm) (cb_drop kN9 (fun p hp => .tail _ hp))

set_option maxRecDepth 100000 in
set_option maxHeartbeats 4000000 in
theorem reused_one {rest : List (Addr × Obj)} (e1 : o1 = true) (b1 : (o1 && decide (reuse < decF f1 (now - s1) half)) = false) (e2 : o2 = false)
    (P : Pick (rows, ro) news rest) (hne : ∀ p ∈ rest, p.1 ≠ rows) (hx' : (x, instObj 141 dx) ∈ rest) (hdx' : (dx, dmpObj w cfg rows top t1 t2 t3 t4) ∈ rest) (hc' : (cfg, oc) ∈ rest)
    (hk1' : (k1, (⟨.type "tuple", none, .seq #[.int 16 u1, .int 4 u2] m1, #[]⟩ : Obj)) ∈ rest) (hk2' : (k2, (⟨.type "tuple", none, .seq #[.int 32 u3, .int 4 u4] m2, #[]⟩ : Obj)) ∈ rest) (hr2' : (r2, rowObj f2 s2 o2 tf2 ts2 q2) ∈ rest)
    (hret : ∀ (D T : Addr) (n : Nat) (tf ts : Tok) (ro' : Obj) (h' : Heap) (tk' : Nat), (∀ p ∈ news, p.1 ≠ D) → (∀ p ∈ news, p.1 ≠ T) → D ≠ T → RowsObj PySem.Challenge.rw_rh0200_01.row.prog w rows ro' [([16, 4], k1, .ref T), ([32, 4], k2, .ref r2)] → Fr h₀ L h' m →
      News h₀ L h' ((D, W.listOf #[.ref k1] n) :: (T, rowObj (decF f1 (now - s1) half) now false tf ts 0) :: (rows, ro') :: rest) → Q (.ref D) { s with heap := h', toks := tk' }) :
    wpAny (model PySem.Challenge.rw_rh0200_01.row.prog w) (ktrTop dp un gd cn cs L a ccd cl outer) (call (.ref 133) [.ref x, .int now tn]) Q E s := by
  have RK := keysIn_two (prog := PySem.Challenge.rw_rh0200_01.row.prog) (w := w) (v1 := .ref r1) (v2 := .ref r2) hk1 hk2
  subst e1 e2
  revert X
  k_fill
  intro X
  refine wpAny_call ?_
  k_dflt cell_enter
  k_with "setItem ref ref" => (k_here; (rename ∀ p ∈ news, p.1 < _ => la9); (rename ∀ p ∈ _ :: news, p.1 ≠ _ => lb9); (rename ∀ p ∈ _ :: _ :: news, p.1 < _ => lc9); (rename _ ∧ _ ∧ _ ∧ AllLt _ news => ld9); (have hro9 : (rows, ro) ∈ news := hro); (have ha9 := la9 _ hro9); (have hb9 := lb9 _ (.tail _ hro9)); (have hb8 := lb9 _ (.head _)); (have hc9 := lc9 _ (.tail _ (.tail _ hro9))); (have hc8 := lc9 _ (.head _)); (have hc7 := lc9 _ (.tail _ (.head _))); (have hd9 := ld9.1); (have hd8 := ld9.2.1); (have hd7 := ld9.2.2.1); (have hd6 := allLt_all ld9.2.2.2 _ hro9); (have le9 := fun (p : Addr × Obj) (hp : p ∈ rest) => Nat.ne_of_lt (la9 p (P.mem _ (List.Mem.tail _ hp)))); (have lf9 := fun (p : Addr × Obj) (hp : p ∈ rest) => Nat.ne_of_lt (lc9 p (.tail _ (.tail _ (P.mem _ (List.Mem.tail _ hp)))))); (k_dflt (refine' rows_set ?F RO ?N (Pick.there (Pick.there (Pick.there (Pick.there P)))) ?hne (keysIn_sub RK (fun p9 hp9 => .tail _ (.tail _ (.tail _ (.tail _ hp9))))) ?hk keyObj_pair ?hu ?hz ?_; (case F => k_asm); (case N => k_asm); (case hk => k_mem); (case hu => ktr_units); (case hz => exact Nat.le_of_ble_eq_true rfl); (case hne => (intro p9 hp9; simp only [List.mem_cons] at hp9; rcases hp9 with rfl | rfl | rfl | rfl | hp9; exact hd6.symm; exact (Nat.ne_of_lt hc9).symm; exact hb9.symm; exact (Nat.ne_of_lt ha9).symm; exact hne _ hp9)))); intro h9 tk9 o9 F9 N9 RO9; (rw [storedH_two] at RO9); clear RO RK; (have RK := keysIn_of RO9 hk1' hk2'); (try dsimp only))
  k_with "call builtin:list.append" => (k_here; (k_dflt (refine' append_K ?F ?N ?U ?_ ?z; (case F => k_asm); (case N => k_asm); (case U => exact Upd.tail (Nat.ne_of_lt ha9) (Upd.tail (Nat.ne_of_lt hd7).symm (Upd.tail (Nat.ne_of_lt hc7).symm (Upd.tail hb8.symm (Upd.head le9))))); (case z => size_fits); k_whole)); intro h9 F9 N9)
  k_with "UnrEnd" => first | (refine' UnrEnd.intro ?F1 ?N1 (_ :: _ :: _ :: _ :: rest) ?sub1 ?off1 ?r1; (case F1 => k_asm); (case N1 => k_asm); (case sub1 => exact sub_four); (case off1 => exact off_four (Nat.ne_of_lt hc9) (Nat.ne_of_lt hd9).symm (Nat.ne_of_lt hc8) (Nat.ne_of_lt hc7) lf9); (refine ⟨by k_mem, ?_⟩)) | (refine' UnrEnd.intro ?F2 ?N2 (_ :: _ :: _ :: _ :: rest) ?sub2 ?off2 ?r2; (case F2 => k_asm); (case N2 => k_asm); (case sub2 => exact sub_same); (case off2 => exact off_four (Nat.ne_of_lt hc9) (Nat.ne_of_lt hd9).symm (Nat.ne_of_lt hc8) (Nat.ne_of_lt hc7) lf9); (refine ⟨by k_mem, ?_⟩))
  k_steps
  have kN9 := (by assumption : News h₀ L _ (_ :: _ :: _ :: _ :: rest))
  (rename ∀ p ∈ news, p.1 < _ => la9)
  (rename _ ∧ _ ∧ _ ∧ AllLt _ news => ld9)
  exact hret _ _ _ _ _ _ _ _ (fun p hp => Nat.ne_of_lt (la9 p hp)) (allLt_all ld9.2.2.2) (Nat.ne_of_lt ld9.2.2.1) (by assumption) (by k_asm) (news_last kN9)
end
end Mine

namespace Mine
open PySem.Spec PyProof.V
/-! dict.pop at the first of the rows -/
section
variable {prog : Program} {w : World} {K : Type} [DecidableEq K] {knd : HeapKind prog w K} {A : Around} {E : Value → Shared → Prop} {s : Shared}
theorem takeOut_head {d a : Addr} {x : K × Addr × Value} {r : List (K × Addr × Value)} {Q : Option DictEntry → Shared → Prop} (hu : knd.room A) (hkey : knd.is s.heap x.1 a) (hm : s.heap.DictOfH knd d (x :: r))
    (hsz : (x :: r).length ≤ 100) (h : ∀ h', h'.DictOfH knd d r → Heap.SameBut d s.heap h' → Q (some (entryOfKey knd x)) { s with heap := h', toks := s.toks + knd.draws x.1 }) :
    wpAny (model prog w) A (Builtin.Dict.takeOut d (.ref a)) Q E s := by
  obtain ⟨o, es, ep, ho, hc, hd, he, his, hn⟩ := hm
  have hes := size_of_entries he
  unfold Builtin.Dict.takeOut
  try with_reducible refine wpAny_holding ?_
  refine wpAny_bind (knd.pyHash hu hkey (wpAny_bind (wpAny_dictFind_heap (s := { s with toks := s.toks + knd.draws x.1 }) hu hkey ho hd he his hn ?_ ?_)))
  · intro hno
    exact absurd rfl (hno 0 x.2)
  · intro j p hj
    have hj0 : j = 0 := by
      cases j with
      | zero => rfl
      | succ j =>
        exfalso
        rw [List.getElem?_cons_succ] at hj
        have hx : x.1 ∈ r.map (·.1) := List.mem_map.mpr ⟨_, List.mem_of_getElem? hj, rfl⟩
        rw [List.map_cons, List.nodup_cons] at hn
        exact hn.1 hx
    subst hj0
    refine wpAny_bind (wpAny_dictEntries (s := { s with toks := s.toks + knd.draws x.1 }) ho hd ?_)
    rw [entry_at he 0, List.getElem?_cons_zero]
    refine wpAny_bind (wpAny_updateDictKeys (hz := by rw [sizeLine_eq]; omega) (s := { s with toks := s.toks + knd.draws x.1 }) ho hd (wpAny_pure (h _ ⟨_, _, ep + 1, Heap.get?_update_self _ ho (Obj.isFreed_of_dict (Obj.data_mapDictKeys hd _)),
      hc.mapDictKeys _, Obj.data_mapDictKeys hd _, ?_, fun y hy => knd.keeps (his y (.tail _ hy)) ho hd (Heap.SameBut.update ..), (List.nodup_cons.mp hn).2⟩ (Heap.SameBut.update ..))))
    rw [List.map_cons] at he
    obtain ⟨l⟩ := es
    simp only at he
    subst he
    simp
theorem pop_head {d a : Addr} {x : K × Addr × Value} {r : List (K × Addr × Value)} {Q : Value → Shared → Prop} (hu : knd.room A.in1) (hkey : knd.is s.heap x.1 a) (hm : s.heap.DictOfH knd d (x :: r))
    (hsz : (x :: r).length ≤ 100) (h : ∀ h', h'.DictOfH knd d r → Heap.SameBut d s.heap h' → Q x.2.2 { s with heap := h', toks := s.toks + knd.draws x.1 }) :
    wpAny (model prog w) A (call (.builtin "dict.pop") [.ref d, .ref a]) Q E s := by
  refine wpAny_call_entry PySem.F.slot_dict_pop hm.typeIs PySem.F.entry_dict_pop ?_ (PySem.F.args_dict_pop_2 _ _)
  unfold Builtin.«dict.pop»
  refine wpAny_bind ?_
  unfold Builtin.Dict.keyAndDefault
  refine wpAny_bind (wpAny_notOrdered_dict hm.typeIs ?_)
  show wpAny _ _ (pure (d, Value.ref a, none)) _ _ s
  refine wpAny_pure ?_
  have hm' := hm
  obtain ⟨o, es, ep, ho, hc, hd, he, his, hn⟩ := hm'
  have hes : es.isEmpty = false := by
    have := size_of_entries he
    simp only [List.length_cons] at this
    rw [Array.isEmpty_eq_false_iff]
    intro q
    rw [q] at this
    simp at this
  simp only [keyPart, Option.isSome_none, Bool.false_eq_true, if_false]
  refine wpAny_bind (wpAny_dictEntries ho hd ?_)
  rw [hes]
  refine wpAny_bind (wpAny_pure ?_)
  simp only [Bool.false_eq_true, if_false]
  refine wpAny_bind (takeOut_head hu hkey hm hsz fun h' hm' hs' => ?_)
  simp only [Option.isNone_some, Bool.false_eq_true, if_false]
  exact wpAny_bind (wpAny_letGo (wpAny_pure ⟨x.2.2, rfl, h h' hm' hs'⟩))
end
section
variable {prog : Program} {w : World} {A : Around} {E : Value → Shared → Prop} {s : Shared} {h₀ : Heap} {L rows a : Addr} {m : Str → Option Value} {news rest : List (Addr × Obj)} {o ok : Obj} {R : List (List Int × Addr × Value)} {k1 : Addr} {v : Value} {ks : List Int}
theorem rows_pop {Q : Value → Shared → Prop} (F : Fr h₀ L s.heap m) (X : RowsObj prog w rows o ((ks, k1, v) :: R)) (N : News h₀ L s.heap news) (P : Pick (rows, o) news rest) (hne : ∀ p ∈ rest, p.1 ≠ rows) (hK : KeysIn prog w news ((ks, k1, v) :: R)) (hk : (a, ok) ∈ news) (tk : KeyObj prog w ks ok) (hu : A.units + 1 < cLine)
    (hz : ((ks, k1, v) :: R).length ≤ 100)
    (h : ∀ h' tk' o', Fr h₀ L h' m → News h₀ L h' ((rows, o') :: rest) → RowsObj prog w rows o' R → Q v { s with heap := h', toks := tk' }) :
    wpAny (model prog w) A (call (.builtin "dict.pop") [.ref rows, .ref a]) Q E s := by
  have hm : (rows, o) ∈ news := P.mem _ (.head _)
  refine pop_head (knd := PairKind prog w) (x := (ks, k1, v)) (r := R) (tupleKind_room_in1 hu) (tk.key (N _ hk).1) (X.at N hm hK) hz (fun h' D hs => ?_)
  obtain ⟨o', es, ep, ho, hc, hd, he, _, hn⟩ := D
  have z := N _ hm
  refine h h' _ o' (F.change hs z.2.1 z.2.2) (fun p hp => ?_) ⟨X.lo, hc, ⟨es, ep, hd, he⟩, hn⟩
  rcases List.mem_cons.mp hp with rfl | hp
  · exact ⟨ho, z.2⟩
  · have y := N _ (P.mem _ (.tail _ hp))
    exact ⟨(hs.2 _ (hne p hp)).trans y.1, y.2⟩
theorem rows_method {Q : Value × List Value → Shared → Prop} {pl : Sem Bool} (X : RowsObj prog w rows o R) (N : News h₀ L s.heap news) (hm : (rows, o) ∈ news)
    (h : Q (.builtin "dict.pop", [.ref rows]) s) : wpAny (model prog w) A (getMethod (.ref rows) "pop" pl) Q E s :=
  getMethod_builtin ⟨o, (N _ hm).1, X.exact.1⟩ PySem.F.plainAttrs_dict PySem.F.slot_dict_pop PySem.F.type_dict_pop (fun b hb => ⟨o, by injection hb with hb; rw [← hb]; exact (N _ hm).1, X.exact.2.1⟩) h
end
end Mine

namespace Mine
set_option linter.unusedSectionVars false
theorem off_six {I : Addr} {a b c d e f : Addr × Obj} {r : List (Addr × Obj)} (ha : a.1 ≠ I) (hb : b.1 ≠ I) (hc : c.1 ≠ I) (hd : d.1 ≠ I) (he : e.1 ≠ I) (hf : f.1 ≠ I) (hr : ∀ p ∈ r, p.1 ≠ I) : ∀ p ∈ a :: b :: c :: d :: e :: f :: r, p.1 ≠ I := by
  intro p hp
  simp only [List.mem_cons] at hp
  rcases hp with rfl | rfl | rfl | rfl | rfl | rfl | hp
  · exact ha
  · exact hb
  · exact hc
  · exact hd
  · exact he
  · exact hf
  · exact hr p hp
theorem sub_swap {i a : Addr × Obj} {r : List (Addr × Obj)} : ∀ p ∈ i :: a :: r, p ∈ a :: i :: r := fun p hp => by
  rcases List.mem_cons.mp hp with rfl | hp
  · exact .tail _ (.head _)
  · rcases List.mem_cons.mp hp with rfl | hp
    · exact .head _
    · exact .tail _ (.tail _ hp)
theorem keysIn_one {prog : Program} {w : World} {rows : Addr} {o : Obj} {news : List (Addr × Obj)} {k2 : Addr} {v2 : Value} {u3 u4 : Tok} {m2 : Nat} (X : RowsObj prog w rows o [([32, 4], k2, v2)])
    (hk2 : (k2, (⟨.type "tuple", none, .seq #[.int 32 u3, .int 4 u4] m2, #[]⟩ : Obj)) ∈ news) : KeysIn prog w news [([32, 4], k2, v2)] := by
  intro x hx
  rw [List.mem_singleton.mp hx]; exact ⟨_, hk2, keyObj_pair⟩
theorem news_forget {h₀ h : Heap} {L : Addr} {a b c d e f : Addr × Obj} {r : List (Addr × Obj)} (N : News h₀ L h (a :: b :: c :: d :: e :: f :: r)) : News h₀ L h (b :: a :: r) := fun q hq => N q (by
  simp only [List.mem_cons] at hq ⊢
  rcases hq with h | h | h
  · exact .inr (.inl h)
  · exact .inl h
  · exact .inr (.inr (.inr (.inr (.inr (.inr h))))))
local macro_rules | `(tactic| k_all) => `(tactic| assumption)
local macro_rules | `(tactic| walk_at "call builtin:min") => `(tactic| k_extra "call builtin:min")
theorem rows_PR_1 : True := by
  k_with_none
  k_with "call builtin:min" => ((k_here; (with_reducible show wpAny _ _ (call (Value.builtin _) [Value.int _ _, Value.int _ _, Value.int _ _]) _ _ _); k_dflt (refine' min_three_N ?q9a ?q9F ?q9N ?_; (case q9a => exact rfl); (case q9F => k_asm); (case q9N => k_asm)); intro v9 t9 h9 tk9 e9 F9 N9; (try dsimp only)))
  trivial
local macro_rules | `(tactic| k_mem) => `(tactic| assumption)
local macro_rules | `(tactic| k_room) => `(tactic| ktr_room)
local macro_rules | `(tactic| walk_at "subscriptTail") => `(tactic| k_extra "subscriptTail")
local macro_rules | `(tactic| walk_at "compareOp NotIn ref ref") => `(tactic| k_extra "compareOp NotIn ref ref")
local macro_rules | `(tactic| walk_at "compareOp In ref ref") => `(tactic| k_extra "compareOp In ref ref")
local macro_rules | `(tactic| walk_at "call ref") => `(tactic| k_extra "call ref")
local macro_rules | `(tactic| walk_at "call builtin:sorted") => `(tactic| k_extra "call builtin:sorted")
local macro_rules | `(tactic| walk_at "CompEnd") => `(tactic| k_extra "CompEnd")
local macro_rules | `(tactic| walk_at "pyIter ref") => `(tactic| k_extra "pyIter ref")
theorem rows_PR_2 : True := by
  k_with "subscriptTail" => ((k_here; (with_reducible show wpAny _ _ (subscriptTail _ _ (Value.ref _) (Value.str _ _)) _ _ _); k_dflt (refine' cfg_item ?q9c ?q9N ?q9m ?q9l ?_; (case q9c => assumption); (case q9N => k_asm); (case q9m => k_mem); (case q9l => first | assumption | exact cfg_half _ _ | exact cfg_most _ _ | exact cfg_reuse _ _ | exact cfg_suppress _ _ | exact cfg_withdrawn _ _ | exact cfg_changed _ _ | exact cfg_again _ _)); intro t9 tk9; (try dsimp only)))
  k_with "compareOp NotIn ref ref" => ((k_here; k_dflt (first | (refine' rows_notin_no ?q9c ?q9N ?q9m ?q9K ?q9k ?q9t ?q9u ?q9p ?_; (case q9c => assumption); (case q9N => k_asm); (case q9m => k_mem); (case q9K => (first | exact keysIn_sub (by assumption) (fun p9 hp9 => (by repeat (first | exact hp9 | refine List.Mem.tail _ ?_))) | assumption)); (case q9k => k_mem); (case q9t => first | assumption | exact keyObj_pair); (case q9u => ktr_units); (case q9p => first | assumption | rfl)) | (refine' rows_notin_yes ?q9c ?q9N ?q9m ?q9K ?q9k ?q9t ?q9u ?q9p ?_; (case q9c => assumption); (case q9N => k_asm); (case q9m => k_mem); (case q9K => (first | exact keysIn_sub (by assumption) (fun p9 hp9 => (by repeat (first | exact hp9 | refine List.Mem.tail _ ?_))) | assumption)); (case q9k => k_mem); (case q9t => first | assumption | exact keyObj_pair); (case q9u => ktr_units); (case q9p => first | assumption | rfl))); intro tk9; (try dsimp only)))
  k_with "compareOp In ref ref" => ((k_here; k_dflt (first | (refine' rows_in_no ?q9c ?q9N ?q9m ?q9K ?q9k ?q9t ?q9u ?q9p ?_; (case q9c => assumption); (case q9N => k_asm); (case q9m => k_mem); (case q9K => (first | exact keysIn_sub (by assumption) (fun p9 hp9 => (by repeat (first | exact hp9 | refine List.Mem.tail _ ?_))) | assumption)); (case q9k => k_mem); (case q9t => first | assumption | exact keyObj_pair); (case q9u => ktr_units); (case q9p => first | assumption | rfl)) | (refine' rows_in_yes ?q9c ?q9N ?q9m ?q9K ?q9k ?q9t ?q9u ?q9p ?_; (case q9c => assumption); (case q9N => k_asm); (case q9m => k_mem); (case q9K => (first | exact keysIn_sub (by assumption) (fun p9 hp9 => (by repeat (first | exact hp9 | refine List.Mem.tail _ ?_))) | assumption)); (case q9k => k_mem); (case q9t => first | assumption | exact keyObj_pair); (case q9u => ktr_units); (case q9p => first | assumption | rfl))); intro tk9; (try dsimp only)))
  k_with "subscriptTail" => ((k_here; (with_reducible show wpAny _ _ (subscriptTail _ _ (Value.ref _) (Value.ref _)) _ _ _); k_dflt (refine' rows_item ?q9c ?q9N ?q9m ?q9K ?q9k ?q9t ?q9u ?q9p ?_; (case q9c => assumption); (case q9N => k_asm); (case q9m => k_mem); (case q9K => (first | exact keysIn_sub (by assumption) (fun p9 hp9 => (by repeat (first | exact hp9 | refine List.Mem.tail _ ?_))) | assumption)); (case q9k => k_mem); (case q9t => first | assumption | exact keyObj_pair); (case q9u => ktr_units); (case q9p => first | assumption | rfl)); intro tk9; (try dsimp only)))
  k_with "call ref" => ((k_here; (with_reducible show wpAny _ _ (call (Value.ref 95) _) _ _ _); k_dflt (first | (refine' penalty_none ?q9kB ?q9kX ?q9kT ?q9kk ?q9kd ?q9ku ?q9kF ?q9kN ?q9hx ?q9hdx ?q9hc ?q9hro ?q9hka ?q9C ?q9RO ?q9RK ?q9KO ?q9h5 ?q9h6 ?q9hr ?q9hr2 ?q9a0 ?_; (case q9kB => k_asm); (case q9kX => k_asm); (case q9kT => k_asm); (case q9kk => first | exact rfl | assumption); (case q9kd => ktr_room); (case q9ku => ktr_units); (case q9kF => k_asm); (case q9kN => k_asm); (case q9hx => k_mem); (case q9hdx => k_mem); (case q9hc => k_mem); (case q9hro => k_mem); (case q9hka => k_mem); (case q9C => assumption); (case q9RO => assumption); (case q9RK => (first | exact keysIn_sub (by assumption) (fun p9 hp9 => (by repeat (first | exact hp9 | refine List.Mem.tail _ ?_))) | assumption)); (case q9KO => first | assumption | exact keyObj_pair); (case q9h5 => omega); (case q9h6 => omega); (case q9hr => omega); (case q9hr2 => omega); (case q9a0 => first | assumption | rfl)) | (refine' penalty_some ?q9kB ?q9kX ?q9kT ?q9kk ?q9kd ?q9ku ?q9kF ?q9kN ?q9hx ?q9hdx ?q9hc ?q9hro ?q9hka ?q9C ?q9RO ?q9RK ?q9KO ?q9h5 ?q9h6 ?q9hr ?q9hr2 ?q9a0 ?q9a1 ?q9a2 ?q9a3 ?q9a4 ?_; (case q9kB => k_asm); (case q9kX => k_asm); (case q9kT => k_asm); (case q9kk => first | exact rfl | assumption); (case q9kd => ktr_room); (case q9ku => ktr_units); (case q9kF => k_asm); (case q9kN => k_asm); (case q9hx => k_mem); (case q9hdx => k_mem); (case q9hc => k_mem); (case q9hro => k_mem); (case q9hka => k_mem); (case q9C => assumption); (case q9RO => assumption); (case q9RK => (first | exact keysIn_sub (by assumption) (fun p9 hp9 => (by repeat (first | exact hp9 | refine List.Mem.tail _ ?_))) | assumption)); (case q9KO => first | assumption | exact keyObj_pair); (case q9h5 => omega); (case q9h6 => omega); (case q9hr => omega); (case q9hr2 => omega); (case q9a0 => first | assumption | rfl); (case q9a1 => k_mem); (case q9a2 => first | assumption | omega); (case q9a3 => first | assumption | omega); (case q9a4 => first | assumption | omega))); intro t9 h9 tk9 F9 N9; (try dsimp only)))
  k_with "call builtin:sorted" => ((k_here; (with_reducible show wpAny _ _ (call (Value.builtin _) [Value.ref _]) _ _ _); k_dflt (refine' sorted_rows ?q9kd ?q9ku ?q9F ?q9X ?q9N ?q9m ?q9k1 ?q9k2 ?_; (case q9kd => (first | ktr_room | (simp only [depth_deeper, depth_in1] at *; simp only [recursionLimit] at *; omega) | (simp only [recursionLimit] at *; (try dsimp only [ktrTop] at *); (try simp only [depth_deeper]); omega))); (case q9ku => ((try simp only [units_deeper, units_in1]); (have hcL9 := cLine_is); omega)); (case q9F => k_asm); (case q9X => assumption); (case q9N => k_asm); (case q9m => k_mem); (case q9k1 => k_mem); (case q9k2 => k_mem)); intro D9 n9 h9 tk9 ne9 F9 N9; (try dsimp only)))
  k_with "CompEnd" => (first | (k_dflt (refine LCg.CompEnd.intro (by k_asm) (by k_asm) _ (fun p hp => hp) (by assumption) (by lcg_src) ?_)) | (k_dflt (refine LCg.CompEnd.intro (by k_asm) (by k_asm) (_ :: _) comp_sub ⟨⟨by omega, by omega, by omega⟩, by assumption⟩ (by lcg_src) ?_)))
  k_with "pyIter ref" => ((k_here; (with_reducible show wpAny _ _ (pyIter (Value.ref _)) (fun it s₂ => LoopAtV _ _ _ _ _ _ _ _ _ it s₂) _ _); (with_unfolding_all refine iter_listUnr (vs := [_, _]) (by rfl) (by k_asm) (by k_asm) (by k_mem) (by rfl) (by rfl) ?_); intro i9 l9))
  trivial
local macro_rules | `(tactic| walk_at "UnrEnd") => `(tactic| first | k_extra "UnrEnd" | (refine UnrEnd.intro (by k_asm) (by k_asm) _ (fun p hp => hp) (fun p hp => Nat.ne_of_lt ((by assumption : ∀ p ∈ _, p.1 < _) p hp)) ⟨by k_mem, ?_⟩))
local macro_rules | `(tactic| walk_at "exec For Name Name cons nil") => `(tactic| k_extra "exec For Name Name cons nil")
local macro_rules | `(tactic| walk_at "getMethod ref") => `(tactic| k_extra "getMethod ref")
theorem rows_PR_3 : True := by
  k_with "exec For Name Name cons nil" => ((k_here; (rename Fr _ _ _ _ => lF'); (with_unfolding_all refine' For_invVF lF' ?q9k1 ?q9k2 ?_; (case q9k1 => exact rfl); (case q9k2 => exact rfl); k_whole)))
  k_with "getMethod ref" => ((k_here; (with_reducible show wpAny _ _ (getMethod (Value.ref _) (PySem.Str.ofString "pop") _) _ _ _); k_dflt (refine' rows_method ?q9X ?q9N ?q9m ?_; (case q9X => assumption); (case q9N => k_asm); (case q9m => k_mem)); (try dsimp only)))
  trivial
section
variable {w : World} {mean : ExcName → Option Value} {mg mb : Str → Option Value} {dp un : Nat} {gd : Option (List Code)} {cn : Str} {cs : Scope} {a : Addr} {ccd : Value} {cl : List (Str × Addr)} {outer : List Env}
  {A₀ : Around} {base h₀ : Heap} {L : Addr} {m : Str → Option Value} {s : Shared} {Q E : Value → Shared → Prop} {news : List (Addr × Obj)}
  (B : Below A₀ base outer h₀) (X : (hd.heap_39 w.params).In h₀) (T : Top hd.view_39 (looseW hd.view_39 []) mean mg mb h₀) (hk : cs.kind = .function) (hdp : dp + 18 < recursionLimit) (hun : un + 190 < cLine)
  (F : Fr h₀ L s.heap m) (N : News h₀ L s.heap news)
include B X T hk hdp hun F N

variable {x dx cfg rows k1 k2 r1 r2 : Addr} {oc ro : Obj} {half reuse top now f1 s1 f2 s2 : Int} {o1 o2 : Bool} {t1 t2 t3 t4 tn u1 u2 u3 u4 tf1 ts1 tf2 ts2 : Tok} {m1 m2 q1 q2 : Nat}
  (hx : (x, instObj 141 dx) ∈ news) (hdx : (dx, dmpObj w cfg rows top t1 t2 t3 t4) ∈ news) (hc : (cfg, oc) ∈ news) (hro : (rows, ro) ∈ news)
  (C : CfgObj PySem.Challenge.rw_rh0200_01.row.prog w cfg oc half reuse) (RO : RowsObj PySem.Challenge.rw_rh0200_01.row.prog w rows ro [([16, 4], k1, .ref r1), ([32, 4], k2, .ref r2)])
  (hk1 : (k1, (⟨.type "tuple", none, .seq #[.int 16 u1, .int 4 u2] m1, #[]⟩ : Obj)) ∈ news) (hk2 : (k2, (⟨.type "tuple", none, .seq #[.int 32 u3, .int 4 u4] m2, #[]⟩ : Obj)) ∈ news)
  (hr1 : (r1, rowObj f1 s1 o1 tf1 ts1 q1) ∈ news) (hr2 : (r2, rowObj f2 s2 o2 tf2 ts2 q2) ∈ news)
  (h5 : 0 < half) (h6 : half ≤ 5) (hr : 100 ≤ reuse) (hr' : reuse < 130) (g1 : 0 ≤ f1) (g1' : f1 < 2 ^ 60) (g2 : 0 ≤ f2) (g2' : f2 < 2 ^ 60) (w1 : s1 ≤ now) (w2 : s2 ≤ now)
include hx hdx hc hro C RO hk1 hk2 hr1 hr2 h5 h6 hr hr' g1 g1' g2 g2' w1 w2
set_option maxRecDepth 100000 in
set_option maxHeartbeats 4000000 in
theorem forget_two {rest : List (Addr × Obj)} (e1 : o1 = false) (e2 : o2 = false) (b1 : 2 * decF f1 (now - s1) half ≤ reuse) (b2 : 2 * decF f2 (now - s2) half ≤ reuse)
    (P : Pick (rows, ro) news rest) (hne : ∀ p ∈ rest, p.1 ≠ rows)
    (hk1' : (k1, (⟨.type "tuple", none, .seq #[.int 16 u1, .int 4 u2] m1, #[]⟩ : Obj)) ∈ rest) (hk2' : (k2, (⟨.type "tuple", none, .seq #[.int 32 u3, .int 4 u4] m2, #[]⟩ : Obj)) ∈ rest) (hx' : (x, instObj 141 dx) ∈ rest) (hdx' : (dx, dmpObj w cfg rows top t1 t2 t3 t4) ∈ rest)
    (hret : ∀ (D : Addr) (n : Nat) (ro' : Obj) (h' : Heap) (tk' : Nat), (∀ p ∈ news, p.1 ≠ D) → RowsObj PySem.Challenge.rw_rh0200_01.row.prog w rows ro' [] → Fr h₀ L h' m →
      News h₀ L h' ((D, W.listOf #[.ref k1, .ref k2] n) :: (rows, ro') :: rest) → Q (.ref D) { s with heap := h', toks := tk' }) :
    wpAny (model PySem.Challenge.rw_rh0200_01.row.prog w) (ktrTop dp un gd cn cs L a ccd cl outer) (call (.ref 138) [.ref x, .int now tn]) Q E s := by
  have RK := keysIn_two (prog := PySem.Challenge.rw_rh0200_01.row.prog) (w := w) (v1 := .ref r1) (v2 := .ref r2) hk1 hk2
  subst e1 e2
  revert X
  k_fill
  intro X
  refine wpAny_call ?_
  k_dflt (refine' code_defC ?k1 ?k2 ?k3 ?k4 ?k5 ?kA ?kF ?kK ?k6 ?k7 ?k8 ?k9 ?kB ?kD ?_ ?c2 ?c3 ?c4; (case kA => exact rfl); (case kF => exact rfl); (case kK => assumption); (case k1 => k_asm); (case k2 => k_asm); (case k3 => k_asm); (case k4 => k_asm); (case k5 => k_asm); (case k6 => k_is); (case k7 => k_is); (case k8 => ktr_room); (case k9 => exact BindsTo.of_eq rfl); (case kB => exact rfl); (case kD => decide +kernel); (case c2 => exact rfl); (case c3 => exact rfl); (case c4 => exact rfl); k_whole; intro g' L' h' tk' cells' FG' F' N' Y' B' X' T' l1; k_cells Y'; (try simp only [List.cons_append, List.nil_append] at N'); (try dsimp only); (try k_fold))
  k_with "call builtin:dict.pop" => first | (k_here; (rename ∀ p ∈ news, p.1 < _ => la9); (rename ∀ p ∈ _ :: _ :: news, p.1 ≠ _ => lb9); (rename _ ∧ _ ∧ _ ∧ _ ∧ LCg.Off1 _ news => lc9); (rename _ ∧ _ ∧ _ ∧ LCg.Off1 _ news => ld9); (rename ∀ p ∈ _ :: _ :: _ :: _ :: _ :: news, p.1 < _ => le9); (have hro9 : (rows, ro) ∈ news := hro); (have pa9 := la9 _ hro9); (have pb9 := lb9 _ (.tail _ (.tail _ hro9))); (have pc9 := off1_all lc9.2.2.2.2 _ hro9); (have pd9 := off1_all ld9.2.2.2 _ hro9); (have pe9 := le9 _ (.tail _ (.tail _ (.tail _ (.tail _ (.tail _ hro9)))))); (have qa9 := le9 _ (.head _)); (have qb9 := le9 _ (.tail _ (.head _))); (have qc9 := le9 _ (.tail _ (.tail _ (.head _)))); (have qd9 := le9 _ (.tail _ (.tail _ (.tail _ (.head _))))); (have qe9 := le9 _ (.tail _ (.tail _ (.tail _ (.tail _ (.head _)))))); (have qr9 := fun (p : Addr × Obj) (hp : p ∈ rest) => Nat.ne_of_lt (le9 p (.tail _ (.tail _ (.tail _ (.tail _ (.tail _ (P.mem _ (List.Mem.tail _ hp))))))))); (k_dflt (refine' rows_pop ?F1 RO ?N1 (Pick.there (Pick.there (Pick.there (Pick.there (Pick.there (Pick.there P)))))) ?o1 (keysIn_sub RK (fun p9 hp9 => .tail _ (.tail _ (.tail _ (.tail _ (.tail _ (.tail _ hp9))))))) ?k1 keyObj_pair ?u1 ?z1 ?_; (case F1 => k_asm); (case N1 => k_asm); (case k1 => exact (.tail _ (.tail _ (.tail _ (.tail _ (.tail _ (.tail _ hk1))))))); (case u1 => ktr_units); (case z1 => exact Nat.le_of_ble_eq_true rfl); (case o1 => exact off_six (Nat.ne_of_lt pe9).symm pc9.symm pd9.symm pb9.symm (Nat.ne_of_lt (Nat.lt_succ_of_lt (Nat.lt_succ_of_lt pa9))).symm (Nat.ne_of_lt (Nat.lt_succ_of_lt pa9)).symm hne)); intro h9 tk9 o9 F9 N9 RO9; clear RO RK; (have RK9 := keysIn_one RO9 hk2'); (try dsimp only))) | (k_here; (k_dflt (refine' rows_pop ?F2 RO9 ?N2 ?P2 ?o2 ?K2 ?k2 keyObj_pair ?u2 ?z2 ?_; (case F2 => k_asm); (case N2 => k_asm); (case P2 => exact Pick.there Pick.here); (case K2 => exact (keysIn_sub RK9 (fun p9 hp9 => .tail _ (.tail _ (.tail _ (.tail _ (.tail _ (.tail _ (.tail _ hp9))))))))); (case k2 => exact (.tail _ (.tail _ (.tail _ (.tail _ (.tail _ (.tail _ (.tail _ hk2')))))))); (case u2 => ktr_units); (case z2 => exact Nat.le_of_ble_eq_true rfl); (case o2 => exact off_six (Nat.ne_of_lt pe9).symm pc9.symm pd9.symm pb9.symm (Nat.ne_of_lt (Nat.lt_succ_of_lt (Nat.lt_succ_of_lt pa9))).symm (Nat.ne_of_lt (Nat.lt_succ_of_lt pa9)).symm hne)); intro h9 tk9 o9 F9 N9 RO9;  (try dsimp only)))
  k_with "UnrEnd" => first | ((have once9 : RowsObj PySem.Challenge.rw_rh0200_01.row.prog w rows _ [([32, 4], k2, .ref r2)] := RO9); (refine' UnrEnd.intro ?F11 ?N11 (_ :: _ :: _ :: _ :: _ :: _ :: rest) ?s11 ?o11 ?r11; (case F11 => k_asm); (case N11 => k_asm); (case s11 => exact sub_swap); (case o11 => exact off_six (Nat.ne_of_lt pe9) (Nat.ne_of_lt qa9) (Nat.ne_of_lt qb9) (Nat.ne_of_lt qc9) (Nat.ne_of_lt qd9) (Nat.ne_of_lt qe9) qr9); (refine ⟨by k_mem, ?_⟩))) | (refine' UnrEnd.intro ?F12 ?N12 (_ :: _ :: _ :: _ :: _ :: _ :: rest) ?s12 ?o12 ?r12; (case F12 => k_asm); (case N12 => k_asm); (case s12 => exact sub_swap); (case o12 => exact off_six (Nat.ne_of_lt pe9) (Nat.ne_of_lt qa9) (Nat.ne_of_lt qb9) (Nat.ne_of_lt qc9) (Nat.ne_of_lt qd9) (Nat.ne_of_lt qe9) qr9); (refine ⟨by k_mem, ?_⟩))
  k_steps
  (rename _ ∧ _ ∧ _ ∧ _ ∧ LCg.Off1 _ news => lc9)
  have kN9 := (by assumption : News h₀ L _ (_ :: _ :: _ :: _ :: _ :: _ :: rest))
  exact hret _ _ _ _ _ (off1_all lc9.2.2.2.2) (by assumption) (by k_asm) (news_forget kN9)
end
end Mine

namespace Mine
set_option linter.unusedSectionVars false
def OffR (d rows : Addr) : Prop := @Ne Nat d rows
theorem offr {prog : Program} {w : World} {rows d : Addr} {ro : Obj} {R : List (List Int × Addr × Value)} {news : List (Addr × Obj)} (X : RowsObj prog w rows ro R) (hm : (rows, ro) ∈ news) (ne : ∀ p ∈ news, p.1 ≠ d) : OffR d rows :=
  fun e => ne _ hm e.symm
theorem offR_ne {d rows : Addr} (h : OffR d rows) : @Ne Nat d rows := h
section
variable {w : World} {mean : ExcName → Option Value} {mg mb : Str → Option Value} {dp un : Nat} {gd : Option (List Code)} {cn : Str} {cs : Scope} {a : Addr} {ccd : Value} {cl : List (Str × Addr)} {outer : List Env}
  {A₀ : Around} {base h₀ : Heap} {L : Addr} {m : Str → Option Value} {s : Shared} {Q E : Value → Shared → Prop} {news : List (Addr × Obj)}
  (B : Below A₀ base outer h₀) (X : (hd.heap_39 w.params).In h₀) (T : Top hd.view_39 (looseW hd.view_39 []) mean mg mb h₀) (hk : cs.kind = .function) (hdp : dp + 8 < recursionLimit) (hun : un + 64 < cLine)
  (F : Fr h₀ L s.heap m) (N : News h₀ L s.heap news)
include B X T hk hdp hun F N

theorem new_C {cfg : Addr} {oc : Obj} {kvs : List (Str × Value)} {half reuse : Int} (hc : (cfg, oc) ∈ news) (lo : (cfg == sysModules) = false) (hd : oc.IsDictOf (PySem.strKind PySem.Challenge.rw_rh0200_01.row.prog w) kvs) (hf : PyProof.V.FlatPairs PyData.str kvs (cfgD half reuse)) (h5 : 0 < half) (h6 : half ≤ 5) (hr : 100 ≤ reuse) (hr' : reuse < 130)
    (hret : CfgObj PySem.Challenge.rw_rh0200_01.row.prog w cfg oc half reuse → ∀ (x dx rows : Addr) (ro : Obj) (t1 t2 t3 t4 : Tok) (h' : Heap) (tk' : Nat), (∀ p ∈ news, p.1 < dx) → @LT.lt Nat _ dx x → @LT.lt Nat _ x rows → RowsObj PySem.Challenge.rw_rh0200_01.row.prog w rows ro [] → Fr h₀ L h' m →
      News h₀ L h' ((rows, ro) :: (x, instObj 141 dx) :: (dx, dmpObj w cfg rows (16 * reuse) t1 t2 t3 t4) :: news) → Q (.ref x) { s with heap := h', toks := tk' }) :
    wpAny (model PySem.Challenge.rw_rh0200_01.row.prog w) (ktrTop dp un gd cn cs L a ccd cl outer) (call (.ref 141) [.ref cfg]) Q E s :=
  have C : CfgObj PySem.Challenge.rw_rh0200_01.row.prog w cfg oc half reuse := ⟨lo, kvs, hd, hf⟩
  new_ok B X T hk hdp hun F N hc C h5 h6 hr hr' (hret C)
end
theorem rows_dict0 {prog : Program} {w : World} {K : Type} [DecidableEq K] {knd : KeyKind prog w K} {rows : Addr} {o : Obj} (X : RowsObj prog w rows o []) : o.IsDictOf knd [] := by
  obtain ⟨es, ep, hd, he⟩ := X.data
  refine ⟨es, ep, X.exact, hd, fun e h => ?_, ?_, List.nodup_nil⟩
  · have h1 : e ∈ es.toList := Array.mem_toList_iff.mpr h
    rw [he] at h1; exact nomatch h1
  · rw [he]; exact .nil
theorem ne_self {prog : Program} {w : World} {A : Around} {E : Value → Shared → Prop} {s : Shared} {a : Int} {t u : Tok} {Q : Value → Shared → Prop} (h : Q (.bool false) s) : wpAny (model prog w) A (compareOp .NotEq (.int a t) (.int a u)) Q E s :=
  PyProof.Rows.ne_int (by rw [bne_self_eq_false]; exact h)
theorem dict_method {prog : Program} {w : World} {A : Around} {E : Value → Shared → Prop} {s : Shared} {h₀ : Heap} {L d : Addr} {news : List (Addr × Obj)} {o : Obj} {kvs : List (Str × Value)} {Q : Value × List Value → Shared → Prop} {pl : Sem Bool}
    (N : News h₀ L s.heap news) (hm : (d, o) ∈ news) (hd : o.IsDictOf (PySem.strKind prog w) kvs) (h : Q (.builtin "dict.update", [.ref d]) s) : wpAny (model prog w) A (getMethod (.ref d) "update" pl) Q E s := by
  obtain ⟨_, _, hc, _⟩ := hd
  exact getMethod_builtin ⟨o, (N _ hm).1, hc.1⟩ PySem.F.plainAttrs_dict PySem.F.slot_dict_update PySem.F.type_dict_update (fun b hb => ⟨o, by injection hb with hb; rw [← hb]; exact (N _ hm).1, hc.2.1⟩) h
theorem rows_eq_nil {prog : Program} {w : World} {A : Around} {E : Value → Shared → Prop} {s : Shared} {h₀ : Heap} {L rows b : Addr} {news : List (Addr × Obj)} {o ob : Obj} {Q : Value → Shared → Prop}
    (X : RowsObj prog w rows o []) (N : News h₀ L s.heap news) (hm : (rows, o) ∈ news) (hb : (b, ob) ∈ news) (lb : (b == sysModules) = false) (db : ob.IsDictOf (PySem.strKind prog w) []) (hu : A.units < cLine) (h : Q (.bool true) s) :
    wpAny (model prog w) A (compareOp .Eq (.ref rows) (.ref b)) Q E s :=
  keq_pairs N hm hb (rows_dict0 X) db X.lo lb rfl hu KeqHits.nil h
theorem out_yes {reuse half : Int} (h5 : 0 < half) (hr : 100 ≤ reuse) : (true && decide (reuse < decF (4 * reuse) (0 - 0) half)) = true := by
  rw [Int.sub_zero, dec_zero h5]; exact decide_eq_true (by omega)
theorem late_small {reuse half late : Int} (h5 : 0 < half) (hr : 100 ≤ reuse) (hl : 5 * half ≤ late) : 0 ≤ decF (4 * reuse) (late - 0) half ∧ 8 * decF (4 * reuse) (late - 0) half ≤ reuse := by
  have a := dec_nonneg (p := 4 * reuse) (s := late - 0) h5 (by omega)
  have b := dec_five (p := 4 * reuse) (s := late - 0) (by omega) h5 (by omega)
  omega
theorem out_no {reuse half late : Int} (h5 : 0 < half) (hr : 100 ≤ reuse) (hl : 5 * half ≤ late) : (true && decide (reuse < decF (4 * reuse) (late - 0) half)) = false := by
  have b := late_small h5 hr hl
  rw [Bool.true_and]; exact decide_eq_false (by omega)
theorem two_small {reuse half late : Int} (h5 : 0 < half) (hr : 100 ≤ reuse) (hl : 5 * half ≤ late) : 2 * decF reuse (late - 0) half ≤ reuse := by
  have b := dec_five (p := reuse) (s := late - 0) (by omega) h5 (by omega)
  omega
theorem two_same {f reuse half late : Int} (h5 : 0 < half) (h : 8 * f ≤ reuse) (h0 : 0 ≤ f) : 2 * decF f (late - late) half ≤ reuse := by
  rw [Int.sub_self, dec_zero h5]; omega
theorem keysIn_nil {prog : Program} {w : World} {news : List (Addr × Obj)} : KeysIn prog w news [] := fun _ h => nomatch h
theorem keysIn_first {prog : Program} {w : World} {news : List (Addr × Obj)} {k1 : Addr} {v1 : Value} {u1 u2 : Tok} {m1 : Nat} (hk1 : (k1, (⟨.type "tuple", none, .seq #[.int 16 u1, .int 4 u2] m1, #[]⟩ : Obj)) ∈ news) : KeysIn prog w news [([16, 4], k1, v1)] := by
  intro x hx
  rw [List.mem_singleton.mp hx]; exact ⟨_, hk1, keyObj_pair⟩
section
variable {w : World} {mean : ExcName → Option Value} {mg mb : Str → Option Value} {dp un : Nat} {gd : Option (List Code)} {cn : Str} {cs : Scope} {a : Addr} {ccd : Value} {cl : List (Str × Addr)} {outer : List Env}
  {A₀ : Around} {base h₀ : Heap} {L : Addr} {m : Str → Option Value} {s : Shared} {Q E : Value → Shared → Prop} {news : List (Addr × Obj)}
  (B : Below A₀ base outer h₀) (X : (hd.heap_39 w.params).In h₀) (T : Top hd.view_39 (looseW hd.view_39 []) mean mg mb h₀) (hk : cs.kind = .function) (hdp : dp + 12 < recursionLimit) (hun : un + 108 < cLine)
  (F : Fr h₀ L s.heap m) (N : News h₀ L s.heap news)
include B X T hk hdp hun F N

variable {x dx cfg rows ka : Addr} {oc ro : Obj} {half reuse top now : Int} {t1 t2 t3 t4 tn : Tok}
  (hx : (x, instObj 141 dx) ∈ news) (hdx : (dx, dmpObj w cfg rows top t1 t2 t3 t4) ∈ news) (hc : (cfg, oc) ∈ news) (hro : (rows, ro) ∈ news)
  (C : CfgObj PySem.Challenge.rw_rh0200_01.row.prog w cfg oc half reuse)
  (h5 : 0 < half) (h6 : half ≤ 5) (hr : 100 ≤ reuse) (hr' : reuse < 130)
include hx hdx hc hro C h5 h6 hr hr'
theorem fined_first {rest : List (Addr × Obj)} {word : Str} {u1 u2 tw : Tok} {m1 : Nat} {fw : Int} (RO : RowsObj PySem.Challenge.rw_rh0200_01.row.prog w rows ro []) (hka : (ka, (⟨.type "tuple", none, .seq #[.int 16 u1, .int 4 u2] m1, #[]⟩ : Obj)) ∈ news)
    (hw : Spec.lookup (.str word) (cfgD half reuse) = some (.int fw)) (hf0 : 0 ≤ fw) (hf1 : fw ≤ top) (hf : 3 * reuse ≤ fw) (P : Pick (rows, ro) news rest) (hne : ∀ p ∈ rest, p.1 ≠ rows)
    (hret : ∀ (ra : Addr) (tf ts : Tok) (ro' : Obj) (h' : Heap) (tk' : Nat), (∀ p ∈ news, p.1 < ra) → RowsObj PySem.Challenge.rw_rh0200_01.row.prog w rows ro' [([16, 4], ka, .ref ra)] → Fr h₀ L h' m →
      News h₀ L h' ((ra, rowObj fw now true tf ts 0) :: (rows, ro') :: rest) → Q (.bool true) { s with heap := h', toks := tk' }) :
    wpAny (model PySem.Challenge.rw_rh0200_01.row.prog w) (ktrTop dp un gd cn cs L a ccd cl outer) (call (.ref 102) [.ref x, .ref ka, .str word tw, .int now tn]) Q E s := by
  have e : decide (3 * reuse ≤ fw) = true := decide_eq_true hf
  refine fined_new B X T hk hdp hun F N hx hdx hc hro hka C RO keysIn_nil keyObj_pair h5 h6 hr hr' rfl hw hf0 hf1 P hne (Nat.zero_le _) ?_
  rw [e]; exact hret
theorem fined_second {rest : List (Addr × Obj)} {word : Str} {k1 r1 : Addr} {u1 u2 u3 u4 tw : Tok} {m1 m2 : Nat} {fw : Int} (RO : RowsObj PySem.Challenge.rw_rh0200_01.row.prog w rows ro [([16, 4], k1, .ref r1)]) (hk1 : (k1, (⟨.type "tuple", none, .seq #[.int 16 u1, .int 4 u2] m1, #[]⟩ : Obj)) ∈ news)
    (hka : (ka, (⟨.type "tuple", none, .seq #[.int 32 u3, .int 4 u4] m2, #[]⟩ : Obj)) ∈ news)
    (hw : Spec.lookup (.str word) (cfgD half reuse) = some (.int fw)) (hf0 : 0 ≤ fw) (hf1 : fw ≤ top) (hf : fw < 3 * reuse) (P : Pick (rows, ro) news rest) (hne : ∀ p ∈ rest, p.1 ≠ rows)
    (hret : ∀ (ra : Addr) (tf ts : Tok) (ro' : Obj) (h' : Heap) (tk' : Nat), (∀ p ∈ news, p.1 < ra) → RowsObj PySem.Challenge.rw_rh0200_01.row.prog w rows ro' [([16, 4], k1, .ref r1), ([32, 4], ka, .ref ra)] → Fr h₀ L h' m →
      News h₀ L h' ((ra, rowObj fw now false tf ts 0) :: (rows, ro') :: rest) → Q (.bool false) { s with heap := h', toks := tk' }) :
    wpAny (model PySem.Challenge.rw_rh0200_01.row.prog w) (ktrTop dp un gd cn cs L a ccd cl outer) (call (.ref 102) [.ref x, .ref ka, .str word tw, .int now tn]) Q E s := by
  have e : decide (3 * reuse ≤ fw) = false := decide_eq_false (by omega)
  refine fined_new B X T hk hdp hun F N hx hdx hc hro hka C RO (keysIn_first hk1) keyObj_pair h5 h6 hr hr' rfl hw hf0 hf1 P hne (Nat.le_of_ble_eq_true rfl) ?_
  rw [e]; exact hret
theorem penalty_val {R : List (List Int × Addr × Value)} {ks : List Int} {ko : Obj} (hka : (ka, ko) ∈ news) (RO : RowsObj PySem.Challenge.rw_rh0200_01.row.prog w rows ro R) (RK : KeysIn PySem.Challenge.rw_rh0200_01.row.prog w news R) (KO : KeyObj PySem.Challenge.rw_rh0200_01.row.prog w ks ko)
    {kb ra : Addr} {fine since v : Int} {out : Bool} {tf ts : Tok} {n : Nat} (ha : atKey R ks = some (kb, .ref ra)) (hra : (ra, rowObj fine since out tf ts n) ∈ news) (f0 : 0 ≤ fine) (f1 : fine < 2 ^ 60) (fs : since ≤ now) (e : decF fine (now - since) half = v)
    (hret : ∀ (t : Tok) (h' : Heap) (tk' : Nat), Fr h₀ L h' m → News h₀ L h' news → Q (.int v t) { s with heap := h', toks := tk' }) :
    wpAny (model PySem.Challenge.rw_rh0200_01.row.prog w) (ktrTop dp un gd cn cs L a ccd cl outer) (call (.ref 95) [.ref x, .ref ka, .int now tn]) Q E s := by
  refine penalty_some B X T hk (Nat.lt_of_le_of_lt (Nat.add_le_add_left (by decide) _) hdp) (Nat.lt_of_le_of_lt (Nat.add_le_add_left (by decide) _) hun) F N hx hdx hc hro hka C RO RK KO h5 h6 hr hr' ha hra f0 f1 fs ?_
  rw [e]; exact hret
end
theorem late_f {f reuse half late : Int} (e : f = decF (4 * reuse) (late - 0) half) (h5 : 0 < half) (hr : 100 ≤ reuse) (hl : 5 * half ≤ late) : 0 ≤ f ∧ 8 * f ≤ reuse := by
  subst e; exact late_small h5 hr hl
section
variable {w : World} {mean : ExcName → Option Value} {mg mb : Str → Option Value} {dp un : Nat} {gd : Option (List Code)} {cn : Str} {cs : Scope} {a : Addr} {ccd : Value} {cl : List (Str × Addr)} {outer : List Env}
  {A₀ : Around} {base h₀ : Heap} {L : Addr} {m : Str → Option Value} {s : Shared} {Q E : Value → Shared → Prop} {news : List (Addr × Obj)}
  (B : Below A₀ base outer h₀) (X : (hd.heap_39 w.params).In h₀) (T : Top hd.view_39 (looseW hd.view_39 []) mean mg mb h₀) (hk : cs.kind = .function) (hdp : dp + 18 < recursionLimit) (hun : un + 190 < cLine)
  (F : Fr h₀ L s.heap m) (N : News h₀ L s.heap news)
include B X T hk hdp hun F N

variable {x dx cfg rows k1 k2 r1 r2 : Addr} {oc ro : Obj} {half reuse top now f1 s1 f2 s2 : Int} {o1 o2 : Bool} {t1 t2 t3 t4 tn u1 u2 u3 u4 tf1 ts1 tf2 ts2 : Tok} {m1 m2 q1 q2 : Nat}
  (hx : (x, instObj 141 dx) ∈ news) (hdx : (dx, dmpObj w cfg rows top t1 t2 t3 t4) ∈ news) (hc : (cfg, oc) ∈ news) (hro : (rows, ro) ∈ news)
  (C : CfgObj PySem.Challenge.rw_rh0200_01.row.prog w cfg oc half reuse) (RO : RowsObj PySem.Challenge.rw_rh0200_01.row.prog w rows ro [([16, 4], k1, .ref r1), ([32, 4], k2, .ref r2)])
  (hk1 : (k1, (⟨.type "tuple", none, .seq #[.int 16 u1, .int 4 u2] m1, #[]⟩ : Obj)) ∈ news) (hk2 : (k2, (⟨.type "tuple", none, .seq #[.int 32 u3, .int 4 u4] m2, #[]⟩ : Obj)) ∈ news)
  (hr1 : (r1, rowObj f1 s1 o1 tf1 ts1 q1) ∈ news) (hr2 : (r2, rowObj f2 s2 o2 tf2 ts2 q2) ∈ news)
  (h5 : 0 < half) (h6 : half ≤ 5) (hr : 100 ≤ reuse) (hr' : reuse < 130) (g1 : 0 ≤ f1) (g1' : f1 < 2 ^ 60) (g2 : 0 ≤ f2) (g2' : f2 < 2 ^ 60) (w1 : s1 ≤ now) (w2 : s2 ≤ now)
include hx hdx hc hro C RO hk1 hk2 hr1 hr2 h5 h6 hr hr' g1 g1' g2 g2' w1 w2
theorem reused_gen {rest : List (Addr × Obj)} (e1 : o1 = true) (b1 : (o1 && decide (reuse < decF f1 (now - s1) half)) = false) (e2 : o2 = false)
    (P : Pick (rows, ro) news rest) (hne : ∀ p ∈ rest, p.1 ≠ rows) (hx' : (x, instObj 141 dx) ∈ rest) (hdx' : (dx, dmpObj w cfg rows top t1 t2 t3 t4) ∈ rest) (hc' : (cfg, oc) ∈ rest)
    (hk1' : (k1, (⟨.type "tuple", none, .seq #[.int 16 u1, .int 4 u2] m1, #[]⟩ : Obj)) ∈ rest) (hk2' : (k2, (⟨.type "tuple", none, .seq #[.int 32 u3, .int 4 u4] m2, #[]⟩ : Obj)) ∈ rest) (hr2' : (r2, rowObj f2 s2 o2 tf2 ts2 q2) ∈ rest)
    (hret : ∀ (f : Int) (D T : Addr) (n : Nat) (tf ts : Tok) (ro' : Obj) (h' : Heap) (tk' : Nat), f = decF f1 (now - s1) half → (∀ p ∈ news, p.1 ≠ D) → (∀ p ∈ news, p.1 ≠ T) → D ≠ T → RowsObj PySem.Challenge.rw_rh0200_01.row.prog w rows ro' [([16, 4], k1, .ref T), ([32, 4], k2, .ref r2)] → Fr h₀ L h' m →
      News h₀ L h' ((D, W.listOf #[.ref k1] n) :: (T, rowObj f now false tf ts 0) :: (rows, ro') :: rest) → Q (.ref D) { s with heap := h', toks := tk' }) :
    wpAny (model PySem.Challenge.rw_rh0200_01.row.prog w) (ktrTop dp un gd cn cs L a ccd cl outer) (call (.ref 133) [.ref x, .int now tn]) Q E s :=
  reused_one B X T hk hdp hun F N hx hdx hc hro C RO hk1 hk2 hr1 hr2 h5 h6 hr hr' g1 g1' g2 g2' w1 w2 e1 b1 e2 P hne hx' hdx' hc' hk1' hk2' hr2' (fun D T n tf ts ro' h' tk' => hret _ D T n tf ts ro' h' tk' rfl)
end
end Mine

open Mine
theorem pow10_15 {prog : Program} {w : World} {A : Around} {E : Value → Shared → Prop} {s : Shared} {t u : Tok} {Q : Value → Shared → Prop} (h : Q (.int 1000000000000000 s.toks) { s with toks := s.toks + 1 }) : wpAny (model prog w) A (binaryOp .Pow (.int 10 t) (.int 15 u)) Q E s :=
  pow_int_small (by decide) (by decide) (by decide) (by have e : (10 : Int) ^ (15 : Int).toNat = 1000000000000000 := by decide
                                                        rw [e]; exact h)
theorem pow10_12 {prog : Program} {w : World} {A : Around} {E : Value → Shared → Prop} {s : Shared} {t u : Tok} {Q : Value → Shared → Prop} (h : Q (.int 1000000000000 s.toks) { s with toks := s.toks + 1 }) : wpAny (model prog w) A (binaryOp .Pow (.int 10 t) (.int 12 u)) Q E s :=
  pow_int_small (by decide) (by decide) (by decide) (by have e : (10 : Int) ^ (12 : Int).toNat = 1000000000000 := by decide
                                                        rw [e]; exact h)
theorem pow10_9 {prog : Program} {w : World} {A : Around} {E : Value → Shared → Prop} {s : Shared} {t u : Tok} {Q : Value → Shared → Prop} (h : Q (.int 1000000000 s.toks) { s with toks := s.toks + 1 }) : wpAny (model prog w) A (binaryOp .Pow (.int 10 t) (.int 9 u)) Q E s :=
  pow_int_small (by decide) (by decide) (by decide) (by have e : (10 : Int) ^ (9 : Int).toNat = 1000000000 := by decide
                                                        rw [e]; exact h)
theorem pow10_14 {prog : Program} {w : World} {A : Around} {E : Value → Shared → Prop} {s : Shared} {t u : Tok} {Q : Value → Shared → Prop} (h : Q (.int 100000000000000 s.toks) { s with toks := s.toks + 1 }) : wpAny (model prog w) A (binaryOp .Pow (.int 10 t) (.int 14 u)) Q E s :=
  pow_int_small (by decide) (by decide) (by decide) (by have e : (10 : Int) ^ (14 : Int).toNat = 100000000000000 := by decide
                                                        rw [e]; exact h)
local macro_rules | `(tactic| walk_at "binaryOp Pow int int") => `(tactic| k_extra "binaryOp Pow int int")
local macro_rules | `(tactic| walk_at "call ref") => `(tactic| k_extra "call ref")
local macro_rules | `(tactic| walk_at "getMethod ref") => `(tactic| k_extra "getMethod ref")
local macro_rules | `(tactic| walk_at "callWith builtin:dict.update") => `(tactic| k_extra "callWith builtin:dict.update")
local macro_rules | `(tactic| walk_at "compareOp NotEq int int") => `(tactic| k_extra "compareOp NotEq int int")
theorem Mine.rows_PZ_1 : True := by
  k_with_none
  k_with "binaryOp Pow int int" => ((k_here; first | refine pow10_15 ?_ | refine pow10_12 ?_ | refine pow10_9 ?_ | refine pow10_14 ?_))
  k_with "call ref" => ((k_here; (with_reducible show wpAny _ _ (call (Value.ref 60) _) _ _ _); k_dflt (refine' decayed_ok ?q9kB ?q9kX ?q9kT ?q9kk ?q9kd ?q9ku ?q9kF ?q9kN ?q9a0 ?q9a1 ?q9a2 ?q9a3 ?q9a4 ?_; (case q9kB => k_asm); (case q9kX => k_asm); (case q9kT => k_asm); (case q9kk => first | exact rfl | assumption); (case q9kd => ktr_room); (case q9ku => ktr_units); (case q9kF => k_asm); (case q9kN => k_asm); (case q9a0 => first | assumption | omega); (case q9a1 => first | assumption | omega); (case q9a2 => first | assumption | omega | (refine Int.mul_nonneg ?_ ?_ <;> omega)); (case q9a3 => first | assumption | omega); (case q9a4 => first | assumption | omega); intro t9 h9 tk9 F9 N9; (try dsimp only))))
  k_with "call ref" => ((k_here; (with_reducible show wpAny _ _ (call (Value.ref 159) _) _ _ _); k_dflt (refine' left_ok ?q9kB ?q9kX ?q9kT ?q9kk ?q9kd ?q9ku ?q9kF ?q9kN ?q9a0 ?q9a1 ?q9a2 ?q9a3 ?q9a4 ?_; (case q9kB => k_asm); (case q9kX => k_asm); (case q9kT => k_asm); (case q9kk => first | exact rfl | assumption); (case q9kd => ktr_room); (case q9ku => ktr_units); (case q9kF => k_asm); (case q9kN => k_asm); (case q9a0 => first | assumption | omega); (case q9a1 => first | assumption | omega); (case q9a2 => first | assumption | omega | (refine Int.mul_nonneg ?_ ?_ <;> omega)); (case q9a3 => first | assumption | omega); (case q9a4 => first | assumption | omega); intro t9 h9 tk9 F9 N9; (try dsimp only))))
  k_with "call ref" => ((k_here; (with_reducible show wpAny _ _ (call (Value.ref 152) _) _ _ _); k_dflt (refine' draw_ok ?q9kB ?q9kX ?q9kT ?q9kk ?q9kd ?q9ku ?q9kF ?q9kN ?q9P1 ?q9P2 ?q9hI ?q9hz ?q9hbl ?q9hb ?q9hl ?q9hk0 ?q9hk1 ?_; (case q9kB => k_asm); (case q9kX => k_asm); (case q9kT => k_asm); (case q9kk => first | exact rfl | assumption); (case q9kd => ktr_room); (case q9ku => ktr_units); (case q9kF => k_asm); (case q9kN => k_asm); (case q9P1 => (repeat (first | exact Pick.here | apply Pick.there))); (case q9P2 => (repeat (first | exact Pick.here | apply Pick.there))); (case q9hI => k_asm); (case q9hz => first | assumption | omega); (case q9hbl => omega); (case q9hb => k_all); (case q9hl => k_all); (case q9hk0 => omega); (case q9hk1 => omega); intro r9 t9 h9 tk9 ws9 ns9 c9 tc9 e9 f9 r90 r91 I9 z9 F9 N9; (try k_sweep); (try dsimp only))))
  k_with "call ref" => ((k_here; (with_reducible show wpAny _ _ (call (Value.ref 141) _) _ _ _); (rename PyProof.V.FlatPairs _ _ (ktMergeD _ _) => hf9); k_dflt (refine' new_C ?q9kB ?q9kX ?q9kT ?q9kk ?q9kd ?q9ku ?q9kF ?q9kN ?q9hc ?q9lo ?q9hd ?q9hf ?q9h5 ?q9h6 ?q9hr ?q9hr2 ?_; (case q9kB => k_asm); (case q9kX => k_asm); (case q9kT => k_asm); (case q9kk => first | exact rfl | assumption); (case q9kd => ktr_room); (case q9ku => ktr_units); (case q9kF => k_asm); (case q9kN => k_asm); (case q9hc => k_mem); (case q9lo => assumption); (case q9hd => assumption); (case q9hf => exact hf9); (case q9h5 => omega); (case q9h6 => omega); (case q9hr => omega); (case q9hr2 => omega)); intro C9 x9 dx9 rows9 ro9 t91 t92 t93 t94 h9 tk9 l9 l8 l7 RO9 F9 N9; (replace l9 := allLt_of l9); (simp only [AllLt, and_true] at l9); (try dsimp only)))
  k_with "getMethod ref" => ((k_here; (with_reducible show wpAny _ _ (getMethod (Value.ref _) (PySem.Str.ofString "update") _) _ _ _); k_dflt (refine' dict_method ?q9N ?q9m ?q9d ?_; (case q9N => k_asm); (case q9m => k_mem); (case q9d => assumption)); (try dsimp only)))
  k_with "callWith builtin:dict.update" => ((k_here; k_dflt (refine callWith_method1 ?_)))
  k_with "compareOp NotEq int int" => ((k_here; with_reducible refine ne_self ?_))
  trivial
local macro_rules | `(tactic| k_all) => `(tactic| first | exact List.forall_mem_nil _ | (refine' List.forall_mem_cons.mpr ⟨?a, ?b⟩; (case a => (refine neN ?_; (try dsimp only); first | exact offR_ne (by assumption) | omega)); (case b => k_all)))
local macro_rules | `(tactic| walk_at "compareOp Eq ref ref") => `(tactic| k_extra "compareOp Eq ref ref")
local macro_rules | `(tactic| walk_at "subscriptTail List") => `(tactic| k_extra "subscriptTail List")
local macro_rules | `(tactic| walk_at "BoxTurn ret") => `(tactic| k_extra "BoxTurn ret")
local macro_rules | `(tactic| walk_at "BoxTurn next") => `(tactic| k_extra "BoxTurn next")
local macro_rules | `(tactic| walk_at "pyIter ref") => `(tactic| k_extra "pyIter ref")
theorem Mine.rows_PZ_2 : True := by
  k_with "call ref" => ((k_here; (with_reducible show wpAny _ _ (call (Value.ref 102) _) _ _ _); k_dflt (refine' fined_second ?q9kB ?q9kX ?q9kT ?q9kk ?q9kd ?q9ku ?q9kF ?q9kN ?q9hx ?q9hdx ?q9hc ?q9hro ?q9C ?q9h5 ?q9h6 ?q9hr ?q9hr2 ?q9RO ?q9hkb ?q9hka ?q9hw ?q9hf0 ?q9hf1 ?q9hf ?q9P ?q9hne ?_; (case q9kB => k_asm); (case q9kX => k_asm); (case q9kT => k_asm); (case q9kk => first | exact rfl | assumption); (case q9kd => ktr_room); (case q9ku => ktr_units); (case q9kF => k_asm); (case q9kN => k_asm); (case q9hx => k_mem); (case q9hdx => k_mem); (case q9hc => k_mem); (case q9hro => k_mem); (case q9C => assumption); (case q9h5 => omega); (case q9h6 => omega); (case q9hr => omega); (case q9hr2 => omega); (case q9RO => assumption); (case q9hkb => k_mem); (case q9hka => k_mem); (case q9hw => first | exact cfg_withdrawn _ _ | exact cfg_changed _ _); (case q9hf0 => omega); (case q9hf1 => omega); (case q9hf => omega); (case q9P => (repeat (first | exact Pick.here | apply Pick.there))); (case q9hne => k_all)); intro ra9 tf9 ts9 ro9 h9 tk9 l9 RO9 F9 N9; (replace l9 := allLt_of l9); (simp only [AllLt, and_true] at l9); (try dsimp only)))
  k_with "call ref" => ((k_here; (with_reducible show wpAny _ _ (call (Value.ref 102) _) _ _ _); k_dflt (refine' fined_first ?q9kB ?q9kX ?q9kT ?q9kk ?q9kd ?q9ku ?q9kF ?q9kN ?q9hx ?q9hdx ?q9hc ?q9hro ?q9C ?q9h5 ?q9h6 ?q9hr ?q9hr2 ?q9RO ?q9hka ?q9hw ?q9hf0 ?q9hf1 ?q9hf ?q9P ?q9hne ?_; (case q9kB => k_asm); (case q9kX => k_asm); (case q9kT => k_asm); (case q9kk => first | exact rfl | assumption); (case q9kd => ktr_room); (case q9ku => ktr_units); (case q9kF => k_asm); (case q9kN => k_asm); (case q9hx => k_mem); (case q9hdx => k_mem); (case q9hc => k_mem); (case q9hro => k_mem); (case q9C => assumption); (case q9h5 => omega); (case q9h6 => omega); (case q9hr => omega); (case q9hr2 => omega); (case q9RO => assumption); (case q9hka => k_mem); (case q9hw => first | exact cfg_withdrawn _ _ | exact cfg_changed _ _); (case q9hf0 => omega); (case q9hf1 => omega); (case q9hf => omega); (case q9P => (repeat (first | exact Pick.here | apply Pick.there))); (case q9hne => k_all)); intro ra9 tf9 ts9 ro9 h9 tk9 l9 RO9 F9 N9; (replace l9 := allLt_of l9); (simp only [AllLt, and_true] at l9); (try dsimp only)))
  k_with "call ref" => ((k_here; (with_reducible show wpAny _ _ (call (Value.ref 95) _) _ _ _); k_dflt (refine' penalty_val ?q9kB ?q9kX ?q9kT ?q9kk ?q9kd ?q9ku ?q9kF ?q9kN ?q9hx ?q9hdx ?q9hc ?q9hro ?q9C ?q9h5 ?q9h6 ?q9hr ?q9hr2 ?q9hka ?q9RO ?q9RK ?q9KO ?q9ha ?q9hra ?q9f0 ?q9f1 ?q9fs ?q9e ?_; (case q9kB => k_asm); (case q9kX => k_asm); (case q9kT => k_asm); (case q9kk => first | exact rfl | assumption); (case q9kd => ktr_room); (case q9ku => ktr_units); (case q9kF => k_asm); (case q9kN => k_asm); (case q9hx => k_mem); (case q9hdx => k_mem); (case q9hc => k_mem); (case q9hro => k_mem); (case q9C => assumption); (case q9h5 => omega); (case q9h6 => omega); (case q9hr => omega); (case q9hr2 => omega); (case q9hka => k_mem); (case q9RO => assumption); (case q9RK => exact keysIn_two (by k_mem) (by k_mem)); (case q9KO => exact keyObj_pair); (case q9ha => exact rfl); (case q9hra => k_mem); (case q9f0 => omega); (case q9f1 => omega); (case q9fs => omega); (case q9e => exact congrArg (fun z => decF _ z _) (Int.sub_zero _))); intro t9 h9 tk9 F9 N9; (try dsimp only)))
  k_with "call ref" => ((k_here; (with_reducible show wpAny _ _ (call (Value.ref 95) _) _ _ _); k_dflt (refine' penalty_none ?q9kB ?q9kX ?q9kT ?q9kk ?q9kd ?q9ku ?q9kF ?q9kN ?q9hx ?q9hdx ?q9hc ?q9hro ?q9hka ?q9C ?q9RO ?q9RK ?q9KO ?q9h5 ?q9h6 ?q9hr ?q9hr2 ?q9ha ?_; (case q9kB => k_asm); (case q9kX => k_asm); (case q9kT => k_asm); (case q9kk => first | exact rfl | assumption); (case q9kd => ktr_room); (case q9ku => ktr_units); (case q9kF => k_asm); (case q9kN => k_asm); (case q9hx => k_mem); (case q9hdx => k_mem); (case q9hc => k_mem); (case q9hro => k_mem); (case q9hka => k_mem); (case q9C => assumption); (case q9RO => assumption); (case q9RK => exact keysIn_nil); (case q9KO => exact keyObj_pair); (case q9h5 => omega); (case q9h6 => omega); (case q9hr => omega); (case q9hr2 => omega); (case q9ha => exact rfl)); intro t9 h9 tk9 F9 N9; (try dsimp only)))
  k_with "call ref" => ((k_here; (with_reducible show wpAny _ _ (call (Value.ref 121) _) _ _ _); k_dflt (refine' left_one ?q9kB ?q9kX ?q9kT ?q9kk ?q9kd ?q9ku ?q9kF ?q9kN ?q9hx ?q9hdx ?q9hc ?q9hro ?q9C ?q9RO ?q9hk1 ?q9hk2 ?q9hr1 ?q9hr2 ?q9h5 ?q9h6 ?q9hr ?q9hrb ?q9g1 ?q9g1b ?q9g2 ?q9g2b ?q9w1 ?q9w2 ?q9a0 ?q9a1 ?_; (case q9kB => k_asm); (case q9kX => k_asm); (case q9kT => k_asm); (case q9kk => first | exact rfl | assumption); (case q9kd => ktr_room); (case q9ku => ktr_units); (case q9kF => k_asm); (case q9kN => k_asm); (case q9hx => k_mem); (case q9hdx => k_mem); (case q9hc => k_mem); (case q9hro => k_mem); (case q9C => assumption); (case q9RO => assumption); (case q9hk1 => k_mem); (case q9hk2 => k_mem); (case q9hr1 => k_mem); (case q9hr2 => k_mem); (case q9h5 => omega); (case q9h6 => omega); (case q9hr => omega); (case q9hrb => omega); (case q9g1 => first | omega | assumption); (case q9g1b => first | omega | assumption); (case q9g2 => first | omega | assumption); (case q9g2b => first | omega | assumption); (case q9w1 => first | omega | assumption); (case q9w2 => first | omega | assumption); (case q9a0 => exact out_yes (by omega) (by omega)); (case q9a1 => exact rfl)); intro u9 t9 D9 T9 n9 m9 h9 tk9 U9 ne9 ne8; (k_dflt (replace ne9 := offr (by assumption) (by k_mem) ne9)); (k_dflt (replace ne8 := offr (by assumption) (by k_mem) ne8)); intro F9 N9; ((have e9 := until_four U9 (by omega) (by omega) (by omega)); subst e9); rw [Int.zero_add] at N9; (try dsimp only)))
  k_with "call ref" => ((k_here; (with_reducible show wpAny _ _ (call (Value.ref 121) _) _ _ _); k_dflt (refine' left_none ?q9kB ?q9kX ?q9kT ?q9kk ?q9kd ?q9ku ?q9kF ?q9kN ?q9hx ?q9hdx ?q9hc ?q9hro ?q9C ?q9RO ?q9hk1 ?q9hk2 ?q9hr1 ?q9hr2 ?q9h5 ?q9h6 ?q9hr ?q9hrb ?q9g1 ?q9g1b ?q9g2 ?q9g2b ?q9w1 ?q9w2 ?q9a0 ?q9a1 ?_; (case q9kB => k_asm); (case q9kX => k_asm); (case q9kT => k_asm); (case q9kk => first | exact rfl | assumption); (case q9kd => ktr_room); (case q9ku => ktr_units); (case q9kF => k_asm); (case q9kN => k_asm); (case q9hx => k_mem); (case q9hdx => k_mem); (case q9hc => k_mem); (case q9hro => k_mem); (case q9C => assumption); (case q9RO => assumption); (case q9hk1 => k_mem); (case q9hk2 => k_mem); (case q9hr1 => k_mem); (case q9hr2 => k_mem); (case q9h5 => omega); (case q9h6 => omega); (case q9hr => omega); (case q9hrb => omega); (case q9g1 => first | omega | assumption); (case q9g1b => first | omega | assumption); (case q9g2 => first | omega | assumption); (case q9g2b => first | omega | assumption); (case q9w1 => first | omega | assumption); (case q9w2 => first | omega | assumption); (case q9a0 => exact out_no (by omega) (by omega) (by omega)); (case q9a1 => exact rfl)); intro D9 n9 h9 tk9 ne9; (k_dflt (replace ne9 := offr (by assumption) (by k_mem) ne9)); intro F9 N9; (try dsimp only)))
  k_with "call ref" => ((k_here; (with_reducible show wpAny _ _ (call (Value.ref 133) _) _ _ _); k_dflt (refine' reused_none ?q9kB ?q9kX ?q9kT ?q9kk ?q9kd ?q9ku ?q9kF ?q9kN ?q9hx ?q9hdx ?q9hc ?q9hro ?q9C ?q9RO ?q9hk1 ?q9hk2 ?q9hr1 ?q9hr2 ?q9h5 ?q9h6 ?q9hr ?q9hrb ?q9g1 ?q9g1b ?q9g2 ?q9g2b ?q9w1 ?q9w2 ?q9a0 ?q9a1 ?_; (case q9kB => k_asm); (case q9kX => k_asm); (case q9kT => k_asm); (case q9kk => first | exact rfl | assumption); (case q9kd => ktr_room); (case q9ku => ktr_units); (case q9kF => k_asm); (case q9kN => k_asm); (case q9hx => k_mem); (case q9hdx => k_mem); (case q9hc => k_mem); (case q9hro => k_mem); (case q9C => assumption); (case q9RO => assumption); (case q9hk1 => k_mem); (case q9hk2 => k_mem); (case q9hr1 => k_mem); (case q9hr2 => k_mem); (case q9h5 => omega); (case q9h6 => omega); (case q9hr => omega); (case q9hrb => omega); (case q9g1 => first | omega | assumption); (case q9g1b => first | omega | assumption); (case q9g2 => first | omega | assumption); (case q9g2b => first | omega | assumption); (case q9w1 => first | omega | assumption); (case q9w2 => first | omega | assumption); (case q9a0 => exact rfl); (case q9a1 => exact rfl)); intro D9 n9 h9 tk9 ne9; (k_dflt (replace ne9 := offr (by assumption) (by k_mem) ne9)); intro F9 N9; (try dsimp only)))
  k_with "call ref" => ((k_here; (with_reducible show wpAny _ _ (call (Value.ref 133) _) _ _ _); k_dflt (refine' reused_gen ?q9kB ?q9kX ?q9kT ?q9kk ?q9kd ?q9ku ?q9kF ?q9kN ?q9hx ?q9hdx ?q9hc ?q9hro ?q9C ?q9RO ?q9hk1 ?q9hk2 ?q9hr1 ?q9hr2 ?q9h5 ?q9h6 ?q9hr ?q9hrb ?q9g1 ?q9g1b ?q9g2 ?q9g2b ?q9w1 ?q9w2 ?q9a0 ?q9a1 ?q9a2 ?q9a3 ?q9a4 ?q9a5 ?q9a6 ?q9a7 ?q9a8 ?q9a9 ?q9a10 ?_; (case q9kB => k_asm); (case q9kX => k_asm); (case q9kT => k_asm); (case q9kk => first | exact rfl | assumption); (case q9kd => ktr_room); (case q9ku => ktr_units); (case q9kF => k_asm); (case q9kN => k_asm); (case q9hx => k_mem); (case q9hdx => k_mem); (case q9hc => k_mem); (case q9hro => k_mem); (case q9C => assumption); (case q9RO => assumption); (case q9hk1 => k_mem); (case q9hk2 => k_mem); (case q9hr1 => k_mem); (case q9hr2 => k_mem); (case q9h5 => omega); (case q9h6 => omega); (case q9hr => omega); (case q9hrb => omega); (case q9g1 => first | omega | assumption); (case q9g1b => first | omega | assumption); (case q9g2 => first | omega | assumption); (case q9g2b => first | omega | assumption); (case q9w1 => first | omega | assumption); (case q9w2 => first | omega | assumption); (case q9a0 => exact rfl); (case q9a1 => exact out_no (by omega) (by omega) (by omega)); (case q9a2 => exact rfl); (case q9a3 => (repeat (first | exact Pick.here | apply Pick.there))); (case q9a4 => k_all); (case q9a5 => k_mem); (case q9a6 => k_mem); (case q9a7 => k_mem); (case q9a8 => k_mem); (case q9a9 => k_mem); (case q9a10 => k_mem)); intro f9 D9 T9 n9 tf9 ts9 ro9 h9 tk9 e9 ne9 ne8; (k_dflt (replace ne9 := offr (by assumption) (by k_mem) ne9)); (k_dflt (replace ne8 := offr (by assumption) (by k_mem) ne8)); intro ne7; clear ne7; intro RO9 F9 N9; (obtain ⟨g9, g8⟩ := late_f e9 (by omega) (by omega) (by omega)); clear e9; (try dsimp only)))
  k_with "call ref" => ((k_here; (with_reducible show wpAny _ _ (call (Value.ref 126) _) _ _ _); k_dflt (refine' next_none ?q9kB ?q9kX ?q9kT ?q9kk ?q9kd ?q9ku ?q9kF ?q9kN ?q9hx ?q9hdx ?q9hc ?q9hro ?q9C ?q9RO ?q9hk1 ?q9hk2 ?q9hr1 ?q9hr2 ?q9h5 ?q9h6 ?q9hr ?q9hrb ?q9g1 ?q9g1b ?q9g2 ?q9g2b ?q9w1 ?q9w2 ?q9a0 ?q9a1 ?_; (case q9kB => k_asm); (case q9kX => k_asm); (case q9kT => k_asm); (case q9kk => first | exact rfl | assumption); (case q9kd => ktr_room); (case q9ku => ktr_units); (case q9kF => k_asm); (case q9kN => k_asm); (case q9hx => k_mem); (case q9hdx => k_mem); (case q9hc => k_mem); (case q9hro => k_mem); (case q9C => assumption); (case q9RO => assumption); (case q9hk1 => k_mem); (case q9hk2 => k_mem); (case q9hr1 => k_mem); (case q9hr2 => k_mem); (case q9h5 => omega); (case q9h6 => omega); (case q9hr => omega); (case q9hrb => omega); (case q9g1 => first | omega | assumption); (case q9g1b => first | omega | assumption); (case q9g2 => first | omega | assumption); (case q9g2b => first | omega | assumption); (case q9w1 => first | omega | assumption); (case q9w2 => first | omega | assumption); (case q9a0 => exact rfl); (case q9a1 => exact rfl)); intro h9 tk9 F9 N9; (try dsimp only)))
  k_with "call ref" => ((k_here; (with_reducible show wpAny _ _ (call (Value.ref 138) _) _ _ _); k_dflt (refine' forget_two ?q9kB ?q9kX ?q9kT ?q9kk ?q9kd ?q9ku ?q9kF ?q9kN ?q9hx ?q9hdx ?q9hc ?q9hro ?q9C ?q9RO ?q9hk1 ?q9hk2 ?q9hr1 ?q9hr2 ?q9h5 ?q9h6 ?q9hr ?q9hrb ?q9g1 ?q9g1b ?q9g2 ?q9g2b ?q9w1 ?q9w2 ?q9a0 ?q9a1 ?q9a2 ?q9a3 ?q9a4 ?q9a5 ?q9a6 ?q9a7 ?q9a8 ?q9a9 ?_; (case q9kB => k_asm); (case q9kX => k_asm); (case q9kT => k_asm); (case q9kk => first | exact rfl | assumption); (case q9kd => ktr_room); (case q9ku => ktr_units); (case q9kF => k_asm); (case q9kN => k_asm); (case q9hx => k_mem); (case q9hdx => k_mem); (case q9hc => k_mem); (case q9hro => k_mem); (case q9C => assumption); (case q9RO => assumption); (case q9hk1 => k_mem); (case q9hk2 => k_mem); (case q9hr1 => k_mem); (case q9hr2 => k_mem); (case q9h5 => omega); (case q9h6 => omega); (case q9hr => omega); (case q9hrb => omega); (case q9g1 => first | omega | assumption); (case q9g1b => first | omega | assumption); (case q9g2 => first | omega | assumption); (case q9g2b => first | omega | assumption); (case q9w1 => first | omega | assumption); (case q9w2 => first | omega | assumption); (case q9a0 => exact rfl); (case q9a1 => exact rfl); (case q9a2 => exact two_same (by omega) (by omega) (by omega)); (case q9a3 => exact two_small (by omega) (by omega) (by omega)); (case q9a4 => (repeat (first | exact Pick.here | apply Pick.there))); (case q9a5 => k_all); (case q9a6 => k_mem); (case q9a7 => k_mem); (case q9a8 => k_mem); (case q9a9 => k_mem)); intro D9 n9 ro9 h9 tk9 ne9; clear ne9; intro RO9 F9 N9; (try dsimp only)))
  k_with "call ref" => ((k_here; (with_reducible show wpAny _ _ (call (Value.ref 159) _) _ _ _); k_dflt (refine' left_ok ?q9kB ?q9kX ?q9kT ?q9kk ?q9kd ?q9ku ?q9kF ?q9kN ?q9a0 ?q9a1 ?q9a2 ?q9a3 ?q9a4 ?_; (case q9kB => k_asm); (case q9kX => k_asm); (case q9kT => k_asm); (case q9kk => first | exact rfl | assumption); (case q9kd => ktr_room); (case q9ku => ktr_units); (case q9kF => k_asm); (case q9kN => k_asm); (case q9a0 => first | omega | assumption); (case q9a1 => first | omega | assumption); (case q9a2 => first | omega | assumption | (refine Int.mul_nonneg ?_ ?_ <;> omega)); (case q9a3 => first | omega | assumption); (case q9a4 => first | omega | assumption)); intro t9 h9 tk9 F9 N9; (try dsimp only)))
  k_with "call ref" => ((k_here; (with_reducible show wpAny _ _ (call (Value.ref 74) _) _ _ _); k_dflt (refine' until_ok ?q9kB ?q9kX ?q9kT ?q9kk ?q9kd ?q9ku ?q9kF ?q9kN ?q9a0 ?q9a1 ?q9a2 ?q9a3 ?q9a4 ?q9a5 ?_; (case q9kB => k_asm); (case q9kX => k_asm); (case q9kT => k_asm); (case q9kk => first | exact rfl | assumption); (case q9kd => ktr_room); (case q9ku => ktr_units); (case q9kF => k_asm); (case q9kN => k_asm); (case q9a0 => first | omega | assumption); (case q9a1 => first | omega | assumption); (case q9a2 => first | omega | assumption); (case q9a3 => first | omega | assumption); (case q9a4 => first | omega | assumption); (case q9a5 => first | omega | assumption)); intro u9 t9 h9 tk9 U9 F9 N9; (first | ((have e9 := until_four U9 (by omega) (by omega) (by omega)); subst e9) | ((have d9 := until_dec U9 (by omega) (by omega)); (obtain ⟨d0, d1, d2⟩ := d9))); (try dsimp only)))
  k_with "compareOp Eq ref ref" => ((k_here; (with_reducible show wpAny _ _ (compareOp CmpOp.Eq (Value.ref _) (Value.ref _)) _ _ _); k_dflt (refine' rows_eq_nil ?q9X ?q9N ?q9m ?q9b ?q9lb ?q9db ?q9u ?_; (case q9N => k_asm); (case q9m => k_mem); (case q9b => k_mem); (case q9X => assumption); (case q9lb => assumption); (case q9db => assumption); (case q9u => ktr_units)); (try dsimp only)))
  k_with "subscriptTail List" => ((k_here; (with_reducible show wpAny _ _ (subscriptTail _ _ (Value.ref _) (Value.int _ _)) _ _ _); (with_unfolding_all refine' item_menu ?q9k1 ?q9k2 ?q9k3 ?q9k4 ?q9k5 ?q9k7 ?_ ?q9k6; (case q9k1 => is_list); (case q9k2 => l_ints); (case q9k3 => omega); (case q9k4 => (simp only [List.length_cons, List.length_nil]; omega)); (case q9k5 => omega); (case q9k6 => with_unfolding_all rfl); (case q9k7 => (intro i9 hi9; simp only [List.mem_cons, List.not_mem_nil, or_false] at hi9; omega)); k_whole); intro v9 t9 v90 v91; (try dsimp only)))
  k_with "BoxTurn ret" => ((exfalso; omega))
  k_with "BoxTurn next" => ((k_dflt (refine' BoxTurn.intro ?q9F ?q9hm ?q9N ?q9P1 ?q9P2 ?q9P3 ?q9hi ?q9hz; (case q9F => k_asm); (case q9N => k_asm); (case q9hm => exact rfl); (case q9P1 => (repeat (first | exact Pick.here | apply Pick.there))); (case q9P2 => (repeat (first | exact Pick.here | apply Pick.there))); (case q9P3 => (repeat (first | exact Pick.here | apply Pick.there))); (case q9hi => k_asm); (case q9hz => k_asm))))
  k_with "pyIter ref" => ((k_here; (rename IsRange _ _ _ _ _ _ _ _ => hr9); k_dflt (refine' box_loop ?q9hh hr9 ?q9F ?q9N ?q9hb ?q9P1 ?q9P2 ?q9hI ?q9hz ?q9turn ?q9done; (case q9hh => exact rfl); (case q9F => k_asm); (case q9N => k_asm); (case q9hb => exact rfl); (case q9P1 => (repeat (first | exact Pick.here | apply Pick.there))); (case q9P2 => (repeat (first | exact Pick.here | apply Pick.there))); (case q9hI => k_asm); (case q9hz => omega); (case' q9turn => (intro I9 it9 i9 t9 h9 tk9 m9 ws9 ns9 c9 tc9 e91 e92 hbI9 hlI9 hI9 hz9 F9 N9; (try k_sweep); dsimp only [boxOf] at N9)); (case' q9done => (intro h9 tk9 m9 ws9 ns9 c9 tc9 e91 e92 hI9 hz9 F9 N9; (try k_sweep); dsimp only [boxOf] at N9)))))
  trivial
set_option maxRecDepth 100000 in
set_option maxHeartbeats 8000000 in
theorem PySem.Challenge.cw_rh0200_01_holds : PySem.Challenge.rw_rh0200_01.Holds := by
  refine hd ?_
  k_go0
  (all_goals try k_fold)
  k_steps
