import PyProof.Rows.All
import Wide.All
import OpenK.AllK
import Wide.FinOn
import KE.KStateDown
import Lean
import HandS.ForMost
import HandS.Defaults
import HandS.Zip
import HandS.More
import HandS.Walk
import HandS.Evl
import HandS.Style
import HandS.DeepEq
import HandS.SetKeys
import HandS.Strs
import HandS.SetFor
import HandS.Head0
import HandS.Head1
import HandS.Head2
import HandS.HeadEnd
import HandS.HeadHook1
import HandS.HeadHook2
import HandS.HeadHook3
import HandS.HeadHook4
import PySem.Challenge.RW_muchalike_k93_whole_shares_along_chains
set_option Elab.async false
set_option linter.all false
set_option maxRecDepth 100000
set_option maxHeartbeats 4000000
namespace Muc

/-! ### two inequalities -/
theorem jac (x y z t a b c D1 D2 D3 : Int) (h1 : D1 = a + b - x) (h2 : D2 = b + c - y) (h3 : D3 = a + c - z)
  (ht : 0 ≤ t) (p1 : 0 < D1) (p2 : 0 < D2) (p3 : 0 < D3) (x1 : t ≤ x) (y1 : t ≤ y) (z1 : t ≤ z)
  (q1 : x + z ≤ a + t) (q2 : x + y ≤ b + t) (q3 : y + z ≤ c + t) : x*D2*D3 + y*D1*D3 ≤ D1*D2*D3 + z*D1*D2 := by
  have e : ∃ N ob P Q R, N = D3 + ob ∧ ob = b - x - y + t ∧ P = D1 - x ∧ Q = D2 - y ∧ R = D3 - z := ⟨_, _, _, _, _, rfl, rfl, rfl, rfl, rfl⟩
  obtain ⟨N, ob, P, Q, R, eN, eo, eP, eQ, eR⟩ := e
  have f1 : 0 ≤ (D3 - R) * ob := Int.mul_nonneg (by omega) (by omega)
  have f2 : 0 ≤ D1 * D2 := Int.mul_nonneg (by omega) (by omega)
  have f3 : 0 ≤ D3 * (D1 * D2) := Int.mul_nonneg (by omega) f2
  have f4 : 0 ≤ (P + Q - R - ob) * (D3 * (D1 * D2)) := Int.mul_nonneg (by omega) f3
  have f5 : 0 ≤ (N - D1) * (P * (D2 * D3)) := Int.mul_nonneg (by omega) (Int.mul_nonneg (by omega) (Int.mul_nonneg (by omega) (by omega)))
  have f6 : 0 ≤ (N - D2) * (Q * (D1 * D3)) := Int.mul_nonneg (by omega) (Int.mul_nonneg (by omega) (Int.mul_nonneg (by omega) (by omega)))
  have f7 : 0 ≤ ((D3 - R) * ob) * (D1 * D2) := Int.mul_nonneg f1 f2
  have g : 0 ≤ (P * (D2 * D3) + Q * (D1 * D3) - R * (D1 * D2)) * N := by
    have : (P * (D2 * D3) + Q * (D1 * D3) - R * (D1 * D2)) * N = (N - D1) * (P * (D2 * D3)) + (N - D2) * (Q * (D1 * D3)) + (P + Q - R - ob) * (D3 * (D1 * D2)) + ((D3 - R) * ob) * (D1 * D2) := by
      subst eN
      grind
    rw [this]; omega
  have hN : 0 < N := by omega
  have g2 : 0 ≤ P * (D2 * D3) + Q * (D1 * D3) - R * (D1 * D2) := by
    rcases Int.lt_or_le (P * (D2 * D3) + Q * (D1 * D3) - R * (D1 * D2)) 0 with h | h
    · exact absurd (Int.mul_neg_of_neg_of_pos h hN) (by omega)
    · exact h
  subst eP eQ eR
  grind

theorem gre0 (x y z α β γ M1 M2 : Int) (hαγ : γ ≤ α) (hM1 : (M1 = α ∧ β ≤ α) ∨ (M1 = β ∧ α ≤ β)) (hM2 : (M2 = γ ∧ β ≤ γ) ∨ (M2 = β ∧ γ ≤ β))
  (x0 : 0 ≤ x) (y0 : 0 ≤ y) (z0 : 0 ≤ z) (xα : x ≤ α) (xβ : x ≤ β) (yβ : y ≤ β) (yγ : y ≤ γ) (tr : x + y ≤ β + z)
  (pα : 0 < α) (p1 : 0 < M1) (p2 : 0 < M2) : x * M2 * α + y * M1 * α ≤ M1 * M2 * α + z * M1 * M2 := by
  rcases hM1 with ⟨e1, l1⟩ | ⟨e1, l1⟩
  · rcases hM2 with ⟨e2, l2⟩ | ⟨e2, l2⟩
    · have f1 : 0 ≤ (γ - y) * (α - γ) := Int.mul_nonneg (by omega) (by omega)
      have f2 : 0 ≤ (z + β - x - y) * γ := Int.mul_nonneg (by omega) (by omega)
      have f3 : 0 ≤ (γ - β) * γ := Int.mul_nonneg (by omega) (by omega)
      have g : 0 ≤ α * γ + z * γ - x * γ - y * α := by grind
      have := Int.mul_nonneg (Int.le_of_lt pα) g
      subst e1 e2
      grind
    · have f1 : 0 ≤ (β - y) * (α - β) := Int.mul_nonneg (by omega) (by omega)
      have f2 : 0 ≤ (z + β - x - y) * β := Int.mul_nonneg (by omega) (by omega)
      have g : 0 ≤ α * β + z * β - x * β - y * α := by grind
      have := Int.mul_nonneg (Int.le_of_lt pα) g
      subst e1 e2
      grind
  · rcases hM2 with ⟨e2, l2⟩ | ⟨e2, l2⟩
    · have ea : α = β := by omega
      have eg : γ = β := by omega
      have em : M1 = β := e1
      have en : M2 = β := by omega
      have g := Int.mul_nonneg (show 0 ≤ β + z - x - y by omega) (Int.mul_nonneg (show 0 ≤ β by omega) (show 0 ≤ β by omega))
      have e : β * β * β + z * β * β - (x * β * β + y * β * β) = (β + z - x - y) * (β * β) := by grind
      rw [em, en, ea]
      omega
    · have f1 : 0 ≤ (z + β - x - y) * α := Int.mul_nonneg (by omega) (by omega)
      have f2 : 0 ≤ z * (β - α) := Int.mul_nonneg (by omega) (by omega)
      have g : 0 ≤ β * α + z * β - x * α - y * α := by grind
      have := Int.mul_nonneg (Int.le_of_lt (show 0 < β by omega)) g
      subst e1 e2
      grind
theorem gre (x y z α β γ M1 M2 M3 : Int) (hM1 : (M1 = α ∧ β ≤ α) ∨ (M1 = β ∧ α ≤ β)) (hM2 : (M2 = γ ∧ β ≤ γ) ∨ (M2 = β ∧ γ ≤ β)) (hM3 : (M3 = α ∧ γ ≤ α) ∨ (M3 = γ ∧ α ≤ γ))
  (x0 : 0 ≤ x) (y0 : 0 ≤ y) (z0 : 0 ≤ z) (xα : x ≤ α) (xβ : x ≤ β) (yβ : y ≤ β) (yγ : y ≤ γ) (tr : x + y ≤ β + z)
  (pα : 0 < α) (pγ : 0 < γ) (p1 : 0 < M1) (p2 : 0 < M2) : x * M2 * M3 + y * M1 * M3 ≤ M1 * M2 * M3 + z * M1 * M2 := by
  rcases hM3 with ⟨e, l⟩ | ⟨e, l⟩
  · subst e
    exact gre0 x y z M3 β γ M1 M2 l hM1 hM2 x0 y0 z0 xα xβ yβ yγ tr pα p1 p2
  · subst e
    have g := gre0 y x z M3 β α M2 M1 l hM2 hM1 y0 x0 z0 yγ yβ xβ xα (by omega) pγ p2 p1
    grind

/-! ### weights of sets -/
section
variable {α : Type} [DecidableEq α]
def sw (wt : α → Nat) (A : List α) : Nat := (A.map wt).sum
def cm (wt : α → Nat) (A B : List α) : Nat := sw wt (A.filter fun w => decide (w ∈ B))
def tm (wt : α → Nat) (A B C : List α) : Nat := sw wt (A.filter fun w => decide (w ∈ B) && decide (w ∈ C))
theorem sw_nil (wt : α → Nat) : sw wt [] = 0 := rfl
theorem sw_cons (wt : α → Nat) (a : α) (A : List α) : sw wt (a :: A) = wt a + sw wt A := by
  unfold sw; rw [List.map_cons, List.sum_cons]
theorem sw_perm {wt : α → Nat} {A B : List α} (h : A.Perm B) : sw wt A = sw wt B := List.Perm.sum_nat (h.map wt)
theorem filt_cons (p : α → Bool) (wt : α → Nat) (a : α) (A : List α) : sw wt ((a :: A).filter p) = (if p a = true then wt a else 0) + sw wt (A.filter p) := by
  rw [List.filter_cons]
  split
  · rw [sw_cons]
  · omega
theorem filt_le (p : α → Bool) (wt : α → Nat) : ∀ A : List α, sw wt (A.filter p) ≤ sw wt A
  | [] => Nat.le_refl _
  | a :: A => by
    have ih := filt_le p wt A
    rw [filt_cons, sw_cons]
    split <;> omega
theorem filt_mono (p q : α → Bool) (wt : α → Nat) (h : ∀ a, p a = true → q a = true) : ∀ A : List α, sw wt (A.filter p) ≤ sw wt (A.filter q)
  | [] => Nat.le_refl _
  | a :: A => by
    have ih := filt_mono p q wt h A
    rw [filt_cons, filt_cons]
    have := h a
    split <;> split <;> simp_all <;> omega
theorem filt_two (p q : α → Bool) (wt : α → Nat) : ∀ A : List α, sw wt (A.filter p) + sw wt (A.filter q) ≤ sw wt A + sw wt (A.filter fun a => p a && q a)
  | [] => by simp [sw]
  | a :: A => by
    have ih := filt_two p q wt A
    rw [filt_cons, filt_cons, filt_cons, sw_cons]
    by_cases hp : p a = true <;> by_cases hq : q a = true <;> simp [hp, hq] <;> omega
theorem cm_le (wt : α → Nat) (A B : List α) : cm wt A B ≤ sw wt A := filt_le _ _ _
theorem cm_self (wt : α → Nat) (A : List α) : cm wt A A = sw wt A := by
  unfold cm
  rw [List.filter_eq_self.mpr fun a ha => decide_eq_true ha]
theorem filt_perm {A B : List α} {p q : α → Bool} (hA : A.Nodup) (hB : B.Nodup) (h : ∀ a, (a ∈ A ∧ p a = true) ↔ (a ∈ B ∧ q a = true)) : (A.filter p).Perm (B.filter q) :=
  (List.perm_ext_iff_of_nodup (hA.filter p) (hB.filter q)).mpr fun a => by
    rw [List.mem_filter, List.mem_filter]
    exact h a
theorem cm_comm (wt : α → Nat) {A B : List α} (hA : A.Nodup) (hB : B.Nodup) : cm wt A B = cm wt B A :=
  sw_perm (filt_perm hA hB fun a => by simp only [decide_eq_true_eq]; exact And.comm)
theorem tm_rot (wt : α → Nat) {A B C : List α} (hA : A.Nodup) (hB : B.Nodup) : tm wt A B C = tm wt B A C :=
  sw_perm (filt_perm hA hB fun a => by simp only [Bool.and_eq_true, decide_eq_true_eq]; constructor <;> (rintro ⟨h1, h2, h3⟩; exact ⟨h2, h1, h3⟩))
theorem tm_swap (wt : α → Nat) {A B C : List α} : tm wt A B C = tm wt A C B := by
  unfold tm
  congr 1
  refine List.filter_congr fun a _ => ?_
  rw [Bool.and_comm]
theorem tm_le (wt : α → Nat) (A B C : List α) : tm wt A B C ≤ cm wt A B := filt_mono _ _ wt (fun a h => by simp only [Bool.and_eq_true] at h; exact h.1) A
theorem tm_two (wt : α → Nat) (A B C : List α) : cm wt A B + cm wt A C ≤ sw wt A + tm wt A B C := filt_two _ _ wt A

/-! ### shares -/
/-- the fraction in lowest terms -/
def frac (t b : Nat) : Nat × Nat := (t / Nat.gcd t b, b / Nat.gcd t b)
def den (both : Bool) (a b c : Nat) : Nat := if both = true then a + b - c else (if a < b then b else a)
/-- the share of weights a, b with c in common -/
def shr (both : Bool) (a b c : Nat) : Nat × Nat := if a = 0 ∨ b = 0 then (0, 1) else frac c (den both a b c)
def shS (both : Bool) (wt : α → Nat) (A B : List α) : Nat × Nat := shr both (sw wt A) (sw wt B) (cm wt A B)
theorem frac_eq {t b : Nat} (hb : 0 < b) : ∃ g, 0 < g ∧ t = (frac t b).1 * g ∧ b = (frac t b).2 * g ∧ 0 < (frac t b).2 := by
  have hg : 0 < Nat.gcd t b := Nat.gcd_pos_of_pos_right _ hb
  have h1 : t = t / Nat.gcd t b * Nat.gcd t b := (Nat.div_mul_cancel (Nat.gcd_dvd_left t b)).symm
  have h2 : b = b / Nat.gcd t b * Nat.gcd t b := (Nat.div_mul_cancel (Nat.gcd_dvd_right t b)).symm
  refine ⟨_, hg, h1, h2, ?_⟩
  show 0 < b / Nat.gcd t b
  exact Nat.div_pos (Nat.le_of_dvd hb (Nat.gcd_dvd_right t b)) hg
theorem frac_le (t b : Nat) (h : t ≤ b) : (frac t b).1 ≤ (frac t b).2 := Nat.div_le_div_right h
theorem frac_zero {b : Nat} (hb : 0 < b) : frac 0 b = (0, 1) := by
  unfold frac
  rw [Nat.gcd_zero_left, Nat.zero_div, Nat.div_self hb]
theorem frac_bd (t b : Nat) : (frac t b).1 ≤ t ∧ (frac t b).2 ≤ b := ⟨Nat.div_le_self _ _, Nat.div_le_self _ _⟩
theorem den_pos {both : Bool} {a b c : Nat} (ha : a ≠ 0) (hb : b ≠ 0) (h1 : c ≤ a) (h2 : c ≤ b) : 0 < den both a b c ∧ c ≤ den both a b c := by
  unfold den
  split
  · omega
  · split <;> omega
theorem den_comm (both : Bool) (a b c : Nat) : den both a b c = den both b a c := by
  unfold den
  split
  · omega
  · split <;> split <;> omega
theorem shr_comm (both : Bool) (a b c : Nat) : shr both a b c = shr both b a c := by
  unfold shr
  rw [den_comm]
  by_cases h : a = 0 ∨ b = 0
  · rw [if_pos h, if_pos h.symm]
  · rw [if_neg h, if_neg fun q => h q.symm]
theorem shr_pos {both : Bool} {a b c : Nat} (h1 : c ≤ a) (h2 : c ≤ b) : 0 < (shr both a b c).2 ∧ (shr both a b c).1 ≤ (shr both a b c).2 := by
  unfold shr
  split
  · exact ⟨Nat.one_pos, Nat.zero_le _⟩
  · rename_i h
    have hd := den_pos (both := both) (fun e => h (.inl e)) (fun e => h (.inr e)) h1 h2
    obtain ⟨g, hg, e1, e2, hp⟩ := frac_eq (t := c) hd.1
    exact ⟨hp, frac_le _ _ hd.2⟩
theorem shr_bd {both : Bool} {a b c : Nat} : (shr both a b c).1 ≤ c ∧ (shr both a b c).2 ≤ 1 + (a + b) := by
  unfold shr
  split
  · exact ⟨Nat.zero_le _, by show 1 ≤ 1 + (a + b); omega⟩
  · have h := frac_bd c (den both a b c)
    refine ⟨h.1, Nat.le_trans h.2 ?_⟩
    unfold den
    split
    · omega
    · split <;> omega
/-- a share that isn't nought is a share of at least one part in its bottom -/
theorem shr_zero {both : Bool} {a b c : Nat} (h1 : c ≤ a) (h2 : c ≤ b) (h : (shr both a b c).1 = 0) : shr both a b c = (0, 1) := by
  unfold shr at h ⊢
  split
  · rfl
  · rename_i hn
    rw [if_neg hn] at h
    have hd := den_pos (both := both) (fun e => hn (.inl e)) (fun e => hn (.inr e)) h1 h2
    obtain ⟨g, hg, e1, e2, hp⟩ := frac_eq (t := c) hd.1
    rw [h, Nat.zero_mul] at e1
    subst e1
    exact frac_zero hd.1
theorem shS_comm (both : Bool) (wt : α → Nat) {A B : List α} (hA : A.Nodup) (hB : B.Nodup) : shS both wt A B = shS both wt B A := by
  unfold shS
  rw [shr_comm, cm_comm wt hA hB]
theorem cm_le2 (wt : α → Nat) {A B : List α} (hA : A.Nodup) (hB : B.Nodup) : cm wt A B ≤ sw wt B := by
  rw [cm_comm wt hA hB]; exact cm_le wt B A
theorem shS_pos (both : Bool) (wt : α → Nat) {A B : List α} (hA : A.Nodup) (hB : B.Nodup) : 0 < (shS both wt A B).2 ∧ (shS both wt A B).1 ≤ (shS both wt A B).2 :=
  shr_pos (cm_le wt A B) (cm_le2 wt hA hB)

/-! ### the triangle -/
theorem scale {t1 t2 t3 b1 b2 b3 g1 g2 g3 : Int} (h1 : 0 < g1) (h2 : 0 < g2) (h3 : 0 < g3)
    (h : (t1 * g1) * (b2 * g2) * (b3 * g3) + (t2 * g2) * (b1 * g1) * (b3 * g3) ≤ (b1 * g1) * (b2 * g2) * (b3 * g3) + (t3 * g3) * (b1 * g1) * (b2 * g2)) :
    t1 * b2 * b3 + t2 * b1 * b3 ≤ b1 * b2 * b3 + t3 * b1 * b2 := by
  have hg : 0 < g1 * g2 * g3 := Int.mul_pos (Int.mul_pos h1 h2) h3
  have e : (b1 * b2 * b3 + t3 * b1 * b2 - (t1 * b2 * b3 + t2 * b1 * b3)) * (g1 * g2 * g3) = ((b1 * g1) * (b2 * g2) * (b3 * g3) + (t3 * g3) * (b1 * g1) * (b2 * g2)) - ((t1 * g1) * (b2 * g2) * (b3 * g3) + (t2 * g2) * (b1 * g1) * (b3 * g3)) := by grind
  rcases Int.lt_or_le (b1 * b2 * b3 + t3 * b1 * b2 - (t1 * b2 * b3 + t2 * b1 * b3)) 0 with q | q
  · have := Int.mul_neg_of_neg_of_pos q hg
    omega
  · omega
theorem ofN {t b1 b2 : Nat} : ((t * b1 * b2 : Nat) : Int) = (t : Int) * b1 * b2 := by push_cast; rfl
/-- what two share and 1 together -/
def Tri (s1 s2 s3 : Nat × Nat) : Prop := (s1.1 : Int) * s2.2 * s3.2 + s2.1 * s1.2 * s3.2 ≤ s1.2 * s2.2 * s3.2 + s3.1 * s1.2 * s2.2
theorem tri_raw (both : Bool) (wt : α → Nat) {A B C : List α} (hA : A.Nodup) (hB : B.Nodup) (hC : C.Nodup) (a0 : sw wt A ≠ 0) (b0 : sw wt B ≠ 0) (c0 : sw wt C ≠ 0) :
    Tri (cm wt A B, den both (sw wt A) (sw wt B) (cm wt A B)) (cm wt B C, den both (sw wt B) (sw wt C) (cm wt B C)) (cm wt A C, den both (sw wt A) (sw wt C) (cm wt A C)) := by
  have l1 := cm_le wt A B
  have l2 := cm_le2 wt hA hB
  have l3 := cm_le wt B C
  have l4 := cm_le2 wt hB hC
  have l5 := cm_le wt A C
  have l6 := cm_le2 wt hA hC
  have k1 := tm_two wt A B C
  have k2 := tm_two wt B A C
  have k3 := tm_two wt C A B
  have e1 : tm wt B A C = tm wt A B C := (tm_rot wt hA hB).symm
  have e2 : tm wt C A B = tm wt A B C := by rw [tm_rot wt hC hA, tm_swap]
  have m1 := tm_le wt A B C
  have m2 : tm wt A B C ≤ cm wt B C := by rw [tm_rot wt hA hB, tm_swap]; exact tm_le wt B C A
  have m3 : tm wt A B C ≤ cm wt A C := by rw [tm_swap]; exact tm_le wt A C B
  have c1 : cm wt B A = cm wt A B := (cm_comm wt hA hB).symm
  have c2 : cm wt C A = cm wt A C := (cm_comm wt hA hC).symm
  have c3 : cm wt C B = cm wt B C := (cm_comm wt hB hC).symm
  rw [e1, c1] at k2
  rw [e2, c2, c3] at k3
  have d1 := den_pos (both := both) a0 b0 l1 l2
  have d2 := den_pos (both := both) b0 c0 l3 l4
  have d3 := den_pos (both := both) a0 c0 l5 l6
  unfold Tri
  cases both with
  | true =>
    unfold den at d1 d2 d3 ⊢
    simp only [if_true] at d1 d2 d3 ⊢
    refine jac _ _ _ (tm wt A B C : Nat) (sw wt A : Nat) (sw wt B : Nat) (sw wt C : Nat) _ _ _ ?_ ?_ ?_ ?_ ?_ ?_ ?_ ?_ ?_ ?_ ?_ ?_ ?_ <;> omega
  | false =>
    unfold den at d1 d2 d3 ⊢
    simp only [Bool.false_eq_true, if_false] at d1 d2 d3 ⊢
    refine gre _ _ _ (sw wt A : Nat) (sw wt B : Nat) (sw wt C : Nat) _ _ _ ?_ ?_ ?_ ?_ ?_ ?_ ?_ ?_ ?_ ?_ ?_ ?_ ?_ ?_ ?_
    · split <;> omega
    · split <;> omega
    · split <;> omega
    all_goals omega
theorem tri (both : Bool) (wt : α → Nat) {A B C : List α} (hA : A.Nodup) (hB : B.Nodup) (hC : C.Nodup) : Tri (shS both wt A B) (shS both wt B C) (shS both wt A C) := by
  have pAB := shS_pos both wt hA hB
  have pBC := shS_pos both wt hB hC
  have pAC := shS_pos both wt hA hC
  by_cases a0 : sw wt A = 0
  · have e1 : shS both wt A B = (0, 1) := if_pos (.inl a0)
    have e3 : shS both wt A C = (0, 1) := if_pos (.inl a0)
    unfold Tri
    rw [e1, e3]
    simp only [Int.zero_mul, Int.natCast_one, Int.mul_one, Int.one_mul, Int.natCast_zero, Int.zero_add, Int.add_zero]
    omega
  by_cases b0 : sw wt B = 0
  · have e1 : shS both wt A B = (0, 1) := if_pos (.inr b0)
    have e2 : shS both wt B C = (0, 1) := if_pos (.inl b0)
    unfold Tri
    rw [e1, e2]
    simp only [Int.zero_mul, Int.natCast_one, Int.mul_one, Int.one_mul, Int.natCast_zero, Int.zero_add, Int.add_zero]
    omega
  by_cases c0 : sw wt C = 0
  · have e2 : shS both wt B C = (0, 1) := if_pos (.inr c0)
    have e3 : shS both wt A C = (0, 1) := if_pos (.inr c0)
    unfold Tri
    rw [e2, e3]
    simp only [Int.zero_mul, Int.natCast_one, Int.mul_one, Int.one_mul, Int.natCast_zero, Int.zero_add, Int.add_zero]
    omega
  have h := tri_raw both wt hA hB hC a0 b0 c0
  have e1 : shS both wt A B = frac _ _ := if_neg (fun q => q.elim a0 b0)
  have e2 : shS both wt B C = frac _ _ := if_neg (fun q => q.elim b0 c0)
  have e3 : shS both wt A C = frac _ _ := if_neg (fun q => q.elim a0 c0)
  obtain ⟨g1, hg1, t1, d1, _⟩ := frac_eq (t := cm wt A B) (den_pos (both := both) a0 b0 (cm_le wt A B) (cm_le2 wt hA hB)).1
  obtain ⟨g2, hg2, t2, d2, _⟩ := frac_eq (t := cm wt B C) (den_pos (both := both) b0 c0 (cm_le wt B C) (cm_le2 wt hB hC)).1
  obtain ⟨g3, hg3, t3, d3, _⟩ := frac_eq (t := cm wt A C) (den_pos (both := both) a0 c0 (cm_le wt A C) (cm_le2 wt hA hC)).1
  rw [← e1] at t1 d1
  rw [← e2] at t2 d2
  rw [← e3] at t3 d3
  unfold Tri at h ⊢
  simp only at h
  rw [d1, d2, d3, t1, t2, t3] at h
  push_cast at h
  exact scale (Int.natCast_pos.mpr hg1) (Int.natCast_pos.mpr hg2) (Int.natCast_pos.mpr hg3) h

/-! ### along a chain -/
/-- what a share lacks to 1 is no more than m times what p / q lacks -/
def Lk (s : Nat × Nat) (m p q : Nat) : Prop := ((s.2 : Int) - s.1) * q ≤ m * (q - p) * s.2
theorem lk_self (both : Bool) (wt : α → Nat) {A : List α} (h : sw wt A ≠ 0) (p q : Nat) : Lk (shS both wt A A) 0 p q := by
  unfold shS
  rw [cm_self]
  have e : shr both (sw wt A) (sw wt A) (sw wt A) = (1, 1) := by
    unfold shr
    rw [if_neg (fun z => z.elim h h)]
    have : den both (sw wt A) (sw wt A) (sw wt A) = sw wt A := by
      unfold den
      split
      · omega
      · split <;> rfl
    rw [this]
    unfold frac
    rw [Nat.gcd_self, Nat.div_self (Nat.pos_of_ne_zero h)]
  rw [e]
  unfold Lk
  simp
theorem lk_step {s1 s2 s3 : Nat × Nat} {m p q : Nat} (h1 : 0 < s1.2) (h2 : 0 < s2.2) (t : Tri s1 s2 s3) (l : Lk s1 m p q) (g : (p : Int) * s2.2 ≤ s2.1 * q) : Lk s3 (m + 1) p q := by
  unfold Lk Tri at *
  obtain ⟨t1, b1⟩ := s1
  obtain ⟨t2, b2⟩ := s2
  obtain ⟨t3, b3⟩ := s3
  simp only at *
  have hb : (0 : Int) < (b1 : Int) * b2 := Int.mul_pos (by omega) (by omega)
  have f1 : 0 ≤ ((b1 : Int) * b2 * b3 + t3 * b1 * b2 - (t1 * b2 * b3 + t2 * b1 * b3)) * q := Int.mul_nonneg (by omega) (by omega)
  have f2 : 0 ≤ ((m : Int) * (q - p) * b1 - (b1 - t1) * q) * (b2 * b3) := Int.mul_nonneg (by omega) (Int.mul_nonneg (by omega) (by omega))
  have f3 : 0 ≤ ((t2 : Int) * q - p * b2) * (b1 * b3) := Int.mul_nonneg (by omega) (Int.mul_nonneg (by omega) (by omega))
  have e : (((m : Int) + 1) * (q - p) * b3 - (b3 - t3) * q) * (b1 * b2) = ((b1 : Int) * b2 * b3 + t3 * b1 * b2 - (t1 * b2 * b3 + t2 * b1 * b3)) * q + ((m : Int) * (q - p) * b1 - (b1 - t1) * q) * (b2 * b3) + ((t2 : Int) * q - p * b2) * (b1 * b3) := by grind
  push_cast
  rcases Int.lt_or_le (((m : Int) + 1) * (q - p) * b3 - (b3 - t3) * q) 0 with z | z
  · have := Int.mul_neg_of_neg_of_pos z hb
    omega
  · omega
end
end Muc
namespace Muc
/-! ### graphs -/
def outs (E : List (Int × Int)) (x : Int) : List Int := (E.filter fun e => decide (e.1 = x)).map (·.2)
theorem mem_outs {E : List (Int × Int)} {x y : Int} : y ∈ outs E x ↔ (x, y) ∈ E := by
  unfold outs
  rw [List.mem_map]
  constructor
  · rintro ⟨⟨a, b⟩, h, rfl⟩
    rw [List.mem_filter, decide_eq_true_eq] at h
    obtain ⟨h1, h2⟩ := h
    simp only at h2
    subst h2
    exact h1
  · intro h
    exact ⟨(x, y), List.mem_filter.mpr ⟨h, by simp⟩, rfl⟩
theorem outs_snoc (E : List (Int × Int)) (a b x : Int) : outs (E ++ [(a, b)]) x = if x = a then outs E x ++ [b] else outs E x := by
  unfold outs
  rw [List.filter_append, List.map_append]
  by_cases h : x = a
  · subst h
    simp
  · rw [if_neg h]
    have : ¬ a = x := fun e => h e.symm
    simp [this]
theorem outs_nil (x : Int) : outs [] x = [] := rfl

inductive Reach (E : List (Int × Int)) (a : Int) : Int → Prop where
  | refl : Reach E a a
  | step {b c : Int} : Reach E a b → (b, c) ∈ E → Reach E a c
theorem Reach.trans {E : List (Int × Int)} {a b c : Int} (h : Reach E a b) (k : Reach E b c) : Reach E a c := by
  induction k with
  | refl => exact h
  | step _ e ih => exact .step ih e
theorem Reach.symm {E : List (Int × Int)} (hE : ∀ x y, (x, y) ∈ E → (y, x) ∈ E) {a b : Int} (h : Reach E a b) : Reach E b a := by
  induction h with
  | refl => exact .refl
  | step _ e ih => exact Reach.trans (.step .refl (hE _ _ e)) ih

/-- what a walk from a start has told so far: each number met, and the one ahead of it -/
structure Tree (E : List (Int × Int)) (start : Int) (es : List (Int × Option Int)) : Prop where
  nd : (es.map (·.1)).Nodup
  hd : es[0]? = some (start, none)
  pr : ∀ i x o, 0 < i → es[i]? = some (x, o) → ∃ j p, j < i ∧ o = some p ∧ (es.map (·.1))[j]? = some p ∧ (p, x) ∈ E
theorem Tree.new (E : List (Int × Int)) (start : Int) : Tree E start [(start, none)] where
  nd := by simp
  hd := rfl
  pr := by
    intro i x o hi h
    obtain ⟨k, rfl⟩ : ∃ k, i = k + 1 := ⟨i - 1, by omega⟩
    simp at h
theorem Tree.add {E : List (Int × Int)} {start : Int} {es : List (Int × Option Int)} (T : Tree E start es) {x y : Int} (hx : x ∈ es.map (·.1)) (hy : y ∉ es.map (·.1)) (he : (x, y) ∈ E) : Tree E start (es ++ [(y, some x)]) where
  nd := by
    rw [List.map_append, List.nodup_append]
    refine ⟨T.nd, by simp, ?_⟩
    intro a ha b hb e
    simp at hb
    subst hb
    subst e
    exact hy ha
  hd := by
    have h := T.hd
    have hl : 0 < es.length := (List.getElem?_eq_some_iff.mp h).1
    rw [List.getElem?_append_left hl]
    exact h
  pr := by
    intro i z o hi h
    rw [List.map_append]
    by_cases hlt : i < es.length
    · rw [List.getElem?_append_left hlt] at h
      obtain ⟨j, p, hj, ho, hp, hE⟩ := T.pr i z o hi h
      refine ⟨j, p, hj, ho, ?_, hE⟩
      rw [List.getElem?_append_left (by rw [List.length_map]; omega)]
      exact hp
    · rw [List.getElem?_append_right (by omega)] at h
      have hi2 : i = es.length := by
        rcases Nat.lt_or_ge (i - es.length) 1 with q | q
        · omega
        · rw [List.getElem?_eq_none (by simpa using q)] at h
          cases h
      subst hi2
      rw [Nat.sub_self] at h
      obtain ⟨rfl, rfl⟩ : y = z ∧ some x = o := by simpa using h
      obtain ⟨j, hj⟩ := List.mem_iff_getElem?.mp hx
      have hjl : j < (es.map (·.1)).length := (List.getElem?_eq_some_iff.mp hj).1
      rw [List.length_map] at hjl
      refine ⟨j, x, hjl, rfl, ?_, he⟩
      rw [List.getElem?_append_left (by rw [List.length_map]; omega)]
      exact hj
theorem Tree.at {E : List (Int × Int)} {start : Int} {es : List (Int × Option Int)} (T : Tree E start es) : ∀ (n i : Nat) (x : Int), i ≤ n → (es.map (·.1))[i]? = some x → Reach E start x := by
  intro n
  induction n with
  | zero =>
    intro i x hi h
    have : i = 0 := by omega
    subst this
    rw [List.getElem?_map, T.hd] at h
    simp at h
    subst h
    exact .refl
  | succ n ih =>
    intro i x hi h
    rw [List.getElem?_map] at h
    cases e : es[i]? with
    | none => rw [e] at h; cases h
    | some q =>
      rw [e] at h
      obtain ⟨a, o⟩ := q
      simp at h
      subst h
      by_cases h0 : i = 0
      · subst h0
        rw [T.hd] at e
        simp at e
        rw [← e.1]
        exact .refl
      · obtain ⟨j, p, hj, _, hp, hE⟩ := T.pr i a o (by omega) e
        exact .step (ih j p (by omega) hp) hE
theorem Tree.sound {E : List (Int × Int)} {start : Int} {es : List (Int × Option Int)} (T : Tree E start es) {x : Int} (h : x ∈ es.map (·.1)) : Reach E start x := by
  obtain ⟨i, hi⟩ := List.mem_iff_getElem?.mp h
  exact T.at i i x (Nat.le_refl _) hi
theorem closed_all {E : List (Int × Int)} {start : Int} {ks : List Int} (h0 : start ∈ ks) (hc : ∀ x ∈ ks, ∀ y, (x, y) ∈ E → y ∈ ks) {x : Int} (h : Reach E start x) : x ∈ ks := by
  induction h with
  | refl => exact h0
  | step _ e ih => exact hc _ ih _ e
theorem Tree.start_mem {E : List (Int × Int)} {start : Int} {es : List (Int × Option Int)} (T : Tree E start es) : start ∈ es.map (·.1) := by
  refine List.mem_iff_getElem?.mpr ⟨0, ?_⟩
  rw [List.getElem?_map, T.hd]
  rfl
/-- unlike numbers of a list of others are no more than those -/
theorem nodup_len {α : Type} [DecidableEq α] : ∀ (l m : List α), l.Nodup → (∀ x ∈ l, x ∈ m) → l.length ≤ m.length
  | [], _, _, _ => Nat.zero_le _
  | a :: l, m, hn, hs => by
    have ha : a ∈ m := hs a List.mem_cons_self
    obtain ⟨h1, h2⟩ := List.nodup_cons.mp hn
    have ih := nodup_len l (m.erase a) h2 fun x hx => by
      have hne : x ≠ a := fun e => h1 (e ▸ hx)
      exact (List.mem_erase_of_ne hne).mpr (hs x (List.mem_cons_of_mem _ hx))
    rw [List.length_erase_of_mem ha] at ih
    have : 0 < m.length := List.length_pos_of_mem ha
    rw [List.length_cons]
    omega
theorem few {ks : List Int} {n : Nat} (hn : ks.Nodup) (hb : ∀ x ∈ ks, 0 ≤ x ∧ x < n) : ks.length ≤ n := by
  have h := nodup_len ks ((List.range n).map fun k : Nat => (k : Int)) hn fun x hx => by
    obtain ⟨h0, h1⟩ := hb x hx
    exact List.mem_map.mpr ⟨x.toNat, List.mem_range.mpr (by omega), by omega⟩
  rw [List.length_map, List.length_range] at h
  exact h
/-- a list of numbers, each next two a pair -/
def IsCh (E : List (Int × Int)) : List Int → Prop
  | x :: y :: r => (x, y) ∈ E ∧ IsCh E (y :: r)
  | _ => True

section
variable {α : Type} [DecidableEq α]
theorem lk_chain {both : Bool} {wt : α → Nat} {E : List (Int × Int)} {S : Int → List α} {p q : Nat} (hN : ∀ x, (S x).Nodup)
    (hE : ∀ x y, (x, y) ∈ E → (p : Int) * (shS both wt (S x) (S y)).2 ≤ (shS both wt (S x) (S y)).1 * q) :
    ∀ (r : List Int) (x i : Int) (m : Nat), Lk (shS both wt (S i) (S x)) m p q → IsCh E (x :: r) → ∀ z, (x :: r).getLast? = some z → Lk (shS both wt (S i) (S z)) (m + r.length) p q
  | [], x, i, m, h, _, z, hz => by
    obtain rfl : x = z := by simpa using hz
    exact h
  | y :: r, x, i, m, h, hc, z, hz => by
    obtain ⟨h1, h2⟩ := hc
    have s := lk_step (shS_pos both wt (hN i) (hN x)).1 (shS_pos both wt (hN x) (hN y)).1 (tri both wt (hN i) (hN x) (hN y)) h (hE _ _ h1)
    have ih := lk_chain hN hE r y i (m + 1) s h2 z (by rw [List.getLast?_cons_cons] at hz; exact hz)
    rw [List.length_cons, show m + (r.length + 1) = m + 1 + r.length by omega]
    exact ih
theorem shS_wt {both : Bool} {wt : α → Nat} {A B : List α} (h : (shS both wt A B).1 ≠ 0) : sw wt A ≠ 0 ∧ sw wt B ≠ 0 := by
  constructor
  · intro e
    apply h
    have : shS both wt A B = (0, 1) := if_pos (.inl e)
    rw [this]
  · intro e
    apply h
    have : shS both wt A B = (0, 1) := if_pos (.inr e)
    rw [this]
/-- the law's own asking -/
theorem chain_right {both : Bool} {wt : α → Nat} {E : List (Int × Int)} {S : Int → List α} {p q : Nat} (hp : 0 < p) (hN : ∀ x, (S x).Nodup)
    (hE : ∀ x y, (x, y) ∈ E → (p : Int) * (shS both wt (S x) (S y)).2 ≤ (shS both wt (S x) (S y)).1 * q)
    {r : List Int} {i j : Int} (h0 : r.head? = some i) (h1 : r.getLast? = some j) (hc : IsCh E r) (hij : i ≠ j) : Lk (shS both wt (S i) (S j)) (r.length - 1) p q := by
  match r, h0, h1, hc with
  | [x], h0, h1, _ =>
    have e1 : x = i := by simpa using h0
    have e2 : x = j := by simpa using h1
    exact absurd (e1.symm.trans e2) hij
  | x :: y :: r, h0, h1, hc =>
    obtain rfl : x = i := by simpa using h0
    have pos := (shS_pos both wt (hN x) (hN y)).1
    have g := hE x y hc.1
    have n1 : (shS both wt (S x) (S y)).1 ≠ 0 := fun e => by
      rw [e] at g
      have : (0 : Int) < (p : Int) * (shS both wt (S x) (S y)).2 := Int.mul_pos (by omega) (by omega)
      omega
    have l0 := lk_self both wt (shS_wt n1).1 p q
    have := lk_chain hN hE (y :: r) x x 0 l0 hc j h1
    rw [Nat.zero_add] at this
    exact this
end
end Muc
namespace Muc
open PySem PySem.Spec PyProof.Rows L2
def topS (i : Nat) : Stmt := PySem.Challenge.pw_muchalike_k93_whole_shares_along_chains.main.body.getD i (.Pass ⟨0, 0, 0, 0⟩)
abbrev s_mates_by : Stmt := topS 1
abbrev s_led_from : Stmt := topS 2
abbrev s_groups : Stmt := topS 3
abbrev s_chain : Stmt := topS 4
abbrev s_divisor : Stmt := topS 13
abbrev s_fraction : Stmt := topS 14
abbrev s_is_less : Stmt := topS 15
abbrev s_check_kind : Stmt := topS 16
abbrev s_check_least : Stmt := topS 17
abbrev s_share_of : Stmt := topS 18
abbrev s_is_word : Stmt := topS 21
abbrev s_check_sets : Stmt := topS 22
abbrev s_check_weights : Stmt := topS 23
abbrev s_check_lot : Stmt := topS 24
abbrev s_weight : Stmt := topS 25
abbrev s_common : Stmt := topS 26
abbrev s_share_between : Stmt := topS 27
abbrev s_plain_pairs : Stmt := topS 28
abbrev s__law_cell_at : Stmt := topS 30
abbrev s__law_mix : Stmt := topS 31
abbrev s__law_digit : Stmt := topS 32
abbrev s__law_pool : Stmt := topS 33
abbrev s__law_set : Stmt := topS 34
abbrev s__law_lot : Stmt := topS 35
abbrev s__law_weights : Stmt := topS 36
abbrev s__law_divisor : Stmt := topS 37
abbrev s__law_least : Stmt := topS 38
abbrev s__law_lacking : Stmt := topS 39
abbrev s__law_shares : Stmt := topS 40
abbrev s__law_three_right : Stmt := topS 41
abbrev s__law_chains_right : Stmt := topS 42
abbrev s__law_cut : Stmt := topS 43
abbrev s_law : Stmt := topS 44
abbrev FnP (K : PySem.W.Frag) (x : Str) (st : Stmt) (f : Addr) (fd : FuncData) : Prop := FunD K x x (defArgs st) (defBody st) (defScope st) [] [] f fd
/-- a def that stands under its name and keeps its promise -/
structure Cal (P : Program) (w : World) (K : PySem.W.Frag) (mg : Str → Option Value) (base : Heap) (x : Str) (k : Nat) (ps : List Str) (sp : Sp) : Prop where
  ex : ∃ (f : Addr) (fd : FuncData), FnOk P w K mg base CX0 k f fd ps sp ∧ mg x = some (.ref f) ∧ PySem.W.keepIn K (.ref f) = true ∧ Binds K fd ps []
/-- a def as the top leaves it -/
structure Std (K : PySem.W.Frag) (mg : Str → Option Value) (x : Str) (st : Stmt) : Prop where
  ex : ∃ (f : Addr) (fd : FuncData), FnP K x st f fd ∧ mg x = some (.ref f)
theorem pe_cal {X : Cx} {x : Str} {k j : Nat} {ps : List Str} {sp : Sp} {e : Expr} {es : List Expr} {t : TA} {p pos : Pos} (C : Cal X.prog X.w X.K X.mg X.base x k ps sp) (hr : Room j X.A) (ha : PA X (e :: es) t) (hk : k ≤ j := by decide)
    (hg : Gl X x := by rfl) (hdb : (x == ("__debug__" : Str)) = false := by decide) (he : starEach (e :: es) X.env = (false, eval e X.env) :: starEach es X.env := by rfl) (hpl : (backTo pos (starEach es X.env)).any (·.1) = false := by rfl) :
    PE X (.Call (.Name x p) (e :: es) [] pos) (tCall sp [] E0 t) := by
  obtain ⟨f, fd, F, hm, kp, b⟩ := C.ex
  exact pe_call F (hr.mono hk) hg hm kp b .nil pass0 ha hdb he hpl
theorem upd_new {H : Hp} {p : Addr} {o : HO} (h : H p = none) : Same H (upd H p o) := fun b x e => by
  rw [upd_ne (ne_of_none e h)]
  exact e
theorem Same.tup {K : PySem.W.Frag} {H H' : Hp} {a : Addr} {xs : List V} (s : Same H H') (h : SqT K H a xs) : SqT K H' a xs := by
  rcases h with (h | ⟨o, h⟩) | h
  · exact .inl (.inl (s _ _ h))
  · exact .inl (.inr ⟨o, s _ _ h⟩)
  · exact .inr h
theorem lst {K : PySem.W.Frag} {H : Hp} {a : Addr} {xs : List V} (h : H a = some (.lst xs)) : SqL K H a xs := .inl (.inl h)
theorem tup {K : PySem.W.Frag} {H : Hp} {a : Addr} {xs : List V} (h : H a = some (.tup xs)) : SqT K H a xs := .inl (.inl h)
end Muc
namespace Muc
open PySem PySem.Spec PyProof.Rows L2
/-! ### set(texts), all unlike -/
theorem take_snoc {xs : List Str} {i : Nat} (hi : i < xs.length) : xs.take (i + 1) = xs.take i ++ [xs[i]] := by
  rw [List.take_add_one, List.getElem?_eq_getElem hi]
  rfl
theorem not_yet {xs : List Str} (hn : xs.Nodup) {i : Nat} (hi : i < xs.length) : (xs.take i).any (· == xs[i]) = false := by
  cases hb : (xs.take i).any (· == xs[i]) with
  | false => rfl
  | true =>
    obtain ⟨y, hy, ey⟩ := List.any_eq_true.mp hb
    rw [eq_of_beq ey] at hy
    obtain ⟨j, hj⟩ := List.mem_iff_getElem?.mp hy
    rw [List.getElem?_take] at hj
    split at hj
    · rename_i hji
      obtain ⟨hjl, ej⟩ := List.getElem?_eq_some_iff.mp hj
      exact absurd ej (List.pairwise_iff_getElem.mp hn j i hjl hi hji)
    · cases hj
section
variable {prog : Program} {w : World} {A : Around} {R : Result → Shared → Prop} {I : Addr} {fp wr : List Addr} {G : Array GenState → Array GenState → Prop} {n : Nat} {Pv : Nat → Value → Prop} {St : Nat → Shared → Prop}
/-- what stands in the set ahead of turn i -/
abbrev Sofar (prog : Program) (w : World) (xs : List Str) (T : Addr) (i : Nat) (h : Heap) : Prop := h.SetOf (PySem.strKind prog w) T (fun z => (xs.take i).any (· == z)) i
theorem Sofar.kept {xs : List Str} {T : Addr} {i : Nat} {h h' : Heap} (q : Sofar prog w xs T i h) (k : ∀ o, h.get? T = some o → h'.get? T = some o) : Sofar prog w xs T i h' := by
  obtain ⟨o, e1, e2, e3, ho, more⟩ := q
  exact ⟨o, e1, e2, e3, k o ho, more⟩
theorem fillT (W : WalksS prog w A.in1 I fp wr G n Pv St) (T : Addr) (hT : T ∉ fp) (xs : List Str) (hl : xs.length = n) (hnd : xs.Nodup) (room : n + 1 < scanBound)
    (hv : ∀ i v, Pv i v → ∃ t, v = .str (xs.getD i Str.empty) t) (m : Nat) :
    ∀ (i : Nat) (s : Shared), n = i + m → St i s → Sofar prog w xs T i s.heap →
      (∀ s', Moved (T :: wr) G s s' → Sofar prog w xs T n s'.heap → R (.ok (.ret .none)) s') →
      codeAny (model prog w) A (.builtin "set.update.loop" ⟨[.ref T, .ref I], []⟩) R s := by
  have hTw : T ∉ wr := fun h => hT (W.sub T h)
  have more : ∀ b ∈ wr, b ∈ T :: wr := fun b hb => .tail _ hb
  have into : ∀ {s : Shared}, wpAny (model prog w) A.in1 (Builtin.«set.update.loop» ⟨[.ref T, .ref I], []⟩) (fun fin s' => match fin with | .done f => R (.ok f) s' | .again c' => c'.quiet = true ∧ codeAny (model prog w) A c' R s') (fun e s' => R (.error e) s') s →
      codeAny (model prog w) A (.builtin "set.update.loop" ⟨[.ref T, .ref I], []⟩) R s := fun h => by
    refine codeAny_builtin F.entry_set_update_loop ?_
    rw [Around.under_plainId F.plain_set_update_loop _]
    exact h
  induction m with
  | zero =>
    intro i s hn hst hS hR
    obtain rfl : n = i := hn
    refine into ?_
    show wpAny _ A.in1 (pyNext (.ref I) >>= _) _ _ s
    refine wpAny_bind (W.done s _ _ hst fun s1 mv => wpAny_pure ?_)
    exact hR s1 (mv.mono more) (hS.kept fun o e => mv.heap T o hTw e)
  | succ m ih =>
    intro i s hn hst hS hR
    have hi : i < n := by omega
    have hix : i < xs.length := by omega
    refine into ?_
    show wpAny _ A.in1 (pyNext (.ref I) >>= _) _ _ s
    refine wpAny_bind (W.item i s _ _ hi hst fun v s1 hP hst1 mv => ?_)
    obtain ⟨t, rfl⟩ := hv i v hP
    have eg : xs.getD i Str.empty = xs[i] := by simp [hix]
    rw [eg]
    have hS1 : Sofar prog w xs T i s1.heap := hS.kept fun o e => mv.heap T o hTw e
    show wpAny _ A.in1 (holding [Value.str xs[i] t] (setAdd T (.str xs[i] t)) >>= _) _ _ s1
    refine wpAny_bind (wpAny_holding ?_)
    unfold setAdd
    refine wpAny_holding (wpAny_bind ((PySem.strKind prog w).pyHash (k := xs[i]) (strKind_is _ _ _ _) ?_))
    refine wpAny_setAddHashed_of (knd := PySem.strKind prog w) (s := { s1 with toks := s1.toks + 1 }) (strKind_is _ _ _ _) rfl hS1 (by omega) fun h2 but hS2 => ?_
    have hS3 : Sofar prog w xs T (i + 1) h2 := by
      refine SetOf_congr hS2 (fun z => ?_) ?_
      · rw [take_snoc hix, List.any_append]
        by_cases e : z = xs[i]
        · subst e; simp
        · have e2 : (xs[i] == z) = false := by simpa [beq_iff_eq] using fun q : xs[i] = z => e q.symm
          simp [e, e2]
      · rw [not_yet hnd hix]; rfl
    have off : ∀ b ∈ fp, ∀ o, s1.heap.get? b = some o → h2.get? b = some o := fun b hb o e => (but.2 b fun z => hT (z ▸ hb)).trans e
    refine wpAny_pure ⟨plainId_quiet F.plain_set_update_loop _, ih (i + 1) _ (by omega) (W.frame _ s1 _ _ hst1 (Nat.le_succ _) off) hS3 fun s4 mv4 hS4 => hR s4 (Moved.trans W.gtrans ((mv.mono more).then_heap (Nat.le_succ _) fun b o hb e => ?_) mv4) hS4⟩
    exact (but.2 b fun z => hb (z ▸ .head _)).trans e
end
section
variable {prog : Program} {w : World} {A : Around} {E : Value → Shared → Prop} {s : Shared}
abbrev newSet (led : Bool) : Obj := { cls := .type "set", dict := none, data := .set #[] 0 (.fresh 0 0 led) }
theorem strs_item : ∀ {us : List Value} {xs : List Str}, StrsAre us xs → ∀ (i : Nat) (v : Value), us[i]? = some v → ∃ t, v = .str (xs.getD i Str.empty) t
  | _, _, .nil, i, v, h => by cases i <;> cases h
  | _, _, .cons x t r, 0, v, h => ⟨t, (Option.some.inj h).symm⟩
  | _, _, .cons x t r, i + 1, v, h => strs_item r i v h
set_option maxHeartbeats 8000000 in
theorem setOf_texts {l : Addr} {its : Array Value} {xs : List Str} {Q : Value → Shared → Prop}
    (calm : A.handled = none) (hl : s.heap.IsList l its) (hi : StrsAre its.toList xs) (hnd : xs.Nodup) (room : xs.length + 1 < scanBound)
    (h : ∀ (h2 : Heap) (tk : Nat), Sofar prog w xs s.heap.objs.size xs.length h2 → (∀ b o, b < s.heap.objs.size → s.heap.get? b = some o → h2.get? b = some o) → Q (.ref s.heap.objs.size) { s with heap := h2, toks := tk }) :
    wpAny (model prog w) A (call (.type "set") [.ref l]) Q E s := by
  have cs := PySem.F.called_set
  obtain ⟨hd1, hd2, hmro⟩ := cs.mro
  have f1 := cs.made
  have f2 := cs.sub
  have f3 := cs.notType
  have f4 := cs.canCreate
  have f5 := PySem.F.typeCall_set_1 (.ref l)
  refine wpAny_call (codeAny_of_tree ?_)
  show wpAny _ _ (callAny (.type "set") _) _ _ _
  refine wpAny_pure ⟨Code.quiet_builtin _ (by decide +kernel), codeAny_builtin PySem.F.entry_type_call ?_⟩
  rw [Around.under_plain (weight_type_call_type "set" [.ref l] []) rfl]
  repeat (any_goals (first | assumption | wp_step))
  refine codeAny_mono (code_set_new_1 (.ref l) (E := E) (Q₁ := fun ob s1 => ∃ led : Bool, ob = .ref s.heap.objs.size ∧ s1 = { s with heap := s.heap.push (newSet led) }) fun led => ⟨led, rfl, rfl⟩) fun r s1 hr => ?_
  rcases r with e | fl
  · exact hr
  cases fl with
  | ret ob =>
    obtain ⟨led, rfl, rfl⟩ := hr
    have g0 : (s.heap.push (newSet led)).get? s.heap.objs.size = some (newSet led) := Heap.get?_push_size _ rfl
    have ty : Shared.TypeIs { s with heap := s.heap.push (newSet led) } (.ref s.heap.objs.size) "set" := ⟨_, g0, rfl⟩
    have f6 := cs.init.lookup
    have f7 := cs.init.bind (.ref s.heap.objs.size)
    repeat (any_goals (first | assumption | wp_step))
    refine codeAny_mono (codeAny_call_builtin (R := wants (fun r s2 => r = .none ∧ ∃ h2 tk, s2 = { s with heap := h2, toks := tk } ∧ Sofar prog w xs s.heap.objs.size xs.length h2 ∧ ∀ b o, b < s.heap.objs.size → s.heap.get? b = some o → h2.get? b = some o) E)
      cs.init.plain PySem.F.entry_set_init (check_set_init_1 ty ?_)) fun r2 s2 hr2 => ?_
    · obtain ⟨⟨oc, od, dt, sl⟩, hol, hcl, nl, hdl⟩ := hl
      simp only at hcl hdl
      subst hcl hdl
      have gl : (s.heap.push (newSet led)).get? l = some { cls := .type "list", dict := od, data := .seq its nl, slots := sl } := Heap.get?_push_of_some _ hol
      have k1 := PySem.F.sub_list_set
      have k2 := PySem.F.sub_list_frozenset
      have k3 : (Value.type "list" == Value.type "dict") = false := by decide
      have il : (s.heap.push (newSet led)).IsList l its := ⟨_, gl, rfl, nl, rfl⟩
      unfold Builtin.«set.__init__» noKeywords Builtin.Frozenset.updateFrom
      generalize hPI : pyIter = PI
      wp_walk
      subst hPI
      refine wpAny_pyIter_list il (wpAny_bind (wpAny_runValue ?_))
      have ll : l < s.heap.objs.size := Heap.lt_size hol
      have sz1 : (s.heap.push (newSet led)).objs.size = s.heap.objs.size + 1 := Heap.size_push _ _
      have far : l ≠ (s.heap.push (newSet led)).objs.size := by rw [sz1]; exact Nat.ne_of_lt (Nat.lt_succ_of_lt ll)
      have out : s.heap.objs.size ∉ [(s.heap.push (newSet led)).objs.size, l] := by
        rw [sz1]
        intro z
        rcases List.mem_cons.mp z with z | z
        · exact Nat.ne_of_lt (Nat.lt_succ_self _) z
        · exact Nat.ne_of_gt ll (List.mem_singleton.mp z)
      have hsz : xs.length = its.size := by rw [← StrsAre.len_eq hi, Array.length_toList]
      refine fillT ((Walks.list (by simp [calm]) _ l far its).toS) s.heap.objs.size out xs hsz hnd (by rw [← hsz]; exact room)
        (fun i v hv => strs_item hi i v (by rw [Array.getElem?_toList]; exact hv)) its.size 0 _ (by omega) ⟨⟨_, Heap.get?_push_size _ rfl, rfl, rfl⟩, il.push _⟩ ?fst ?lst
      case fst =>
        exact SetOf_congr ((setObjOf_fresh (knd := PySem.strKind prog w) led).setOf (Heap.get?_push_of_some _ g0) (by unfold scanBound; omega)) (fun _ => rfl) rfl
      case lst =>
        intro s3 mv hS
        obtain ⟨h3, g3, d3, t3, o3⟩ := s3
        obtain rfl : g3 = s.gens := mv.gens
        obtain rfl : d3 = s.drawn := mv.drawn
        obtain rfl : o3 = s.os := mv.os
        refine wpAny_pure ?_
        show wpAny _ _ (ret Value.none) _ _ _
        refine wpAny_pure ⟨rfl, h3, t3, rfl, by rw [hsz]; exact hS, fun b o hb e => ?_⟩
        refine mv.heap b o (fun z => ?_) (Heap.get?_push_of_some _ (Heap.get?_push_of_some _ e))
        rcases List.mem_cons.mp z with z | z
        · exact Nat.ne_of_lt hb z
        · rw [sz1] at z
          exact Nat.ne_of_lt (Nat.lt_succ_of_lt hb) (List.mem_singleton.mp z)
    · rcases r2 with e | fl2
      · exact hr2
      cases fl2 with
      | ret r =>
        obtain ⟨rfl, h2, tk, rfl, hS, keep⟩ := hr2
        repeat (any_goals (first | assumption | wp_step))
        exact h _ _ hS keep
      | _ => exact hr2.elim
  | _ => exact hr.elim
end
end Muc
namespace Muc
open PySem PySem.Spec PyProof.Rows L2
section
variable {X : Cx}
/-! ### len(set(texts)) -/
def tLenTexts (K : PySem.W.Frag) (ta : TE) : TE := fun σ H Q => ta σ H fun x H1 => ∃ (l : Addr) (xs : List Str), x = .ref l ∧ SqL K H1 l (xs.map V.str) ∧ xs.Nodup ∧ xs.length ≤ 1000 ∧ Q (.int ((xs.length : Nat) : Int)) H1
theorem pe_lenTexts {a : Expr} {ta : TE} {p p2 q pos : Pos} (ha : PE X a ta) (hm : X.mg "len" = none) (hm2 : X.mg "set" = none) (hg : Gl X "len" := by rfl) (hg2 : Gl X "set" := by rfl) (hc : X.calm = true := by rfl)
    (na : starEach [a] X.env = (false, eval a X.env) :: starEach [] X.env := by rfl) : PE X (.Call (.Name "len" p) [.Call (.Name "set" p2) [a] [] q] [] pos) (tLenTexts X.K ta) := by
  refine ⟨fun pins s σ H Q I h => Call_ (ld_blt I hg hm boot_len (callWith_builtin1 (args_cons ?_ rfl) rfl rfl))⟩
  refine Call_ (ld_blt I hg2 hm2 boot_set (callWith_type1 (args_cons ?_ na) na rfl))
  refine thn (ha.run pins s σ H _ I h) fun v s1 ⟨x, H1, I1, r1, l, xs, ex, hq, hn, hl, q1⟩ => args_nil ?_
  subst ex
  cases r1
  obtain ⟨its, r, pl, _⟩ := I1.list hq
  refine setOf_texts (xs := xs) (I1.ok.hd hc) pl.isList (by simpa using strsAre_of r) hn (by unfold scanBound; omega) fun h2 tk hS keep => args_nil ?_
  obtain ⟨o, es, ep, t, ho, hex, hd, _, _, _, hf, hz⟩ := hS
  have I2 : Inv X pins σ H1 { s1 with heap := h2, toks := tk } := I1.kept fun b o e => keep b o (Heap.lt_size e) e
  exact call_len_set ho hex hd hf (by omega) ⟨.int xs.length, H1, I2.tok _, ⟨_, by rw [hz]⟩, q1⟩
/-! ### a great power -/
theorem op_powBig : OpR X (binaryOp .Pow) (fun x y H Q => x = .int (10 ^ 60) ∧ y = .int 60 ∧ Q (.int ((10 ^ 60) ^ 60)) H) := by
  intro pins s σ H x y v u Q I rx ry h
  obtain ⟨rfl, rfl, q⟩ := h
  obtain ⟨t, rfl⟩ := rx
  obtain ⟨t2, rfl⟩ := ry
  exact pow_int (by decide) (by decide +kernel) ⟨.int ((10 ^ 60) ^ 60), H, I.tok _, ⟨_, rfl⟩, q⟩
/-! ### a text some times -/
theorem op_times : OpR X (binaryOp .Mult) (fun x y H Q => ∃ (z : Str) (n : Int), x = .str z ∧ y = .int n ∧ z.length ≤ 100 ∧ 0 ≤ n ∧ n ≤ 100 ∧ Q (.str (Txt.mul z n)) H) := by
  intro pins s σ H x y v u Q I rx ry h
  obtain ⟨z, n, rfl, rfl, h1, h2, h3, q⟩ := h
  obtain ⟨t, rfl⟩ := rx
  obtain ⟨t2, rfl⟩ := ry
  exact SB.mul (mulOk_of 100 100 h1 (by omega) (by omega) (by decide) (by decide)) fun t3 k => ⟨.str (Txt.mul z n), H, I.tok _, ⟨_, rfl⟩, q⟩
/-! ### list.remove(text) -/
def isT (z : Str) : Value → Bool
  | .str y _ => y.cps.toList == z.cps.toList
  | _ => false
theorem isT_gives {z : Str} {t : Tok} : ∀ {us : List Value} {xs : List Str}, StrsAre us xs → ∀ y ∈ us, MeetsSeq.EqGives y (.str z t) (isT z y)
  | _, _, .nil => fun y hy => nomatch hy
  | _, _, .cons x u r => fun y hy => by
    cases hy with
    | head => exact SeqRoads2.EqGives.str x z u t
    | tail _ h => exact isT_gives r y h
theorem isT_at {z : Str} : ∀ {us : List Value} {xs : List Str}, StrsAre us xs → ∀ (i : Nat) (x : Str), xs[i]? = some x → ∃ t, us[i]? = some (.str x t)
  | _, _, .nil, i, x, h => by cases i <;> cases h
  | _, _, .cons y u r, 0, x, h => ⟨u, by rw [Option.some.inj h]; rfl⟩
  | _, _, .cons y u r, i + 1, x, h => isT_at (z := z) r i x h
theorem same_text {x y : Str} (h : x.cps.toList = y.cps.toList) : x = y := by
  obtain ⟨⟨a⟩⟩ := x
  obtain ⟨⟨b⟩⟩ := y
  simpa using h
theorem erase_map : ∀ (ys : List Str) (j : Nat), (ys.map V.str).eraseIdx j = (ys.eraseIdx j).map V.str
  | [], _ => rfl
  | _ :: _, 0 => rfl
  | y :: ys, j + 1 => congrArg (V.str y :: ·) (erase_map ys j)
def rRemT : V → List V → Hp → VK → Prop := fun x xs H Q => ∃ (l : Addr) (ys : List Str) (z : Str) (j : Nat), x = .ref l ∧ xs = [.str z] ∧ H l = some (.lst (ys.map V.str)) ∧ ys[j]? = some z ∧ ys.Nodup ∧ Q .non (upd H l (.lst ((ys.eraseIdx j).map V.str)))
theorem mt_removeT : MtM X "list.remove" rRemT := by
  intro pins s σ H x xs v us Q I rx rxs h
  obtain ⟨l, ys, z, j, rfl, rfl, hH, hj, hn, q⟩ := h
  cases rx
  obtain ⟨u, rfl, ru⟩ := rxs.one
  obtain ⟨t, rfl⟩ := ru
  obtain ⟨hz, its, n, r, hl, e⟩ := I.lstM hH
  have hi : StrsAre its ys := strsAre_of r
  rw [List.length_map] at hl hz
  obtain ⟨jl, ej⟩ := List.getElem?_eq_some_iff.mp hj
  have jl2 : j < its.toArray.size := by rw [List.size_toArray]; omega
  have at_ : ∀ (m : Nat) (hm : m < its.toArray.size) (x : Str), ys[m]? = some x → isT z its.toArray[m] = (x.cps.toList == z.cps.toList) := fun m hm x hx => by
    obtain ⟨t3, e3⟩ := isT_at (z := z) hi m x hx
    obtain ⟨_, e4⟩ := List.getElem?_eq_some_iff.mp e3
    have e5 : its.toArray[m] = .str x t3 := by simpa using e4
    rw [e5]
    rfl
  refine call_meets PySem.F.slot_list_remove ⟨_, e, rfl⟩ PySem.F.entry_list_remove (PySem.F.args_list_remove_2 _ _)
    (MeetsSeq.list_remove l its.toArray n (.str z t) (isT z) (fun y hy => isT_gives hi y (by simpa using hy)) j jl2 ?_ ?_ (by rw [List.size_toArray]; omega)) ⟨e, ?_⟩
  · rw [at_ j jl2 z hj]
    exact beq_self_eq_true _
  · intro m hm hmj
    have hmy : m < ys.length := by omega
    rw [at_ m hm ys[m] (List.getElem?_eq_getElem hmy)]
    refine beq_eq_false_iff_ne.mpr fun e6 => ?_
    have e7 : ys[m] = ys[j] := (same_text e6).trans ej.symm
    exact absurd e7 (List.pairwise_iff_getElem.mp hn m j hmy jl hmj)
  · have r2 := r.eraseIdx j
    have em : (ys.map V.str).eraseIdx j = (ys.eraseIdx j).map V.str := erase_map ys j
    rw [em] at r2
    refine ⟨.non, _, I.lset (its' := its.eraseIdx j) (t' := s.toks) hH e ?_ r2 ?_, rfl, q⟩
    · show its.toArray.eraseIdxIfInBounds j = (its.eraseIdx j).toArray
      rw [List.eraseIdxIfInBounds_toArray]
    · rw [List.length_map, List.length_eraseIdx]
      split <;> omega
end
end Muc
namespace Muc
open PySem PySem.Spec PyProof.Rows L2
section
variable {P : Program} {w : World} {K : PySem.W.Frag} {mg : Str → Option Value} {base : Heap}
/-! ### divisor -/
def spDiv : Sp := fun vs H Q _ => ∃ a b : Nat, vs = [.int (a : Int), .int (b : Int)] ∧ Q (.int ((Nat.gcd a b : Nat) : Int)) H
theorem gcd_turn (a b : Nat) : Nat.gcd b (a % b) = Nat.gcd a b := by
  rw [Nat.gcd_comm b (a % b), ← Nat.gcd_rec b a, Nat.gcd_comm]
theorem sc_divisor : FnScope ["one", "other"] ["one", "other"] (defScope s_divisor) := ⟨rfl, rfl, rfl, by decide +kernel, rfl, by decide +kernel, by decide +kernel⟩
theorem ok_divisor (F : Std K mg "divisor" s_divisor)  : Cal P w K mg base "divisor" 1 ["one", "other"] spDiv := by
  obtain ⟨f, fd, F, gF⟩ := F.ex
  refine ⟨f, fd, ?_, gF, F.kp, F.bindsN fun _ _ _ _ _ _ us hl => match us, hl with | [_, _], _ => rfl⟩
  refine F.ok sc_divisor (fun vs H Q E h => ?_) (fun cdv A outer s H vs Q E hr h => ?_)
  · obtain ⟨a, b, rfl, _⟩ := h
    rfl
  · obtain ⟨a, b, rfl, q⟩ := h
    refine ⟨_, PSs.nox (pss_cons (ps_while PassesOwn.never (pt_cmpR op_ne (pv 1) pe_int (nomark _))
        (pss_one (ps_par (i := 0) (j := 1) (by rfl) sc_divisor.nd rfl rfl (by decide) rfl rfl (pa_cons (pv 1) (pa_cons (pe_op op_mod (pv 0) (pv 1)) pa_nil)) (by rfl))))
      (pss_one (ps_ret (pv 0)))), ?_⟩
    refine while_by (fun σ H' => ∃ x y : Nat, σ = [some (.int (x : Int)), some (.int (y : Int))] ∧ H' = H ∧ Nat.gcd x y = Nat.gcd a b)
      (fun σ _ => match σ with | [_, some (.int y)] => y.toNat | _ => 0) ⟨a, b, rfl, rfl, rfl⟩ ?_ (fun σ H Q Q' h ⟨v, e, s, k, ek, q⟩ => ⟨v, e, s, k, ek, h _ _ q⟩)
    rintro σ H' ⟨x, y, rfl, rfl, e⟩
    refine ⟨_, rfl, rfl, _, rfl, ?_⟩
    by_cases hy : y = 0
    · subst hy
      have ed : decide (V.int ((0 : Nat) : Int) = V.int 0) = true := by decide
      rw [ed]
      refine iteF ?_
      refine ⟨_, rfl, ?_⟩
      rw [Nat.gcd_zero_right] at e
      rw [e]
      exact q
    · have ed : decide (V.int (y : Int) = V.int 0) = false := decide_eq_false (fun z => hy (by injection z with z; omega))
      rw [ed]
      refine iteT ?_
      refine ⟨_, rfl, _, rfl, _, rfl, _, _, rfl, rfl, (by omega), _, _, rfl, ⟨y, x % y, rfl, rfl, (gcd_turn x y).trans e⟩, ?_⟩
      show ((x : Int) % (y : Int)).toNat < (y : Int).toNat
      have := Nat.mod_lt x (Nat.pos_of_ne_zero hy)
      omega
/-! ### fraction -/
theorem gcd_bd {t b : Nat} (hb : 0 < b) (hl : b < 1073741824) : (0 : Int) < ((Nat.gcd t b : Nat) : Int) ∧ ((Nat.gcd t b : Nat) : Int) < 1073741824 := by
  have h1 := Nat.gcd_pos_of_pos_right t hb
  have h2 := Nat.le_of_dvd hb (Nat.gcd_dvd_right t b)
  omega
/-- a new tuple of two numbers stands at p -/
def fr (s : Nat × Nat) : HO := .tup [.int (s.1 : Int), .int (s.2 : Int)]
def spFrac : Sp := fun vs H Q _ => ∃ t b : Nat, vs = [.int (t : Int), .int (b : Int)] ∧ 0 < b ∧ b < 1073741824 ∧ ∀ p, H p = none → Q (.ref p) (upd H p (fr (frac t b)))
theorem sc_fraction : FnScope ["top", "bottom", "by"] ["top", "bottom"] (defScope s_fraction) := ⟨rfl, rfl, rfl, by decide +kernel, rfl, by decide +kernel, by decide +kernel⟩
theorem ok_fraction (F : Std K mg "fraction" s_fraction) (cD : Cal P w K mg base "divisor" 1 ["one", "other"] spDiv) : Cal P w K mg base "fraction" 2 ["top", "bottom"] spFrac := by
  obtain ⟨f, fd, F, gF⟩ := F.ex
  refine ⟨f, fd, ?_, gF, F.kp, F.bindsN fun _ _ _ _ _ _ us hl => match us, hl with | [_, _], _ => rfl⟩
  refine F.ok sc_fraction (fun vs H Q E h => ?_) (fun cdv A outer s H vs Q E hr h => ?_)
  · obtain ⟨a, b, rfl, _⟩ := h
    rfl
  · obtain ⟨t, b, rfl, hb, hl, q⟩ := h
    refine ⟨_, PSs.nox (pss_cons (ps_set (i := 2) sc_fraction.nd rfl (.inl rfl) (pe_cal cD hr (pa_cons (pv 0) (pa_cons (pv 1) pa_nil))))
      (pss_one (ps_ret (pe_tup (pa_cons (pe_op op_fdiv (pv 0) (pv 2)) (pa_cons (pe_op op_fdiv (pv 1) (pv 2)) pa_nil)))))), ?_⟩
    refine ⟨_, rfl, _, rfl, t, b, rfl, ?_⟩
    have g := gcd_bd (t := t) hb hl
    refine ⟨_, rfl, _, rfl, _, _, rfl, rfl, g, _, rfl, _, rfl, _, _, rfl, rfl, g, (by show 2 ≤ sizeLine; decide), ?_⟩
    exact q
/-! ### is_less -/
def spLess (K : PySem.W.Frag) : Sp := fun vs H Q _ => ∃ (a b : Addr) (s u : Nat × Nat), vs = [.ref a, .ref b] ∧ SqT K H a [.int (s.1 : Int), .int (s.2 : Int)] ∧ SqT K H b [.int (u.1 : Int), .int (u.2 : Int)] ∧ s.1 < 2 ^ 64 ∧ u.1 < 2 ^ 64 ∧
  Q (.bl (decide ((s.1 : Int) * u.2 < u.1 * s.2))) H
theorem sc_is_less : FnScope ["one", "other"] ["one", "other"] (defScope s_is_less) := ⟨rfl, rfl, rfl, by decide +kernel, rfl, by decide +kernel, by decide +kernel⟩
theorem at0 {α : Type} (x : α) (r : List α) : atI (x :: r) 0 = some x := atI_nat (j := 0) rfl
theorem at1 {α : Type} (x y : α) (r : List α) : atI (x :: y :: r) 1 = some y := atI_nat (j := 1) rfl
theorem at2 {α : Type} (x y z : α) (r : List α) : atI (x :: y :: z :: r) 2 = some z := atI_nat (j := 2) rfl
theorem ok_is_less (F : Std K mg "is_less" s_is_less)  : Cal P w K mg base "is_less" 1 ["one", "other"] (spLess K) := by
  obtain ⟨f, fd, F, gF⟩ := F.ex
  refine ⟨f, fd, ?_, gF, F.kp, F.bindsN fun _ _ _ _ _ _ us hl => match us, hl with | [_, _], _ => rfl⟩
  refine F.ok sc_is_less (fun vs H Q E h => ?_) (fun cdv A outer s H vs Q E hr h => ?_)
  · obtain ⟨a, b, s, u, rfl, _⟩ := h
    rfl
  · obtain ⟨a, b, ⟨s1, s2⟩, ⟨u1, u2⟩, rfl, ha, hb, l1, l2, q⟩ := h
    refine ⟨_, PSs.nox (pss_one (ps_ret (pe_cmpR op_lt
      (pe_op op_mul (pe_ix ix_tup (pv 0) pe_int (fun _ _ => rfl)) (pe_ix ix_tup (pv 1) pe_int (fun _ _ => rfl)))
      (pe_op op_mul (pe_ix ix_tup (pv 1) pe_int (fun _ _ => rfl)) (pe_ix ix_tup (pv 0) pe_int (fun _ _ => rfl))) (nomark _)))), ?_⟩
    simp only at l1 l2
    exact ⟨_, rfl, _, _, _, _, rfl, rfl, ha, at0 _ _, _, rfl, _, _, _, _, rfl, rfl, hb, at1 _ _ _, _, _, rfl, rfl, .inl ⟨by omega, by omega⟩,
      _, rfl, _, _, _, _, rfl, rfl, hb, at0 _ _, _, rfl, _, _, _, _, rfl, rfl, ha, at1 _ _ _, _, _, rfl, rfl, .inl ⟨by omega, by omega⟩, _, _, rfl, rfl, q⟩
/-! ### check_kind -/
def kd (both : Bool) : Str := if both = true then "both" else "greater"
def spKind : Sp := fun vs H Q _ => ∃ b : Bool, vs = [.str (kd b)] ∧ Q .non H
structure KdAt (K : PySem.W.Frag) (mg : Str → Option Value) : Prop where
  ex : ∃ a : Addr, mg "KINDS" = some (.ref a) ∧ ∀ H, SqL K H a [.str "both", .str "mean", .str "greater", .str "lesser", .str "square"]
theorem sc_check_kind : FnScope ["kind"] ["kind"] (defScope s_check_kind) := ⟨rfl, rfl, rfl, by decide +kernel, rfl, by decide +kernel, by decide +kernel⟩
theorem kd_in (b : Bool) : inV (.str (kd b)) [.str "both", .str "mean", .str "greater", .str "lesser", .str "square"] = true := by
  cases b <;> decide +kernel
theorem ok_check_kind (F : Std K mg "check_kind" s_check_kind) (hK : KdAt K mg) : Cal P w K mg base "check_kind" 1 ["kind"] spKind := by
  obtain ⟨f, fd, F, gF⟩ := F.ex
  refine ⟨f, fd, ?_, gF, F.kp, F.bindsN fun _ _ _ _ _ _ us hl => match us, hl with | [_], _ => rfl⟩
  refine F.ok sc_check_kind (fun vs H Q E h => ?_) (fun cdv A outer s H vs Q E hr h => ?_)
  · obtain ⟨b, rfl, _⟩ := h
    rfl
  · obtain ⟨b, rfl, q⟩ := h
    obtain ⟨a, gK, hL⟩ := hK.ex
    refine ⟨_, PSs.nox (pss_one (ps_if (pt_cmpR op_notIn_seq (pv 0) (pe_glob rfl gK (v := .ref a) rfl) (by rfl)) pss_never pss_nil)), ?_⟩
    refine ⟨_, rfl, a, _, rfl, .inl (hL _), rfl, rfl, _, rfl, ?_⟩
    simp only [if_true, kd_in]
    exact iteF q
/-! ### check_least -/
/-- a least share stands at a -/
def spLeast (K : PySem.W.Frag) : Sp := fun vs H Q _ => ∃ (b : Bool) (a : Addr) (p q : Nat), vs = [.str (kd b), .ref a] ∧ SqT K H a [.int (p : Int), .int (q : Int)] ∧ 1 ≤ p ∧ p ≤ q ∧ Nat.gcd p q = 1 ∧ Q .non H
theorem sc_check_least : FnScope ["kind", "least", "top", "bottom"] ["kind", "least"] (defScope s_check_least) := ⟨rfl, rfl, rfl, by decide +kernel, rfl, by decide +kernel, by decide +kernel⟩
theorem ok_check_least (F : Std K mg "check_least" s_check_least) (cK : Cal P w K mg base "check_kind" 1 ["kind"] spKind) (cD : Cal P w K mg base "divisor" 1 ["one", "other"] spDiv) : Cal P w K mg base "check_least" 2 ["kind", "least"] (spLeast K) := by
  obtain ⟨f, fd, F, gF⟩ := F.ex
  refine ⟨f, fd, ?_, gF, F.kp, F.bindsN fun _ _ _ _ _ _ us hl => match us, hl with | [_, _], _ => rfl⟩
  refine F.ok sc_check_least (fun vs H Q E h => ?_) (fun cdv A outer s H vs Q E hr h => ?_)
  · obtain ⟨b, a, p, q, rfl, _⟩ := h
    rfl
  · obtain ⟨b, a, p, q, rfl, ha, h1, h2, h3, k⟩ := h
    refine ⟨_, PSs.nox (pss_cons (ps_expr (pe_cal cK hr (pa_cons (pv 0) pa_nil)))
      (pss_cons (ps_asg (pv 1) (pg_tup (by rfl) (pgs_cons (pg_name (i := 2) sc_check_least.nd rfl (.inl rfl)) (pgs_cons (pg_name (i := 3) sc_check_least.nd rfl (.inl rfl)) pgs_nil))))
      (pss_one (ps_if (PW.pt (pw_or (pt_cmpR op_lt (pv 2) pe_int (nomark _)) (pw_or (pt_cmpR op_gt (pv 2) (pv 3) (nomark _))
        (pw_or1 (pt_cmpR op_ne (pe_cal cD hr (pa_cons (pv 2) (pa_cons (pv 3) pa_nil))) pe_int (nomark _)))))) pss_never pss_nil)))), ?_⟩
    refine ⟨_, rfl, b, rfl, ?_⟩
    refine ⟨_, rfl, a, _, rfl, ha, rfl, _, _, rfl, _, _, rfl, rfl, ?_⟩
    refine ⟨_, rfl, _, _, rfl, rfl, _, rfl, ?_⟩
    rw [show decide ((p : Int) < 1) = false from decide_eq_false (by omega)]
    refine iteF ⟨_, rfl, _, rfl, _, _, rfl, rfl, _, rfl, ?_⟩
    rw [show decide ((q : Int) < (p : Int)) = false from decide_eq_false (by omega)]
    refine iteF ⟨_, rfl, _, rfl, p, q, rfl, rfl, _, rfl, ?_⟩
    rw [h3]
    exact iteF k
/-! ### share_of -/
def spShare : Sp := fun vs H Q _ => ∃ (k : Bool) (a b c : Nat), vs = [.str (kd k), .int (a : Int), .int (b : Int), .int (c : Int)] ∧ c ≤ a ∧ c ≤ b ∧ a + b < 1073741824 ∧ ∀ p, H p = none → Q (.ref p) (upd H p (fr (shr k a b c)))
theorem sc_share_of : FnScope ["kind", "a", "b", "c"] ["kind", "a", "b", "c"] (defScope s_share_of) := ⟨rfl, rfl, rfl, by decide +kernel, rfl, by decide +kernel, by decide +kernel⟩
theorem ok_share_of (F : Std K mg "share_of" s_share_of) (cK : Cal P w K mg base "check_kind" 1 ["kind"] spKind) (cF : Cal P w K mg base "fraction" 2 ["top", "bottom"] spFrac) (mM : mg "max" = none) : Cal P w K mg base "share_of" 3 ["kind", "a", "b", "c"] spShare := by
  obtain ⟨f, fd, F, gF⟩ := F.ex
  refine ⟨f, fd, ?_, gF, F.kp, F.bindsN fun _ _ _ _ _ _ us hl => match us, hl with | [_, _, _, _], _ => rfl⟩
  refine F.ok sc_share_of (fun vs H Q E h => ?_) (fun cdv A outer s H vs Q E hr h => ?_)
  · obtain ⟨b, a, p, q, rfl, _⟩ := h
    rfl
  · obtain ⟨k, a, b, c, rfl, h1, h2, h3, q⟩ := h
    refine ⟨_, PSs.nox (pss_cons (ps_expr (pe_cal cK hr (pa_cons (pv 0) pa_nil)))
      (pss_cons (ps_if (PW.pt (pw_or (pt_cmpR op_eq (pv 1) pe_int (nomark _)) (pw_or1 (pt_cmpR op_eq (pv 2) pe_int (nomark _))))) (pss_one (ps_ret (pe_tup (pa_cons pe_int (pa_cons pe_int pa_nil))))) pss_nil)
      (pss_cons (ps_if (pt_cmpR op_eq (pv 0) pe_str (nomark _)) (pss_one (ps_ret (pe_cal cF hr (pa_cons (pv 3) (pa_cons (pe_op op_sub (pe_op op_add (pv 1) (pv 2)) (pv 3)) pa_nil))))) pss_nil)
      (pss_cons (ps_if (pt_cmpR op_eq (pv 0) pe_str (nomark _)) pss_never pss_nil)
      (pss_cons (ps_if (pt_cmpR op_eq (pv 0) pe_str (nomark _)) (pss_one (ps_ret (pe_cal cF hr (pa_cons (pv 3) (pa_cons (pe_callB (call_max2 rfl) (by rfl) mM (by decide +kernel) (pa_cons (pv 1) (pa_cons (pv 2) pa_nil))) pa_nil))))) pss_nil)
      pss_never))))), ?_⟩
    refine ⟨_, rfl, k, rfl, ?_⟩
    refine ⟨_, rfl, rfl, _, rfl, ?_⟩
    have zero : (a = 0 ∨ b = 0) → ∀ p, H p = none → Q (.ref p) (upd H p (.tup [.int 0, .int 1])) := fun z p np => by
      have := q p np
      unfold shr at this
      rw [if_pos z] at this
      exact this
    refine ite2 (fun d => ?_) (fun d => ?_)
    · have e : a = 0 := by
        have := of_decide_eq_true d
        injection this with this
        omega
      refine iteT ?_
      exact ⟨by show 2 ≤ sizeLine; decide, zero (.inl e)⟩
    · have ea : a ≠ 0 := fun e => d (decide_eq_true (by rw [e]; rfl))
      refine ⟨_, rfl, rfl, _, rfl, ?_⟩
      refine ite2 (fun d => ?_) (fun d => ?_)
      · have e : b = 0 := by
          have := of_decide_eq_true d
          injection this with this
          omega
        exact ⟨by show 2 ≤ sizeLine; decide, zero (.inr e)⟩
      · have eb : b ≠ 0 := fun e => d (decide_eq_true (by rw [e]; rfl))
        have dp := den_pos (both := k) ea eb h1 h2
        have q' : ∀ p, H p = none → Q (.ref p) (upd H p (fr (frac c (den k a b c)))) := fun p np => by
          have := q p np
          unfold shr at this
          rw [if_neg (fun z => z.elim ea eb)] at this
          exact this
        have dl : den k a b c < 1073741824 := by
          unfold den
          split
          · omega
          · split <;> omega
        cases k with
        | true =>
          refine ⟨_, rfl, rfl, _, rfl, iteT ?_⟩
          refine ⟨_, rfl, _, rfl, _, rfl, _, _, rfl, rfl, _, rfl, _, _, rfl, rfl, c, den true a b c, ?_, dp.1, dl, q'⟩
          show [V.int c, V.int ((a : Int) + b - c)] = [V.int c, V.int ((a + b - c : Nat) : Int)]
          rw [show (a : Int) + b - c = ((a + b - c : Nat) : Int) by omega]
        | false =>
          refine ⟨_, rfl, rfl, _, rfl, iteF ?_⟩
          refine ⟨_, rfl, rfl, _, rfl, iteF ?_⟩
          refine ⟨_, rfl, rfl, _, rfl, iteT ?_⟩
          refine ⟨_, rfl, _, rfl, _, rfl, _, _, rfl, c, den false a b c, ?_, dp.1, dl, q'⟩
          show [V.int c, V.int (if (b : Int) > a then (b : Int) else a)] = [V.int c, V.int ((if a < b then b else a : Nat) : Int)]
          by_cases hab : a < b
          · rw [if_pos hab, if_pos (by omega)]
          · rw [if_neg hab, if_neg (by omega)]
end
end Muc
namespace Muc
open PySem PySem.Spec PyProof.Rows L2
/-! ### words, sets, weights -/
def SG : Str := "abcdefghijklmnopqrstuvwxyz0123456789."
def Good (z : Str) : Prop := 1 ≤ z.length ∧ z.length ≤ 30 ∧ ∀ c ∈ z.cps.toList, c ∈ SG.cps.toList
def GoodSet (xs : List Str) : Prop := xs.Nodup ∧ xs.length ≤ 60 ∧ ∀ z ∈ xs, Good z
structure WtOk (kvs : List (Key × V)) (wt : Str → Nat) : Prop where
  ok : ∀ kv ∈ kvs, ∃ (z : Str) (n : Nat), kv = (.inr z, .int (n : Int)) ∧ Good z ∧ 1 ≤ n
  val : ∀ z : Str, (valV kvs (.inr z)).getD (.int 1) = .int ((wt z : Nat) : Int)
  bd : ∀ z, wt z ≤ 1000000
/-- a lot of sets stands at a -/
structure LotAt (H : Hp) (a : Addr) (L : List (Addr × List Str)) : Prop where
  top : H a = some (.lst (L.map fun p => V.ref p.1))
  sets : ∀ p ∈ L, H p.1 = some (.lst (p.2.map V.str))
  good : ∀ p ∈ L, GoodSet p.2
theorem LotAt.same {H H' : Hp} {a : Addr} {L : List (Addr × List Str)} (h : LotAt H a L) (s : Same H H') : LotAt H' a L := ⟨s _ _ h.top, fun p hp => s _ _ (h.sets p hp), h.good⟩
theorem all_true (n : Nat) : ((List.replicate n true).all id) = true := by
  rw [List.all_eq_true]
  intro x hx
  exact (List.mem_replicate.mp hx).2
theorem rep_snoc (n : Nat) (x : V) : List.replicate n x ++ [x] = List.replicate (n + 1) x := (List.replicate_succ' ..).symm
section
variable {P : Program} {w : World} {K : PySem.W.Frag} {mg : Str → Option Value} {base : Heap}
/-! ### is_word -/
def spWord : Sp := fun vs H Q _ => ∃ z : Str, vs = [.str z] ∧ Good z ∧ ∀ H', Same H H' → Q (.bl true) H'
structure SgAt (mg : Str → Option Value) : Prop where
  ex : ∃ t, mg "SIGNS" = some (.str SG t)
theorem sc_is_word : FnScope ["text", "sign"] ["text"] (defScope s_is_word) := ⟨rfl, rfl, rfl, by decide +kernel, rfl, by decide +kernel, by decide +kernel⟩
theorem small_len {z : Str} (h : z.length ≤ 1000) : z.length ≤ sizeLine := Nat.le_of_lt (small1000 h)
theorem ok_is_word (F : Std K mg "is_word" s_is_word) (hS : SgAt mg) (mA : mg "all" = none) (mL : mg "len" = none) : Cal P w K mg base "is_word" 1 ["text"] spWord := by
  obtain ⟨f, fd, F, gF⟩ := F.ex
  refine ⟨f, fd, ?_, gF, F.kp, F.bindsN fun _ _ _ _ _ _ us hl => match us, hl with | [_], _ => rfl⟩
  refine F.ok sc_is_word (fun vs H Q E h => ?_) (fun cdv A outer s H vs Q E hr h => ?_)
  · obtain ⟨z, rfl, _⟩ := h
    rfl
  · obtain ⟨z, rfl, ⟨g1, g2, g3⟩, q⟩ := h
    obtain ⟨t, gS⟩ := hS.ex
    refine ⟨_, PSs.nox (pss_one (ps_ret (pe_and (pe_chain op_le op_le pe_int (pe_callB call_len_str (by rfl) mL (by decide +kernel) (pa_cons (pv 0) pa_nil)) pe_int)
      (pe_one (pe_callB (cr_all rfl) (by rfl) mA (by decide +kernel) (pa_cons
        (pe_lc (own := [("sign", 1)]) (g := gName 1) (tt := tYes) rfl sc_is_word.nd (pi_str (pv 0)) (blkOk_by (N := ["text", "sign"]) (sc := defScope s_is_word) (by decide +kernel))
          (fun _ _ _ _ _ => pg_name (i := 1) sc_is_word.nd rfl (.inl rfl)) (fun _ _ _ _ _ => pts_nil)
          (fun _ _ _ _ _ => pe_cmpR op_in_sign (pv 1) (pe_glob rfl gS (v := .str SG) ⟨t, rfl⟩) (by rfl))) pa_nil)))))), ?_⟩
    refine ⟨_, rfl, z, rfl, small_len (by omega), _, _, rfl, rfl, _, rfl, ?_⟩
    rw [show decide ((1 : Int) ≤ (z.length : Int)) = true from decide_eq_true (by omega)]
    refine iteT ⟨_, _, rfl, rfl, _, rfl, ?_⟩
    rw [show decide ((z.length : Int) ≤ 30) = true from decide_eq_true (by omega)]
    refine iteT ?_
    refine ⟨_, rfl, z, rfl, fun D nD => lc_it walk_str (fun i H' => Same H H' ∧ H' D = some (.lst (List.replicate i (.bl true)))) ⟨upd_new nD, upd_same⟩ (fun _ _ _ _ => trivial) ?_ ?_⟩
    · rintro i x H1 H2 hi ⟨s1, d1⟩ ⟨rfl, c, hc, rfl⟩
      refine ⟨rfl, _, rfl, c, SG, rfl, rfl, ?_⟩
      have hm : c ∈ SG.cps.toList := g3 c (Array.mem_toList_iff.mpr (Array.mem_of_getElem? hc))
      rw [show decide (c ∈ SG.cps.toList) = true from decide_eq_true hm]
      refine ⟨_, d1, ?_, fun b o e => ?_, ?_⟩
      · rw [List.length_replicate]
        have : z.cps.size ≤ 30 := g2
        exact small1000 (by omega)
      · rw [upd_ne (ne_of_none e nD)]
        exact s1 b o e
      · rw [upd_same, rep_snoc]
    · rintro H1 ⟨s1, d1⟩
      refine ⟨D, List.replicate z.cps.size true, rfl, ?_, ?_⟩
      · rw [List.map_replicate]
        exact lst d1
      · rw [all_true]
        exact q H1 s1
/-! ### check_sets -/
theorem nodup_le {xs : List Str} (h : GoodSet xs) : xs.Nodup ∧ xs.length ≤ 1000 := ⟨h.1, by have := h.2.1; omega⟩
def spLot1 : Sp := fun vs H Q _ => ∃ (a : Addr) (L : List (Addr × List Str)), vs = [.ref a] ∧ LotAt H a L ∧ ∀ H', Same H H' → Q .non H'
theorem sc_check_sets : FnScope ["lot", "words", "word"] ["lot"] (defScope s_check_sets) := ⟨rfl, rfl, rfl, by decide +kernel, rfl, by decide +kernel, by decide +kernel⟩
theorem lot_get {L : List (Addr × List Str)} {i : Nat} {x : V} (h : (L.map fun p => V.ref p.1)[i]? = some x) : ∃ p, L[i]? = some p ∧ p ∈ L ∧ x = .ref p.1 := by
  rw [List.getElem?_map] at h
  cases e : L[i]? with
  | none => rw [e] at h; cases h
  | some p =>
    rw [e] at h
    exact ⟨p, rfl, List.mem_of_getElem? e, (Option.some.inj h).symm⟩
theorem strs_get {xs : List Str} {i : Nat} {x : V} (h : (xs.map V.str)[i]? = some x) : ∃ z, xs[i]? = some z ∧ z ∈ xs ∧ x = .str z := by
  rw [List.getElem?_map] at h
  cases e : xs[i]? with
  | none => rw [e] at h; cases h
  | some p =>
    rw [e] at h
    exact ⟨p, rfl, List.mem_of_getElem? e, (Option.some.inj h).symm⟩
theorem ok_check_sets (F : Std K mg "check_sets" s_check_sets) (cW : Cal P w K mg base "is_word" 1 ["text"] spWord) (mA : mg "all" = none) (mL : mg "len" = none) (mS : mg "set" = none) : Cal P w K mg base "check_sets" 2 ["lot"] spLot1 := by
  obtain ⟨f, fd, F, gF⟩ := F.ex
  refine ⟨f, fd, ?_, gF, F.kp, F.bindsN fun _ _ _ _ _ _ us hl => match us, hl with | [_], _ => rfl⟩
  refine F.ok sc_check_sets (fun vs H Q E h => ?_) (fun cdv A outer s H vs Q E hr h => ?_)
  · obtain ⟨a, L, rfl, _⟩ := h
    rfl
  · obtain ⟨a, L, rfl, hL, q⟩ := h
    refine ⟨_, PSs.nox (pss_one (ps_for PassesOwn.never rfl (pi_list (pv 0)) (pg_name (i := 1) sc_check_sets.nd rfl (.inl rfl))
      (pss_one (ps_if (PW.pt (pw_or (pt_not (pt_val (pe_callB (cr_all rfl) (by rfl) mA (by decide +kernel) (pa_cons
          (pe_lc (own := [("word", 2)]) (g := gName 2) (tt := tYes) rfl sc_check_sets.nd (pi_list (pv 1)) (blkOk_by (N := ["lot", "words", "word"]) (sc := defScope s_check_sets) (by decide +kernel))
            (fun _ _ _ _ _ => pg_name (i := 2) sc_check_sets.nd rfl (.inl rfl)) (fun _ _ _ _ _ => pts_nil)
            (fun _ _ _ _ _ => pe_cal cW hr (pa_cons (pv 2) pa_nil))) pa_nil))))
        (pw_or1 (pt_cmpR op_ne (pe_lenTexts (pv 1) mL mS) (pe_callB call_len_seq (by rfl) mL (by decide +kernel) (pa_cons (pv 1) pa_nil)) (nomark _))))) pss_never pss_nil)))), ?_⟩
    refine ⟨_, rfl, a, rfl, ⟨_, lst hL.top⟩, for_list (K := K) (a := a) (xs := L.map fun p => V.ref p.1) (fun i σ H' => ∃ v, σ = [some (.ref a), v, none] ∧ Same H H') ⟨none, rfl, Same.refl H⟩
      (fun i σ H' _ ⟨_, _, s⟩ => lst (s _ _ hL.top)) ?_ fun σ H' ⟨_, _, s⟩ => q H' s⟩
    rintro i x σ H1 hx ⟨v, rfl, s1⟩
    obtain ⟨p, _, hp, rfl⟩ := lot_get hx
    have gp := hL.good p hp
    have hp1 : H1 p.1 = some (.lst (p.2.map V.str)) := s1 _ _ (hL.sets p hp)
    refine ⟨_, rfl, p.1, rfl, ⟨_, lst hp1⟩, fun D nD => lc_list (K := K) (a := p.1) (xs := p.2.map V.str) (fun i H' => Same H1 H' ∧ H' D = some (.lst (List.replicate i (.bl true)))) ⟨upd_new nD, upd_same⟩
      (fun i H' _ h => lst (h.1 _ _ hp1)) ?_ ?_⟩
    · rintro j y H2 hy ⟨s2, d2⟩
      obtain ⟨z, hz, hzm, rfl⟩ := strs_get hy
      have hj : j < p.2.length := (List.getElem?_eq_some_iff.mp hz).1
      refine ⟨rfl, _, rfl, z, rfl, gp.2.2 z hzm, fun H3 s3 => ⟨_, s3 _ _ d2, ?_, fun b o e => ?_, ?_⟩⟩
      · rw [List.length_replicate]
        exact small1000 (by have := gp.2.1; omega)
      · rw [upd_ne (ne_of_none e nD)]
        exact s3 b o (s2 b o e)
      · rw [upd_same, rep_snoc]
    · rintro H2 ⟨s2, d2⟩
      refine ⟨D, List.replicate (p.2.map V.str).length true, rfl, ?_, _, rfl, ?_⟩
      · rw [List.map_replicate]
        exact lst d2
      · rw [all_true]
        refine iteF ?_
        have hp2 := s2 _ _ hp1
        refine ⟨_, rfl, p.1, p.2, rfl, lst hp2, (nodup_le gp).1, (nodup_le gp).2, _, rfl, p.1, _, rfl, .inl (lst hp2), rfl, _, rfl, ?_⟩
        refine iteNS ?_ ?_
        · rw [List.length_map]
        · exact ⟨_, rfl, s1.trans s2⟩
/-! ### check_weights -/
theorem valV_mem {κ : Type} [DecidableEq κ] {kvs : List (κ × V)} {k : κ} {v : V} (h : valV kvs k = some v) : (k, v) ∈ kvs := by
  unfold valV at h
  cases e : kvs.find? (fun kv => decide (kv.1 = k)) with
  | none => rw [e] at h; cases h
  | some q =>
    rw [e] at h
    obtain rfl : q.2 = v := Option.some.inj h
    have h1 := List.mem_of_find?_eq_some e
    have h2 := of_decide_eq_true (List.find?_some (p := fun kv : κ × V => decide (kv.1 = k)) e)
    subst h2
    exact h1
theorem mem_valV {κ : Type} [DecidableEq κ] {kvs : List (κ × V)} {k : κ} {v : V} (h : (k, v) ∈ kvs) : ∃ u, valV kvs k = some u := by
  cases e : valV kvs k with
  | some u => exact ⟨u, rfl⟩
  | none => exact absurd (List.mem_map.mpr ⟨_, h, rfl⟩) (valV_not e)
def spWts1 : Sp := fun vs H Q _ => ∃ (d : Addr) (kvs : List (Key × V)) (wt : Str → Nat), vs = [.ref d] ∧ H d = some (.dK kvs) ∧ WtOk kvs wt ∧ ∀ H', Same H H' → Q .non H'
theorem sc_check_weights : FnScope ["weights", "word"] ["weights"] (defScope s_check_weights) := ⟨rfl, rfl, rfl, by decide +kernel, rfl, by decide +kernel, by decide +kernel⟩
theorem ok_check_weights (F : Std K mg "check_weights" s_check_weights) (cW : Cal P w K mg base "is_word" 1 ["text"] spWord) : Cal P w K mg base "check_weights" 2 ["weights"] spWts1 := by
  obtain ⟨f, fd, F, gF⟩ := F.ex
  refine ⟨f, fd, ?_, gF, F.kp, F.bindsN fun _ _ _ _ _ _ us hl => match us, hl with | [_], _ => rfl⟩
  refine F.ok sc_check_weights (fun vs H Q E h => ?_) (fun cdv A outer s H vs Q E hr h => ?_)
  · obtain ⟨a, kvs, wt, rfl, _⟩ := h
    rfl
  · obtain ⟨d, kvs, wt, rfl, hd, W, q⟩ := h
    have hu := hu_of hr
    refine ⟨_, PSs.nox (pss_one (ps_lock (ps_for PassesOwn.never rfl (pi_keys (pv 0)) (pg_name (i := 1) sc_check_weights.nd rfl (.inl rfl))
      (pss_one (ps_if (PW.pt (pw_or (pt_not (pt_val (pe_cal cW hr (pa_cons (pv 1) pa_nil)))) (pw_or1 (pt_cmpR op_lt (pe_dget hu (pv 0) (pv 1) (fun _ _ => rfl)) pe_int (nomark _))))) pss_never pss_nil))))), ?_⟩
    refine ⟨d, _, hd, trivial, fun od => ?_⟩
    refine ⟨_, rfl, d, od, rfl, .inl ⟨kvs, upd_same, for_it walk_keys (fun i σ H' => ∃ v, σ = [some (.ref d), v] ∧ Same (upd H d (.frz od (.dK kvs))) H') ⟨none, rfl, Same.refl _⟩ (fun i σ H' _ ⟨_, _, s⟩ => s _ _ upd_same) ?_ ?_⟩⟩
    · rintro i x σ H1 H2 hi ⟨v, rfl, s1⟩ ⟨rfl, k, u, hk, rfl⟩
      have hm := List.mem_of_getElem? hk
      obtain ⟨z, n, e, gz, hn⟩ := W.ok _ hm
      obtain ⟨rfl, rfl⟩ := Prod.mk.inj e
      obtain ⟨u2, hu2⟩ := mem_valV hm
      obtain ⟨z2, n2, e2, gz2, hn2⟩ := W.ok _ (valV_mem hu2)
      obtain ⟨_, rfl⟩ := Prod.mk.inj e2
      refine ⟨_, rfl, z, rfl, gz, fun H3 s3 => ⟨_, rfl, iteF ?_⟩⟩
      refine ⟨_, rfl, _, rfl, d, _, rfl, .inl ⟨kvs, .inr z, .inr ⟨od, s3 _ _ (s1 _ _ upd_same)⟩, rfl, hu2.symm⟩, _, _, rfl, rfl, _, rfl, ?_⟩
      rw [show decide ((n2 : Int) < 1) = false from decide_eq_false (by omega)]
      exact iteF ⟨_, rfl, s1.trans s3⟩
    · rintro σ H1 ⟨v, rfl, s1⟩
      refine ⟨s1 _ _ upd_same, q _ fun b o e => ?_⟩
      by_cases hb : b = d
      · subst hb
        rw [upd_same, ← hd]
        exact e
      · rw [upd_ne hb]
        refine s1 b o ?_
        rw [upd_ne hb]
        exact e
/-! ### check_lot -/
def spLot2 : Sp := fun vs H Q _ => ∃ (a d : Addr) (L : List (Addr × List Str)) (kvs : List (Key × V)) (wt : Str → Nat), vs = [.ref a, .ref d] ∧ LotAt H a L ∧ H d = some (.dK kvs) ∧ WtOk kvs wt ∧ ∀ H', Same H H' → Q .non H'
theorem sc_check_lot : FnScope ["lot", "weights"] ["lot", "weights"] (defScope s_check_lot) := ⟨rfl, rfl, rfl, by decide +kernel, rfl, by decide +kernel, by decide +kernel⟩
theorem ok_check_lot (F : Std K mg "check_lot" s_check_lot) (cS : Cal P w K mg base "check_sets" 2 ["lot"] spLot1) (cW : Cal P w K mg base "check_weights" 2 ["weights"] spWts1) : Cal P w K mg base "check_lot" 3 ["lot", "weights"] spLot2 := by
  obtain ⟨f, fd, F, gF⟩ := F.ex
  refine ⟨f, fd, ?_, gF, F.kp, F.bindsN fun _ _ _ _ _ _ us hl => match us, hl with | [_, _], _ => rfl⟩
  refine F.ok sc_check_lot (fun vs H Q E h => ?_) (fun cdv A outer s H vs Q E hr h => ?_)
  · obtain ⟨a, d, L, kvs, wt, rfl, _⟩ := h
    rfl
  · obtain ⟨a, d, L, kvs, wt, rfl, hL, hd, W, q⟩ := h
    refine ⟨_, PSs.nox (pss_cons (ps_expr (pe_cal cS hr (pa_cons (pv 0) pa_nil))) (pss_one (ps_expr (pe_cal cW hr (pa_cons (pv 1) pa_nil))))), ?_⟩
    exact ⟨_, rfl, a, L, rfl, hL, fun H1 s1 => ⟨_, rfl, d, kvs, wt, rfl, s1 _ _ hd, W, fun H2 s2 => q _ (s1.trans s2)⟩⟩
end
end Muc
namespace Muc
open PySem PySem.Spec PyProof.Rows L2
theorem take_map {α β : Type} {xs : List α} {i : Nat} {z : α} (f : α → β) (h : xs[i]? = some z) : (xs.take i).map f ++ [f z] = (xs.take (i + 1)).map f := by
  rw [List.take_add_one, h, List.map_append]
  rfl
theorem take_all_map {α β : Type} (xs : List α) (f : α → β) (n : Nat) (h : n = xs.length) : (xs.take n).map f = xs.map f := by
  rw [h, List.take_length]
theorem sum_sw (wt : Str → Nat) : ∀ xs : List Str, (xs.map fun z => ((wt z : Nat) : Int)).sum = ((sw wt xs : Nat) : Int)
  | [] => rfl
  | x :: xs => by
    rw [List.map_cons, List.sum_cons, sum_sw wt xs, sw_cons]
    omega
theorem sw_bd {wt : Str → Nat} (h : ∀ z, wt z ≤ 1000000) : ∀ xs : List Str, sw wt xs ≤ 1000000 * xs.length
  | [] => Nat.le_refl _
  | x :: xs => by
    have ih := sw_bd h xs
    have := h x
    rw [sw_cons, List.length_cons]
    omega
theorem inV_str (z : Str) (xs : List Str) : inV (.str z) (xs.map V.str) = decide (z ∈ xs) := by
  unfold inV
  rw [List.any_map]
  by_cases h : z ∈ xs
  · rw [decide_eq_true h, List.any_eq_true]
    exact ⟨z, h, beq_self_eq_true z⟩
  · rw [decide_eq_false h, List.any_eq_false]
    intro y hy e
    exact h ((eq_of_beq (show (y == z) = true from e)) ▸ hy)
theorem flat_texts (xs : List Str) : (xs.map V.str).all flatV = true := by
  rw [List.all_eq_true]
  intro x hx
  obtain ⟨z, _, rfl⟩ := List.mem_map.mp hx
  rfl
theorem take_filter {xs : List Str} {i : Nat} {z : Str} (p : Str → Bool) (h : xs[i]? = some z) : (xs.take (i + 1)).filter p = (xs.take i).filter p ++ (if p z = true then [z] else []) := by
  rw [List.take_add_one, h, List.filter_append]
  congr 1
  show List.filter p [z] = _
  rw [List.filter_cons]
  rfl
section
variable {P : Program} {w : World} {K : PySem.W.Frag} {mg : Str → Option Value} {base : Heap}
/-! ### weight -/
def spWeight (K : PySem.W.Frag) : Sp := fun vs H Q _ => ∃ (a d : Addr) (xs : List Str) (kvs : List (Key × V)) (wt : Str → Nat), vs = [.ref a, .ref d] ∧ SqL K H a (xs.map V.str) ∧ H d = some (.dK kvs) ∧ WtOk kvs wt ∧ xs.length ≤ 1000 ∧
  ∀ H', Same H H' → Q (.int ((sw wt xs : Nat) : Int)) H'
theorem sc_weight : FnScope ["words", "weights", "word"] ["words", "weights"] (defScope s_weight) := ⟨rfl, rfl, rfl, by decide +kernel, rfl, by decide +kernel, by decide +kernel⟩
theorem ok_weight (F : Std K mg "weight" s_weight) (mS : mg "sum" = none) : Cal P w K mg base "weight" 1 ["words", "weights"] (spWeight K) := by
  obtain ⟨f, fd, F, gF⟩ := F.ex
  refine ⟨f, fd, ?_, gF, F.kp, F.bindsN fun _ _ _ _ _ _ us hl => match us, hl with | [_, _], _ => rfl⟩
  refine F.ok sc_weight (fun vs H Q E h => ?_) (fun cdv A outer s H vs Q E hr h => ?_)
  · obtain ⟨a, d, L, kvs, wt, rfl, _⟩ := h
    rfl
  · obtain ⟨a, d, xs, kvs, wt, rfl, hL, hd, W, hl, q⟩ := h
    have hu := hu_of hr
    refine ⟨_, PSs.nox (pss_one (ps_ret (pe_callB (cr_sum rfl) (by rfl) mS (by decide +kernel) (pa_cons
        (pe_lc (own := [("word", 2)]) (g := gName 2) (tt := tYes) rfl sc_weight.nd (pi_list (pv 0)) (blkOk_by (N := ["words", "weights", "word"]) (sc := defScope s_weight) (by decide +kernel))
          (fun _ _ _ _ _ => pg_name (i := 2) sc_weight.nd rfl (.inl rfl)) (fun _ _ _ _ _ => pts_nil)
          (fun _ _ _ _ _ => pe_dget2 hu (pv 1) (pv 2) pe_int ⟨rfl, rfl, rfl, rfl⟩)) pa_nil)))), ?_⟩
    refine ⟨_, rfl, a, rfl, ⟨_, hL⟩, fun D nD => lc_list (K := K) (a := a) (xs := xs.map V.str) (fun i H' => Same H H' ∧ H' D = some (.lst ((xs.take i).map fun z => V.int ((wt z : Nat) : Int)))) ⟨upd_new nD, upd_same⟩
      (fun i H' _ h => h.1.seq hL) ?_ ?_⟩
    · rintro j y H2 hy ⟨s2, d2⟩
      obtain ⟨z, hz, hzm, rfl⟩ := strs_get hy
      have hj : j < xs.length := (List.getElem?_eq_some_iff.mp hz).1
      have hd2 := s2 _ _ hd
      refine ⟨rfl, _, rfl, d, rfl, .inl ⟨kvs, .inl hd2⟩, _, rfl, _, DGet.k (k := Sum.inr z) hd2, _, d2, ?_, fun b o e => ?_, ?_⟩
      · rw [List.length_map, List.length_take]
        exact small1000 (by omega)
      · rw [upd_ne (ne_of_none e nD)]
        exact s2 b o e
      · rw [upd_same, W.val, take_map (fun z => V.int ((wt z : Nat) : Int)) hz]
    · rintro H2 ⟨s2, d2⟩
      rw [take_all_map _ _ _ (by rw [List.length_map])] at d2
      refine ⟨D, xs.map fun z => ((wt z : Nat) : Int), rfl, ?_, ?_⟩
      · rw [List.map_map]
        exact lst d2
      · rw [sum_sw]
        exact q _ s2
/-! ### common -/
def spCommon (K : PySem.W.Frag) : Sp := fun vs H Q _ => ∃ (a b d : Addr) (xs ys : List Str) (kvs : List (Key × V)) (wt : Str → Nat), vs = [.ref a, .ref b, .ref d] ∧ SqL K H a (xs.map V.str) ∧ SqL K H b (ys.map V.str) ∧ H d = some (.dK kvs) ∧ WtOk kvs wt ∧ xs.length < 64 ∧
  ∀ H' p l, Same H H' → H' p = some (.tup [.ref l, .int ((cm wt xs ys : Nat) : Int)]) → Q (.ref p) H'
theorem sc_common : FnScope ["one", "other", "weights", "words", "word"] ["one", "other", "weights"] (defScope s_common) := ⟨rfl, rfl, rfl, by decide +kernel, rfl, by decide +kernel, by decide +kernel⟩
theorem ok_common (F : Std K mg "common" s_common) (cW : Cal P w K mg base "weight" 1 ["words", "weights"] (spWeight K)) (mS : mg "sorted" = none) : Cal P w K mg base "common" 2 ["one", "other", "weights"] (spCommon K) := by
  obtain ⟨f, fd, F, gF⟩ := F.ex
  refine ⟨f, fd, ?_, gF, F.kp, F.bindsN fun _ _ _ _ _ _ us hl => match us, hl with | [_, _, _], _ => rfl⟩
  refine F.ok sc_common (fun vs H Q E h => ?_) (fun cdv A outer s H vs Q E hr h => ?_)
  · obtain ⟨a, b, d, xs, ys, kvs, wt, rfl, _⟩ := h
    rfl
  · obtain ⟨a, b, d, xs, ys, kvs, wt, rfl, ha, hb, hd, W, hl, q⟩ := h
    refine ⟨_, PSs.nox (pss_cons (ps_set (i := 3) sc_common.nd rfl (.inl rfl) (pe_callB cr_sortedS (by rfl) mS (by decide +kernel) (pa_cons
        (pe_lc (own := [("word", 4)]) (g := gName 4) rfl sc_common.nd (pi_list (pv 0)) (blkOk_by (N := ["one", "other", "weights", "words", "word"]) (sc := defScope s_common) (by decide +kernel))
          (fun _ _ _ _ _ => pg_name (i := 4) sc_common.nd rfl (.inl rfl)) (fun _ _ _ _ _ => pts_one (pt_cmpR (r := rIn K false) op_in_seq (pv 4) (pv 1) (by rfl)))
          (fun _ _ _ _ _ => pv 4)) pa_nil)))
      (pss_one (ps_ret (pe_tup (pa_cons (pv 3) (pa_cons (pe_cal cW hr (pa_cons (pv 3) (pa_cons (pv 2) pa_nil))) pa_nil)))))), ?_⟩
    refine ⟨_, rfl, a, rfl, ⟨_, ha⟩, fun D nD => lc_list (K := K) (a := a) (xs := xs.map V.str) (fun i H' => Same H H' ∧ H' D = some (.lst (((xs.take i).filter fun z => decide (z ∈ ys)).map V.str))) ⟨upd_new nD, upd_same⟩
      (fun i H' _ h => h.1.seq ha) ?_ ?_⟩
    · rintro j y H2 hy ⟨s2, d2⟩
      obtain ⟨z, hz, hzm, rfl⟩ := strs_get hy
      have hj : j < xs.length := (List.getElem?_eq_some_iff.mp hz).1
      refine ⟨rfl, _, rfl, _, rfl, b, _, rfl, .inl (s2.seq hb), rfl, flat_texts ys, _, rfl, ?_⟩
      simp only [Bool.false_eq_true, if_false, inV_str]
      by_cases hm : z ∈ ys
      · rw [decide_eq_true hm]
        refine iteT ⟨_, rfl, _, d2, ?_, fun b o e => ?_, ?_⟩
        · rw [List.length_map]
          refine Nat.lt_of_le_of_lt (List.length_filter_le _ _) (small1000 ?_)
          rw [List.length_take]
          omega
        · rw [upd_ne (ne_of_none e nD)]
          exact s2 b o e
        · rw [upd_same, take_filter _ hz, if_pos (decide_eq_true hm), List.map_append]
          rfl
      · rw [decide_eq_false hm]
        refine iteF ⟨s2, ?_⟩
        rw [d2, take_filter _ hz, if_neg (by rw [decide_eq_false hm]; exact Bool.false_ne_true), List.append_nil]
    · rintro H2 ⟨s2, d2⟩
      rw [List.length_map, List.take_length] at d2
      refine ⟨D, _, rfl, lst d2, Nat.lt_of_le_of_lt (List.length_filter_le _ _) hl, fun zs p perm _ np => ?_⟩
      have hd3 : upd H2 p (.lst (zs.map V.str)) d = some (.dK kvs) := by
        rw [upd_ne (ne_of_none (s2 _ _ hd) np)]
        exact s2 _ _ hd
      have zl : zs.length ≤ 1000 := by
        rw [perm.length_eq]
        have := List.length_filter_le (fun z => decide (z ∈ ys)) xs
        omega
      refine ⟨_, rfl, _, rfl, _, rfl, p, d, zs, kvs, wt, rfl, lst upd_same, hd3, W, zl, fun H3 s3 => ⟨by show 2 ≤ sizeLine; decide, fun t nt => ?_⟩⟩
      refine q _ t p ((s2.trans (upd_new np)).trans (s3.trans (upd_new nt))) ?_
      rw [upd_same, sw_perm perm]
      rfl
/-! ### share_between -/
def spShB : Sp := fun vs H Q _ => ∃ (k : Bool) (a b d : Addr) (xs ys : List Str) (kvs : List (Key × V)) (wt : Str → Nat), vs = [.str (kd k), .ref a, .ref b, .ref d] ∧ H a = some (.lst (xs.map V.str)) ∧ H b = some (.lst (ys.map V.str)) ∧
  H d = some (.dK kvs) ∧ WtOk kvs wt ∧ GoodSet xs ∧ GoodSet ys ∧ ∀ H' p, Same H H' → H' p = some (fr (shS k wt xs ys)) → H p = none → Q (.ref p) H'
theorem sc_share_between : FnScope ["kind", "one", "other", "weights"] ["kind", "one", "other", "weights"] (defScope s_share_between) := ⟨rfl, rfl, rfl, by decide +kernel, rfl, by decide +kernel, by decide +kernel⟩
theorem ok_share_between (F : Std K mg "share_between" s_share_between) (cS : Cal P w K mg base "share_of" 3 ["kind", "a", "b", "c"] spShare) (cW : Cal P w K mg base "weight" 1 ["words", "weights"] (spWeight K)) (cC : Cal P w K mg base "common" 2 ["one", "other", "weights"] (spCommon K)) : Cal P w K mg base "share_between" 4 ["kind", "one", "other", "weights"] spShB := by
  obtain ⟨f, fd, F, gF⟩ := F.ex
  refine ⟨f, fd, ?_, gF, F.kp, F.bindsN fun _ _ _ _ _ _ us hl => match us, hl with | [_, _, _, _], _ => rfl⟩
  refine F.ok sc_share_between (fun vs H Q E h => ?_) (fun cdv A outer s H vs Q E hr h => ?_)
  · obtain ⟨k, a, b, d, xs, ys, kvs, wt, rfl, _⟩ := h
    rfl
  · obtain ⟨k, a, b, d, xs, ys, kvs, wt, rfl, ha, hb, hd, W, gx, gy, q⟩ := h
    refine ⟨_, PSs.nox (pss_one (ps_ret (pe_cal cS hr (pa_cons (pv 0) (pa_cons (pe_cal cW hr (pa_cons (pv 1) (pa_cons (pv 3) pa_nil))) (pa_cons (pe_cal cW hr (pa_cons (pv 2) (pa_cons (pv 3) pa_nil)))
      (pa_cons (pe_ix ix_tup (pe_cal cC hr (pa_cons (pv 1) (pa_cons (pv 2) (pa_cons (pv 3) pa_nil)))) pe_int (fun _ _ => rfl)) pa_nil))))))), ?_⟩
    have lx := gx.2.1
    have ly := gy.2.1
    refine ⟨_, rfl, _, rfl, _, rfl, a, d, xs, kvs, wt, rfl, lst ha, hd, W, by omega, fun H1 s1 => ?_⟩
    refine ⟨_, rfl, _, rfl, b, d, ys, kvs, wt, rfl, lst (s1 _ _ hb), s1 _ _ hd, W, by omega, fun H2 s2 => ?_⟩
    have s12 := s1.trans s2
    refine ⟨_, rfl, _, rfl, _, rfl, a, b, d, xs, ys, kvs, wt, rfl, lst (s12 _ _ ha), lst (s12 _ _ hb), s12 _ _ hd, W, by omega, fun H3 p l s3 hp => ?_⟩
    refine ⟨_, _, _, _, rfl, rfl, tup hp, at1 _ _ _, k, sw wt xs, sw wt ys, cm wt xs ys, rfl, cm_le _ _ _, cm_le2 wt gx.1 gy.1, ?_, fun t nt => ?_⟩
    · have b1 := sw_bd W.bd xs
      have b2 := sw_bd W.bd ys
      omega
    · have s123 := s12.trans s3
      exact q _ t (s123.trans (upd_new nt)) upd_same (s123.free nt)
end
end Muc
namespace Muc
open PySem PySem.Spec PyProof.Rows L2
/-- a told pair: where its tuple and its share stand, its numbers -/
structure Pr where
  a : Addr
  s : Addr
  i : Nat
  j : Nat
/-- the i-th set of a lot -/
def stt (L : List (Addr × List Str)) (i : Nat) : List Str := ((L[i]?).map (·.2)).getD []
theorem stt_at {L : List (Addr × List Str)} {i : Nat} {p : Addr × List Str} (h : L[i]? = some p) : stt L i = p.2 := by
  unfold stt
  rw [h]
  rfl
/-- the share of the i-th and the j-th set -/
def sh (k : Bool) (wt : Str → Nat) (L : List (Addr × List Str)) (i j : Nat) : Nat × Nat := shS k wt (stt L i) (stt L j)
structure PrOk (H : Hp) (k : Bool) (wt : Str → Nat) (L : List (Addr × List Str)) (p q : Nat) (r : Pr) : Prop where
  tp : H r.a = some (.tup [.int (r.i : Int), .int (r.j : Int), .ref r.s])
  sp : H r.s = some (fr (sh k wt L r.i r.j))
  lt : r.i < r.j
  bd : r.j < L.length
  le : (p : Int) * (sh k wt L r.i r.j).2 ≤ (sh k wt L r.i r.j).1 * q
theorem PrOk.same {H H' : Hp} {k : Bool} {wt : Str → Nat} {L : List (Addr × List Str)} {p q : Nat} {r : Pr} (h : PrOk H k wt L p q r) (s : Same H H') : PrOk H' k wt L p q r := ⟨s _ _ h.tp, s _ _ h.sp, h.lt, h.bd, h.le⟩
/-- all but what stands at T is as it was -/
def But (T : Addr) (H H' : Hp) : Prop := ∀ b o, b ≠ T → H b = some o → H' b = some o
/-- the pairs told so far -/
structure Acc (H : Hp) (T : Addr) (k : Bool) (wt : Str → Nat) (L : List (Addr × List Str)) (p q : Nat) (dn : Nat → Nat → Prop) (m : Nat) (qs : List Pr) : Prop where
  top : H T = some (.lst (qs.map fun r => V.ref r.a))
  sound : ∀ r ∈ qs, PrOk H k wt L p q r
  full : ∀ i j, i < j → j < L.length → dn i j → (p : Int) * (sh k wt L i j).2 ≤ (sh k wt L i j).1 * q → ∃ r ∈ qs, r.i = i ∧ r.j = j
  len : qs.length ≤ m
abbrev PairsAt (H : Hp) (T : Addr) (k : Bool) (wt : Str → Nat) (L : List (Addr × List Str)) (p q : Nat) (qs : List Pr) : Prop := Acc H T k wt L p q (fun _ _ => True) 1000 qs
theorem Acc.same {H H' : Hp} {T : Addr} {k : Bool} {wt : Str → Nat} {L : List (Addr × List Str)} {p q : Nat} {dn : Nat → Nat → Prop} {m : Nat} {qs : List Pr} (h : Acc H T k wt L p q dn m qs) (s : Same H H') : Acc H' T k wt L p q dn m qs :=
  ⟨s _ _ h.top, fun r hr => (h.sound r hr).same s, h.full, h.len⟩
theorem Acc.imp {H : Hp} {T : Addr} {k : Bool} {wt : Str → Nat} {L : List (Addr × List Str)} {p q : Nat} {dn dn' : Nat → Nat → Prop} {m m' : Nat} {qs : List Pr} (h : Acc H T k wt L p q dn m qs)
    (d : ∀ i j, i < j → j < L.length → dn' i j → dn i j) (l : m ≤ m') : Acc H T k wt L p q dn' m' qs :=
  ⟨h.top, h.sound, fun i j h1 h2 h3 => h.full i j h1 h2 (d i j h1 h2 h3), Nat.le_trans h.len l⟩
/-- a pair that isn't so much alike is passed -/
theorem Acc.pass {H : Hp} {T : Addr} {k : Bool} {wt : Str → Nat} {L : List (Addr × List Str)} {p q : Nat} {dn dn' : Nat → Nat → Prop} {m m' : Nat} {qs : List Pr} {i j : Nat} (h : Acc H T k wt L p q dn m qs)
    (no : ¬ (p : Int) * (sh k wt L i j).2 ≤ (sh k wt L i j).1 * q) (d : ∀ a b, a < b → b < L.length → dn' a b → dn a b ∨ (a = i ∧ b = j)) (l : m ≤ m') : Acc H T k wt L p q dn' m' qs :=
  ⟨h.top, h.sound, fun a b h1 h2 h3 h4 => (d a b h1 h2 h3).elim (fun z => h.full a b h1 h2 z h4) fun ⟨e1, e2⟩ => absurd h4 (by rw [e1, e2]; exact no), Nat.le_trans h.len l⟩
/-- one more -/
theorem Acc.more {H : Hp} {T P S : Addr} {k : Bool} {wt : Str → Nat} {L : List (Addr × List Str)} {p q : Nat} {dn dn' : Nat → Nat → Prop} {m : Nat} {qs : List Pr} {i j : Nat} (h : Acc H T k wt L p q dn m qs)
    (ok : PrOk H k wt L p q ⟨P, S, i, j⟩) (d : ∀ a b, a < b → b < L.length → dn' a b → dn a b ∨ (a = i ∧ b = j)) :
    Acc (upd H T (.lst (qs.map (fun r => V.ref r.a) ++ [.ref P]))) T k wt L p q dn' (m + 1) (qs ++ [⟨P, S, i, j⟩]) := by
  have keep : ∀ r : Pr, PrOk H k wt L p q r → PrOk (upd H T (.lst (qs.map (fun r => V.ref r.a) ++ [.ref P]))) k wt L p q r := fun r z =>
    ⟨by rw [upd_ne (ne_of z.tp h.top (by intro e; cases e))]; exact z.tp, by rw [upd_ne (ne_of z.sp h.top (by intro e; cases e))]; exact z.sp, z.lt, z.bd, z.le⟩
  refine ⟨?_, fun r hr => ?_, fun a b h1 h2 h3 h4 => ?_, ?_⟩
  · rw [upd_same, List.map_append]
    rfl
  · rcases List.mem_append.mp hr with hr | hr
    · exact keep r (h.sound r hr)
    · rw [List.mem_singleton.mp hr]
      exact keep _ ok
  · rcases d a b h1 h2 h3 with z | ⟨rfl, rfl⟩
    · obtain ⟨r, hr, e⟩ := h.full a b h1 h2 z h4
      exact ⟨r, List.mem_append_left _ hr, e⟩
    · exact ⟨_, List.mem_append_right _ (List.mem_singleton.mpr rfl), rfl, rfl⟩
  · rw [List.length_append]
    have := h.len
    show qs.length + 1 ≤ m + 1
    omega
section
variable {P : Program} {w : World} {K : PySem.W.Frag} {mg : Str → Option Value} {base : Heap}
def spPairs (K : PySem.W.Frag) : Sp := fun vs H Q _ => ∃ (k : Bool) (b a d : Addr) (p q : Nat) (L : List (Addr × List Str)) (kvs : List (Key × V)) (wt : Str → Nat), vs = [.str (kd k), .ref b, .ref a, .ref d] ∧ SqT K H b [.int (p : Int), .int (q : Int)] ∧
  1 ≤ p ∧ p ≤ q ∧ q < 2 ^ 64 ∧ Nat.gcd p q = 1 ∧ LotAt H a L ∧ L.length ≤ 30 ∧ H d = some (.dK kvs) ∧ WtOk kvs wt ∧
  ∀ H' T qs, Same H H' → PairsAt H' T k wt L p q qs → Q (.ref T) H'
theorem sc_plain_pairs : FnScope ["kind", "least", "lot", "weights", "told", "i", "one", "j", "share"] ["kind", "least", "lot", "weights"] (defScope s_plain_pairs) := ⟨rfl, rfl, rfl, by decide +kernel, rfl, by decide +kernel, by decide +kernel⟩
theorem ok_plain_pairs (F : Std K mg "plain_pairs" s_plain_pairs) (cK : Cal P w K mg base "check_least" 2 ["kind", "least"] (spLeast K)) (cL : Cal P w K mg base "check_lot" 3 ["lot", "weights"] spLot2) (cS : Cal P w K mg base "share_between" 4 ["kind", "one", "other", "weights"] spShB) (cI : Cal P w K mg base "is_less" 1 ["one", "other"] (spLess K)) (mE : mg "enumerate" = none) (mR : mg "range" = none) (mL : mg "len" = none) : Cal P w K mg base "plain_pairs" 5 ["kind", "least", "lot", "weights"] (spPairs K) := by
  obtain ⟨f, fd, F, gF⟩ := F.ex
  refine ⟨f, fd, ?_, gF, F.kp, F.bindsN fun _ _ _ _ _ _ us hl => match us, hl with | [_, _, _, _], _ => rfl⟩
  refine F.ok sc_plain_pairs (fun vs H Q E h => ?_) (fun cdv A outer s H vs Q E hr h => ?_)
  · obtain ⟨k, b, a, d, p, q, L, kvs, wt, rfl, _⟩ := h
    rfl
  · obtain ⟨k, b, a, d, p, q, L, kvs, wt, rfl, hb, p1, pq, q64, pg, hL, hn, hd, W, kq⟩ := h
    refine ⟨_, PSs.nox (pss_cons (ps_expr (pe_cal cK hr (pa_cons (pv 0) (pa_cons (pv 1) pa_nil))))
      (pss_cons (ps_expr (pe_cal cL hr (pa_cons (pv 2) (pa_cons (pv 3) pa_nil))))
      (pss_cons (ps_set (i := 4) sc_plain_pairs.nd rfl (.inl rfl) (pe_lst pa_nil))
      (pss_cons (ps_for PassesOwn.never rfl (pi_enum (by rfl) mE (pa_cons (pv 2) pa_nil)) (pg_tup (by rfl) (pgs_cons (pg_name (i := 5) sc_plain_pairs.nd rfl (.inl rfl)) (pgs_cons (pg_name (i := 6) sc_plain_pairs.nd rfl (.inl rfl)) pgs_nil)))
        (pss_one (ps_for PassesOwn.never rfl (pi_range2 (by rfl) mR (pa_cons (pe_op op_add (pv 5) pe_int) (pa_cons (pe_callB call_len_seq (by rfl) mL (by decide +kernel) (pa_cons (pv 2) pa_nil)) pa_nil))) (pg_name (i := 7) sc_plain_pairs.nd rfl (.inl rfl))
          (pss_cons (ps_set (i := 8) sc_plain_pairs.nd rfl (.inl rfl) (pe_cal cS hr (pa_cons (pv 0) (pa_cons (pv 6) (pa_cons (pe_ix ix_list (pv 2) (pv 7) (fun _ _ => rfl)) (pa_cons (pv 3) pa_nil))))))
          (pss_one (ps_if (pt_not (pt_val (pe_cal cI hr (pa_cons (pv 8) (pa_cons (pv 1) pa_nil)))))
            (pss_one (ps_expr (pe_bm PySem.F.plainAttrs_list PySem.F.slot_list_append PySem.F.type_list_append mt_append (pv 4) (pa_cons (pe_tup (pa_cons (pv 5) (pa_cons (pv 7) (pa_cons (pv 8) pa_nil)))) pa_nil)))) pss_nil))))))
      (pss_one (ps_ret (pv 4))))))), ?_⟩
    -- the checks
    refine ⟨_, rfl, _, rfl, k, b, p, q, rfl, hb, p1, pq, pg, ?_⟩
    refine ⟨_, rfl, _, rfl, a, d, L, kvs, wt, rfl, hL, hd, W, fun H1 s1 => ⟨Nat.zero_le _, fun T nT => ?_⟩⟩
    have nT0 : H T = none := s1.free nT
    -- for i, one in enumerate(lot)
    have s2 : Same H (upd H1 T (.lst [])) := s1.trans (upd_new nT)
    refine ⟨_, rfl, a, _, rfl, lst (s2 _ _ hL.top), for_it walk_enum (fun i σ H' => ∃ v5 v6 v7 v8 qs, σ = [some (.str (kd k)), some (.ref b), some (.ref a), some (.ref d), some (.ref T), v5, v6, v7, v8] ∧ Same H H' ∧ Acc H' T k wt L p q (fun x _ => x < i) (30 * i) qs)
      ⟨none, none, none, none, [], rfl, s2, upd_same, (fun r hr => nomatch hr), (fun i j _ _ z _ => absurd z (Nat.not_lt_zero i)), Nat.le_refl 0⟩ (fun i σ H' _ ⟨_, _, _, _, _, _, s, _⟩ => lst (s _ _ hL.top)) ?_ ?_⟩
    · rintro i x σ H2 H2' hi ⟨v5, v6, v7, v8, qs, rfl, s3, A3⟩ ⟨Tp, x1, x2, rfl, nTp, rfl, e1, e2⟩
      obtain rfl : V.int (i : Int) = x1 := Option.some.inj e1
      obtain ⟨po, hpo, hpm, rfl⟩ := lot_get e2
      rw [List.length_map] at hi
      have s4 : Same H2 (upd H2 Tp (.tup [.int (i : Int), .ref po.1])) := upd_new nTp
      have A4 := A3.same s4
      have s5 := s3.trans s4
      refine ⟨Tp, _, rfl, tup upd_same, rfl, _, _, rfl, _, [], rfl, rfl, ?_⟩
      -- for j in range(i + 1, len(lot))
      refine ⟨_, rfl, _, _, rfl, rfl, _, rfl, a, _, rfl, .inl (lst (s5 _ _ hL.top)), _, _, rfl, ?_, ?_⟩
      · rw [List.length_map]
        omega
      rw [List.length_map]
      refine for_range (lo := (i : Int) + 1) (n := ((L.length : Int) - ((i : Int) + 1)).toNat) (fun jj σ H' => ∃ v7 v8 qs, σ = [some (.str (kd k)), some (.ref b), some (.ref a), some (.ref d), some (.ref T), some (.int (i : Int)), some (.ref po.1), v7, v8] ∧ Same H H' ∧
        Acc H' T k wt L p q (fun x y => x < i ∨ (x = i ∧ y < i + 1 + jj)) (30 * i + jj) qs) ⟨v7, v8, qs, rfl, s5, A4.imp (fun x y hxy hy z => z.elim id fun ⟨h1, h2⟩ => by omega) (by omega)⟩ ?_ ?_
      · rintro jj σ H3 hjj ⟨w7, w8, qs', rfl, s6, A6⟩
        have ej : (i : Int) + 1 + (jj : Int) = ((i + 1 + jj : Nat) : Int) := by omega
        have hjl : i + 1 + jj < L.length := by omega
        obtain ⟨pj, hpj⟩ : ∃ pj, L[i + 1 + jj]? = some pj := ⟨L[i + 1 + jj], List.getElem?_eq_getElem hjl⟩
        have hpjm := List.mem_of_getElem? hpj
        rw [ej]
        have ga := hL.good _ hpm
        have gb := hL.good _ hpjm
        refine ⟨_, rfl, _, rfl, _, rfl, _, rfl, a, _, _, _, rfl, rfl, lst (s6 _ _ hL.top), at_of rfl (by rw [List.getElem?_map, hpj]; rfl), _, rfl,
          k, po.1, pj.1, d, po.2, pj.2, kvs, wt, rfl, s6 _ _ (hL.sets _ hpm), s6 _ _ (hL.sets _ hpjm), s6 _ _ hd, W, ga, gb, fun H4 S s7 hS nS => ?_⟩
        have esh : shS k wt po.2 pj.2 = sh k wt L i (i + 1 + jj) := by
          unfold sh
          rw [stt_at hpo, stt_at hpj]
        rw [esh] at hS
        have s8 := s6.trans s7
        have A8 := A6.same s7
        have bd := shr_bd (both := k) (a := sw wt (stt L i)) (b := sw wt (stt L (i + 1 + jj))) (c := cm wt (stt L i) (stt L (i + 1 + jj)))
        have b1 := cm_le wt (stt L i) (stt L (i + 1 + jj))
        have b2 := sw_bd W.bd (stt L i)
        have b3 : (stt L i).length ≤ 60 := by rw [stt_at hpo]; exact ga.2.1
        have b4 : (sh k wt L i (i + 1 + jj)).1 < 2 ^ 64 := by
          have : (sh k wt L i (i + 1 + jj)).1 ≤ cm wt (stt L i) (stt L (i + 1 + jj)) := bd.1
          omega
        refine ⟨_, rfl, _, rfl, S, b, sh k wt L i (i + 1 + jj), (p, q), rfl, tup hS, Same.tup s8 hb, b4, (by show p < 2 ^ 64; omega), _, rfl, ?_⟩
        have dd : ∀ x y, x < y → y < L.length → (x < i ∨ (x = i ∧ y < i + 1 + (jj + 1))) → (x < i ∨ (x = i ∧ y < i + 1 + jj)) ∨ (x = i ∧ y = i + 1 + jj) := fun x y _ _ z => by omega
        by_cases hle : (p : Int) * (sh k wt L i (i + 1 + jj)).2 ≤ (sh k wt L i (i + 1 + jj)).1 * q
        · rw [show decide (((sh k wt L i (i + 1 + jj)).1 : Int) * ((p, q) : Nat × Nat).2 < ((p, q) : Nat × Nat).1 * (sh k wt L i (i + 1 + jj)).2) = false from decide_eq_false (Int.not_lt.mpr hle)]
          refine iteT ?_
          refine ⟨.ref T, rfl, .inl ⟨rfl, _, lst A8.top⟩, _, rfl, _, rfl, _, rfl, (by show 3 ≤ sizeLine; decide), fun Tq nTq => ?_⟩
          have A9 := A8.same (upd_new (o := .tup [.int (i : Int), .int ((i + 1 + jj : Nat) : Int), .ref S]) nTq)
          refine ⟨T, _, _, rfl, rfl, A9.top, ?_, ?_⟩
          · rw [List.length_map]
            exact small1000 (by have := A9.len; omega)
          · refine ⟨_, _, _, rfl, fun c o e => ?_, A9.more ⟨upd_same, by rw [upd_ne (ne_of_none hS nTq)]; exact hS, by show i < i + 1 + jj; omega, hjl, hle⟩ dd⟩
            rw [upd_ne (ne_of_none e nT0)]
            exact upd_new nTq _ _ (s8 _ _ e)
        · rw [show decide (((sh k wt L i (i + 1 + jj)).1 : Int) * ((p, q) : Nat × Nat).2 < ((p, q) : Nat × Nat).1 * (sh k wt L i (i + 1 + jj)).2) = true from decide_eq_true (Int.not_le.mp hle)]
          refine iteF ⟨_, _, _, rfl, s8, A8.pass hle dd (by omega)⟩
      · rintro σ H3 ⟨w7, w8, qs', rfl, s6, A6⟩
        exact ⟨_, _, _, _, _, rfl, s6, A6.imp (fun x y hxy hy z => by omega) (by omega)⟩
    · rintro σ H2 ⟨v5, v6, v7, v8, qs, rfl, s3, A3⟩
      rw [List.length_map] at A3
      exact ⟨_, rfl, kq _ _ _ s3 (A3.imp (fun x y hxy hy _ => by omega) (by omega))⟩
end
end Muc
namespace Muc
open PySem PySem.Spec PyProof.Rows L2
/-- the pairs, both ways -/
def edg (qs : List Pr) : List (Int × Int) := qs.flatMap fun r => [((r.i : Int), (r.j : Int)), ((r.j : Int), (r.i : Int))]
theorem edg_snoc (qs : List Pr) (r : Pr) : edg (qs ++ [r]) = edg qs ++ [((r.i : Int), (r.j : Int)), ((r.j : Int), (r.i : Int))] := by
  unfold edg
  rw [List.flatMap_append]
  rfl
theorem edg_take {qs : List Pr} {k : Nat} {r : Pr} (h : qs[k]? = some r) : edg (qs.take (k + 1)) = edg (qs.take k) ++ [((r.i : Int), (r.j : Int)), ((r.j : Int), (r.i : Int))] := by
  rw [List.take_add_one, h]
  exact edg_snoc _ _
theorem edg_len (qs : List Pr) : (edg qs).length = 2 * qs.length := by
  induction qs with
  | nil => rfl
  | cons r qs ih =>
    have : edg (r :: qs) = ((r.i : Int), (r.j : Int)) :: ((r.j : Int), (r.i : Int)) :: edg qs := rfl
    rw [this, List.length_cons, List.length_cons, List.length_cons, ih]
    omega
theorem mem_edg {qs : List Pr} {x y : Int} : (x, y) ∈ edg qs ↔ ∃ r ∈ qs, (x = r.i ∧ y = r.j) ∨ (x = r.j ∧ y = r.i) := by
  unfold edg
  rw [List.mem_flatMap]
  constructor
  · rintro ⟨r, hr, h⟩
    refine ⟨r, hr, ?_⟩
    simp only [List.mem_cons, Prod.mk.injEq, List.not_mem_nil, or_false] at h
    exact h
  · rintro ⟨r, hr, h⟩
    refine ⟨r, hr, ?_⟩
    simp only [List.mem_cons, Prod.mk.injEq, List.not_mem_nil, or_false]
    exact h
theorem edg_symm (qs : List Pr) (x y : Int) (h : (x, y) ∈ edg qs) : (y, x) ∈ edg qs := by
  obtain ⟨r, hr, z⟩ := mem_edg.mp h
  refine mem_edg.mpr ⟨r, hr, ?_⟩
  rcases z with ⟨h1, h2⟩ | ⟨h1, h2⟩
  · exact .inr ⟨h2, h1⟩
  · exact .inl ⟨h2, h1⟩
theorem outs_len (E : List (Int × Int)) (x : Int) : (outs E x).length ≤ E.length := by
  unfold outs
  rw [List.length_map]
  exact List.length_filter_le _ _
/-- a dict at d: for each number those that stand with it, in lists of their own -/
def Nb (H : Hp) (E : List (Int × Int)) (x : Int) : Option V → Prop
  | none => outs E x = []
  | some v => ∃ l, v = .ref l ∧ H l = some (.lst ((outs E x).map V.int))
structure NearAt (H : Hp) (d : Addr) (E : List (Int × Int)) (kvs : List (Key × V)) : Prop where
  top : H d = some (.dK kvs)
  len : kvs.length ≤ E.length
  nb : ∀ x : Int, Nb H E x (valV kvs (.inl x))
theorem Nb.keep {H H' : Hp} {E : List (Int × Int)} {x : Int} {o : Option V} (h : Nb H E x o) (k : ∀ b xs, H b = some (.lst xs) → H' b = some (.lst xs)) : Nb H' E x o := by
  cases o with
  | none => exact h
  | some v =>
    obtain ⟨l, e, hl⟩ := h
    exact ⟨l, e, k _ _ hl⟩
theorem NearAt.same {H H' : Hp} {d : Addr} {E : List (Int × Int)} {kvs : List (Key × V)} (h : NearAt H d E kvs) (s : Same H H') : NearAt H' d E kvs := ⟨s _ _ h.top, h.len, fun x => (h.nb x).keep fun b _ e => s b _ e⟩
/-- told[one] = told.get(one, []) + [other] -/
theorem NearAt.put {H : Hp} {d l : Addr} {E : List (Int × Int)} {kvs : List (Key × V)} {x y : Int} (h : NearAt H d E kvs) (hl : H l = some (.lst ((outs E x).map V.int ++ [.int y]))) :
    NearAt (upd H d (.dK (putK kvs (.inl x) (.ref l)))) d (E ++ [(x, y)]) (putK kvs (.inl x) (.ref l)) := by
  have kp : ∀ b xs, H b = some (.lst xs) → (upd H d (.dK (putK kvs (.inl x) (.ref l)))) b = some (.lst xs) := fun b xs e => by
    rw [upd_ne (ne_of e h.top (by intro z; cases z))]
    exact e
  refine ⟨upd_same, ?_, fun z => ?_⟩
  · have := length_putK kvs (.inl x : Key) (.ref l)
    have := h.len
    rw [List.length_append]
    show _ ≤ E.length + 1
    omega
  · rw [valV_put]
    by_cases e : (Sum.inl z : Key) = Sum.inl x
    · rw [if_pos e]
      obtain rfl : z = x := Sum.inl.inj e
      refine ⟨l, rfl, ?_⟩
      rw [outs_snoc, if_pos rfl, List.map_append]
      exact kp _ _ hl
    · rw [if_neg e]
      have ne : ¬ z = x := fun q => e (by rw [q])
      have q := h.nb z
      cases hv : valV kvs (Sum.inl z : Key) with
      | none =>
        rw [hv] at q
        show outs _ z = []
        rw [outs_snoc, if_neg ne]
        exact q
      | some v =>
        rw [hv] at q
        obtain ⟨l2, e2, h2⟩ := q
        refine ⟨l2, e2, ?_⟩
        rw [outs_snoc, if_neg ne]
        exact kp _ _ h2
/-- what near.get(x, []) gives, where the new empty list stands at e -/
theorem NearAt.get {H : Hp} {d e : Addr} {E : List (Int × Int)} {kvs : List (Key × V)} (h : NearAt H d E kvs) (x : Int) (he : H e = some (.lst [])) : ∃ l, (valV kvs (.inl x : Key)).getD (.ref e) = .ref l ∧ H l = some (.lst ((outs E x).map V.int)) := by
  have q := h.nb x
  cases hv : valV kvs (Sum.inl x : Key) with
  | none =>
    rw [hv] at q
    have q : outs E x = [] := q
    exact ⟨e, rfl, by rw [q]; exact he⟩
  | some v =>
    rw [hv] at q
    obtain ⟨l, e2, h2⟩ := q
    exact ⟨l, e2, h2⟩
theorem But.same {T : Addr} {H H1 H2 : Hp} (b : But T H1 H2) (s : Same H H1) (n : H T = none) : Same H H2 := fun c o e => b c o (ne_of_none e n) (s c o e)
section
variable {P : Program} {w : World} {K : PySem.W.Frag} {mg : Str → Option Value} {base : Heap}
/-- a list of told pairs stands at a -/
structure PrsAt (H : Hp) (a : Addr) (qs : List Pr) : Prop where
  top : H a = some (.lst (qs.map fun r => V.ref r.a))
  tp : ∀ r ∈ qs, H r.a = some (.tup [.int (r.i : Int), .int (r.j : Int), .ref r.s])
theorem PrsAt.same {H H' : Hp} {a : Addr} {qs : List Pr} (h : PrsAt H a qs) (s : Same H H') : PrsAt H' a qs := ⟨s _ _ h.top, fun r hr => s _ _ (h.tp r hr)⟩
def spMates : Sp := fun vs H Q _ => ∃ (a : Addr) (qs : List Pr), vs = [.ref a] ∧ PrsAt H a qs ∧ qs.length ≤ 1000 ∧ ∀ H' d kvs, Same H H' → NearAt H' d (edg qs) kvs → Q (.ref d) H'
theorem sc_mates_by : FnScope ["pairs", "told", "pair", "one", "other"] ["pairs"] (defScope s_mates_by) := ⟨rfl, rfl, rfl, by decide +kernel, rfl, by decide +kernel, by decide +kernel⟩
theorem prs_get {qs : List Pr} {i : Nat} {x : V} (h : (qs.map fun r => V.ref r.a)[i]? = some x) : ∃ r, qs[i]? = some r ∧ r ∈ qs ∧ x = .ref r.a := by
  rw [List.getElem?_map] at h
  cases e : qs[i]? with
  | none => rw [e] at h; cases h
  | some p =>
    rw [e] at h
    exact ⟨p, rfl, List.mem_of_getElem? e, (Option.some.inj h).symm⟩
theorem ok_mates_by (F : Std K mg "mates_by" s_mates_by)  : Cal P w K mg base "mates_by" 1 ["pairs"] spMates := by
  obtain ⟨f, fd, F, gF⟩ := F.ex
  refine ⟨f, fd, ?_, gF, F.kp, F.bindsN fun _ _ _ _ _ _ us hl => match us, hl with | [_], _ => rfl⟩
  refine F.ok sc_mates_by (fun vs H Q E h => ?_) (fun cdv A outer s H vs Q E hr h => ?_)
  · obtain ⟨a, qs, rfl, _⟩ := h
    rfl
  · obtain ⟨a, qs, rfl, hP, hl, kq⟩ := h
    have hu := hu_of hr
    refine ⟨_, PSs.nox (pss_cons (ps_set (i := 1) sc_mates_by.nd rfl (.inl rfl) pe_dnewK)
      (pss_cons (ps_for PassesOwn.never rfl (pi_list (pv 0)) (pg_name (i := 2) sc_mates_by.nd rfl (.inl rfl))
        (pss_one (ps_for PassesOwn.never rfl (pi_list (pe_lst (pa_cons (pe_tup (pa_cons (pe_ix ix_tup (pv 2) pe_int (fun _ _ => rfl)) (pa_cons (pe_ix ix_tup (pv 2) pe_int (fun _ _ => rfl)) pa_nil)))
            (pa_cons (pe_tup (pa_cons (pe_ix ix_tup (pv 2) pe_int (fun _ _ => rfl)) (pa_cons (pe_ix ix_tup (pv 2) pe_int (fun _ _ => rfl)) pa_nil))) pa_nil))))
          (pg_tup (by rfl) (pgs_cons (pg_name (i := 3) sc_mates_by.nd rfl (.inl rfl)) (pgs_cons (pg_name (i := 4) sc_mates_by.nd rfl (.inl rfl)) pgs_nil)))
          (pss_one (ps_dput hu (pv 1) (pv 3) (pe_op op_cat (pe_dget2 hu (pv 1) (pv 3) (pe_lst pa_nil) ⟨rfl, rfl, rfl, rfl⟩) (pe_lst (pa_cons (pv 4) pa_nil))) rfl)))))
      (pss_one (ps_ret (pv 1))))), ?_⟩
    intro T nT
    refine ⟨_, rfl, a, rfl, ⟨_, lst (upd_new nT _ _ hP.top)⟩, for_list (K := K) (a := a) (xs := qs.map fun r => V.ref r.a) (fun i σ H' => ∃ v2 v3 v4 kvs, σ = [some (.ref a), some (.ref T), v2, v3, v4] ∧ Same H H' ∧ NearAt H' T (edg (qs.take i)) kvs)
      ⟨none, none, none, [], rfl, upd_new nT, upd_same, Nat.le_refl 0, fun x => rfl⟩ (fun i σ H' _ ⟨_, _, _, _, _, s, _⟩ => lst (s _ _ hP.top)) ?_ ?_⟩
    · rintro i x σ H1 hx ⟨v2, v3, v4, kvs, rfl, s1, N1⟩
      obtain ⟨r, hr2, hrm, rfl⟩ := prs_get hx
      have t1 := s1 _ _ (hP.tp r hrm)
      have hil : i < qs.length := (List.getElem?_eq_some_iff.mp hr2).1
      -- the two tuples, the list
      refine ⟨_, rfl, _, _, _, _, rfl, rfl, tup t1, at0 _ _, _, rfl, _, _, _, _, rfl, rfl, tup t1, at1 _ _ _, (by show 2 ≤ sizeLine; decide), fun A nA => ?_⟩
      have s2 := upd_new (o := .tup [.int (r.i : Int), .int (r.j : Int)]) nA
      have t2 := s2 _ _ t1
      refine ⟨_, rfl, _, _, _, _, rfl, rfl, tup t2, at1 _ _ _, _, rfl, _, _, _, _, rfl, rfl, tup t2, at0 _ _, (by show 2 ≤ sizeLine; decide), fun B nB => ?_⟩
      have s3 := upd_new (o := .tup [.int (r.j : Int), .int (r.i : Int)]) nB
      refine ⟨by show 2 ≤ sizeLine; decide, fun C nC => ?_⟩
      have s4 := upd_new (o := .lst [.ref A, .ref B]) nC
      refine ⟨C, rfl, ⟨_, lst upd_same⟩, ?_⟩
      have hA := s4 _ _ (s3 _ _ upd_same)
      have hB := s4 _ _ (upd_same (H := upd H1 A (.tup [.int (r.i : Int), .int (r.j : Int)])) (a := B) (o := .tup [.int (r.j : Int), .int (r.i : Int)]))
      have N4 := N1.same (s2.trans (s3.trans s4))
      have s5 := s1.trans (s2.trans (s3.trans s4))
      have hC := upd_same (H := upd (upd H1 A (.tup [.int (r.i : Int), .int (r.j : Int)])) B (.tup [.int (r.j : Int), .int (r.i : Int)])) (a := C) (o := .lst [.ref A, .ref B])
      generalize upd (upd (upd H1 A (.tup [.int (r.i : Int), .int (r.j : Int)])) B (.tup [.int (r.j : Int), .int (r.i : Int)])) C (.lst [.ref A, .ref B]) = H4 at hA hB hC N4 s5
      have nCT : C ≠ T := ne_of hC N4.top (by intro z; cases z)
      refine for_list (K := K) (a := C) (xs := [.ref A, .ref B]) (fun jj σ H' => ∃ v3 v4 kvs, σ = [some (.ref a), some (.ref T), some (.ref r.a), v3, v4] ∧ But T H4 H' ∧ NearAt H' T (edg (qs.take i) ++ ([((r.i : Int), (r.j : Int)), ((r.j : Int), (r.i : Int))] : List (Int × Int)).take jj) kvs)
        ⟨v3, v4, kvs, rfl, fun _ _ _ e => e, by rw [List.take_zero, List.append_nil]; exact N4⟩ (fun jj σ H' _ ⟨_, _, _, _, b, _⟩ => lst (b _ _ nCT hC)) ?_ ?_
      · rintro jj y σ H5 hy ⟨w3, w4, kvs5, rfl, b5, N5⟩
        obtain ⟨p, D, hp, rfl, hD, hjj⟩ : ∃ (p : Int × Int) (D : Addr), ([((r.i : Int), (r.j : Int)), ((r.j : Int), (r.i : Int))] : List (Int × Int))[jj]? = some p ∧ y = .ref D ∧ H4 D = some (.tup [.int p.1, .int p.2]) ∧ jj < 2 := by
          match jj, hy with
          | 0, hy => exact ⟨_, A, rfl, (Option.some.inj hy).symm, hA, by decide⟩
          | 1, hy => exact ⟨_, B, rfl, (Option.some.inj hy).symm, hB, by decide⟩
        obtain ⟨x, z⟩ := p
        have hD5 := b5 _ _ (ne_of hD N4.top (by intro z; cases z)) hD
        refine ⟨D, _, rfl, tup hD5, rfl, _, _, rfl, _, [], rfl, rfl, ?_⟩
        generalize hE : edg (qs.take i) ++ ([((r.i : Int), (r.j : Int)), ((r.j : Int), (r.i : Int))] : List (Int × Int)).take jj = E at N5
        have hEl : E.length ≤ 2002 := by
          rw [← hE, List.length_append, edg_len, List.length_take, List.length_take]
          simp only [List.length_cons, List.length_nil]
          omega
        -- told.get(one, [])
        refine ⟨_, rfl, T, rfl, .inl ⟨_, .inl N5.top⟩, _, rfl, Nat.zero_le _, fun e ne => ?_⟩
        have s6 := upd_new (o := .lst []) ne
        have N6 := N5.same s6
        obtain ⟨l, el, hl2⟩ := N6.get x upd_same
        refine ⟨_, DGet.k (k := Sum.inl x) N6.top, ?_⟩
        rw [el]
        -- [other], their sum
        refine ⟨_, rfl, (by show 1 ≤ sizeLine; decide), fun f nf => ?_⟩
        have s7 := upd_new (o := .lst [.int z]) nf
        have N7 := N6.same s7
        refine ⟨l, f, _, _, rfl, rfl, s7 _ _ hl2, upd_same, ?_, fun g ng => ?_⟩
        · rw [List.length_map]
          have := outs_len E x
          exact Nat.le_of_lt (Nat.lt_of_le_of_lt (show _ ≤ 4000 by show _ + 1 ≤ 4000; omega) (by decide))
        · have s8 := upd_new (o := .lst ((outs E x).map V.int ++ [.int z])) ng
          have N8 := N7.same s8
          refine ⟨_, rfl, _, rfl, T, _, rfl, DPut.k (k := Sum.inl x) N8.top (Nat.lt_of_le_of_lt (Nat.le_trans N8.len hEl) (by decide)), ?_⟩
          refine ⟨_, _, putK kvs5 (.inl x) (.ref g), rfl, fun c o hc ec => ?_, ?_⟩
          · rw [upd_ne hc]
            exact s8 _ _ (s7 _ _ (s6 _ _ (b5 _ _ hc ec)))
          · have := N8.put (x := x) (y := z) upd_same
            rw [List.take_add_one, hp, ← List.append_assoc, hE]
            exact this
      · rintro σ H5 ⟨w3, w4, kvs5, rfl, b5, N5⟩
        refine ⟨_, _, _, kvs5, rfl, b5.same s5 nT, ?_⟩
        rw [edg_take hr2]
        exact N5
    · rintro σ H1 ⟨v2, v3, v4, kvs, rfl, s1, N1⟩
      rw [List.length_map, List.take_length] at N1
      exact ⟨_, rfl, kq _ _ _ s1 N1⟩
end
end Muc
namespace Muc
open PySem PySem.Spec PyProof.Rows L2
/-! ### led_from -/
def ov : Option Int → V
  | none => .non
  | some p => .int p
def ent (e : Int × Option Int) : Key × V := (.inl e.1, ov e.2)
theorem ent_keys (es : List (Int × Option Int)) : (es.map ent).map (·.1) = (es.map (·.1)).map Sum.inl := by
  rw [List.map_map, List.map_map]
  rfl
theorem ent_none {es : List (Int × Option Int)} {x : Int} : valV (es.map ent) (.inl x : Key) = none ↔ x ∉ es.map (·.1) := by
  constructor
  · intro h hm
    refine valV_not h ?_
    rw [ent_keys]
    exact List.mem_map.mpr ⟨x, hm, rfl⟩
  · intro h
    cases e : valV (es.map ent) (.inl x : Key) with
    | none => rfl
    | some v =>
      have := valV_in e
      rw [ent_keys] at this
      obtain ⟨y, hy, q⟩ := List.mem_map.mp this
      exact absurd (Sum.inl.inj q ▸ hy) h
theorem ent_some : ∀ {es : List (Int × Option Int)} {i : Nat} {x : Int} {o : Option Int}, (es.map (·.1)).Nodup → es[i]? = some (x, o) → valV (es.map ent) (.inl x : Key) = some (ov o)
  | [], i, x, o, _, h => by cases i <;> cases h
  | e :: es, 0, x, o, _, h => by
    obtain rfl : e = (x, o) := Option.some.inj h
    exact valV_pos rfl
  | e :: es, i + 1, x, o, hn, h => by
    obtain ⟨h1, h2⟩ := List.nodup_cons.mp hn
    have hm : (x, o) ∈ es := List.mem_of_getElem? h
    have ne : ¬ (ent e).1 = (.inl x : Key) := fun q => h1 (List.mem_map.mpr ⟨_, hm, (Sum.inl.inj q).symm⟩)
    have := valV_neg (r := es.map ent) ne
    rw [List.map_cons, this]
    exact ent_some h2 h
theorem ent_put {es : List (Int × Option Int)} {x : Int} {o : Option Int} (h : x ∉ es.map (·.1)) : putK (es.map ent) (.inl x : Key) (ov o) = (es ++ [(x, o)]).map ent := by
  rw [putK_new _ (ent_none.mpr h), List.map_append]
  rfl
/-- what is told at D: the numbers met, in the row at R, and the one ahead of each -/
structure LedSt (H : Hp) (D R : Addr) (E : List (Int × Int)) (start : Int) (n : Nat) (es : List (Int × Option Int)) : Prop where
  hD : H D = some (.dK (es.map ent))
  hR : H R = some (.lst ((es.map (·.1)).map V.int))
  tree : Tree E start es
  bd : ∀ x ∈ es.map (fun e => e.1), (0 : Int) ≤ x ∧ x < (n : Int)
theorem LedSt.few {H : Hp} {D R : Addr} {E : List (Int × Int)} {start : Int} {n : Nat} {es : List (Int × Option Int)} (h : LedSt H D R E start n es) : es.length ≤ n := by
  have := Muc.few h.tree.nd h.bd
  rw [List.length_map] at this
  exact this
/-- the pairs of each number ahead of at are told -/
def Done (E : List (Int × Int)) (es : List (Int × Option Int)) (at_ : Nat) : Prop := ∀ i x, i < at_ → (es.map (·.1))[i]? = some x → ∀ y, (x, y) ∈ E → y ∈ es.map (·.1)
theorem keys_app {es fs : List (Int × Option Int)} {i : Nat} {x : Int} (h : (es.map (·.1))[i]? = some x) : ((es ++ fs).map (·.1))[i]? = some x := by
  rw [List.map_append, List.getElem?_append_left (List.getElem?_eq_some_iff.mp h).1]
  exact h
structure LedAt (H : Hp) (D : Addr) (E : List (Int × Int)) (start : Int) (n : Nat) (es : List (Int × Option Int)) : Prop where
  hD : H D = some (.dK (es.map ent))
  tree : Tree E start es
  bd : ∀ x ∈ es.map (fun e => e.1), (0 : Int) ≤ x ∧ x < (n : Int)
  cl : ∀ x ∈ es.map (·.1), ∀ y, (x, y) ∈ E → y ∈ es.map (·.1)
theorem LedAt.few {H : Hp} {D : Addr} {E : List (Int × Int)} {start : Int} {n : Nat} {es : List (Int × Option Int)} (h : LedAt H D E start n es) : es.length ≤ n := by
  have := Muc.few h.tree.nd h.bd
  rw [List.length_map] at this
  exact this
/-- pairs of numbers below n -/
def InN (E : List (Int × Int)) (n : Nat) : Prop := ∀ x y : Int, (x, y) ∈ E → 0 ≤ y ∧ y < (n : Int)
section
variable {P : Program} {w : World} {K : PySem.W.Frag} {mg : Str → Option Value} {base : Heap}
def spLed : Sp := fun vs H Q _ => ∃ (start : Int) (d : Addr) (E : List (Int × Int)) (kvs : List (Key × V)) (n : Nat), vs = [.int start, .ref d] ∧ NearAt H d E kvs ∧ InN E n ∧ 0 ≤ start ∧ start < n ∧ n ≤ 60 ∧
  ∀ H' D es, Same H H' → LedAt H' D E start n es → Q (.ref D) H'
theorem sc_led_from : FnScope ["start", "near", "told", "row", "at", "other"] ["start", "near"] (defScope s_led_from) := ⟨rfl, rfl, rfl, by decide +kernel, rfl, by decide +kernel, by decide +kernel⟩
theorem ok_led_from (F : Std K mg "led_from" s_led_from) (mL : mg "len" = none) : Cal P w K mg base "led_from" 1 ["start", "near"] spLed := by
  obtain ⟨f, fd, F, gF⟩ := F.ex
  refine ⟨f, fd, ?_, gF, F.kp, F.bindsN fun _ _ _ _ _ _ us hl => match us, hl with | [_, _], _ => rfl⟩
  refine F.ok sc_led_from (fun vs H Q E h => ?_) (fun cdv A outer s H vs Q E hr h => ?_)
  · obtain ⟨a, d, E, kvs, n, rfl, _⟩ := h
    rfl
  · obtain ⟨start, d, E, kvs, n, rfl, hN, hE, h0, h1, hn, kq⟩ := h
    have hu := hu_of hr
    refine ⟨_, PSs.nox (pss_cons (ps_set (i := 2) sc_led_from.nd rfl (.inl rfl) (pe_disp (pps_cons (pv 0) pe_non pps_nil) (by rfl) (by rfl) (fun z => by cases z) (by decide)))
      (pss_cons (ps_set (i := 3) sc_led_from.nd rfl (.inl rfl) (pe_lst (pa_cons (pv 0) pa_nil)))
      (pss_cons (ps_set (i := 4) sc_led_from.nd rfl (.inl rfl) pe_int)
      (pss_cons (ps_while PassesOwn.never (pt_cmpR op_lt (pv 4) (pe_callB call_len_seq (by rfl) mL (by decide +kernel) (pa_cons (pv 3) pa_nil)) (nomark _))
        (pss_cons (ps_for PassesOwn.never rfl (pi_list (pe_dget2 hu (pv 1) (pe_ix ix_list (pv 3) (pv 4) (fun _ _ => rfl)) (pe_lst pa_nil) ⟨rfl, rfl, rfl, rfl⟩)) (pg_name (i := 5) sc_led_from.nd rfl (.inl rfl))
          (pss_one (ps_if (pt_cmp (pc_dnotin hu (pv 5) (pv 2)))
            (pss_cons (ps_dput hu (pv 2) (pv 5) (pe_ix ix_list (pv 3) (pv 4) (fun _ _ => rfl)) rfl)
            (pss_one (ps_expr (pe_bm PySem.F.plainAttrs_list PySem.F.slot_list_append PySem.F.type_list_append mt_append (pv 3) (pa_cons (pv 5) pa_nil))))) pss_nil)))
        (pss_one (ps_aug (i := 4) sc_led_from.nd rfl (.inl rfl) pe_int ip_add))))
      (pss_one (ps_ret (pv 2))))))), ?_⟩
    intro D nD
    refine ⟨_, rfl, upd_same, [(.inl start, .non)], rfl, (by show 1 ≤ 15; decide), ?_⟩
    rw [upd_upd]
    refine ⟨_, rfl, (by show 1 ≤ sizeLine; decide), fun R nR => ?_⟩
    have sD : Same H (upd H D (.dK (mergeK [] [((.inl start : Key), V.non)]))) := upd_new nD
    have nRH : H R = none := sD.free nR
    have s0 := sD.trans (upd_new (o := .lst [.int start]) nR)
    have nDR : D ≠ R := ne_of_none (upd_same (H := H)) nR
    refine while_by (fun σ H' => ∃ (at_ : Nat) (v5 : Option V) (es : List (Int × Option Int)), σ = [some (.int start), some (.ref d), some (.ref D), some (.ref R), some (.int (at_ : Int)), v5] ∧ Same H H' ∧ LedSt H' D R E start n es ∧ at_ ≤ es.length ∧ Done E es at_)
      (fun σ _ => match σ with | [_, _, _, _, some (.int a), _] => n - a.toNat | _ => 0)
      ⟨0, none, [(start, none)], rfl, s0, ⟨by rw [upd_ne nDR]; exact upd_same, upd_same, Tree.new E start, fun x hx => ?_⟩, Nat.zero_le _, fun i x hi => absurd hi (Nat.not_lt_zero i)⟩ ?_
      (fun σ H Q Q' h ⟨v, e, v2, e2, p, ys, e3, s, i, j, e4, e5, k, e6, q⟩ => ⟨v, e, v2, e2, p, ys, e3, s, i, j, e4, e5, k, e6, h _ _ q⟩)
    · obtain rfl : x = start := by simpa using hx
      exact ⟨h0, h1⟩
    rintro σ H1 ⟨at_, v5, es, rfl, s1, L1, hat, dn⟩
    refine ⟨_, rfl, _, rfl, R, _, rfl, .inl (lst L1.hR), _, _, rfl, rfl, _, rfl, ?_⟩
    rw [List.length_map, List.length_map]
    by_cases hlt : at_ < es.length
    · rw [show decide ((at_ : Int) < ((es.length : Nat) : Int)) = true from decide_eq_true (by omega)]
      refine iteT ?_
      obtain ⟨x, hx⟩ : ∃ x, (es.map (·.1))[at_]? = some x := ⟨(es.map (·.1))[at_]'(by rw [List.length_map]; exact hlt), List.getElem?_eq_getElem _⟩
      have hxV : ((es.map (·.1)).map V.int)[at_]? = some (.int x) := by rw [List.getElem?_map, hx]; rfl
      -- for other in near.get(row[at], [])
      refine ⟨_, rfl, d, rfl, .inl ⟨_, .inl (s1 _ _ hN.top)⟩, _, rfl, _, rfl, R, _, _, _, rfl, rfl, lst L1.hR, atI_nat hxV, Nat.zero_le _, fun e ne => ?_⟩
      have s2 := upd_new (o := .lst []) ne
      have N2 := (hN.same s1).same s2
      obtain ⟨l, el, hl⟩ := N2.get x upd_same
      refine ⟨_, DGet.k (k := Sum.inl x) N2.top, ?_⟩
      rw [el]
      have L2 : LedSt (upd H1 e (.lst [])) D R E start n es := ⟨s2 _ _ L1.hD, s2 _ _ L1.hR, L1.tree, L1.bd⟩
      have hll : l ≠ D ∧ l ≠ R := by
        refine ⟨ne_of hl L2.hD (by intro z; cases z), ?_⟩
        intro q
        subst q
        have g := hN.nb x
        cases hv : valV kvs (Sum.inl x : Key) with
        | none =>
          rw [hv] at el
          have : e = l := by injection el
          subst this
          rw [L1.hR] at ne
          cases ne
        | some v =>
          rw [hv] at el g
          obtain ⟨l2, e2, h2⟩ := g
          have e3 : v = V.ref l := el
          rw [e2] at e3
          injection e3 with e3
          subst e3
          rw [nRH] at h2
          cases h2
      refine ⟨l, rfl, ⟨_, lst hl⟩, for_list (K := K) (a := l) (xs := (outs E x).map V.int) (fun jj σ H' => ∃ v5 es', σ = [some (.int start), some (.ref d), some (.ref D), some (.ref R), some (.int (at_ : Int)), v5] ∧ Same H H' ∧ LedSt H' D R E start n es' ∧
        H' l = some (.lst ((outs E x).map V.int)) ∧ at_ < es'.length ∧ (es'.map (·.1))[at_]? = some x ∧ Done E es' at_ ∧ ∀ y ∈ (outs E x).take jj, y ∈ es'.map (·.1))
        ⟨v5, es, rfl, s1.trans s2, L2, hl, hlt, hx, dn, fun y hy => by rw [List.take_zero] at hy; cases hy⟩ (fun jj σ H' _ ⟨_, _, _, _, _, z, _⟩ => lst z) ?_ ?_⟩
      · rintro jj y σ H3 hy ⟨w5, es', rfl, s3, L3, hl3, hlt3, hx3, dn3, tk3⟩
        obtain ⟨z, hz, rfl⟩ : ∃ z, (outs E x)[jj]? = some z ∧ y = .int z := by
          rw [List.getElem?_map] at hy
          cases q : (outs E x)[jj]? with
          | none => rw [q] at hy; cases hy
          | some z => rw [q] at hy; exact ⟨z, rfl, (Option.some.inj hy).symm⟩
        have hxz : (x, z) ∈ E := mem_outs.mp (List.mem_of_getElem? hz)
        refine ⟨_, rfl, _, rfl, D, _, rfl, DGet.k (k := Sum.inl z) L3.hD, _, rfl, ?_⟩
        have tk : ∀ fs : List (Int × Option Int), (z ∈ (es' ++ fs).map (·.1)) → ∀ y ∈ (outs E x).take (jj + 1), y ∈ (es' ++ fs).map (·.1) := fun fs hzf y hy => by
          rw [List.take_add_one, hz] at hy
          rcases List.mem_append.mp hy with hy | hy
          · rw [List.map_append]
            exact List.mem_append_left _ (tk3 y hy)
          · rw [List.mem_singleton.mp hy]
            exact hzf
        cases hv : valV (es'.map ent) (Sum.inl z : Key) with
        | some v =>
          refine iteF ?_
          have hm : z ∈ es'.map (·.1) := Classical.byContradiction fun q => by
            rw [ent_none.mpr q] at hv
            cases hv
          have := tk [] (by rw [List.append_nil]; exact hm)
          rw [List.append_nil] at this
          exact ⟨_, es', rfl, s3, L3, hl3, hlt3, hx3, dn3, this⟩
        | none =>
          refine iteT ?_
          have hm : z ∉ es'.map (·.1) := ent_none.mp hv
          have hxV3 : ((es'.map (·.1)).map V.int)[at_]? = some (.int x) := by rw [List.getElem?_map, hx3]; rfl
          have l3 := L3.few
          refine ⟨_, rfl, _, rfl, R, _, _, _, rfl, rfl, lst L3.hR, atI_nat hxV3, _, rfl, _, rfl, D, _, rfl, DPut.k (k := Sum.inl z) L3.hD ?_, ?_⟩
          · rw [List.length_map]
            exact small1000 (by omega)
          rw [show (V.int x) = ov (some x) from rfl, ent_put hm]
          have hR4 : upd H3 D (.dK ((es' ++ [(z, some x)]).map ent)) R = some (.lst ((es'.map (·.1)).map V.int)) := by rw [upd_ne nDR.symm]; exact L3.hR
          refine ⟨_, rfl, .inl ⟨rfl, _, lst hR4⟩, _, rfl, R, _, _, rfl, rfl, hR4, ?_, ?_⟩
          · rw [List.length_map, List.length_map]
            exact small1000 (by omega)
          · refine ⟨_, es' ++ [(z, some x)], rfl, fun c o ec => ?_, ⟨?_, ?_, L3.tree.add (List.mem_of_getElem? hx3) hm hxz, fun u hu => ?_⟩, ?_, ?_, keys_app hx3, fun i u hi hu => ?_, tk _ ?_⟩
            · rw [upd_ne (ne_of_none ec nRH), upd_ne (ne_of_none ec nD)]
              exact s3 _ _ ec
            · rw [upd_ne nDR]
              exact upd_same
            · rw [upd_same, List.map_append, List.map_append]
              rfl
            · rw [List.map_append] at hu
              rcases List.mem_append.mp hu with hu | hu
              · exact L3.bd u hu
              · rw [List.mem_singleton.mp hu]
                exact hE _ _ hxz
            · rw [upd_ne hll.2, upd_ne hll.1]
              exact hl3
            · rw [List.length_append]
              show at_ < es'.length + 1
              omega
            · have hil : i < es'.length := by omega
              rw [List.map_append, List.getElem?_append_left (by rw [List.length_map]; exact hil)] at hu
              intro y2 hy2
              rw [List.map_append]
              exact List.mem_append_left _ (dn3 i u hi hu y2 hy2)
            · rw [List.map_append]
              exact List.mem_append_right _ (List.mem_singleton.mpr rfl)
      · rintro σ H3 ⟨w5, es', rfl, s3, L3, hl3, hlt3, hx3, dn3, tk3⟩
        rw [List.length_map, List.take_length] at tk3
        refine ⟨_, rfl, _, _, rfl, rfl, ⟨at_ + 1, w5, es', rfl, s3, L3, hlt3, fun i u hi hu y hy => ?_⟩, ?_⟩
        · by_cases e : i < at_
          · exact dn3 i u e hu y hy
          · have : i = at_ := by omega
            subst this
            rw [hx3] at hu
            obtain rfl : x = u := Option.some.inj hu
            exact tk3 y (mem_outs.mpr hy)
        · have l3 := L3.few
          show n - ((at_ : Int) + 1).toNat < n - (at_ : Int).toNat
          omega
    · rw [show decide ((at_ : Int) < ((es.length : Nat) : Int)) = false from decide_eq_false (by omega)]
      refine iteF ?_
      refine ⟨_, rfl, kq _ _ es s1 ⟨L1.hD, L1.tree, L1.bd, fun u hu y hy => ?_⟩⟩
      obtain ⟨i, hi⟩ := List.mem_iff_getElem?.mp hu
      have : i < (es.map (·.1)).length := (List.getElem?_eq_some_iff.mp hi).1
      rw [List.length_map] at this
      exact dn i u (by omega) hi y hy
end
end Muc
namespace Muc
open PySem PySem.Spec PyProof.Rows L2
/-! ### groups -/
structure GrpOk (H : Hp) (E : List (Int × Int)) (n : Nat) (g : Addr × List Int) : Prop where
  hg : H g.1 = some (.lst (g.2.map V.int))
  one : ∃ m, ∀ x ∈ g.2, Reach E m x
  bd : ∀ x ∈ g.2, (0 : Int) ≤ x ∧ x < (n : Int)
structure GroupsAt (H : Hp) (T : Addr) (E : List (Int × Int)) (n : Nat) (gs : List (Addr × List Int)) : Prop where
  top : H T = some (.lst (gs.map fun g => V.ref g.1))
  all : ∀ g ∈ gs, g.1 ≠ T ∧ GrpOk H E n g
theorem GrpOk.same {H H' : Hp} {E : List (Int × Int)} {n : Nat} {g : Addr × List Int} (h : GrpOk H E n g) (k : H g.1 = some (.lst (g.2.map V.int)) → H' g.1 = some (.lst (g.2.map V.int))) : GrpOk H' E n g := ⟨k h.hg, h.one, h.bd⟩
theorem GroupsAt.same {H H' : Hp} {T : Addr} {E : List (Int × Int)} {n : Nat} {gs : List (Addr × List Int)} (h : GroupsAt H T E n gs) (s : Same H H') : GroupsAt H' T E n gs :=
  ⟨s _ _ h.top, fun g hg => ⟨(h.all g hg).1, (h.all g hg).2.same fun z => s _ _ z⟩⟩
theorem grp_get {gs : List (Addr × List Int)} {i : Nat} {x : V} (h : (gs.map fun g => V.ref g.1)[i]? = some x) : ∃ g, g ∈ gs ∧ x = .ref g.1 := by
  rw [List.getElem?_map] at h
  cases e : gs[i]? with
  | none => rw [e] at h; cases h
  | some p =>
    rw [e] at h
    exact ⟨p, List.mem_of_getElem? e, (Option.some.inj h).symm⟩
theorem ints_get {xs : List Int} {i : Nat} {x : V} (h : (xs.map V.int)[i]? = some x) : ∃ z, xs[i]? = some z ∧ z ∈ xs ∧ x = .int z := by
  rw [List.getElem?_map] at h
  cases e : xs[i]? with
  | none => rw [e] at h; cases h
  | some p =>
    rw [e] at h
    exact ⟨p, rfl, List.mem_of_getElem? e, (Option.some.inj h).symm⟩
section
variable {P : Program} {w : World} {K : PySem.W.Frag} {mg : Str → Option Value} {base : Heap}
def spGroups : Sp := fun vs H Q _ => ∃ (a : Addr) (qs : List Pr) (n : Nat), vs = [.ref a, .int (n : Int)] ∧ PrsAt H a qs ∧ qs.length ≤ 1000 ∧ InN (edg qs) n ∧ n ≤ 60 ∧
  ∀ H' T gs, Same H H' → GroupsAt H' T (edg qs) n gs → Q (.ref T) H'
theorem sc_groups : FnScope ["pairs", "many", "near", "told", "met", "number", "group", "one"] ["pairs", "many"] (defScope s_groups) := ⟨rfl, rfl, rfl, by decide +kernel, rfl, by decide +kernel, by decide +kernel⟩
theorem ok_groups (F : Std K mg "groups" s_groups) (cM : Cal P w K mg base "mates_by" 1 ["pairs"] spMates) (cL : Cal P w K mg base "led_from" 1 ["start", "near"] spLed) (mR : mg "range" = none) (mS : mg "sorted" = none) : Cal P w K mg base "groups" 2 ["pairs", "many"] spGroups := by
  obtain ⟨f, fd, F, gF⟩ := F.ex
  refine ⟨f, fd, ?_, gF, F.kp, F.bindsN fun _ _ _ _ _ _ us hl => match us, hl with | [_, _], _ => rfl⟩
  refine F.ok sc_groups (fun vs H Q E h => ?_) (fun cdv A outer s H vs Q E hr h => ?_)
  · obtain ⟨a, qs, n, rfl, _⟩ := h
    rfl
  · obtain ⟨a, qs, n, rfl, hP, hl, hE, hn, kq⟩ := h
    have hu := hu_of hr
    refine ⟨_, PSs.nox (pss_cons (ps_set (i := 2) sc_groups.nd rfl (.inl rfl) (pe_cal cM hr (pa_cons (pv 0) pa_nil)))
      (pss_cons (ps_set (i := 3) sc_groups.nd rfl (.inl rfl) (pe_lst pa_nil))
      (pss_cons (ps_set (i := 4) sc_groups.nd rfl (.inl rfl) pe_dnewK)
      (pss_cons (ps_for PassesOwn.never rfl (pi_range1 rfl mR (pa_cons (pv 1) pa_nil)) (pg_name (i := 5) sc_groups.nd rfl (.inl rfl))
        (pss_one (ps_if (pt_cmp (pc_dnotin hu (pv 5) (pv 4)))
          (pss_cons (ps_set (i := 6) sc_groups.nd rfl (.inl rfl) (pe_callB (call_sortedDI rfl) (by rfl) mS (by decide +kernel) (pa_cons (pe_cal cL hr (pa_cons (pv 5) (pa_cons (pv 2) pa_nil))) pa_nil)))
          (pss_cons (ps_for PassesOwn.never rfl (pi_list (pv 6)) (pg_name (i := 7) sc_groups.nd rfl (.inl rfl)) (pss_one (ps_dput hu (pv 4) (pv 7) pe_bl rfl)))
          (pss_one (ps_expr (pe_bm PySem.F.plainAttrs_list PySem.F.slot_list_append PySem.F.type_list_append mt_append (pv 3) (pa_cons (pv 6) pa_nil)))))) pss_nil)))
      (pss_one (ps_ret (pv 3))))))), ?_⟩
    refine ⟨_, rfl, a, qs, rfl, hP, hl, fun Hn nr kvs s1 N1 => ?_⟩
    refine ⟨Nat.zero_le _, fun T nT M nM => ?_⟩
    have sT := upd_new (H := Hn) (o := .lst []) nT
    have sM := upd_new (o := .dK []) nM
    have nMn : Hn M = none := sT.free nM
    have hTM : T ≠ M := ne_of_none (upd_same (H := Hn)) nM
    refine ⟨_, rfl, (n : Int), rfl, (by omega), (by omega), ?_⟩
    refine for_range (lo := 0) (n := (n : Int).toNat) (fun k σ H' => ∃ v5 v6 v7 gs mk, σ = [some (.ref a), some (.int (n : Int)), some (.ref nr), some (.ref T), some (.ref M), v5, v6, v7] ∧ Same Hn H' ∧ GroupsAt H' T (edg qs) n gs ∧ gs.length ≤ k ∧ H' M = some (.dK mk) ∧ mk.length ≤ 64 * k)
      ⟨none, none, none, [], [], rfl, sT.trans sM, ⟨sM _ _ upd_same, fun g hg => nomatch hg⟩, Nat.le_refl _, upd_same, Nat.le_refl _⟩ ?_ ?_
    · rintro k σ H1 hk ⟨v5, v6, v7, gs, mk, rfl, s2, G2, hgl, hM, hml⟩
      rw [Int.zero_add]
      refine ⟨_, rfl, _, rfl, M, _, rfl, DGet.k (k := Sum.inl (k : Int)) hM, _, rfl, ?_⟩
      cases hv : valV mk (Sum.inl (k : Int) : Key) with
      | some v => exact iteF ⟨_, _, _, gs, mk, rfl, s2, G2, by omega, hM, by omega⟩
      | none =>
        refine iteT ?_
        -- group = sorted(led_from(number, near))
        refine ⟨_, rfl, _, rfl, (k : Int), nr, edg qs, kvs, n, rfl, N1.same s2, hE, by omega, by omega, hn, fun H2 D es s3 L3 => ?_⟩
        have l3 := L3.few
        refine ⟨D, _, es.map (·.1), rfl, .inl L3.hD, ent_keys es, (by rw [List.length_map]; omega), fun ys p perm _ np => ?_⟩
        have s4 := upd_new (o := .lst (ys.map V.int)) np
        have hM4 := s4 _ _ (s3 _ _ hM)
        have G4 := (G2.same s3).same s4
        have hp4 : upd H2 p (.lst (ys.map V.int)) p = some (.lst (ys.map V.int)) := upd_same
        have s24 := s2.trans (s3.trans s4)
        have ypT : p ≠ T := (ne_of_none (s3 _ _ G2.top) np).symm
        generalize upd H2 p (.lst (ys.map V.int)) = H4 at hM4 G4 hp4 s24
        have npM : p ≠ M := ne_of hp4 hM4 (by intro z; cases z)
        have yl : ys.length ≤ 60 := by
          rw [perm.length_eq, List.length_map]
          omega
        have yok : GrpOk H4 (edg qs) n (p, ys) := ⟨hp4, ⟨(k : Int), fun x hx => L3.tree.sound (perm.mem_iff.mp hx)⟩, fun x hx => L3.bd x (perm.mem_iff.mp hx)⟩
        -- for one in group
        refine ⟨_, rfl, p, rfl, ⟨_, lst hp4⟩, for_list (K := K) (a := p) (xs := ys.map V.int) (fun jj σ H' => ∃ v7 mk', σ = [some (.ref a), some (.int (n : Int)), some (.ref nr), some (.ref T), some (.ref M), some (.int (k : Int)), some (.ref p), v7] ∧ But M H4 H' ∧ H' M = some (.dK mk') ∧ mk'.length ≤ 64 * k + jj)
          ⟨v7, mk, rfl, fun _ _ _ e => e, hM4, hml⟩ (fun jj σ H' _ ⟨_, _, _, b, _⟩ => lst (b _ _ npM hp4)) ?_ ?_⟩
        · rintro jj y σ H5 hy ⟨w7, mk', rfl, b5, hM5, hl5⟩
          obtain ⟨z, hz, hzm, rfl⟩ := ints_get hy
          have hj : jj < ys.length := (List.getElem?_eq_some_iff.mp hz).1
          refine ⟨_, rfl, _, rfl, M, _, rfl, DPut.k (k := Sum.inl z) hM5 (Nat.lt_of_le_of_lt (show _ ≤ 10000 by omega) (by decide)), ?_⟩
          refine ⟨_, putK mk' (.inl z) (.bl true), rfl, fun c o hc ec => ?_, upd_same, ?_⟩
          · rw [upd_ne hc]
            exact b5 _ _ hc ec
          · have := length_putK mk' (.inl z : Key) (.bl true)
            omega
        · rintro σ H5 ⟨w7, mk', rfl, b5, hM5, hl5⟩
          rw [List.length_map] at hl5
          -- told.append(group)
          have hT5 := b5 _ _ hTM G4.top
          refine ⟨_, rfl, .inl ⟨rfl, _, lst hT5⟩, _, rfl, T, _, _, rfl, rfl, hT5, ?_, ?_⟩
          · rw [List.length_map]
            exact small1000 (by omega)
          · refine ⟨_, _, _, gs ++ [(p, ys)], mk', rfl, fun c o ec => ?_, ⟨?_, fun g hg => ?_⟩, ?_, ?_, ?_⟩
            · rw [upd_ne (ne_of_none ec nT)]
              exact b5 _ _ (ne_of_none ec nMn) (s24 _ _ ec)
            · rw [upd_same, List.map_append]
              rfl
            · have kp : ∀ c : Addr × List Int, c.1 ≠ T → GrpOk H4 (edg qs) n c → GrpOk (upd H5 T (.lst (gs.map (fun g => V.ref g.1) ++ [.ref p]))) (edg qs) n c := fun c hc z => z.same fun e => by
                rw [upd_ne hc]
                exact b5 _ _ (ne_of e hM4 (by intro z; cases z)) e
              rcases List.mem_append.mp hg with hg | hg
              · obtain ⟨h1, h2⟩ := G4.all g hg
                exact ⟨h1, kp g h1 h2⟩
              · rw [List.mem_singleton.mp hg]
                exact ⟨ypT, kp (p, ys) ypT yok⟩
            · rw [List.length_append]
              show gs.length + 1 ≤ k + 1
              omega
            · rw [upd_ne hTM.symm]
              exact hM5
            · omega
    · rintro σ H1 ⟨v5, v6, v7, gs, mk, rfl, s2, G2, _⟩
      exact ⟨_, rfl, kq _ _ gs (s1.trans s2) G2⟩
/-! ### chain -/
def spChain : Sp := fun vs H Q _ => ∃ (a : Addr) (qs : List Pr) (n : Nat) (i j : Int), vs = [.ref a, .int (n : Int), .int i, .int j] ∧ PrsAt H a qs ∧ qs.length ≤ 1000 ∧ InN (edg qs) n ∧ n ≤ 60 ∧ 0 ≤ i ∧ i < n ∧ Reach (edg qs) i j ∧
  ∀ H' T r, Same H H' → H' T = some (.lst (r.map V.int)) → IsCh (edg qs) r → r.head? = some i → r.getLast? = some j → r.length ≤ 1000 → Q (.ref T) H'
theorem isCh_cons {E : List (Int × Int)} {p x : Int} {r : List Int} (h : IsCh E (x :: r)) (e : (p, x) ∈ E) : IsCh E (p :: x :: r) := ⟨e, h⟩
theorem sc_chain : FnScope ["pairs", "many", "i", "j", "led", "told"] ["pairs", "many", "i", "j"] (defScope s_chain) := ⟨rfl, rfl, rfl, by decide +kernel, rfl, by decide +kernel, by decide +kernel⟩
theorem ok_chain (F : Std K mg "chain" s_chain) (cM : Cal P w K mg base "mates_by" 1 ["pairs"] spMates) (cL : Cal P w K mg base "led_from" 1 ["start", "near"] spLed) : Cal P w K mg base "chain" 2 ["pairs", "many", "i", "j"] spChain := by
  obtain ⟨f, fd, F, gF⟩ := F.ex
  refine ⟨f, fd, ?_, gF, F.kp, F.bindsN fun _ _ _ _ _ _ us hl => match us, hl with | [_, _, _, _], _ => rfl⟩
  refine F.ok sc_chain (fun vs H Q E h => ?_) (fun cdv A outer s H vs Q E hr h => ?_)
  · obtain ⟨a, qs, n, i, j, rfl, _⟩ := h
    rfl
  · obtain ⟨a, qs, n, i, j, rfl, hP, hl, hE, hn, hi0, hin, hre, kq⟩ := h
    have hu := hu_of hr
    refine ⟨_, PSs.nox (pss_cons (ps_set (i := 4) sc_chain.nd rfl (.inl rfl) (pe_cal cL hr (pa_cons (pv 2) (pa_cons (pe_cal cM hr (pa_cons (pv 0) pa_nil)) pa_nil))))
      (pss_cons (ps_if (pt_cmp (pc_dnotin hu (pv 3) (pv 4))) pss_never pss_nil)
      (pss_cons (ps_set (i := 5) sc_chain.nd rfl (.inl rfl) (pe_lst (pa_cons (pv 3) pa_nil)))
      (pss_cons (ps_while PassesOwn.never (pt_cmpR op_ne (pe_ix ix_list (pv 5) (pe_un un_neg pe_int) (fun _ _ => rfl)) (pv 2) (nomark _))
        (pss_one (ps_expr (pe_bm PySem.F.plainAttrs_list PySem.F.slot_list_append PySem.F.type_list_append mt_append (pv 5) (pa_cons (pe_dget hu (pv 4) (pe_ix ix_list (pv 5) (pe_un un_neg pe_int) (fun _ _ => rfl)) (fun _ _ => rfl)) pa_nil)))))
      (pss_one (ps_ret (pe_revL (pv 5)))))))), ?_⟩
    refine ⟨_, rfl, _, rfl, a, qs, rfl, hP, hl, fun Hn nr kvs s1 N1 => ?_⟩
    refine ⟨i, nr, edg qs, kvs, n, rfl, N1, hE, hi0, hin, hn, fun H2 D es s2 L2 => ?_⟩
    have l2 := L2.few
    have hj : j ∈ es.map (·.1) := closed_all L2.tree.start_mem L2.cl hre
    obtain ⟨v, hv⟩ : ∃ v, valV (es.map ent) (Sum.inl j : Key) = some v := by
      cases e : valV (es.map ent) (Sum.inl j : Key) with
      | some v => exact ⟨v, rfl⟩
      | none => exact absurd hj (ent_none.mp e)
    refine ⟨_, rfl, _, rfl, D, _, rfl, DGet.k (k := Sum.inl j) L2.hD, _, rfl, ?_⟩
    rw [hv]
    refine iteF ⟨_, rfl, (by show 1 ≤ sizeLine; decide), fun T nT => ?_⟩
    have s3 := upd_new (o := .lst [.int j]) nT
    obtain ⟨ix, hix⟩ := List.mem_iff_getElem?.mp hj
    have ixl : ix < es.length := by
      have := (List.getElem?_eq_some_iff.mp hix).1
      rw [List.length_map] at this
      exact this
    refine while_by (fun σ H' => ∃ (x : Int) (rest : List Int) (ix : Nat), σ = [some (.ref a), some (.int (n : Int)), some (.int i), some (.int j), some (.ref D), some (.ref T)] ∧ Same H2 H' ∧ H' T = some (.lst (rest.reverse.map V.int ++ [.int x])) ∧
        (es.map (·.1))[ix]? = some x ∧ IsCh (edg qs) (x :: rest) ∧ (x :: rest).getLast? = some j ∧ rest.length + 1 + ix ≤ es.length)
      (fun _ H' => match H' T with | some (.lst xs) => es.length - xs.length | _ => 0)
      ⟨j, [], ix, rfl, s3, upd_same, hix, trivial, rfl, by show 0 + 1 + ix ≤ es.length; omega⟩ ?_
      (fun σ H Q Q' h ⟨v, e, u, eu, p, ys, i, z, e1, e2, s, g, v2, e3, s2, k, e4, q⟩ => ⟨v, e, u, eu, p, ys, i, z, e1, e2, s, g, v2, e3, s2, k, e4, h _ _ q⟩)
    rintro σ H3 ⟨x, rest, ix, rfl, s4, hT, hx, hc, hlast, hlen⟩
    refine ⟨_, rfl, _, rfl, T, _, _, _, rfl, rfl, lst hT, atI_last _ _, _, rfl, rfl, _, rfl, ?_⟩
    by_cases hxi : x = i
    · rw [show decide (V.int x = V.int i) = true from decide_eq_true (by rw [hxi])]
      refine iteF ⟨_, rfl, T, _, rfl, lst hT, fun p np => ?_⟩
      refine kq _ p (x :: rest) (s1.trans (s2.trans (s4.trans (upd_new np)))) ?_ hc (by rw [hxi]; rfl) hlast (by rw [List.length_cons]; omega)
      rw [upd_same, List.reverse_append, List.map_reverse, List.reverse_reverse]
      rfl
    · rw [show decide (V.int x = V.int i) = false from decide_eq_false (fun z => hxi (by injection z))]
      refine iteT ?_
      have ix0 : 0 < ix := Nat.pos_of_ne_zero fun e => hxi (by
        subst e
        rw [List.getElem?_map, L2.tree.hd] at hx
        exact (Option.some.inj hx).symm)
      obtain ⟨o, ho⟩ : ∃ o, es[ix]? = some (x, o) := by
        rw [List.getElem?_map] at hx
        cases e : es[ix]? with
        | none => rw [e] at hx; cases hx
        | some q =>
          rw [e] at hx
          obtain rfl : q.1 = x := Option.some.inj hx
          exact ⟨q.2, rfl⟩
      obtain ⟨jx, p, hjx, rfl, hp, hpE⟩ := L2.tree.pr ix x o ix0 ho
      have hval := ent_some L2.tree.nd ho
      have hget : DGet H3 D (.int x) (some (.int p)) := by
        have := DGet.k (k := Sum.inl x) (s4 _ _ L2.hD)
        rw [hval] at this
        exact this
      refine ⟨_, rfl, .inl ⟨rfl, _, lst hT⟩, _, rfl, _, rfl, _, rfl, T, _, _, _, rfl, rfl, lst hT, atI_last _ _, D, _, rfl, hget, T, _, _, rfl, rfl, hT, ?_, ?_⟩
      · rw [List.length_append, List.length_map, List.length_reverse]
        show rest.length + 1 < sizeLine
        exact small1000 (by omega)
      · refine ⟨⟨p, x :: rest, jx, rfl, fun c o ec => ?_, ?_, hp, isCh_cons hc hpE, ?_, ?_⟩, ?_⟩
        · rw [upd_ne (ne_of_none ec nT)]
          exact s4 _ _ ec
        · rw [upd_same, List.reverse_cons, List.map_append]
          rfl
        · rw [List.getLast?_cons_cons]
          exact hlast
        · rw [List.length_cons]
          omega
        · simp only [upd_same, hT, List.length_append, List.length_map, List.length_reverse, List.length_cons, List.length_nil]
          omega
end
end Muc
namespace Muc
open PySem PySem.Spec PyProof.Rows L2
theorem atI_in {xs : List V} {i : Int} (h0 : 0 ≤ i) (h1 : i < xs.length) : ∃ v, atI xs i = some v ∧ xs[i.toNat]? = some v := by
  have hl : i.toNat < xs.length := by omega
  refine ⟨xs[i.toNat], ?_, List.getElem?_eq_getElem hl⟩
  have := atI_nat (List.getElem?_eq_getElem hl)
  rw [show ((i.toNat : Nat) : Int) = i by omega] at this
  exact this
section
variable {P : Program} {w : World} {K : PySem.W.Frag} {mg : Str → Option Value} {base : Heap}
/-! ### _law_cell_at -/
def spCellAt (K : PySem.W.Frag) : Sp := fun vs H Q _ => ∃ (a : Addr) (ns : List Int) (k : Nat), vs = [.ref a, .int (k : Int)] ∧ SqL K H a (ns.map V.int) ∧ ∀ z : Int, Q (.int z) H
theorem sc__law_cell_at : FnScope ["_law_script", "_law_k"] ["_law_script", "_law_k"] (defScope s__law_cell_at) := ⟨rfl, rfl, rfl, by decide +kernel, rfl, by decide +kernel, by decide +kernel⟩
theorem ok__law_cell_at (F : Std K mg "_law_cell_at" s__law_cell_at) (mL : mg "len" = none) : Cal P w K mg base "_law_cell_at" 1 ["_law_script", "_law_k"] (spCellAt K) := by
  obtain ⟨f, fd, F, gF⟩ := F.ex
  refine ⟨f, fd, ?_, gF, F.kp, F.bindsN fun _ _ _ _ _ _ us hl => match us, hl with | [_, _], _ => rfl⟩
  refine F.ok sc__law_cell_at (fun vs H Q E h => ?_) (fun cdv A outer s H vs Q E hr h => ?_)
  · obtain ⟨a, ns, k, rfl, _⟩ := h
    rfl
  · obtain ⟨a, ns, k, rfl, hS, q⟩ := h
    refine ⟨_, PSs.nox (pss_cons (ps_if (pt_cmpR op_lt (pv 1) (pe_callB call_len_seq (by rfl) mL (by decide +kernel) (pa_cons (pv 0) pa_nil)) (nomark _)) (pss_one (ps_ret (pe_ix ix_list (pv 0) (pv 1) (fun _ _ => rfl)))) pss_nil) (pss_one (ps_ret pe_int))), ?_⟩
    refine ⟨_, rfl, _, rfl, a, _, rfl, .inl hS, _, _, rfl, rfl, _, rfl, ?_⟩
    refine ite2 (fun d => ?_) (fun d => ?_)
    · have hk : (k : Int) < ((ns.map V.int).length : Nat) := of_decide_eq_true d
      have hk2 : k < ns.length := by rw [List.length_map] at hk; omega
      exact ⟨_, rfl, _, rfl, a, _, _, _, rfl, rfl, hS, atI_nat (by rw [List.getElem?_map, List.getElem?_eq_getElem hk2]; rfl), q _⟩
    · exact q 0
/-! ### _law_mix -/
def spMix : Sp := fun vs H Q _ => ∃ (z : Int) (k : Nat), vs = [.int z, .int (k : Int)] ∧ k ≤ 100 ∧ ∀ m : Nat, m < 536870912 → Q (.int (m : Int)) H
theorem sc__law_mix : FnScope ["_law_cell", "_law_k", "_law_turn", "_law_number"] ["_law_cell", "_law_k"] (defScope s__law_mix) := ⟨rfl, rfl, rfl, by decide +kernel, rfl, by decide +kernel, by decide +kernel⟩
theorem nat_of {z : Int} {b : Nat} (h0 : 0 ≤ z) (h1 : z < b) : ∃ m : Nat, z = (m : Int) ∧ m < b := ⟨z.toNat, by omega, by omega⟩
theorem ok__law_mix (F : Std K mg "_law_mix" s__law_mix) (mR : mg "range" = none) : Cal P w K mg base "_law_mix" 1 ["_law_cell", "_law_k"] spMix := by
  obtain ⟨f, fd, F, gF⟩ := F.ex
  refine ⟨f, fd, ?_, gF, F.kp, F.bindsN fun _ _ _ _ _ _ us hl => match us, hl with | [_, _], _ => rfl⟩
  refine F.ok sc__law_mix (fun vs H Q E h => ?_) (fun cdv A outer s H vs Q E hr h => ?_)
  · obtain ⟨z, k, rfl, _⟩ := h
    rfl
  · obtain ⟨z, k, rfl, hk, q⟩ := h
    refine ⟨_, PSs.nox (pss_cons (ps_if (pt_cmpR op_ge (pv 0) (pe_op op_pow pe_int pe_int) (nomark _))
        (pss_cons (ps_for PassesOwn.never rfl (pi_range1 rfl mR (pa_cons (pv 1) pa_nil)) (pg_name (i := 2) sc__law_mix.nd rfl (.inl rfl)) (pss_one (ps_set (i := 0) sc__law_mix.nd rfl (.inl rfl) (pe_op op_fdiv (pv 0) (pe_op op_pow pe_int pe_int)))))
        (pss_one (ps_ret (pe_op op_mod (pv 0) (pe_op op_pow pe_int pe_int))))) pss_nil)
      (pss_cons (ps_set (i := 3) sc__law_mix.nd rfl (.inl rfl) (pe_op op_mod (pe_op op_mul (pe_op op_add (pe_op op_add (pe_op op_mod (pv 0) pe_int) (pe_op op_mul (pe_op op_mul (pv 1) (pv 1)) pe_int)) (pv 1)) pe_int) pe_int))
      (pss_cons (ps_set (i := 3) sc__law_mix.nd rfl (.inl rfl) (pe_op op_mod (pe_op op_mul (pv 3) (pv 3)) pe_int))
      (pss_one (ps_ret (pe_op op_fdiv (pe_op op_mod (pe_op op_mul (pv 3) (pe_op op_add (pv 3) pe_int)) pe_int) pe_int)))))), ?_⟩
    refine ⟨_, rfl, _, _, rfl, rfl, ⟨by decide, by decide, by decide⟩, _, _, rfl, rfl, _, rfl, ?_⟩
    refine ite2 (fun d => ?_) (fun d => ?_)
    · refine ⟨_, rfl, (k : Int), rfl, (by omega), (by omega), for_range (lo := 0) (n := (k : Int).toNat) (fun i σ H' => ∃ (y : Int) (v2 : Option V), σ = [some (.int y), some (.int (k : Int)), v2, none] ∧ H' = H) ⟨z, none, rfl, rfl⟩ ?_ ?_⟩
      · rintro i σ H' hi ⟨y, v2, rfl, rfl⟩
        exact ⟨_, rfl, _, _, rfl, rfl, ⟨by decide, by decide, by decide⟩, _, _, rfl, rfl, ⟨by decide, by decide⟩, _, _, rfl, rfl⟩
      · rintro σ H' ⟨y, v2, rfl, rfl⟩
        refine ⟨_, rfl, _, _, rfl, rfl, ⟨by decide, by decide, by decide⟩, _, _, rfl, rfl, (by show (0 : Int) < _; decide), ?_⟩
        have e : ((10 : Int) ^ Int.toNat 6) = 1000000 := by decide
        dsimp only
        rw [e]
        obtain ⟨m, em, hm⟩ := nat_of (b := 1000000) (Int.emod_nonneg y (by decide : (1000000 : Int) ≠ 0)) (Int.emod_lt_of_pos y (by decide))
        rw [em]
        exact q m (by omega)
    · refine ⟨_, rfl, _, _, rfl, rfl, (by show (0 : Int) < _; decide), _, rfl, _, rfl, _, _, rfl, rfl, .inl ⟨by omega, by omega⟩, _, _, rfl, rfl, .inr ⟨by decide, by decide⟩, _, _, rfl, rfl, _, rfl, _, _, rfl, rfl, _, _, rfl, rfl, .inr ⟨by decide, by decide⟩, _, _, rfl, rfl, (by show (0 : Int) < _; decide), ?_⟩
      dsimp only
      generalize hA : (z % 1000003 + (k : Int) * (k : Int) * 7919 + (k : Int)) * 48271 % 2147483629 = A
      have a0 : 0 ≤ A := by rw [← hA]; exact Int.emod_nonneg _ (by decide)
      have a1 : A < 2147483629 := by rw [← hA]; exact Int.emod_lt_of_pos _ (by decide)
      refine ⟨_, rfl, _, rfl, _, _, rfl, rfl, .inl ⟨by omega, by omega⟩, _, _, rfl, rfl, (by show (0 : Int) < _; decide), ?_⟩
      dsimp only
      generalize hB : A * A % 2147483587 = B
      have b0 : 0 ≤ B := by rw [← hB]; exact Int.emod_nonneg _ (by decide)
      have b1 : B < 2147483587 := by rw [← hB]; exact Int.emod_lt_of_pos _ (by decide)
      refine ⟨_, rfl, _, rfl, _, _, rfl, rfl, _, _, rfl, rfl, .inl ⟨by omega, by omega⟩, _, _, rfl, rfl, (by show (0 : Int) < _; decide), _, _, rfl, rfl, ⟨by decide, by decide⟩, ?_⟩
      dsimp only
      generalize hC : B * (B + 2) % 2147483579 = C
      have c0 : 0 ≤ C := by rw [← hC]; exact Int.emod_nonneg _ (by decide)
      have c1 : C < 2147483579 := by rw [← hC]; exact Int.emod_lt_of_pos _ (by decide)
      obtain ⟨m, em, hm⟩ := nat_of (z := C / 7) (b := 536870912) (by omega) (by omega)
      rw [em]
      exact q m hm
/-! ### _law_digit -/
def spDigit : Sp := fun vs H Q _ => ∃ (z b : Int) (k : Nat), vs = [.int z, .int b, .int (k : Int)] ∧ 0 < b ∧ b < 1073741824 ∧ k ≤ 1000 ∧ ∀ r : Int, Q (.int r) H
theorem sc__law_digit : FnScope ["_law_number", "_law_by", "_law_k", "_law_turn"] ["_law_number", "_law_by", "_law_k"] (defScope s__law_digit) := ⟨rfl, rfl, rfl, by decide +kernel, rfl, by decide +kernel, by decide +kernel⟩
theorem ok__law_digit (F : Std K mg "_law_digit" s__law_digit) (mR : mg "range" = none) : Cal P w K mg base "_law_digit" 1 ["_law_number", "_law_by", "_law_k"] spDigit := by
  obtain ⟨f, fd, F, gF⟩ := F.ex
  refine ⟨f, fd, ?_, gF, F.kp, F.bindsN fun _ _ _ _ _ _ us hl => match us, hl with | [_, _, _], _ => rfl⟩
  refine F.ok sc__law_digit (fun vs H Q E h => ?_) (fun cdv A outer s H vs Q E hr h => ?_)
  · obtain ⟨z, b, k, rfl, _⟩ := h
    rfl
  · obtain ⟨z, b, k, rfl, b0, b1, hk, q⟩ := h
    refine ⟨_, PSs.nox (pss_cons (ps_for PassesOwn.never rfl (pi_range1 rfl mR (pa_cons (pv 2) pa_nil)) (pg_name (i := 3) sc__law_digit.nd rfl (.inl rfl)) (pss_one (ps_set (i := 0) sc__law_digit.nd rfl (.inl rfl) (pe_op op_fdiv (pv 0) (pv 1)))))
      (pss_one (ps_ret (pe_op op_mod (pv 0) (pv 1))))), ?_⟩
    refine ⟨_, rfl, (k : Int), rfl, (by omega), (by omega), for_range (lo := 0) (n := (k : Int).toNat) (fun i σ H' => ∃ (y : Int) (v3 : Option V), σ = [some (.int y), some (.int b), some (.int (k : Int)), v3] ∧ H' = H) ⟨z, none, rfl, rfl⟩ ?_ ?_⟩
    · rintro i σ H' hi ⟨y, v2, rfl, rfl⟩
      exact ⟨_, rfl, _, rfl, _, _, rfl, rfl, ⟨b0, b1⟩, _, _, rfl, rfl⟩
    · rintro σ H' ⟨y, v2, rfl, rfl⟩
      exact ⟨_, rfl, _, rfl, _, _, rfl, rfl, b0, q _⟩
/-! ### _law_divisor -/
theorem sc__law_divisor : FnScope ["_law_one", "_law_other"] ["_law_one", "_law_other"] (defScope s__law_divisor) := ⟨rfl, rfl, rfl, by decide +kernel, rfl, by decide +kernel, by decide +kernel⟩
theorem ok__law_divisor (F : Std K mg "_law_divisor" s__law_divisor)  : Cal P w K mg base "_law_divisor" 1 ["_law_one", "_law_other"] spDiv := by
  obtain ⟨f, fd, F, gF⟩ := F.ex
  refine ⟨f, fd, ?_, gF, F.kp, F.bindsN fun _ _ _ _ _ _ us hl => match us, hl with | [_, _], _ => rfl⟩
  refine F.ok sc__law_divisor (fun vs H Q E h => ?_) (fun cdv A outer s H vs Q E hr h => ?_)
  · obtain ⟨a, b, rfl, _⟩ := h
    rfl
  · obtain ⟨a, b, rfl, q⟩ := h
    refine ⟨_, PSs.nox (pss_cons (ps_while PassesOwn.never (pt_cmpR op_ne (pv 1) pe_int (nomark _))
        (pss_one (ps_par (i := 0) (j := 1) (by rfl) sc__law_divisor.nd rfl rfl (by decide) rfl rfl (pa_cons (pv 1) (pa_cons (pe_op op_mod (pv 0) (pv 1)) pa_nil)) (by rfl))))
      (pss_one (ps_ret (pv 0)))), ?_⟩
    refine while_by (fun σ H' => ∃ x y : Nat, σ = [some (.int (x : Int)), some (.int (y : Int))] ∧ H' = H ∧ Nat.gcd x y = Nat.gcd a b)
      (fun σ _ => match σ with | [_, some (.int y)] => y.toNat | _ => 0) ⟨a, b, rfl, rfl, rfl⟩ ?_ (fun σ H Q Q' h ⟨v, e, s, k, ek, q⟩ => ⟨v, e, s, k, ek, h _ _ q⟩)
    rintro σ H' ⟨x, y, rfl, rfl, e⟩
    refine ⟨_, rfl, rfl, _, rfl, ?_⟩
    by_cases hy : y = 0
    · subst hy
      have ed : decide (V.int ((0 : Nat) : Int) = V.int 0) = true := by decide
      rw [ed]
      refine iteF ?_
      refine ⟨_, rfl, ?_⟩
      rw [Nat.gcd_zero_right] at e
      rw [e]
      exact q
    · have ed : decide (V.int (y : Int) = V.int 0) = false := decide_eq_false (fun z => hy (by injection z with z; omega))
      rw [ed]
      refine iteT ?_
      refine ⟨_, rfl, _, rfl, _, rfl, _, _, rfl, rfl, (by omega), _, _, rfl, ⟨y, x % y, rfl, rfl, (gcd_turn x y).trans e⟩, ?_⟩
      show ((x : Int) % (y : Int)).toNat < (y : Int).toNat
      have := Nat.mod_lt x (Nat.pos_of_ne_zero hy)
      omega
/-! ### _law_least -/
theorem bot4 (n : Nat) : ∃ b : Nat, atI [V.int (1 + (n : Int) / 5 % 12), V.int (1 + (n : Int) / 5 % 4), V.int (1 + (n : Int) / 5 % 1000), V.int (999999999 - (n : Int) / 5 % 999)] ((n : Int) % 4) = some (.int (b : Int)) ∧
    1 ≤ b ∧ b ≤ 999999999 ∧ ((n : Int) % 4 = 3 → 1000 ≤ b) := by
  have h : (n : Int) % 4 = 0 ∨ (n : Int) % 4 = 1 ∨ (n : Int) % 4 = 2 ∨ (n : Int) % 4 = 3 := by omega
  rcases h with h | h | h | h <;> rw [h]
  · refine ⟨(1 + (n : Int) / 5 % 12).toNat, ?_, by omega, by omega, fun z => by omega⟩
    rw [show (((1 + (n : Int) / 5 % 12).toNat : Nat) : Int) = 1 + (n : Int) / 5 % 12 by omega]
    exact at0 _ _
  · refine ⟨(1 + (n : Int) / 5 % 4).toNat, ?_, by omega, by omega, fun z => by omega⟩
    rw [show (((1 + (n : Int) / 5 % 4).toNat : Nat) : Int) = 1 + (n : Int) / 5 % 4 by omega]
    exact at1 _ _ _
  · refine ⟨(1 + (n : Int) / 5 % 1000).toNat, ?_, by omega, by omega, fun z => by omega⟩
    rw [show (((1 + (n : Int) / 5 % 1000).toNat : Nat) : Int) = 1 + (n : Int) / 5 % 1000 by omega]
    exact at2 _ _ _ _
  · refine ⟨(999999999 - (n : Int) / 5 % 999).toNat, ?_, by omega, by omega, fun z => by omega⟩
    rw [show (((999999999 - (n : Int) / 5 % 999).toNat : Nat) : Int) = 999999999 - (n : Int) / 5 % 999 by omega]
    exact atI_nat (j := 3) rfl
theorem top2 (n b : Nat) (hb : 1000 ≤ b) : ∃ t : Nat, atI [V.int (1 + (n : Int) * 7919 % (b : Int)), V.int ((b : Int) - (n : Int) / 56 % 999)] ((n : Int) / 28 % 2) = some (.int (t : Int)) ∧ 1 ≤ t ∧ t ≤ b := by
  have h : (n : Int) / 28 % 2 = 0 ∨ (n : Int) / 28 % 2 = 1 := by omega
  have m0 := Int.emod_nonneg ((n : Int) * 7919) (show (b : Int) ≠ 0 by omega)
  have m1 := Int.emod_lt_of_pos ((n : Int) * 7919) (show (0 : Int) < (b : Int) by omega)
  rcases h with h | h <;> rw [h]
  · refine ⟨(1 + (n : Int) * 7919 % (b : Int)).toNat, ?_, by omega, by omega⟩
    rw [show (((1 + (n : Int) * 7919 % (b : Int)).toNat : Nat) : Int) = 1 + (n : Int) * 7919 % (b : Int) by omega]
    exact at0 _ _
  · refine ⟨((b : Int) - (n : Int) / 56 % 999).toNat, ?_, by omega, by omega⟩
    rw [show ((((b : Int) - (n : Int) / 56 % 999).toNat : Nat) : Int) = (b : Int) - (n : Int) / 56 % 999 by omega]
    exact at1 _ _ _
def spLeastL : Sp := fun vs H Q _ => ∃ n : Nat, vs = [.int (n : Int)] ∧ n < 536870912 ∧ ∀ H' p t b, Same H H' → H' p = some (fr (t, b)) → 1 ≤ t → t ≤ b → b ≤ 999999999 → Nat.gcd t b = 1 → Q (.ref p) H'
theorem sc__law_least : FnScope ["_law_pick", "_law_bottom", "_law_top", "_law_by"] ["_law_pick"] (defScope s__law_least) := ⟨rfl, rfl, rfl, by decide +kernel, rfl, by decide +kernel, by decide +kernel⟩
theorem ok__law_least (F : Std K mg "_law_least" s__law_least) (cD : Cal P w K mg base "_law_divisor" 1 ["_law_one", "_law_other"] spDiv) : Cal P w K mg base "_law_least" 2 ["_law_pick"] spLeastL := by
  obtain ⟨f, fd, F, gF⟩ := F.ex
  refine ⟨f, fd, ?_, gF, F.kp, F.bindsN fun _ _ _ _ _ _ us hl => match us, hl with | [_], _ => rfl⟩
  refine F.ok sc__law_least (fun vs H Q E h => ?_) (fun cdv A outer s H vs Q E hr h => ?_)
  · obtain ⟨n, rfl, _⟩ := h
    rfl
  · obtain ⟨n, rfl, hn, q⟩ := h
    refine ⟨_, PSs.nox (pss_cons (ps_set (i := 1) sc__law_least.nd rfl (.inl rfl) (pe_ix ix_list (pe_lst (pa_cons (pe_op op_add pe_int (pe_op op_mod (pe_op op_fdiv (pv 0) pe_int) pe_int)) (pa_cons (pe_op op_add pe_int (pe_op op_mod (pe_op op_fdiv (pv 0) pe_int) pe_int))
          (pa_cons (pe_op op_add pe_int (pe_op op_mod (pe_op op_fdiv (pv 0) pe_int) pe_int)) (pa_cons (pe_op op_sub pe_int (pe_op op_mod (pe_op op_fdiv (pv 0) pe_int) pe_int)) pa_nil))))) (pe_op op_mod (pv 0) pe_int) (fun _ _ => rfl)))
      (pss_cons (ps_set (i := 2) sc__law_least.nd rfl (.inl rfl) (pe_op op_add pe_int (pe_op op_mod (pe_op op_fdiv (pv 0) pe_int) (pv 1))))
      (pss_cons (ps_if (pt_cmpR op_eq (pe_op op_mod (pv 0) pe_int) pe_int (nomark _))
        (pss_one (ps_set (i := 2) sc__law_least.nd rfl (.inl rfl) (pe_ix ix_list (pe_lst (pa_cons (pe_op op_add pe_int (pe_op op_mod (pe_op op_mul (pv 0) pe_int) (pv 1))) (pa_cons (pe_op op_sub (pv 1) (pe_op op_mod (pe_op op_fdiv (pv 0) pe_int) pe_int)) pa_nil)))
          (pe_op op_mod (pe_op op_fdiv (pv 0) pe_int) pe_int) (fun _ _ => rfl)))) pss_nil)
      (pss_cons (ps_set (i := 3) sc__law_least.nd rfl (.inl rfl) (pe_cal cD hr (pa_cons (pv 2) (pa_cons (pv 1) pa_nil))))
      (pss_one (ps_ret (pe_tup (pa_cons (pe_op op_fdiv (pv 2) (pv 3)) (pa_cons (pe_op op_fdiv (pv 1) (pv 3)) pa_nil))))))))), ?_⟩
    obtain ⟨b, hb, b1, b2, b3⟩ := bot4 n
    refine ⟨_, rfl, _, _, rfl, rfl, ⟨by decide, by decide⟩, _, _, rfl, rfl, (by show (0 : Int) < _; decide), _, _, rfl, rfl, ?_⟩
    refine ⟨_, rfl, _, _, rfl, rfl, ⟨by decide, by decide⟩, _, _, rfl, rfl, (by show (0 : Int) < _; decide), _, _, rfl, rfl, ?_⟩
    refine ⟨_, rfl, _, _, rfl, rfl, ⟨by decide, by decide⟩, _, _, rfl, rfl, (by show (0 : Int) < _; decide), _, _, rfl, rfl, ?_⟩
    refine ⟨_, rfl, _, _, rfl, rfl, ⟨by decide, by decide⟩, _, _, rfl, rfl, (by show (0 : Int) < _; decide), _, _, rfl, rfl, (by show 4 ≤ sizeLine; decide), fun A nA => ?_⟩
    have sA := upd_new (o := .lst [V.int (1 + (n : Int) / 5 % 12), V.int (1 + (n : Int) / 5 % 4), V.int (1 + (n : Int) / 5 % 1000), V.int (999999999 - (n : Int) / 5 % 999)]) nA
    refine ⟨_, rfl, _, _, rfl, rfl, (by show (0 : Int) < _; decide), A, _, _, _, rfl, rfl, lst upd_same, hb, ?_⟩
    generalize upd H A (.lst [V.int (1 + (n : Int) / 5 % 12), V.int (1 + (n : Int) / 5 % 4), V.int (1 + (n : Int) / 5 % 1000), V.int (999999999 - (n : Int) / 5 % 999)]) = H1 at sA
    -- top
    refine ⟨_, rfl, _, _, rfl, rfl, ⟨by decide, by decide⟩, _, rfl, _, _, rfl, rfl, (by omega), _, _, rfl, rfl, ?_⟩
    have m0 := Int.emod_nonneg ((n : Int) / 7) (show (b : Int) ≠ 0 by omega)
    have m1 := Int.emod_lt_of_pos ((n : Int) / 7) (show (0 : Int) < (b : Int) by omega)
    obtain ⟨t0, et0, ht0⟩ := nat_of (z := 1 + (n : Int) / 7 % (b : Int)) (b := b + 1) (by omega) (by omega)
    have t01 : 1 ≤ t0 := by omega
    dsimp only
    rw [et0]
    -- what follows, from any top
    have fin : ∀ (H2 : Hp) (t : Nat), Same H H2 → 1 ≤ t → t ≤ b → (tSeq (tAsg (tCall spDiv [] E0 (tCons (tVar 2) (tCons (tVar 1) tNil))) (gName 3)) (tRet (tTup (tCons (tOp (rI CDiv fun i j => .int (i / j)) (tVar 2) (tVar 3)) (tCons (tOp (rI CDiv fun i j => .int (i / j)) (tVar 1) (tVar 3)) tNil)))))
        { nx := fun _ H' => Q .non H', rt := Q } [some (.int (n : Int)), some (.int (b : Int)), some (.int (t : Int)), none] H2 := fun H2 t s2 t1 t2 => by
      have g := gcd_bd (t := t) (show 0 < b by omega) (show b < 1073741824 by omega)
      have gp : 0 < Nat.gcd t b := Nat.gcd_pos_of_pos_right _ (by omega)
      refine ⟨_, rfl, _, rfl, t, b, rfl, ?_⟩
      refine ⟨_, rfl, _, rfl, _, _, rfl, rfl, g, _, rfl, _, rfl, _, _, rfl, rfl, g, (by show 2 ≤ sizeLine; decide), fun p np => ?_⟩
      refine q _ p (t / Nat.gcd t b) (b / Nat.gcd t b) (s2.trans (upd_new np)) ?_ ?_ (Nat.div_le_div_right t2) ?_ ?_
      · rw [upd_same]
        rfl
      · exact Nat.div_pos (Nat.le_of_dvd (by omega) (Nat.gcd_dvd_left t b)) gp
      · exact Nat.le_trans (Nat.div_le_self _ _) b2
      · rw [Nat.gcd_div (Nat.gcd_dvd_left t b) (Nat.gcd_dvd_right t b), Nat.div_self gp]
    refine ⟨_, rfl, _, _, rfl, rfl, (by show (0 : Int) < _; decide), rfl, _, rfl, ?_⟩
    refine ite2 (fun d => ?_) (fun d => ?_)
    · have h3 : (n : Int) % 4 = 3 := by
        have := of_decide_eq_true d
        injection this
      obtain ⟨t, ht, t1, t2⟩ := top2 n b (b3 h3)
      refine ⟨_, rfl, _, _, rfl, rfl, .inr ⟨by decide, by decide⟩, _, rfl, _, _, rfl, rfl, (by omega), _, _, rfl, rfl, ?_⟩
      refine ⟨_, rfl, _, rfl, _, _, rfl, rfl, ⟨by decide, by decide⟩, _, _, rfl, rfl, (by show (0 : Int) < _; decide), _, _, rfl, rfl, (by show 2 ≤ sizeLine; decide), fun B nB => ?_⟩
      refine ⟨_, rfl, _, _, rfl, rfl, ⟨by decide, by decide⟩, _, _, rfl, rfl, (by show (0 : Int) < _; decide), B, _, _, _, rfl, rfl, lst upd_same, ht, ?_⟩
      exact fin _ t (sA.trans (upd_new nB)) t1 t2
    · exact fin _ t0 sA t01 (by omega)
/-! ### _law_lacking -/
def spLack (K : PySem.W.Frag) : Sp := fun vs H Q _ => ∃ (a : Addr) (s : Nat × Nat), vs = [.ref a] ∧ SqT K H a [.int (s.1 : Int), .int (s.2 : Int)] ∧ Q (.int ((s.2 : Int) - s.1)) H
theorem sc__law_lacking : FnScope ["_law_share"] ["_law_share"] (defScope s__law_lacking) := ⟨rfl, rfl, rfl, by decide +kernel, rfl, by decide +kernel, by decide +kernel⟩
theorem ok__law_lacking (F : Std K mg "_law_lacking" s__law_lacking)  : Cal P w K mg base "_law_lacking" 1 ["_law_share"] (spLack K) := by
  obtain ⟨f, fd, F, gF⟩ := F.ex
  refine ⟨f, fd, ?_, gF, F.kp, F.bindsN fun _ _ _ _ _ _ us hl => match us, hl with | [_], _ => rfl⟩
  refine F.ok sc__law_lacking (fun vs H Q E h => ?_) (fun cdv A outer s H vs Q E hr h => ?_)
  · obtain ⟨a, s, rfl, _⟩ := h
    rfl
  · obtain ⟨a, s, rfl, ha, q⟩ := h
    refine ⟨_, PSs.nox (pss_one (ps_ret (pe_op op_sub (pe_ix ix_tup (pv 0) pe_int (fun _ _ => rfl)) (pe_ix ix_tup (pv 0) pe_int (fun _ _ => rfl))))), ?_⟩
    exact ⟨_, rfl, _, _, _, _, rfl, rfl, ha, at1 _ _ _, _, rfl, _, _, _, _, rfl, rfl, ha, at0 _ _, _, _, rfl, rfl, q⟩
/-! ### _law_cut -/
def spCut (K : PySem.W.Frag) : Sp := fun vs H Q _ => ∃ (a : Addr) (ns : List Int), vs = [.ref a] ∧ SqL K H a (ns.map V.int) ∧ ns.length ≤ 1000 ∧ ∀ H' p (ms : List Int), Same H H' → H' p = some (.lst (ms.map V.int)) → Q (.ref p) H'
theorem sc__law_cut : FnScope ["_law_script", "_law_most", "_law_cell"] ["_law_script"] (defScope s__law_cut) := ⟨rfl, rfl, rfl, by decide +kernel, rfl, by decide +kernel, by decide +kernel⟩
theorem two_at (x y : Int) (k : Bool) : ∃ z : Int, atI [V.int x, V.int y] (if k = true then 1 else 0) = some (.int z) := by
  cases k with
  | true => exact ⟨y, at1 _ _ _⟩
  | false => exact ⟨x, at0 _ _⟩
theorem ok__law_cut (F : Std K mg "_law_cut" s__law_cut) (mI : mg "int" = none) : Cal P w K mg base "_law_cut" 1 ["_law_script"] (spCut K) := by
  obtain ⟨f, fd, F, gF⟩ := F.ex
  refine ⟨f, fd, ?_, gF, F.kp, F.bindsN fun _ _ _ _ _ _ us hl => match us, hl with | [_], _ => rfl⟩
  refine F.ok sc__law_cut (fun vs H Q E h => ?_) (fun cdv A outer s H vs Q E hr h => ?_)
  · obtain ⟨a, ns, rfl, _⟩ := h
    rfl
  · obtain ⟨a, ns, rfl, ha, hl, q⟩ := h
    refine ⟨_, PSs.nox (pss_cons (ps_set (i := 1) sc__law_cut.nd rfl (.inr rfl) (pe_op op_powBig (pe_op op_pow pe_int pe_int) pe_int))
      (pss_one (ps_ret (pe_lc (own := [("_law_cell", 2)]) (g := gName 2) (tt := tYes) rfl sc__law_cut.nd (pi_list (pv 0)) (blkOk_by (N := ["_law_script", "_law_most", "_law_cell"]) (sc := defScope s__law_cut) (by decide +kernel))
          (fun _ _ _ _ _ => pg_name (i := 2) sc__law_cut.nd rfl (.inl rfl)) (fun _ _ _ _ _ => pts_nil)
          (fun _ _ _ _ _ => pe_ix (r := rIxL K) ix_list (pe_lst (pa_cons (pv 2) (pa_cons (pe_op op_add (pv 1) (pe_op op_mod (pv 2) (pv 1))) pa_nil)))
            (pe_callTy call_int1 (by rfl) mI (by decide +kernel) (pa_cons (pe_cmpR op_ge (pv 2) (pv 1) (nomark _)) pa_nil)) (fun _ _ => rfl)))))), ?_⟩
    refine ⟨_, _, rfl, rfl, ⟨by decide, by decide, by decide⟩, rfl, rfl, ?_⟩
    have hM : (0 : Int) < (10 ^ 60) ^ 60 := Int.pow_pos (Int.pow_pos (by decide))
    generalize ((10 : Int) ^ 60) ^ 60 = M at hM
    refine ⟨_, rfl, a, rfl, ⟨_, ha⟩, fun D nD => lc_list (K := K) (a := a) (xs := ns.map V.int) (fun i H' => Same H H' ∧ ∃ ms : List Int, H' D = some (.lst (ms.map V.int)) ∧ ms.length ≤ i) ⟨upd_new nD, [], upd_same, Nat.le_refl _⟩ (fun i H' _ h => h.1.seq ha) ?_ ?_⟩
    · rintro j y H2 hy ⟨s2, ms, hms, hml⟩
      obtain ⟨z, hz, hzm, rfl⟩ := ints_get hy
      have hj : j < ns.length := (List.getElem?_eq_some_iff.mp hz).1
      refine ⟨rfl, _, rfl, _, rfl, _, rfl, _, rfl, _, _, rfl, rfl, hM, _, _, rfl, rfl, (by show 2 ≤ sizeLine; decide), fun B nB => ?_⟩
      obtain ⟨r, hr2⟩ := two_at z (M + z % M) (decide (M ≤ z))
      refine ⟨_, rfl, _, rfl, _, _, rfl, rfl, .inr ⟨_, rfl, B, _, _, _, rfl, rfl, lst upd_same, hr2, ?_⟩⟩
      have sB := upd_new (o := .lst [V.int z, V.int (M + z % M)]) nB
      refine ⟨_, sB _ _ hms, ?_, fun c o ec => ?_, ms ++ [r], ?_, ?_⟩
      · rw [List.length_map]
        exact small1000 (by omega)
      · rw [upd_ne (ne_of_none ec nD)]
        exact sB _ _ (s2 _ _ ec)
      · rw [upd_same, List.map_append]
        rfl
      · rw [List.length_append]
        show ms.length + 1 ≤ j + 1
        omega
    · rintro H2 ⟨s2, ms, hms, hml⟩
      exact q _ D ms s2 hms
end
end Muc
namespace Muc
open PySem PySem.Spec PyProof.Rows L2
/-! ### signs -/
def sg (j : Nat) : Nat := SG.cps.toList.getD j 0
theorem sg_len : SG.cps.toList.length = 37 := by decide +kernel
theorem sg_nodup : SG.cps.toList.Nodup := by decide +kernel
theorem sg_at {j : Nat} (h : j < 37) : SG.cps.toList[j]? = some (sg j) := by
  unfold sg
  rw [List.getD_eq_getElem?_getD]
  have hl : j < SG.cps.toList.length := by rw [sg_len]; exact h
  rw [List.getElem?_eq_getElem hl]
  rfl
theorem sg_mem {j : Nat} (h : j < 37) : sg j ∈ SG.cps.toList := List.mem_of_getElem? (sg_at h)
theorem sg_inj {i j : Nat} (hi : i < 37) (hj : j < 37) (h : sg i = sg j) : i = j := by
  have h1 := sg_at hi
  have h2 := sg_at hj
  rw [← h] at h2
  have hl : i < SG.cps.toList.length := by rw [sg_len]; exact hi
  obtain ⟨l1, e1⟩ := List.getElem?_eq_some_iff.mp h1
  obtain ⟨l2, e2⟩ := List.getElem?_eq_some_iff.mp h2
  rcases Nat.lt_trichotomy i j with q | q | q
  · exact absurd (e1.trans e2.symm) (List.pairwise_iff_getElem.mp sg_nodup i j l1 l2 q)
  · exact q
  · exact absurd (e2.trans e1.symm) (List.pairwise_iff_getElem.mp sg_nodup j i l2 l1 q)
/-- a text of one sign -/
abbrev one (j : Nat) : Str := ⟨#[sg j]⟩
/-- what may stand behind a first sign -/
def Tail (z : Str) : Prop := z.length ≤ 29 ∧ ∀ c ∈ z.cps.toList, c ∈ SG.cps.toList
theorem app_list (a b : Str) : (a ++ b).cps.toList = a.cps.toList ++ b.cps.toList := Array.toList_append
theorem app_len (a b : Str) : (a ++ b).length = a.length + b.length := Array.size_append
theorem good_word {j : Nat} {z : Str} (hj : j < 37) (h : Tail z) : Good (one j ++ z) := by
  have hl : (one j ++ z).length = 1 + z.length := app_len _ _
  refine ⟨by omega, by have := h.1; omega, fun c hc => ?_⟩
  rw [app_list] at hc
  rcases List.mem_append.mp hc with hc | hc
  · have : c = sg j := by simpa using hc
    rw [this]
    exact sg_mem hj
  · exact h.2 c hc
theorem head_word (j : Nat) (z : Str) : (one j ++ z).cps.toList.head? = some (sg j) := by
  rw [app_list]
  rfl
theorem tail_mul {j m : Nat} (hj : j < 37) (hm : m < 4) : Tail (Txt.mul (one j) (m : Int)) := by
  match m, hm with
  | 0, _ => exact ⟨by show 0 ≤ 29; decide, fun c hc => nomatch (show c ∈ ([] : List Nat) from hc)⟩
  | 1, _ => exact ⟨by show 1 ≤ 29; decide, fun c hc => by
      have hc : c ∈ [sg j] := hc
      rw [List.mem_singleton.mp hc]
      exact sg_mem hj⟩
  | 2, _ => exact ⟨by show 2 ≤ 29; decide, fun c hc => by
      have hc : c ∈ [sg j, sg j] := hc
      have e : c = sg j := by simpa using hc
      rw [e]
      exact sg_mem hj⟩
  | 3, _ => exact ⟨by show 3 ≤ 29; decide, fun c hc => by
      have hc : c ∈ [sg j, sg j, sg j] := hc
      have e : c = sg j := by simpa using hc
      rw [e]
      exact sg_mem hj⟩
theorem tail_by {z : Str} (h : (decide (z.length ≤ 29) && z.cps.toList.all fun c => decide (c ∈ SG.cps.toList)) = true) : Tail z := by
  obtain ⟨h1, h2⟩ := Bool.and_eq_true_iff.mp h
  exact ⟨of_decide_eq_true h1, fun c hc => of_decide_eq_true (List.all_eq_true.mp h2 c hc)⟩
theorem tail6 (j m : Nat) (i : Int) (hj : j < 37) (hm : m < 4) : ∃ z : Str, atI [V.str "", V.str "a", V.str "ab", V.str (Txt.mul (one j) (m : Int)), V.str (Txt.mul "z" 29), V.str "."] (i % 6) = some (.str z) ∧ Tail z := by
  have h : i % 6 = 0 ∨ i % 6 = 1 ∨ i % 6 = 2 ∨ i % 6 = 3 ∨ i % 6 = 4 ∨ i % 6 = 5 := by omega
  rcases h with h | h | h | h | h | h <;> rw [h]
  · exact ⟨_, at0 _ _, tail_by (by decide +kernel)⟩
  · exact ⟨_, at1 _ _ _, tail_by (by decide +kernel)⟩
  · exact ⟨_, at2 _ _ _ _, tail_by (by decide +kernel)⟩
  · exact ⟨_, atI_nat (j := 3) rfl, tail_mul hj hm⟩
  · exact ⟨_, atI_nat (j := 4) rfl, tail_by (by decide +kernel)⟩
  · exact ⟨_, atI_nat (j := 5) rfl, tail_by (by decide +kernel)⟩
/-- where the first sign of a word comes from -/
def From (bg k : Nat) (x : Str) : Prop := ∃ a, (a < 4 ∨ (18 ≤ a ∧ a < 18 + k)) ∧ x.cps.toList.head? = some (sg ((bg + a) % 37))
/-- what holds between two words -/
def PoolInv (H : Hp) (z : Int) (bg : Nat) (T : Addr) (k : Nat) (σ : L2.St) (H' : Hp) : Prop := ∃ (v5 v6 v7 v8 : Option V) (xs : List Str), σ = [some (.int z), some (.int 8), some (.str SG), some (.int (bg : Int)), some (.ref T), v5, v6, v7, v8] ∧
  Same H H' ∧ H' T = some (.lst (xs.map V.str)) ∧ xs.length = k ∧ xs.Nodup ∧ (∀ x ∈ xs, Good x) ∧ ∀ x ∈ xs, From bg k x
section
variable {P : Program} {w : World} {K : PySem.W.Frag} {mg : Str → Option Value} {base : Heap}
def spPool : Sp := fun vs H Q _ => ∃ z : Int, vs = [.int z, .int 8] ∧ ∀ H' p xs, Same H H' → H' p = some (.lst (xs.map V.str)) → xs.length = 8 → GoodSet xs → Q (.ref p) H'
theorem sc__law_pool : FnScope ["_law_cell", "_law_many", "_law_signs", "_law_begin", "_law_told", "_law_k", "_law_pick", "_law_tail", "_law_word"] ["_law_cell", "_law_many"] (defScope s__law_pool) := ⟨rfl, rfl, rfl, by decide +kernel, rfl, by decide +kernel, by decide +kernel⟩
theorem sign_at (i : Int) : atI SG.cps.toList (i % 37) = some (sg ((i % 37).toNat)) := by
  have h0 := Int.emod_nonneg i (show (37 : Int) ≠ 0 by decide)
  have h1 := Int.emod_lt_of_pos i (show (0 : Int) < 37 by decide)
  have := atI_nat (sg_at (j := (i % 37).toNat) (by omega))
  rw [show (((i % 37).toNat : Nat) : Int) = i % 37 by omega] at this
  exact this
theorem sg_small : SG.length ≤ sizeLine := by
  have : SG.length = 37 := by decide +kernel
  rw [this]
  decide
theorem ok__law_pool (F : Std K mg "_law_pool" s__law_pool) (cM : Cal P w K mg base "_law_mix" 1 ["_law_cell", "_law_k"] spMix) (mR : mg "range" = none) : Cal P w K mg base "_law_pool" 2 ["_law_cell", "_law_many"] spPool := by
  obtain ⟨f, fd, F, gF⟩ := F.ex
  refine ⟨f, fd, ?_, gF, F.kp, F.bindsN fun _ _ _ _ _ _ us hl => match us, hl with | [_, _], _ => rfl⟩
  refine F.ok sc__law_pool (fun vs H Q E h => ?_) (fun cdv A outer s H vs Q E hr h => ?_)
  · obtain ⟨z, rfl, _⟩ := h
    rfl
  · obtain ⟨z, rfl, q⟩ := h
    refine ⟨_, PSs.nox (pss_cons (ps_set (i := 2) sc__law_pool.nd rfl (.inl rfl) pe_str)
      (pss_cons (ps_set (i := 3) sc__law_pool.nd rfl (.inl rfl) (pe_cal cM hr (pa_cons (pv 0) (pa_cons pe_int pa_nil))))
      (pss_cons (ps_set (i := 4) sc__law_pool.nd rfl (.inl rfl) (pe_lst pa_nil))
      (pss_cons (ps_for PassesOwn.never rfl (pi_range1 rfl mR (pa_cons (pv 1) pa_nil)) (pg_name (i := 5) sc__law_pool.nd rfl (.inl rfl))
        (pss_cons (ps_set (i := 6) sc__law_pool.nd rfl (.inl rfl) (pe_cal cM hr (pa_cons (pv 0) (pa_cons (pe_op op_add pe_int (pe_op op_mod (pv 5) pe_int)) pa_nil))))
        (pss_cons (ps_set (i := 7) sc__law_pool.nd rfl (.inl rfl) (pe_ix ix_list (pe_lst (pa_cons pe_str (pa_cons pe_str (pa_cons pe_str (pa_cons
            (pe_op op_times (pe_ix ix_str (pv 2) (pe_op op_mod (pe_op op_fdiv (pv 6) pe_int) pe_int) (fun _ _ => rfl)) (pe_op op_mod (pe_op op_fdiv (pv 6) pe_int) pe_int))
            (pa_cons (pe_op op_times pe_str pe_int) (pa_cons pe_str pa_nil))))))) (pe_op op_mod (pe_op op_add (pv 6) (pv 5)) pe_int) (fun _ _ => rfl)))
        (pss_cons (ps_set (i := 8) sc__law_pool.nd rfl (.inl rfl) (pe_op op_add_str (pe_ix ix_str (pv 2) (pe_op op_mod (pe_op op_add (pv 3) (pe_op op_fdiv (pv 5) pe_int)) pe_int) (fun _ _ => rfl)) (pv 7)))
        (pss_cons (ps_if (pt_cmpR op_in_seq (pv 8) (pv 4) (by rfl))
          (pss_one (ps_set (i := 8) sc__law_pool.nd rfl (.inl rfl) (pe_op op_add_str (pe_ix ix_str (pv 2) (pe_op op_mod (pe_op op_add (pe_op op_add (pv 3) pe_int) (pv 5)) pe_int) (fun _ _ => rfl)) (pv 7)))) pss_nil)
        (pss_one (ps_expr (pe_bm PySem.F.plainAttrs_list PySem.F.slot_list_append PySem.F.type_list_append mt_append (pv 4) (pa_cons (pv 8) pa_nil)))))))))
      (pss_one (ps_ret (pv 4))))))), ?_⟩
    refine ⟨_, rfl, z, 0, rfl, Nat.zero_le _, fun bg hbg => ⟨Nat.zero_le _, fun T nT => ?_⟩⟩
    refine ⟨_, rfl, 8, rfl, (by decide), (by decide), for_range (lo := 0) (n := (8 : Int).toNat) (PoolInv H z bg T) ⟨none, none, none, none, [], rfl, upd_new nT, upd_same, rfl, List.nodup_nil, (fun x hx => nomatch hx), fun x hx => nomatch hx⟩ ?_ ?_⟩
    · rintro k σ H1 hk ⟨v5, v6, v7, v8, xs, rfl, s1, hT, hxl, hnd, hgd, hfr⟩
      have hk8 : k < 8 := hk
      rw [Int.zero_add]
      -- pick
      refine ⟨_, rfl, _, rfl, _, _, rfl, rfl, (by show (0 : Int) < _; decide), _, _, rfl, rfl, z, 1 + k % 12, ?_, (by omega), fun n hn => ?_⟩
      · show [V.int z, V.int (1 + (k : Int) % 12)] = [V.int z, V.int ((1 + k % 12 : Nat) : Int)]
        rw [show (1 + (k : Int) % 12) = ((1 + k % 12 : Nat) : Int) by omega]
      -- tail
      have e1 : (((n : Int) / 200 % 4)) = ((n / 200 % 4 : Nat) : Int) := by omega
      refine ⟨_, rfl, _, rfl, _, _, rfl, rfl, ⟨by decide, by decide⟩, _, _, rfl, rfl, (by show (0 : Int) < _; decide), _, _, _, rfl, rfl, sg_small, sign_at _, ?_⟩
      refine ⟨_, rfl, _, _, rfl, rfl, ⟨by decide, by decide⟩, _, _, rfl, rfl, (by show (0 : Int) < _; decide), _, _, rfl, rfl, (by show 1 ≤ 100; decide), (by omega), (by omega), ?_⟩
      refine ⟨_, _, rfl, rfl, (by decide +kernel), (by decide), (by decide), (by show 6 ≤ sizeLine; decide), fun A nA => ?_⟩
      have hj : ((n : Int) / 5 % 37).toNat < 37 := by omega
      obtain ⟨tl, htl, gtl⟩ := tail6 ((n : Int) / 5 % 37).toNat (n / 200 % 4) ((n : Int) + (k : Int)) hj (by omega)
      rw [← e1] at htl
      refine ⟨_, rfl, _, rfl, _, _, rfl, rfl, _, _, rfl, rfl, (by show (0 : Int) < _; decide), A, _, _, _, rfl, rfl, lst upd_same, htl, ?_⟩
      have sA := upd_new (o := .lst [V.str "", V.str "a", V.str "ab", V.str (Txt.mul (one ((n : Int) / 5 % 37).toNat) ((n : Int) / 200 % 4)), V.str (Txt.mul "z" 29), V.str "."]) nA
      have hT2 := sA _ _ hT
      have s2 := s1.trans sA
      generalize upd H1 A (.lst [V.str "", V.str "a", V.str "ab", V.str (Txt.mul (one ((n : Int) / 5 % 37).toNat) ((n : Int) / 200 % 4)), V.str (Txt.mul "z" 29), V.str "."]) = H2 at hT2 s2
      have big : ∀ y : Str, y = one 0 ∨ True → (1 + tl.length ≤ sizeLine) := fun _ _ => Nat.le_of_lt (small1000 (by have := gtl.1; omega))
      -- word
      have hb1 : ((bg : Int) + (k : Int) / 2) % 37 = (((bg + k / 2) % 37 : Nat) : Int) := by omega
      have hb2 : ((bg : Int) + 18 + (k : Int)) % 37 = (((bg + (18 + k)) % 37 : Nat) : Int) := by omega
      refine ⟨_, rfl, _, rfl, _, rfl, _, _, rfl, rfl, ⟨by decide, by decide⟩, _, _, rfl, rfl, _, _, rfl, rfl, (by show (0 : Int) < _; decide), _, _, _, rfl, rfl, sg_small, sign_at _, _, rfl, _, _, rfl, rfl, big tl (.inr trivial), ?_⟩
      refine ⟨_, rfl, _, rfl, T, _, rfl, .inl (lst hT2), rfl, flat_texts xs, _, rfl, ?_⟩
      simp only [Bool.false_eq_true, if_false, inV_str]
      have put : ∀ (x : Str), x ∉ xs → Good x → From bg (k + 1) x → (tDrop (tBM K "list" rAppend (tVar 4) (tCons (tVar 8) tNil)))
          { nx := PoolInv H z bg T (k + 1), rt := Q }
          [some (.int z), some (.int 8), some (.str SG), some (.int (bg : Int)), some (.ref T), some (.int (k : Int)), some (.int (n : Int)), some (.str tl), some (.str x)] H2 := fun x hx gx fx => by
        refine ⟨_, rfl, .inl ⟨rfl, _, lst hT2⟩, _, rfl, T, _, _, rfl, rfl, hT2, ?_, ?_⟩
        · rw [List.length_map]
          exact small1000 (by omega)
        · refine ⟨_, _, _, _, xs ++ [x], rfl, fun c o ec => ?_, ?_, ?_, ?_, fun y hy => ?_, fun y hy => ?_⟩
          · rw [upd_ne (ne_of_none ec nT)]
            exact s2 _ _ ec
          · rw [upd_same, List.map_append]
            rfl
          · rw [List.length_append, hxl]
            rfl
          · rw [List.nodup_append]
            refine ⟨hnd, by simp, fun a ha b hb e => ?_⟩
            rw [List.mem_singleton.mp hb] at e
            exact hx (e ▸ ha)
          · rcases List.mem_append.mp hy with hy | hy
            · exact hgd y hy
            · rw [List.mem_singleton.mp hy]
              exact gx
          · rcases List.mem_append.mp hy with hy | hy
            · obtain ⟨a, ha, e⟩ := hfr y hy
              exact ⟨a, by omega, e⟩
            · rw [List.mem_singleton.mp hy]
              exact fx
      by_cases hm : one (((bg : Int) + (k : Int) / 2) % 37).toNat ++ tl ∈ xs
      · refine ite2 (fun _ => ?_) (fun d => absurd (decide_eq_true hm) d)
        refine ⟨_, rfl, _, rfl, _, _, rfl, rfl, _, rfl, _, _, rfl, rfl, _, _, rfl, rfl, (by show (0 : Int) < _; decide), _, _, _, rfl, rfl, sg_small, sign_at _, _, rfl, _, _, rfl, rfl, big tl (.inr trivial), ?_⟩
        refine put (one (((bg : Int) + 18 + (k : Int)) % 37).toNat ++ tl) (fun hin => ?_) (good_word (by omega) gtl) ⟨18 + k, by omega, ?_⟩
        · obtain ⟨a, ha, e⟩ := hfr _ hin
          rw [head_word, hb2] at e
          have := sg_inj (by omega) (by omega) (Option.some.inj e)
          omega
        · rw [head_word, hb2]
          rfl
      · refine ite2 (fun d => absurd (of_decide_eq_true d) hm) (fun _ => ?_)
        refine put _ hm (good_word (by omega) gtl) ⟨k / 2, by omega, ?_⟩
        rw [head_word, hb1]
        rfl
    · rintro σ H1 ⟨v5, v6, v7, v8, xs, rfl, s1, hT, hxl, hnd, hgd, hfr⟩
      exact ⟨_, rfl, q _ T xs s1 hT hxl ⟨hnd, by rw [hxl]; decide, hgd⟩⟩
end
end Muc
namespace Muc
open PySem PySem.Spec PyProof.Rows L2
/-- some of the pool's words, each once -/
def SubOf (xs ws : List Str) : Prop := ws.Nodup ∧ ∀ z ∈ ws, z ∈ xs
theorem SubOf.of {xs ws : List Str} (h : ws.Sublist xs) (hn : xs.Nodup) : SubOf xs ws := ⟨h.nodup hn, fun z hz => h.subset hz⟩
theorem SubOf.len {xs ws : List Str} (h : SubOf xs ws) : ws.length ≤ xs.length := nodup_len ws xs h.1 h.2
theorem SubOf.sub {xs ws us : List Str} (h : SubOf xs ws) (k : us.Sublist ws) : SubOf xs us := ⟨k.nodup h.1, fun z hz => h.2 z (k.subset hz)⟩
theorem sIx_len (n : Nat) {i : Int} (h0 : 0 ≤ i) (h1 : i ≤ n) (d : Nat) : HT.sIx n d (some i) = i.toNat := by
  have e : i = ((i.toNat : Nat) : Int) := by omega
  rw [e]
  have := HT.sIx_nat n d i.toNat
  rw [this]
  omega
theorem cut_to {xs : List V} {i : Int} (h0 : 0 ≤ i) (h1 : i ≤ xs.length) : cutV xs none (some i) = xs.take i.toNat := by
  unfold cutV
  rw [sIx_len _ h0 h1, HT.sIx_none, Nat.sub_zero, List.drop_zero]
theorem cut_from {xs : List V} {i : Int} (h0 : 0 ≤ i) (h1 : i ≤ xs.length) : cutV xs (some i) none = xs.drop i.toNat := by
  unfold cutV
  rw [sIx_len _ h0 h1, HT.sIx_none, ← List.length_drop, List.take_length]
theorem cut_any (ws : List Str) (lo hi : Option Int) : ∃ us : List Str, cutV (ws.map V.str) lo hi = us.map V.str ∧ us.Sublist ws := by
  refine ⟨(ws.drop (HT.sIx (ws.map V.str).length 0 lo)).take (HT.sIx (ws.map V.str).length (ws.map V.str).length hi - HT.sIx (ws.map V.str).length 0 lo), ?_, (List.take_sublist _ _).trans (List.drop_sublist _ _)⟩
  unfold cutV
  rw [List.map_take, List.map_drop]
section
variable {K : PySem.W.Frag}
/-- [word for k, word in enumerate(pool) if digit(pick // 8, b, k) == 1] -/
def tPick (K : PySem.W.Frag) (b : Int) : TE := tLc (iEnum K (tCons (tVar 0) tNil)) (gTup K 2 (gCons (gName 7) (gCons (gName 3) gNil)))
  (tTest (tOp rEq (tCall spDigit [] E0 (tCons (tOp (rI CDiv fun i j => .int (i / j)) (tVar 1) (tC (.int 8))) (tCons (tC (.int b)) (tCons (tVar 7) tNil)))) (tC (.int 1)))) (tVar 3) [7, 3]
theorem pick_run {b : Int} (b0 : 0 < b) (b1 : b < 1073741824) {a : Addr} {n : Nat} {xs : List Str} {v2 v3 v4 v5 v6 v7 : Option V} {H : Hp} {Q : VK} (ha : H a = some (.lst (xs.map V.str))) (hl : xs.length = 8) (hn : xs.Nodup)
    (q : ∀ D ws H', Same H H' → H D = none → H' D = some (.lst (ws.map V.str)) → SubOf xs ws → Q (.ref D) H') : tPick K b [some (.ref a), some (.int (n : Int)), v2, v3, v4, v5, v6, v7] H Q := by
  refine ⟨_, rfl, a, _, rfl, lst ha, fun D nD => lc_it walk_enum (fun i H' => Same H H' ∧ ∃ ws : List Str, H' D = some (.lst (ws.map V.str)) ∧ ws.Sublist (xs.take i)) ⟨upd_new nD, [], upd_same, List.Sublist.refl _⟩ (fun i H' _ h => lst (h.1 _ _ ha)) ?_ ?_⟩
  · rintro i x H1 H2 hi ⟨s1, ws, hD, hsub⟩ ⟨Tp, x1, x2, rfl, nTp, rfl, e1, e2⟩
    obtain rfl : V.int (i : Int) = x1 := Option.some.inj e1
    obtain ⟨z, hz, hzm, rfl⟩ := strs_get e2
    have hi8 : i < 8 := by rw [List.length_map, hl] at hi; exact hi
    have sT := upd_new (o := .tup [.int (i : Int), .str z]) nTp
    have hD2 := sT _ _ hD
    have s2 := s1.trans sT
    have et : xs.take (i + 1) = xs.take i ++ [z] := by
      rw [List.take_add_one, hz]
      rfl
    refine ⟨Tp, _, rfl, tup upd_same, rfl, _, _, rfl, _, [], rfl, rfl, rfl, ?_⟩
    refine ⟨_, rfl, _, _, rfl, rfl, ⟨by decide, by decide⟩, _, rfl, _, b, i, rfl, b0, b1, (by omega), fun r => ⟨rfl, _, rfl, ?_⟩⟩
    refine ite2 (fun _ => ?_) (fun _ => ?_)
    · refine ⟨_, rfl, _, hD2, ?_, fun c o ec => ?_, ws ++ [z], ?_, ?_⟩
      · rw [List.length_map]
        have := hsub.length_le
        rw [List.length_take] at this
        exact small1000 (by omega)
      · rw [upd_ne (ne_of_none ec nD)]
        exact s2 _ _ ec
      · rw [upd_same, List.map_append]
        rfl
      · rw [et]
        exact List.Sublist.append hsub (List.Sublist.refl _)
    · refine ⟨s2, ws, hD2, ?_⟩
      rw [et]
      exact hsub.trans (List.sublist_append_left _ _)
  · rintro H1 ⟨s1, ws, hD, hsub⟩
    refine q D ws H1 s1 nD hD (.of ?_ hn)
    rw [List.length_map, List.take_length] at hsub
    exact hsub
end
/-! ### a list of lists of texts as data -/
def dSets (L : List (Addr × List Str)) : PyData := .list (L.map fun p => .list (p.2.map .str))
theorem dp_texts {K : PySem.W.Frag} {H : Hp} : ∀ ws : List Str, DpAll K H (ws.map V.str) (ws.map PyData.str)
  | [] => .nil
  | z :: ws => .cons (.str z) (dp_texts ws)
theorem dp_sets {K : PySem.W.Frag} {H : Hp} : ∀ L : List (Addr × List Str), (∀ p ∈ L, H p.1 = some (.lst (p.2.map V.str))) → DpAll K H (L.map fun p => V.ref p.1) (L.map fun p => PyData.list (p.2.map .str))
  | [], _ => .nil
  | p :: L, h => .cons (.lst (lst (h p List.mem_cons_self)) (dp_texts p.2)) (dp_sets L fun q hq => h q (List.mem_cons_of_mem _ hq))
theorem lay_texts : ∀ ws : List Str, (∀ z ∈ ws, PyData.strOk z = true) → PyData.canLayAll0 (ws.map PyData.str) = true
  | [], _ => by simp [PyData.canLayAll0]
  | z :: ws, h => by
    have ih := lay_texts ws fun y hy => h y (List.mem_cons_of_mem _ hy)
    have hz := h z List.mem_cons_self
    rw [List.map_cons, PyData.canLayAll0, PyData.canLay0, hz, ih]
    rfl
theorem depth_texts : ∀ ws : List Str, PyData.depthAll (ws.map PyData.str) = 0
  | [] => by simp [PyData.depthAll]
  | z :: ws => by
    have ih := depth_texts ws
    rw [List.map_cons, PyData.depthAll, PyData.depth, ih]
    rfl
theorem lay_sets : ∀ L : List (Addr × List Str), (∀ p ∈ L, ∀ z ∈ p.2, PyData.strOk z = true) → PyData.canLayAll0 (L.map fun p => PyData.list (p.2.map .str)) = true ∧ PyData.depthAll (L.map fun p => PyData.list (p.2.map .str)) ≤ 1
  | [], _ => by simp [PyData.canLayAll0, PyData.depthAll]
  | p :: L, h => by
    obtain ⟨h1, h2⟩ := lay_sets L fun q hq => h q (List.mem_cons_of_mem _ hq)
    have hz := lay_texts p.2 (h p List.mem_cons_self)
    rw [List.map_cons, PyData.canLayAll0, PyData.canLay0, hz, h1, PyData.depthAll, PyData.depth, depth_texts]
    exact ⟨rfl, by omega⟩
theorem shaped_sets {L : List (Addr × List Str)} (h : ∀ p ∈ L, ∀ z ∈ p.2, PyData.strOk z = true) : SeqAt.shaped (dSets L) = true := by
  obtain ⟨h1, h2⟩ := lay_sets L h
  unfold SeqAt.shaped dSets
  rw [PyData.canLay0, h1, PyData.depth]
  show decide (_ ≤ 64) = true
  exact decide_eq_true (by omega)
theorem eqv_none {L : List (Addr × List Str)} (h : PyData.eqv (dSets L) (.list []) = false) : 0 < L.length := by
  cases L with
  | nil =>
    exfalso
    simp [dSets, PyData.eqv, PyData.eqvAll] at h
  | cons p L => exact Nat.succ_pos _
theorem good_ok {z : Str} (h : Good z) : PyData.strOk z = true := by
  unfold PyData.strOk
  rw [Array.all_eq_true]
  intro i hi
  have h1 : z.cps[i] ∈ z.cps.toList := Array.mem_toList_iff.mpr (Array.getElem_mem hi)
  have h2 := h.2.2 _ h1
  have h3 : ∀ c ∈ SG.cps.toList, c < 0x110000 := by decide +kernel
  exact decide_eq_true (h3 _ h2)
end Muc
namespace Muc
open PySem PySem.Spec PyProof.Rows L2
/-- what holds between two of the set's steps: its words in a list of their own -/
def SetMid (a b : Addr) (n : Nat) (xs : List Str) (H : Hp) (σ : L2.St) (H' : Hp) : Prop := ∃ (v3 v6 v7 : Option V) (y : Int) (W : Addr) (ws : List Str),
  σ = [some (.ref a), some (.int (n : Int)), some (.ref b), v3, some (.ref W), some (.int y), v6, v7] ∧ Same H H' ∧ H W = none ∧ H' W = some (.lst (ws.map V.str)) ∧ SubOf xs ws
theorem rot_sub {xs ws : List Str} (k : Nat) (h : SubOf xs ws) : SubOf xs (ws.drop k ++ ws.take k) := by
  have p : (ws.drop k ++ ws.take k).Perm ws := by
    have := List.perm_append_comm (l₁ := ws.drop k) (l₂ := ws.take k)
    rw [List.take_append_drop] at this
    exact this
  exact ⟨(List.Perm.nodup_iff p).mpr h.1, fun z hz => h.2 z (p.mem_iff.mp hz)⟩
section
variable {P : Program} {w : World} {K : PySem.W.Frag} {mg : Str → Option Value} {base : Heap}
def spSet : Sp := fun vs H Q _ => ∃ (a b : Addr) (n : Nat) (xs : List Str) (L : List (Addr × List Str)), vs = [.ref a, .int (n : Int), .ref b] ∧ H a = some (.lst (xs.map V.str)) ∧ xs.length = 8 ∧ GoodSet xs ∧
  H b = some (.lst (L.map fun p => V.ref p.1)) ∧ (∀ p ∈ L, H p.1 = some (.lst (p.2.map V.str)) ∧ SubOf xs p.2) ∧ ∀ H' p ws, Same H H' → H p = none → H' p = some (.lst (ws.map V.str)) → SubOf xs ws → Q (.ref p) H'
theorem sc__law_set : FnScope ["_law_pool_here", "_law_pick", "_law_before", "_law_word", "_law_words", "_law_way", "_law_at", "_law_k"] ["_law_pool_here", "_law_pick", "_law_before"] (defScope s__law_set) := ⟨rfl, rfl, rfl, by decide +kernel, rfl, by decide +kernel, by decide +kernel⟩
theorem ok__law_set (F : Std K mg "_law_set" s__law_set) (cD : Cal P w K mg base "_law_digit" 1 ["_law_number", "_law_by", "_law_k"] spDigit) (mE : mg "enumerate" = none) (mL : mg "len" = none) (mT : mg "list" = none) : Cal P w K mg base "_law_set" 2 ["_law_pool_here", "_law_pick", "_law_before"] spSet := by
  obtain ⟨f, fd, F, gF⟩ := F.ex
  refine ⟨f, fd, ?_, gF, F.kp, F.bindsN fun _ _ _ _ _ _ us hl => match us, hl with | [_, _, _], _ => rfl⟩
  refine F.ok sc__law_set (fun vs H Q E h => ?_) (fun cdv A outer s H vs Q E hr h => ?_)
  · obtain ⟨a, b, n, xs, L, rfl, _⟩ := h
    rfl
  · obtain ⟨a, b, n, xs, L, rfl, ha, hxl, gx, hb, hL, q⟩ := h
    have hu := hr.units
    refine ⟨_, PSs.nox (pss_cons (ps_setLc (i := 4) (own := [("_law_k", 7), ("_law_word", 3)]) (g := gTup K 2 (gCons (gName 7) (gCons (gName 3) gNil))) rfl sc__law_set.nd rfl rfl (sw_true rfl rfl rfl (by decide +kernel))
          (pi_enum (by rfl) mE (pa_cons (pv 0) pa_nil)) (blkOk_by (N := ["_law_pool_here", "_law_pick", "_law_before", "_law_word", "_law_words", "_law_way", "_law_at", "_law_k"]) (sc := defScope s__law_set) (by decide +kernel))
          (fun _ _ _ _ _ => pg_tup rfl (pgs_cons (pg_name (i := 7) sc__law_set.nd rfl (.inl rfl)) (pgs_cons (pg_name (i := 3) sc__law_set.nd rfl (.inl rfl)) pgs_nil)))
          (fun _ _ _ _ _ => pts_one (pt_cmpR op_eq (pe_cal cD hr (pa_cons (pe_op op_fdiv (pv 1) pe_int) (pa_cons pe_int (pa_cons (pv 7) pa_nil)))) pe_int (nomark _))) (fun _ _ _ _ _ => pv 3))
      (pss_cons (ps_set (i := 5) sc__law_set.nd rfl (.inl rfl) (pe_op op_mod (pv 1) pe_int))
      (Evl.pss_cut (ps_if (pt_cmpR op_eq (pv 5) pe_int (nomark _)) (pss_one (ps_set (i := 4) sc__law_set.nd rfl (.inl rfl) (pe_callTy call_list_of (by rfl) mT (by decide +kernel) (pa_cons
          (pe_slice sl_list (pv 0) po_none (po_some (pe_op op_add pe_int (pe_op op_mod (pe_op op_fdiv (pv 1) pe_int) (pe_callB call_len_seq (by rfl) mL (by decide +kernel) (pa_cons (pv 0) pa_nil)))))) pa_nil)))) pss_nil)
      (Evl.pss_cut (ps_if (pt_cmpR op_eq (pv 5) pe_int (nomark _)) (pss_one (ps_setLc (i := 4) (own := [("_law_k", 7), ("_law_word", 3)]) (g := gTup K 2 (gCons (gName 7) (gCons (gName 3) gNil))) rfl sc__law_set.nd rfl rfl (sw_true rfl rfl rfl (by decide +kernel))
          (pi_enum (by rfl) mE (pa_cons (pv 0) pa_nil)) (blkOk_by (N := ["_law_pool_here", "_law_pick", "_law_before", "_law_word", "_law_words", "_law_way", "_law_at", "_law_k"]) (sc := defScope s__law_set) (by decide +kernel))
          (fun _ _ _ _ _ => pg_tup rfl (pgs_cons (pg_name (i := 7) sc__law_set.nd rfl (.inl rfl)) (pgs_cons (pg_name (i := 3) sc__law_set.nd rfl (.inl rfl)) pgs_nil)))
          (fun _ _ _ _ _ => pts_one (pt_cmpR op_eq (pe_cal cD hr (pa_cons (pe_op op_fdiv (pv 1) pe_int) (pa_cons pe_int (pa_cons (pv 7) pa_nil)))) pe_int (nomark _))) (fun _ _ _ _ _ => pv 3))) pss_nil)
      (Evl.pss_cut (ps_if (pt_cmpR op_eq (pv 5) pe_int (nomark _)) (pss_one (ps_set (i := 4) sc__law_set.nd rfl (.inl rfl) (pe_slice sl_list (pv 4) po_none (po_some (pe_op op_mod (pe_op op_fdiv (pv 1) pe_int) pe_int))))) pss_nil)
      (Evl.pss_cut (ps_if (PW.pt (pw_and (pt_cmpR op_gt (pv 5) pe_int (nomark _)) (pw_and1 (pt_cmpR (op_neD hu) (pv 2) (pe_lst pa_nil) (nomark _)))))
          (pss_cons (ps_set (i := 4) sc__law_set.nd rfl (.inl rfl) (pe_callTy call_list_of (by rfl) mT (by decide +kernel) (pa_cons
              (pe_ix ix_list (pv 2) (pe_op op_mod (pe_op op_fdiv (pv 1) pe_int) (pe_callB call_len_seq (by rfl) mL (by decide +kernel) (pa_cons (pv 2) pa_nil))) (fun _ _ => rfl)) pa_nil)))
          (pss_cons (ps_set (i := 3) sc__law_set.nd rfl (.inl rfl) (pe_ix ix_list (pv 0) (pe_op op_mod (pe_op op_fdiv (pv 1) pe_int) (pe_callB call_len_seq (by rfl) mL (by decide +kernel) (pa_cons (pv 0) pa_nil))) (fun _ _ => rfl)))
          (pss_one (ps_if (PW.pt (pw_and (pt_cmpR op_gt (pv 5) pe_int (nomark _)) (pw_and1 (pt_cmpR op_in_seq (pv 3) (pv 4) (by rfl)))))
            (pss_one (ps_expr (pe_bm PySem.F.plainAttrs_list PySem.F.slot_list_remove PySem.F.type_list_remove mt_removeT (pv 4) (pa_cons (pv 3) pa_nil))))
            (pss_one (ps_if (pt_cmpR op_gt (pv 5) pe_int (nomark _)) (pss_one (ps_expr (pe_bm PySem.F.plainAttrs_list PySem.F.slot_list_append PySem.F.type_list_append mt_append (pv 4) (pa_cons (pv 3) pa_nil)))) pss_nil)))))) pss_nil)
      (pss_cons (ps_set (i := 6) sc__law_set.nd rfl (.inl rfl) (pe_op op_mod (pe_op op_fdiv (pv 1) pe_int) (pe_op op_add (pe_callB call_len_seq (by rfl) mL (by decide +kernel) (pa_cons (pv 4) pa_nil)) pe_int)))
      (pss_one (ps_ret (pe_op op_cat (pe_slice sl_list (pv 4) (po_some (pv 6)) po_none) (pe_slice sl_list (pv 4) po_none (po_some (pv 6))))))))))))), ?_⟩
    refine pick_run (b := 2) (by decide) (by decide) ha hxl gx.1 fun D ws H1 s1 nD hD hw => ?_
    refine ⟨_, rfl, _, _, rfl, rfl, (by show (0 : Int) < _; decide), ?_⟩
    -- way == 0
    refine ⟨SetMid a b n xs H, ⟨_, rfl, rfl, _, rfl, ?_⟩, ?_⟩
    · refine ite2 (fun _ => ?_) (fun _ => ⟨_, _, _, _, D, ws, rfl, s1, nD, hD, hw⟩)
      have ha1 := s1 _ _ ha
      have el : ((xs.map V.str).length : Int) = 8 := by rw [List.length_map, hxl]; rfl
      refine ⟨_, rfl, _, rfl, _, _, rfl, rfl, ⟨by decide, by decide⟩, _, rfl, a, _, rfl, .inl (lst ha1), _, _, rfl, rfl, ?_, _, _, rfl, rfl, _, rfl, a, _, rfl, lst ha1, fun p np => ?_⟩
      · show (0 : Int) < ((xs.map V.str).length : Nat)
        rw [el]
        decide
      · obtain ⟨us, eu, hus⟩ := cut_any xs none (some (1 + (n : Int) / 8 % ((xs.map V.str).length : Nat)))
        have sp := upd_new (o := .lst (cutV (xs.map V.str) none (some (1 + (n : Int) / 8 % ((xs.map V.str).length : Nat))))) np
        refine ⟨p, _, rfl, .inl (lst upd_same), fun W nW => ?_⟩
        refine ⟨_, _, _, _, W, us, rfl, (s1.trans sp).trans (upd_new nW), (s1.trans sp).free nW, ?_, .of hus gx.1⟩
        rw [upd_same, eu]
    · rintro σ H2 ⟨v3, v6, v7, y, W, ws, rfl, s2, nW, hW, hw⟩
      -- way == 1
      refine ⟨SetMid a b n xs H, ⟨_, rfl, rfl, _, rfl, ?_⟩, ?_⟩
      · refine ite2 (fun _ => ?_) (fun _ => ⟨_, _, _, _, W, ws, rfl, s2, nW, hW, hw⟩)
        refine pick_run (b := 3) (by decide) (by decide) (s2 _ _ ha) hxl gx.1 fun D ws3 H3 s3 nD hD hw3 => ?_
        exact ⟨_, _, _, _, D, ws3, rfl, s2.trans s3, s2.free nD, hD, hw3⟩
      · rintro σ H3 ⟨v3, v6, v7, y, W, ws, rfl, s3, nW, hW, hw⟩
        -- way == 2
        refine ⟨SetMid a b n xs H, ⟨_, rfl, rfl, _, rfl, ?_⟩, ?_⟩
        · refine ite2 (fun _ => ?_) (fun _ => ⟨_, _, _, _, W, ws, rfl, s3, nW, hW, hw⟩)
          refine ⟨_, rfl, _, rfl, _, _, rfl, rfl, ⟨by decide, by decide⟩, _, _, rfl, rfl, (by show (0 : Int) < _; decide), _, rfl, W, _, rfl, lst hW, fun p np => ?_⟩
          obtain ⟨us, eu, hus⟩ := cut_any ws none (some ((n : Int) / 8 % 3))
          refine ⟨_, _, _, _, p, us, rfl, s3.trans (upd_new np), s3.free np, ?_, hw.sub hus⟩
          rw [upd_same, ← eu]
        · rintro σ H4 ⟨v3, v6, v7, y, W, ws, rfl, s4, nW, hW, hw⟩
          -- way > 4 and before != []
          refine ⟨SetMid a b n xs H, ⟨_, rfl, _, _, rfl, rfl, _, rfl, ?_⟩, ?_⟩
          · have skip : SetMid a b n xs H [some (.ref a), some (.int (n : Int)), some (.ref b), v3, some (.ref W), some (.int y), v6, v7] H4 := ⟨_, _, _, _, W, ws, rfl, s4, nW, hW, hw⟩
            refine ite2 (fun _ => ?_) (fun _ => skip)
            have okL : ∀ p ∈ L, ∀ z ∈ p.2, PyData.strOk z = true := fun p hp z hz => good_ok (gx.2.2 z ((hL p hp).2.2 z hz))
            refine ⟨_, rfl, Nat.zero_le _, fun e ne => ?_⟩
            have s5 := s4.trans (upd_new (o := .lst []) ne)
            refine ⟨dSets L, .list [], .lst (lst (s5 _ _ hb)) (dp_sets L fun p hp => s5 _ _ (hL p hp).1), .lst (lst upd_same) .nil, shaped_sets okL, by decide +kernel, _, rfl, ?_⟩
            cases hv : PyData.eqv (dSets L) (.list []) with
            | true =>
              refine iteF ?_
              exact ⟨_, _, _, _, W, ws, rfl, s5, nW, upd_new ne _ _ hW, hw⟩
            | false =>
              refine iteT ?_
              have hpos := eqv_none hv
              have hb5 := s5 _ _ hb
              have hLl : ((L.map fun p => V.ref p.1).length : Int) = L.length := by rw [List.length_map]
              have i0 := Int.emod_nonneg ((n : Int) / 8) (show ((L.map fun p => V.ref p.1).length : Int) ≠ 0 by omega)
              have i1 := Int.emod_lt_of_pos ((n : Int) / 8) (show (0 : Int) < ((L.map fun p => V.ref p.1).length : Int) by omega)
              obtain ⟨v, hv1, hv2⟩ := atI_in i0 i1
              obtain ⟨p, _, hp, rfl⟩ := lot_get hv2
              obtain ⟨hp1, hps⟩ := hL p hp
              -- words = list(before[..])
              refine ⟨_, rfl, _, rfl, _, _, rfl, rfl, ⟨by decide, by decide⟩, _, rfl, b, _, rfl, .inl (lst hb5), _, _, rfl, rfl, (by show (0 : Int) < _; omega), b, _, _, _, rfl, rfl, lst hb5, hv1, p.1, _, rfl, .inl (lst (s5 _ _ hp1)), fun U nU => ?_⟩
              have sU := upd_new (o := .lst (p.2.map V.str)) nU
              have s6 := s5.trans sU
              have nU0 : H U = none := s5.free nU
              have hU := upd_same (H := upd H4 e (.lst [])) (a := U) (o := .lst (p.2.map V.str))
              generalize upd (upd H4 e (.lst [])) U (.lst (p.2.map V.str)) = H6 at s6 hU
              have ha6 := s6 _ _ ha
              have el : ((xs.map V.str).length : Int) = 8 := by rw [List.length_map, hxl]; rfl
              have j0 := Int.emod_nonneg ((n : Int) / 64) (show ((xs.map V.str).length : Int) ≠ 0 by omega)
              have j1 := Int.emod_lt_of_pos ((n : Int) / 64) (show (0 : Int) < ((xs.map V.str).length : Int) by omega)
              obtain ⟨v, hv3, hv4⟩ := atI_in j0 j1
              obtain ⟨z, _, hz, rfl⟩ := strs_get hv4
              -- word = pool[..]
              refine ⟨_, rfl, _, rfl, _, _, rfl, rfl, ⟨by decide, by decide⟩, _, rfl, a, _, rfl, .inl (lst ha6), _, _, rfl, rfl, (by show (0 : Int) < _; omega), a, _, _, _, rfl, rfl, lst ha6, hv3, ?_⟩
              have pl := hps.len
              have put : ∀ us, SubOf xs us → SetMid a b n xs H [some (.ref a), some (.int (n : Int)), some (.ref b), some (.str z), some (.ref U), some (.int y), v6, v7] (upd H6 U (.lst (us.map V.str))) := fun us hus =>
                ⟨_, _, _, _, U, us, rfl, fun c o ec => by rw [upd_ne (ne_of_none ec nU0)]; exact s6 _ _ ec, nU0, upd_same, hus⟩
              have stay : SetMid a b n xs H [some (.ref a), some (.int (n : Int)), some (.ref b), some (.str z), some (.ref U), some (.int y), v6, v7] H6 := ⟨_, _, _, _, U, p.2, rfl, s6, nU0, hU, hps⟩
              have more : z ∉ p.2 → SubOf xs (p.2 ++ [z]) := fun hn => by
                refine ⟨?_, fun u hu => ?_⟩
                · rw [List.nodup_append]
                  refine ⟨hps.1, by simp, fun u hu t ht e => ?_⟩
                  rw [List.mem_singleton.mp ht] at e
                  exact hn (e ▸ hu)
                · rcases List.mem_append.mp hu with hu | hu
                  · exact hps.2 u hu
                  · rw [List.mem_singleton.mp hu]
                    exact hz
              refine ⟨_, rfl, _, _, rfl, rfl, _, rfl, ?_⟩
              refine ite2 (fun d => ?_) (fun d => ?_)
              · refine ⟨_, rfl, _, rfl, U, _, rfl, .inl (lst hU), rfl, flat_texts p.2, _, rfl, ?_⟩
                simp only [Bool.false_eq_true, if_false, inV_str]
                by_cases hm : z ∈ p.2
                · refine ite2 (fun _ => ?_) (fun d => absurd (decide_eq_true hm) d)
                  obtain ⟨j, hj⟩ := List.mem_iff_getElem?.mp hm
                  exact ⟨_, rfl, .inl ⟨rfl, _, lst hU⟩, _, rfl, U, p.2, z, j, rfl, rfl, hU, hj, hps.1, put _ (hps.sub (List.eraseIdx_sublist _ _))⟩
                · refine ite2 (fun d => absurd (of_decide_eq_true d) hm) (fun _ => ?_)
                  refine ⟨_, rfl, _, _, rfl, rfl, _, rfl, ?_⟩
                  refine ite2 (fun _ => ?_) (fun _ => stay)
                  refine ⟨_, rfl, .inl ⟨rfl, _, lst hU⟩, _, rfl, U, _, _, rfl, rfl, hU, ?_, ?_⟩
                  · rw [List.length_map]
                    exact small1000 (by omega)
                  · have := put _ (more hm)
                    rw [List.map_append] at this
                    exact this
              · refine ⟨_, rfl, _, _, rfl, rfl, _, rfl, ?_⟩
                refine ite2 (fun d2 => absurd d2 d) (fun _ => stay)
          · rintro σ H5 ⟨v3, v6, v7, y, W, ws, rfl, s5, nW, hW, hw⟩
            have wl := hw.len
            have hlw : ((ws.map V.str).length : Int) = ws.length := by rw [List.length_map]
            -- at, the two slices
            refine ⟨_, rfl, _, _, rfl, rfl, ⟨by decide, by decide⟩, _, rfl, W, _, rfl, .inl (lst hW), _, _, rfl, rfl, _, _, rfl, rfl, (by show (0 : Int) < _; omega), ?_⟩
            have k0 := Int.emod_nonneg ((n : Int) / 1024) (show ((ws.map V.str).length : Int) + 1 ≠ 0 by omega)
            have k1 := Int.emod_lt_of_pos ((n : Int) / 1024) (show (0 : Int) < ((ws.map V.str).length : Int) + 1 by omega)
            generalize hk : (n : Int) / 1024 % (((ws.map V.str).length : Int) + 1) = k at k0 k1
            refine ⟨_, rfl, _, rfl, k, ?_, W, _, rfl, lst hW, fun A nA => ?_⟩
            · exact congrArg V.int hk
            have sA := upd_new (o := .lst (cutV (ws.map V.str) (some k) none)) nA
            refine ⟨_, rfl, _, rfl, k, congrArg V.int hk, W, _, rfl, lst (sA _ _ hW), fun B nB => ?_⟩
            have sB := upd_new (o := .lst (cutV (ws.map V.str) none (some k))) nB
            refine ⟨A, B, _, _, rfl, rfl, sB _ _ upd_same, upd_same, ?_, fun C nC => ?_⟩
            · rw [cut_from k0 (by omega), cut_to k0 (by omega), List.length_drop, List.length_take]
              exact Nat.le_of_lt (small1000 (by omega))
            · have s8 := (s5.trans sA).trans sB
              refine q _ C (ws.drop k.toNat ++ ws.take k.toNat) (s8.trans (upd_new nC)) (s8.free nC) ?_ (rot_sub _ hw)
              rw [upd_same, cut_from k0 (by omega), cut_to k0 (by omega), List.map_append, List.map_drop, List.map_take]
end
end Muc
namespace Muc
open PySem PySem.Spec PyProof.Rows L2
theorem SubOf.good {xs ws : List Str} (h : SubOf xs ws) (g : GoodSet xs) : GoodSet ws := ⟨h.1, Nat.le_trans h.len g.2.1, fun z hz => g.2.2 z (h.2 z hz)⟩
section
variable {P : Program} {w : World} {K : PySem.W.Frag} {mg : Str → Option Value} {base : Heap}
/-! ### _law_lot -/
def spLotL (K : PySem.W.Frag) : Sp := fun vs H Q _ => ∃ (s a : Addr) (ns : List Int) (xs : List Str) (first most : Nat), vs = [.ref s, .int (first : Int), .ref a, .int (most : Int)] ∧ SqL K H s (ns.map V.int) ∧ H a = some (.lst (xs.map V.str)) ∧ xs.length = 8 ∧ GoodSet xs ∧ most ≤ 12 ∧
  ∀ H' T L, Same H H' → LotAt H' T L → L.length ≤ 12 → Q (.ref T) H'
theorem sc__law_lot : FnScope ["_law_script", "_law_first", "_law_pool_here", "_law_most", "_law_lot_here", "_law_i"] ["_law_script", "_law_first", "_law_pool_here", "_law_most"] (defScope s__law_lot) := ⟨rfl, rfl, rfl, by decide +kernel, rfl, by decide +kernel, by decide +kernel⟩
theorem ok__law_lot (F : Std K mg "_law_lot" s__law_lot) (cC : Cal P w K mg base "_law_cell_at" 1 ["_law_script", "_law_k"] (spCellAt K)) (cM : Cal P w K mg base "_law_mix" 1 ["_law_cell", "_law_k"] spMix) (cS : Cal P w K mg base "_law_set" 2 ["_law_pool_here", "_law_pick", "_law_before"] spSet) (mR : mg "range" = none) : Cal P w K mg base "_law_lot" 3 ["_law_script", "_law_first", "_law_pool_here", "_law_most"] (spLotL K) := by
  obtain ⟨f, fd, F, gF⟩ := F.ex
  refine ⟨f, fd, ?_, gF, F.kp, F.bindsN fun _ _ _ _ _ _ us hl => match us, hl with | [_, _, _, _], _ => rfl⟩
  refine F.ok sc__law_lot (fun vs H Q E h => ?_) (fun cdv A outer s H vs Q E hr h => ?_)
  · obtain ⟨s, a, ns, xs, first, most, rfl, _⟩ := h
    rfl
  · obtain ⟨s, a, ns, xs, first, most, rfl, hs, ha, hxl, gx, hm, q⟩ := h
    refine ⟨_, PSs.nox (pss_cons (ps_set (i := 4) sc__law_lot.nd rfl (.inl rfl) (pe_lst pa_nil))
      (pss_cons (ps_for PassesOwn.never rfl (pi_range1 rfl mR (pa_cons (pe_op op_mod (pe_cal cM hr (pa_cons (pe_cal cC hr (pa_cons (pv 0) (pa_cons (pv 1) pa_nil))) (pa_cons pe_int pa_nil))) (pe_op op_add (pv 3) pe_int)) pa_nil)) (pg_name (i := 5) sc__law_lot.nd rfl (.inl rfl))
        (pss_one (ps_expr (pe_bm PySem.F.plainAttrs_list PySem.F.slot_list_append PySem.F.type_list_append mt_append (pv 4) (pa_cons (pe_cal cS hr (pa_cons (pv 2) (pa_cons
          (pe_cal cM hr (pa_cons (pe_cal cC hr (pa_cons (pv 0) (pa_cons (pe_op op_add (pe_op op_add (pv 1) pe_int) (pe_op op_mod (pv 5) pe_int)) pa_nil))) (pa_cons (pe_op op_add pe_int (pe_op op_fdiv (pv 5) pe_int)) pa_nil)))
          (pa_cons (pv 4) pa_nil)))) pa_nil)))))
      (pss_one (ps_ret (pv 4))))), ?_⟩
    refine ⟨Nat.zero_le _, fun T nT => ?_⟩
    have sT := upd_new (o := .lst []) nT
    refine ⟨_, rfl, _, rfl, s, ns, first, rfl, sT.seq hs, fun z => ?_⟩
    refine ⟨z, 13, rfl, (by decide), fun m hm2 => ⟨_, rfl, _, _, rfl, rfl, _, _, rfl, rfl, (by show (0 : Int) < _; omega), ?_⟩⟩
    have c0 := Int.emod_nonneg (m : Int) (show (most : Int) + 1 ≠ 0 by omega)
    have c1 := Int.emod_lt_of_pos (m : Int) (show (0 : Int) < (most : Int) + 1 by omega)
    refine ⟨(m : Int) % ((most : Int) + 1), rfl, (by omega), (by omega), ?_⟩
    refine for_range (lo := 0) (n := ((m : Int) % ((most : Int) + 1)).toNat) (fun i σ H' => ∃ (v5 : Option V) (L : List (Addr × List Str)), σ = [some (.ref s), some (.int (first : Int)), some (.ref a), some (.int (most : Int)), some (.ref T), v5] ∧ Same H H' ∧
      H' T = some (.lst (L.map fun p => V.ref p.1)) ∧ (∀ p ∈ L, p.1 ≠ T ∧ H' p.1 = some (.lst (p.2.map V.str)) ∧ SubOf xs p.2) ∧ L.length ≤ i) ⟨none, [], rfl, sT, upd_same, (fun p hp => nomatch hp), Nat.le_refl _⟩ ?_ ?_
    · rintro i σ H1 hi ⟨v5, L, rfl, s1, hT, hL, hl⟩
      rw [Int.zero_add]
      have ek : (first : Int) + 1 + (i : Int) % 5 = ((first + 1 + i % 5 : Nat) : Int) := by omega
      refine ⟨_, rfl, .inl ⟨rfl, _, lst hT⟩, _, rfl, _, rfl, _, rfl, _, _, rfl, rfl, _, rfl, _, _, rfl, rfl, (by show (0 : Int) < _; decide), _, _, rfl, rfl, ?_⟩
      refine ⟨s, ns, first + 1 + i % 5, ?_, s1.seq hs, fun z => ?_⟩
      · rw [← ek]
        rfl
      refine ⟨_, rfl, _, _, rfl, rfl, ⟨by decide, by decide⟩, _, _, rfl, rfl, z, 14 + i / 5, ?_, (by omega), fun m hm3 => ?_⟩
      · have : (14 : Int) + (i : Int) / 5 = ((14 + i / 5 : Nat) : Int) := by omega
        rw [← this]
        rfl
      refine ⟨_, rfl, a, T, m, xs, L, rfl, s1 _ _ ha, hxl, gx, hT, fun p hp => (hL p hp).2, fun H2 W ws s2 nW hW hw => ?_⟩
      have hT2 := s2 _ _ hT
      have nWT : W ≠ T := (ne_of_none hT nW).symm
      refine ⟨T, _, _, rfl, rfl, hT2, ?_, ?_⟩
      · rw [List.length_map]
        exact small1000 (by omega)
      · refine ⟨_, L ++ [(W, ws)], rfl, fun c o ec => ?_, ?_, fun p hp => ?_, ?_⟩
        · rw [upd_ne (ne_of_none ec nT)]
          exact s2 _ _ (s1 _ _ ec)
        · rw [upd_same, List.map_append]
          rfl
        · rcases List.mem_append.mp hp with hp | hp
          · obtain ⟨h1, h2, h3⟩ := hL p hp
            exact ⟨h1, by rw [upd_ne h1]; exact s2 _ _ h2, h3⟩
          · rw [List.mem_singleton.mp hp]
            exact ⟨nWT, by rw [upd_ne nWT]; exact hW, hw⟩
        · rw [List.length_append]
          show L.length + 1 ≤ i + 1
          omega
    · rintro σ H1 ⟨v5, L, rfl, s1, hT, hL, hl⟩
      exact ⟨_, rfl, q _ T L s1 ⟨hT, fun p hp => (hL p hp).2.1, fun p hp => (hL p hp).2.2.good gx⟩ (by omega)⟩
end
/-! ### _law_weights -/
theorem mem_putK {κ : Type} [DecidableEq κ] {kvs : List (κ × V)} {k : κ} {v : V} {kv : κ × V} (h : kv ∈ putK kvs k v) : kv = (k, v) ∨ kv ∈ kvs := by
  unfold putK at h
  split at h
  · obtain ⟨q, hq, e⟩ := List.mem_map.mp h
    split at e
    · rename_i hk
      rw [← e, hk]
      exact .inl rfl
    · rw [← e]
      exact .inr hq
  · rcases List.mem_append.mp h with h | h
    · exact .inr h
    · exact .inl (List.mem_singleton.mp h)
theorem nodup_putK {κ : Type} [DecidableEq κ] {kvs : List (κ × V)} (k : κ) (v : V) (h : (kvs.map (·.1)).Nodup) : ((putK kvs k v).map (·.1)).Nodup := by
  cases e : valV kvs k with
  | none => exact nd_putK v h e
  | some u =>
    have ha : (kvs.any fun kv => decide (kv.1 = k)) = true := by rw [valV_any, e]; rfl
    unfold putK
    rw [if_pos ha, List.map_map]
    have : (kvs.map ((·.1) ∘ fun kv => if kv.1 = k then (kv.1, v) else kv)) = kvs.map (·.1) := List.map_congr_left fun kv _ => by
      show (if kv.1 = k then (kv.1, v) else kv).1 = kv.1
      split <;> rfl
    rw [this]
    exact h
structure WtP (kvs : List (Key × V)) : Prop where
  ok : ∀ kv ∈ kvs, ∃ (z : Str) (n : Nat), kv = (.inr z, .int (n : Int)) ∧ Good z ∧ 1 ≤ n ∧ n ≤ 1000000
  nd : (kvs.map (·.1)).Nodup
def wtOf (kvs : List (Key × V)) (z : Str) : Nat := match valV kvs (.inr z) with
  | some (.int n) => n.toNat
  | _ => 1
theorem WtP.wt {kvs : List (Key × V)} (h : WtP kvs) : WtOk kvs (wtOf kvs) := by
  refine ⟨fun kv hkv => ?_, fun z => ?_, fun z => ?_⟩
  · obtain ⟨z, n, e, g, h1, _⟩ := h.ok kv hkv
    exact ⟨z, n, e, g, h1⟩
  · unfold wtOf
    cases e : valV kvs (.inr z : Key) with
    | none => rfl
    | some v =>
      obtain ⟨z2, n, e2, _⟩ := h.ok _ (valV_mem e)
      obtain ⟨_, rfl⟩ := Prod.mk.inj e2
      show V.int (n : Int) = V.int (((n : Int).toNat : Nat) : Int)
      rw [Int.toNat_natCast]
  · unfold wtOf
    cases e : valV kvs (.inr z : Key) with
    | none => decide
    | some v =>
      obtain ⟨z2, n, e2, _, _, h2⟩ := h.ok _ (valV_mem e)
      obtain ⟨_, rfl⟩ := Prod.mk.inj e2
      show (n : Int).toNat ≤ 1000000
      rw [Int.toNat_natCast]
      exact h2
theorem WtP.put {kvs : List (Key × V)} (h : WtP kvs) {z : Str} {n : Nat} (g : Good z) (h1 : 1 ≤ n) (h2 : n ≤ 1000000) : WtP (putK kvs (.inr z) (.int (n : Int))) :=
  ⟨fun kv hkv => (mem_putK hkv).elim (fun e => ⟨z, n, e, g, h1, h2⟩) fun e => h.ok kv e, nodup_putK _ _ h.nd⟩
theorem wt4 (n : Nat) : ∃ m : Nat, atI [V.int 1, V.int (1 + (n : Int) / 3 % 4), V.int (1 + (n : Int) / 3 % 12), V.int (1 + (n : Int) * 48271 / 3 % 1000000)] ((n : Int) / 30 % 4) = some (.int (m : Int)) ∧ 1 ≤ m ∧ m ≤ 1000000 := by
  have h : (n : Int) / 30 % 4 = 0 ∨ (n : Int) / 30 % 4 = 1 ∨ (n : Int) / 30 % 4 = 2 ∨ (n : Int) / 30 % 4 = 3 := by omega
  rcases h with h | h | h | h <;> rw [h]
  · exact ⟨1, at0 _ _, by decide, by decide⟩
  · refine ⟨(1 + (n : Int) / 3 % 4).toNat, ?_, by omega, by omega⟩
    rw [show (((1 + (n : Int) / 3 % 4).toNat : Nat) : Int) = 1 + (n : Int) / 3 % 4 by omega]
    exact at1 _ _ _
  · refine ⟨(1 + (n : Int) / 3 % 12).toNat, ?_, by omega, by omega⟩
    rw [show (((1 + (n : Int) / 3 % 12).toNat : Nat) : Int) = 1 + (n : Int) / 3 % 12 by omega]
    exact at2 _ _ _ _
  · refine ⟨(1 + (n : Int) * 48271 / 3 % 1000000).toNat, ?_, by omega, by omega⟩
    rw [show (((1 + (n : Int) * 48271 / 3 % 1000000).toNat : Nat) : Int) = 1 + (n : Int) * 48271 / 3 % 1000000 by omega]
    exact atI_nat (j := 3) rfl
theorem good_by {z : Str} (h : (decide (1 ≤ z.length) && (decide (z.length ≤ 30) && z.cps.toList.all fun c => decide (c ∈ SG.cps.toList))) = true) : Good z := by
  obtain ⟨h1, h2⟩ := Bool.and_eq_true_iff.mp h
  obtain ⟨h3, h4⟩ := Bool.and_eq_true_iff.mp h2
  exact ⟨of_decide_eq_true h1, of_decide_eq_true h3, fun c hc => of_decide_eq_true (List.all_eq_true.mp h4 c hc)⟩
section
variable {P : Program} {w : World} {K : PySem.W.Frag} {mg : Str → Option Value} {base : Heap}
def spWts : Sp := fun vs H Q _ => ∃ (a : Addr) (z : Int) (xs : List Str), vs = [.ref a, .int z] ∧ H a = some (.lst (xs.map V.str)) ∧ xs.length = 8 ∧ GoodSet xs ∧ ∀ H' d kvs, Same H H' → H' d = some (.dK kvs) → WtP kvs → Q (.ref d) H'
theorem sc__law_weights : FnScope ["_law_pool_here", "_law_cell", "_law_told", "_law_k", "_law_word", "_law_pick"] ["_law_pool_here", "_law_cell"] (defScope s__law_weights) := ⟨rfl, rfl, rfl, by decide +kernel, rfl, by decide +kernel, by decide +kernel⟩
theorem ok__law_weights (F : Std K mg "_law_weights" s__law_weights) (cM : Cal P w K mg base "_law_mix" 1 ["_law_cell", "_law_k"] spMix) (mE : mg "enumerate" = none) : Cal P w K mg base "_law_weights" 2 ["_law_pool_here", "_law_cell"] spWts := by
  obtain ⟨f, fd, F, gF⟩ := F.ex
  refine ⟨f, fd, ?_, gF, F.kp, F.bindsN fun _ _ _ _ _ _ us hl => match us, hl with | [_, _], _ => rfl⟩
  refine F.ok sc__law_weights (fun vs H Q E h => ?_) (fun cdv A outer s H vs Q E hr h => ?_)
  · obtain ⟨a, z, xs, rfl, _⟩ := h
    rfl
  · obtain ⟨a, z, xs, rfl, ha, hxl, gx, q⟩ := h
    have hu := hu_of hr
    refine ⟨_, PSs.nox (pss_cons (ps_set (i := 2) sc__law_weights.nd rfl (.inl rfl) pe_dnewK)
      (pss_cons (ps_for PassesOwn.never rfl (pi_enum (by rfl) mE (pa_cons (pe_op op_cat (pv 0) (pe_lst (pa_cons pe_str (pa_cons pe_str pa_nil)))) pa_nil)) (pg_tup (by rfl) (pgs_cons (pg_name (i := 3) sc__law_weights.nd rfl (.inl rfl)) (pgs_cons (pg_name (i := 4) sc__law_weights.nd rfl (.inl rfl)) pgs_nil)))
        (pss_cons (ps_set (i := 5) sc__law_weights.nd rfl (.inl rfl) (pe_cal cM hr (pa_cons (pv 1) (pa_cons (pe_op op_add pe_int (pv 3)) pa_nil))))
        (pss_one (ps_if (pt_cmpR op_gt (pe_op op_mod (pv 5) pe_int) pe_int (nomark _))
          (pss_one (ps_dput hu (pv 2) (pv 4) (pe_ix ix_list (pe_lst (pa_cons pe_int (pa_cons (pe_op op_add pe_int (pe_op op_mod (pe_op op_fdiv (pv 5) pe_int) pe_int)) (pa_cons (pe_op op_add pe_int (pe_op op_mod (pe_op op_fdiv (pv 5) pe_int) pe_int))
            (pa_cons (pe_op op_add pe_int (pe_op op_mod (pe_op op_fdiv (pe_op op_mul (pv 5) pe_int) pe_int) pe_int)) pa_nil))))) (pe_op op_mod (pe_op op_fdiv (pv 5) pe_int) pe_int) (fun _ _ => rfl)) rfl)) pss_nil))))
      (pss_one (ps_ret (pv 2))))), ?_⟩
    intro D nD
    have sD := upd_new (o := .dK []) nD
    refine ⟨_, rfl, (by show 2 ≤ sizeLine; decide), fun A nA => ?_⟩
    have sA := upd_new (o := .lst [.str "other", .str "x.0"]) nA
    refine ⟨a, A, _, _, rfl, rfl, sA _ _ (sD _ _ ha), upd_same, ?_, fun B nB => ?_⟩
    · rw [List.length_map, hxl]
      decide
    have sB := upd_new (o := .lst (xs.map V.str ++ [.str "other", .str "x.0"])) nB
    have hD0 := sB _ _ (sA _ _ (upd_same (H := H) (a := D) (o := .dK [])))
    have hB0 := upd_same (H := upd (upd H D (.dK [])) A (.lst [.str "other", .str "x.0"])) (a := B) (o := .lst (xs.map V.str ++ [.str "other", .str "x.0"]))
    have s0 := (sD.trans sA).trans sB
    generalize upd (upd (upd H D (.dK [])) A (.lst [.str "other", .str "x.0"])) B (.lst (xs.map V.str ++ [.str "other", .str "x.0"])) = H0 at hD0 hB0 s0
    have em : xs.map V.str ++ [V.str "other", V.str "x.0"] = (xs ++ (["other", "x.0"] : List Str)).map V.str := by rw [List.map_append]; rfl
    rw [em] at hB0
    have yl : (xs ++ (["other", "x.0"] : List Str)).length = 10 := by rw [List.length_append, hxl]; rfl
    have gy : ∀ u ∈ (xs ++ (["other", "x.0"] : List Str)), Good u := fun u hu => by
      rcases List.mem_append.mp hu with hu | hu
      · exact gx.2.2 u hu
      · rcases List.mem_cons.mp hu with hu | hu
        · rw [hu]
          exact good_by (by decide +kernel)
        · rw [List.mem_singleton.mp hu]
          exact good_by (by decide +kernel)
    generalize (xs ++ (["other", "x.0"] : List Str)) = ys at hB0 yl gy
    have nBD : B ≠ D := ne_of hB0 hD0 (by intro q; cases q)
    refine ⟨B, _, rfl, lst hB0, for_it walk_enum (fun i σ H' => ∃ (v3 v4 v5 : Option V) (kvs : List (Key × V)), σ = [some (.ref a), some (.int z), some (.ref D), v3, v4, v5] ∧ But D H0 H' ∧ H' D = some (.dK kvs) ∧ WtP kvs ∧ kvs.length ≤ i)
      ⟨none, none, none, [], rfl, (fun _ _ _ e => e), hD0, ⟨(fun kv hkv => nomatch hkv), List.nodup_nil⟩, Nat.le_refl _⟩ (fun i σ H' _ ⟨_, _, _, _, _, b, _⟩ => lst (b _ _ nBD hB0)) ?_ ?_⟩
    · rintro i x σ H1 H2 hi ⟨v3, v4, v5, kvs, rfl, b1, hD, W, hl⟩ ⟨Tp, x1, x2, rfl, nTp, rfl, e1, e2⟩
      obtain rfl : V.int (i : Int) = x1 := Option.some.inj e1
      obtain ⟨u, hu2, hum, rfl⟩ := strs_get e2
      rw [List.length_map, yl] at hi
      have sT := upd_new (o := .tup [.int (i : Int), .str u]) nTp
      refine ⟨Tp, _, rfl, tup upd_same, rfl, _, _, rfl, _, [], rfl, rfl, ?_⟩
      have hD2 := sT _ _ hD
      have b2 : But D H0 (upd H1 Tp (.tup [.int (i : Int), .str u])) := fun c o hc ec => sT _ _ (b1 c o hc ec)
      generalize upd H1 Tp (.tup [.int (i : Int), .str u]) = H2 at hD2 b2
      refine ⟨_, rfl, _, rfl, _, _, rfl, rfl, z, 2 + i, ?_, (by omega), fun m hm => ?_⟩
      · show [V.int z, V.int (2 + (i : Int))] = [V.int z, V.int ((2 + i : Nat) : Int)]
        rw [show (2 + (i : Int)) = ((2 + i : Nat) : Int) by omega]
      refine ⟨_, rfl, _, _, rfl, rfl, (by show (0 : Int) < _; decide), _, _, rfl, rfl, _, rfl, ?_⟩
      refine ite2 (fun _ => ?_) (fun _ => ⟨_, _, _, kvs, rfl, b2, hD2, W, by omega⟩)
      obtain ⟨n, hn, n1, n2⟩ := wt4 m
      refine ⟨_, rfl, _, _, rfl, rfl, ⟨by decide, by decide⟩, _, _, rfl, rfl, (by show (0 : Int) < _; decide), _, _, rfl, rfl, ?_⟩
      refine ⟨_, rfl, _, _, rfl, rfl, ⟨by decide, by decide⟩, _, _, rfl, rfl, (by show (0 : Int) < _; decide), _, _, rfl, rfl, ?_⟩
      refine ⟨_, rfl, _, _, rfl, rfl, .inr ⟨by decide, by decide⟩, _, _, rfl, rfl, ⟨by decide, by decide⟩, _, _, rfl, rfl, (by show (0 : Int) < _; decide), _, _, rfl, rfl, (by show 4 ≤ sizeLine; decide), fun C nC => ?_⟩
      refine ⟨_, rfl, _, _, rfl, rfl, ⟨by decide, by decide⟩, _, _, rfl, rfl, (by show (0 : Int) < _; decide), C, _, _, _, rfl, rfl, lst upd_same, hn, ?_⟩
      have sC := upd_new (o := .lst [V.int 1, V.int (1 + (m : Int) / 3 % 4), V.int (1 + (m : Int) / 3 % 12), V.int (1 + (m : Int) * 48271 / 3 % 1000000)]) nC
      refine ⟨_, rfl, _, rfl, D, _, rfl, DPut.k (k := Sum.inr u) (sC _ _ hD2) (small1000 (by omega)), ?_⟩
      refine ⟨_, _, _, putK kvs (.inr u) (.int (n : Int)), rfl, fun c o hc ec => ?_, upd_same, W.put (gy u hum) n1 n2, ?_⟩
      · rw [upd_ne hc]
        exact sC _ _ (b2 c o hc ec)
      · have := length_putK kvs (.inr u : Key) (.int (n : Int))
        omega
    · rintro σ H1 ⟨v3, v4, v5, kvs, rfl, b1, hD, W, hl⟩
      exact ⟨_, rfl, q _ D kvs (b1.same s0 nD) hD W⟩
end
end Muc
namespace Muc
open PySem PySem.Spec PyProof.Rows L2
/-- the key (i, j) -/
abbrev ky (i j : Int) : List Key := [.inl i, .inl j]
theorem ky_inj {a b i j : Int} (h : ky a b = ky i j) : a = i ∧ b = j := by
  injection h with h1 h2
  injection h2 with h3 _
  exact ⟨Sum.inl.inj h1, Sum.inl.inj h3⟩
structure ShAt (H : Hp) (d : Addr) (k : Bool) (wt : Str → Nat) (L : List (Addr × List Str)) (kvs : List (List Key × V)) : Prop where
  top : H d = some (.dT kvs)
  sound : ∀ (i j : Int) (v : V), valV kvs (ky i j) = some v → ∃ (s : Addr) (a b : Nat), v = .ref s ∧ i = (a : Int) ∧ j = (b : Int) ∧ H s = some (fr (sh k wt L a b))
  full : ∀ a b : Nat, a < L.length → b < L.length → a ≠ b → valV kvs (ky (a : Int) (b : Int)) = none → sh k wt L a b = (0, 1)
theorem ShAt.same {H H' : Hp} {d : Addr} {k : Bool} {wt : Str → Nat} {L : List (Addr × List Str)} {kvs : List (List Key × V)} (h : ShAt H d k wt L kvs) (s : Same H H') : ShAt H' d k wt L kvs :=
  ⟨s _ _ h.top, fun i j v hv => by
    obtain ⟨t, a, b, e1, e2, e3, e4⟩ := h.sound i j v hv
    exact ⟨t, a, b, e1, e2, e3, s _ _ e4⟩, h.full⟩
/-- the sets of a lot -/
structure Sets (wt : Str → Nat) (L : List (Addr × List Str)) : Prop where
  good : ∀ p ∈ L, GoodSet p.2
  bd : ∀ z, wt z ≤ 1000000
theorem Sets.at {wt : Str → Nat} {L : List (Addr × List Str)} (h : Sets wt L) (i : Nat) : (stt L i).Nodup ∧ (stt L i).length ≤ 60 := by
  cases e : L[i]? with
  | none =>
    have : stt L i = [] := by unfold stt; rw [e]; rfl
    rw [this]
    exact ⟨List.nodup_nil, by decide⟩
  | some p =>
    rw [stt_at e]
    have g := h.good p (List.mem_of_getElem? e)
    exact ⟨g.1, g.2.1⟩
theorem Sets.sh_bd {wt : Str → Nat} {L : List (Addr × List Str)} (h : Sets wt L) (k : Bool) (a b : Nat) : (sh k wt L a b).1 < 1073741824 ∧ (sh k wt L a b).2 < 1073741824 := by
  have b0 := shr_bd (both := k) (a := sw wt (stt L a)) (b := sw wt (stt L b)) (c := cm wt (stt L a) (stt L b))
  have b1 := cm_le wt (stt L a) (stt L b)
  have b2 := sw_bd h.bd (stt L a)
  have b3 := sw_bd h.bd (stt L b)
  have b4 := (h.at a).2
  have b5 := (h.at b).2
  have e1 : (sh k wt L a b).1 ≤ cm wt (stt L a) (stt L b) := b0.1
  have e2 : (sh k wt L a b).2 ≤ 1 + (sw wt (stt L a) + sw wt (stt L b)) := b0.2
  omega
theorem Sets.sh_comm {wt : Str → Nat} {L : List (Addr × List Str)} (h : Sets wt L) (k : Bool) (a b : Nat) : sh k wt L a b = sh k wt L b a := shS_comm k wt (h.at a).1 (h.at b).1
theorem Sets.sh_zero {wt : Str → Nat} {L : List (Addr × List Str)} (h : Sets wt L) {k : Bool} {a b : Nat} (e : (sh k wt L a b).1 = 0) : sh k wt L a b = (0, 1) :=
  shr_zero (cm_le _ _ _) (cm_le2 wt (h.at a).1 (h.at b).1) e
/-- what shares.get((i, j), (0, 1)) gives -/
theorem ShAt.get {H : Hp} {d t u : Addr} {k : Bool} {wt : Str → Nat} {L : List (Addr × List Str)} {kvs : List (List Key × V)} (h : ShAt H d k wt L kvs) (g : Sets wt L) (i j : Int) (nt : H t = none)
    (nu : upd H t (.tup [.int i, .int j]) u = none) :
    ∃ (s : Addr) (p : Nat × Nat), (valV kvs (ky i j)).getD (.ref u) = .ref s ∧ upd (upd H t (.tup [.int i, .int j])) u (.tup [.int 0, .int 1]) s = some (fr p) ∧ p.1 < 1073741824 ∧ p.2 < 1073741824 ∧
      ∀ a b : Nat, i = (a : Int) → j = (b : Int) → a < L.length → b < L.length → a ≠ b → p = sh k wt L a b := by
  cases e : valV kvs (ky i j) with
  | none =>
    refine ⟨u, (0, 1), rfl, upd_same, by decide, by decide, fun a b ea eb ha hb hab => ?_⟩
    rw [ea, eb] at e
    exact (h.full a b ha hb hab e).symm
  | some v =>
    obtain ⟨s, a, b, rfl, ea, eb, hs⟩ := h.sound i j v e
    refine ⟨s, sh k wt L a b, rfl, ?_, (g.sh_bd k a b).1, (g.sh_bd k a b).2, fun a' b' ea' eb' _ _ _ => ?_⟩
    · have h1 : upd H t (.tup [.int i, .int j]) s = some (fr (sh k wt L a b)) := by rw [upd_ne (ne_of_none hs nt)]; exact hs
      rw [upd_ne (ne_of_none h1 nu)]
      exact h1
    · obtain rfl : a = a' := by omega
      obtain rfl : b = b' := by omega
      rfl
section
variable {P : Program} {w : World} {K : PySem.W.Frag} {mg : Str → Option Value} {base : Heap}
/-! ### _law_shares -/
def spSharesL : Sp := fun vs H Q _ => ∃ (k : Bool) (a d : Addr) (L : List (Addr × List Str)) (kvs : List (Key × V)) (wt : Str → Nat), vs = [.str (kd k), .ref a, .ref d] ∧ LotAt H a L ∧ L.length ≤ 30 ∧ H d = some (.dK kvs) ∧ WtOk kvs wt ∧
  ∀ H' sd skvs, Same H H' → ShAt H' sd k wt L skvs → Q (.ref sd) H'
theorem sc__law_shares : FnScope ["_law_kind", "_law_lot_here", "_law_weights_here", "_law_told", "_law_i", "_law_j", "_law_share"] ["_law_kind", "_law_lot_here", "_law_weights_here"] (defScope s__law_shares) := ⟨rfl, rfl, rfl, by decide +kernel, rfl, by decide +kernel, by decide +kernel⟩
theorem le_great {s q : Nat} (h : s ≤ q) {t : Nat} (ht : t ≠ 0) : (1 : Int) * (s : Int) ≤ (t : Int) * (q : Int) := by
  have : s ≤ t * q := Nat.le_trans h (Nat.le_mul_of_pos_left q (Nat.pos_of_ne_zero ht))
  rw [Int.one_mul, ← Int.natCast_mul]
  exact Int.ofNat_le.mpr this
theorem ok__law_shares (F : Std K mg "_law_shares" s__law_shares) (cP : Cal P w K mg base "plain_pairs" 5 ["kind", "least", "lot", "weights"] (spPairs K)) : Cal P w K mg base "_law_shares" 6 ["_law_kind", "_law_lot_here", "_law_weights_here"] spSharesL := by
  obtain ⟨f, fd, F, gF⟩ := F.ex
  refine ⟨f, fd, ?_, gF, F.kp, F.bindsN fun _ _ _ _ _ _ us hl => match us, hl with | [_, _, _], _ => rfl⟩
  refine F.ok sc__law_shares (fun vs H Q E h => ?_) (fun cdv A outer s H vs Q E hr h => ?_)
  · obtain ⟨k, a, d, L, kvs, wt, rfl, _⟩ := h
    rfl
  · obtain ⟨k, a, d, L, kvs, wt, rfl, hL, hn, hd, W, kq⟩ := h
    have hu := hu_of hr
    have G : Sets wt L := ⟨hL.good, W.bd⟩
    refine ⟨_, PSs.nox (pss_cons (ps_set (i := 3) sc__law_shares.nd rfl (.inl rfl) pe_dnewT)
      (pss_cons (ps_for PassesOwn.never rfl (pi_list (pe_cal cP hr (pa_cons (pv 0) (pa_cons (pe_tup (pa_cons pe_int (pa_cons (pe_op op_pow pe_int pe_int) pa_nil))) (pa_cons (pv 1) (pa_cons (pv 2) pa_nil))))))
          (pg_tup (by rfl) (pgs_cons (pg_name (i := 4) sc__law_shares.nd rfl (.inl rfl)) (pgs_cons (pg_name (i := 5) sc__law_shares.nd rfl (.inl rfl)) (pgs_cons (pg_name (i := 6) sc__law_shares.nd rfl (.inl rfl)) pgs_nil))))
        (pss_cons (ps_dput hu (pv 3) (pe_tup (pa_cons (pv 4) (pa_cons (pv 5) pa_nil))) (pv 6) rfl)
        (pss_one (ps_dput hu (pv 3) (pe_tup (pa_cons (pv 5) (pa_cons (pv 4) pa_nil))) (pv 6) rfl))))
      (pss_one (ps_ret (pv 3))))), ?_⟩
    intro D nD
    have sD := upd_new (o := .dT []) nD
    refine ⟨_, rfl, _, _, rfl, rfl, ⟨by decide, by decide, by decide⟩, (by show 2 ≤ sizeLine; decide), fun B nB => ?_⟩
    have sB := upd_new (o := .tup [.int 1, .int (10 ^ Int.toNat 18)]) nB
    refine ⟨_, rfl, _, rfl, k, B, a, d, 1, 10 ^ 18, L, kvs, wt, rfl, tup upd_same, by decide, by decide, by decide, Nat.gcd_one_left _, (hL.same sD).same sB, hn, sB _ _ (sD _ _ hd), W, fun H2 T qs s2 A2 => ?_⟩
    have hD2 := s2 _ _ (sB _ _ (upd_same (H := H) (a := D) (o := .dT [])))
    have s02 := (sD.trans sB).trans s2
    have ql := A2.len
    refine ⟨T, rfl, ⟨_, lst A2.top⟩, for_list (K := K) (a := T) (xs := qs.map fun r => V.ref r.a) (fun t σ H' => ∃ (v4 v5 v6 : Option V) (ks : List (List Key × V)), σ = [some (.str (kd k)), some (.ref a), some (.ref d), some (.ref D), v4, v5, v6] ∧ But D H2 H' ∧ H' D = some (.dT ks) ∧ ks.length ≤ 2 * t ∧
        (∀ (i j : Int) (v : V), valV ks (ky i j) = some v → ∃ (s : Addr) (x y : Nat), v = .ref s ∧ i = (x : Int) ∧ j = (y : Int) ∧ H2 s = some (fr (sh k wt L x y))) ∧
        ∀ r ∈ qs.take t, valV ks (ky (r.i : Int) (r.j : Int)) ≠ none ∧ valV ks (ky (r.j : Int) (r.i : Int)) ≠ none)
      ⟨none, none, none, [], rfl, (fun _ _ _ e => e), hD2, Nat.le_refl _, (fun i j v hv => nomatch hv), fun r hr2 => nomatch hr2⟩ (fun t σ H' _ ⟨_, _, _, _, _, b, _⟩ => lst (b _ _ (ne_of A2.top hD2 (by intro z; cases z)) A2.top)) ?_ ?_⟩
    · rintro t x σ H3 hx ⟨v4, v5, v6, ks, rfl, b3, hD3, kl, snd, fl⟩
      obtain ⟨r, hr2, hrm, rfl⟩ := prs_get hx
      have ok := A2.sound r hrm
      have til : t < qs.length := (List.getElem?_eq_some_iff.mp hr2).1
      have tp3 := b3 _ _ (ne_of ok.tp hD2 (by intro z; cases z)) ok.tp
      refine ⟨r.a, _, rfl, tup tp3, rfl, _, _, rfl, _, _, rfl, _, [], rfl, rfl, ?_⟩
      -- the two stores
      refine ⟨_, rfl, _, rfl, _, rfl, _, rfl, (by show 2 ≤ sizeLine; decide), fun E nE => ?_⟩
      have sE := upd_new (o := .tup [.int (r.i : Int), .int (r.j : Int)]) nE
      have hD4 := upd_same (H := upd H3 E (.tup [.int (r.i : Int), .int (r.j : Int)])) (a := D) (o := .dT (putK ks (ky (r.i : Int) (r.j : Int)) (.ref r.s)))
      have b4 : But D H2 (upd (upd H3 E (.tup [.int (r.i : Int), .int (r.j : Int)])) D (.dT (putK ks (ky (r.i : Int) (r.j : Int)) (.ref r.s)))) := fun c o hc ec => by
        rw [upd_ne hc]
        exact sE _ _ (b3 c o hc ec)
      refine ⟨D, _, rfl, DPut.t (k := ky (r.i : Int) (r.j : Int)) (sE _ _ hD3) upd_same (Nat.lt_of_le_of_lt (show _ ≤ 10000 by omega) (by decide)), ?_⟩
      generalize upd (upd H3 E (.tup [.int (r.i : Int), .int (r.j : Int)])) D (.dT (putK ks (ky (r.i : Int) (r.j : Int)) (.ref r.s))) = H4 at hD4 b4
      have l1 := length_putK ks (ky (r.i : Int) (r.j : Int)) (.ref r.s)
      have l2 := length_putK (putK ks (ky (r.i : Int) (r.j : Int)) (.ref r.s)) (ky (r.j : Int) (r.i : Int)) (.ref r.s)
      refine ⟨_, rfl, _, rfl, _, rfl, _, rfl, (by show 2 ≤ sizeLine; decide), fun F2 nF => ?_⟩
      have sF := upd_new (o := .tup [.int (r.j : Int), .int (r.i : Int)]) nF
      refine ⟨D, _, rfl, DPut.t (k := ky (r.j : Int) (r.i : Int)) (sF _ _ hD4) upd_same (Nat.lt_of_le_of_lt (show _ ≤ 10000 by omega) (by decide)), ?_⟩
      refine ⟨_, _, _, putK (putK ks (ky (r.i : Int) (r.j : Int)) (.ref r.s)) (ky (r.j : Int) (r.i : Int)) (.ref r.s), rfl, fun c o hc ec => ?_, upd_same, by omega, fun x y v hv => ?_, fun r2 hr3 => ?_⟩
      · rw [upd_ne hc]
        exact sF _ _ (b4 c o hc ec)
      · rw [valV_put] at hv
        split at hv
        · rename_i e
          obtain ⟨e1, e2⟩ := ky_inj e
          obtain rfl : V.ref r.s = v := Option.some.inj hv
          exact ⟨r.s, r.j, r.i, rfl, e1, e2, by rw [G.sh_comm]; exact ok.sp⟩
        · rw [valV_put] at hv
          split at hv
          · rename_i e
            obtain ⟨e1, e2⟩ := ky_inj e
            obtain rfl : V.ref r.s = v := Option.some.inj hv
            exact ⟨r.s, r.i, r.j, rfl, e1, e2, ok.sp⟩
          · exact snd x y v hv
      · have some_ : ∀ (x y : Int), (valV ks (ky x y) ≠ none ∨ ky x y = ky (r.i : Int) (r.j : Int) ∨ ky x y = ky (r.j : Int) (r.i : Int)) → valV (putK (putK ks (ky (r.i : Int) (r.j : Int)) (.ref r.s)) (ky (r.j : Int) (r.i : Int)) (.ref r.s)) (ky x y) ≠ none := fun x y h => by
          rw [valV_put]
          split
          · intro z; cases z
          · rename_i n1
            rw [valV_put]
            split
            · intro z; cases z
            · rename_i n2
              rcases h with h | h | h
              · exact h
              · exact absurd h n2
              · exact absurd h n1
        rw [List.take_add_one, hr2] at hr3
        rcases List.mem_append.mp hr3 with hr3 | hr3
        · obtain ⟨f1, f2⟩ := fl r2 hr3
          exact ⟨some_ _ _ (.inl f1), some_ _ _ (.inl f2)⟩
        · have e : r2 = r := by simpa using hr3
          subst e
          exact ⟨some_ _ _ (.inr (.inl rfl)), some_ _ _ (.inr (.inr rfl))⟩
    · rintro σ H3 ⟨v4, v5, v6, ks, rfl, b3, hD3, kl, snd, fl⟩
      rw [List.length_map, List.take_length] at fl
      refine ⟨_, rfl, kq _ D ks (b3.same s02 nD) ⟨hD3, fun i j v hv => ?_, fun x y hx hy hxy hv => ?_⟩⟩
      · obtain ⟨t, x, y, e1, e2, e3, e4⟩ := snd i j v hv
        exact ⟨t, x, y, e1, e2, e3, b3 _ _ (ne_of e4 hD2 (by intro z; cases z)) e4⟩
      · refine Classical.byContradiction fun hne => ?_
        have main : ∀ x y : Nat, x < y → y < L.length → sh k wt L x y ≠ (0, 1) → valV ks (ky (x : Int) (y : Int)) ≠ none ∧ valV ks (ky (y : Int) (x : Int)) ≠ none := fun x y h1 h2 h3 => by
          have t0 : (sh k wt L x y).1 ≠ 0 := fun e => h3 (G.sh_zero e)
          have q0 : (sh k wt L x y).2 ≤ 10 ^ 18 := Nat.le_trans (Nat.le_of_lt (G.sh_bd k x y).2) (by decide)
          obtain ⟨r, hr, rfl, rfl⟩ := A2.full x y h1 h2 trivial (le_great q0 t0)
          exact fl r hr
        rcases Nat.lt_or_gt_of_ne hxy with h | h
        · exact (main x y h hy hne).1 hv
        · exact (main y x h hx (by rw [G.sh_comm]; exact hne)).2 hv
end
end Muc
namespace Muc
open PySem PySem.Spec PyProof.Rows L2
/-- the law's own asking of three -/
theorem tri_not_less {s1 s2 s3 : Nat × Nat} (h : Tri s1 s2 s3) : ¬ ((s3.1 : Int) + s3.2) * s1.2 * s2.2 < ((s1.1 : Int) * s2.2 + s2.1 * s1.2) * s3.2 := by
  unfold Tri at h
  obtain ⟨t1, b1⟩ := s1
  obtain ⟨t2, b2⟩ := s2
  obtain ⟨t3, b3⟩ := s3
  simp only at h ⊢
  intro q
  have e1 : ((t3 : Int) + b3) * b1 * b2 = b1 * b2 * b3 + t3 * b1 * b2 := by grind
  have e2 : ((t1 : Int) * b2 + t2 * b1) * b3 = t1 * b2 * b3 + t2 * b1 * b3 := by grind
  omega
section
variable {P : Program} {w : World} {K : PySem.W.Frag} {mg : Str → Option Value} {base : Heap}
def spThree : Sp := fun vs H Q _ => ∃ (d : Addr) (k : Bool) (L : List (Addr × List Str)) (kvs : List (List Key × V)) (wt : Str → Nat), vs = [.ref d, .int ((L.length : Nat) : Int)] ∧ ShAt H d k wt L kvs ∧ Sets wt L ∧ L.length ≤ 30 ∧ ∀ H', Same H H' → Q (.bl true) H'
theorem sc__law_three_right : FnScope ["_law_shares_here", "_law_many", "_law_i", "_law_j", "_law_one", "_law_k", "_law_other", "_law_far", "_law_both", "_law_less"] ["_law_shares_here", "_law_many"] (defScope s__law_three_right) := ⟨rfl, rfl, rfl, by decide +kernel, rfl, by decide +kernel, by decide +kernel⟩
theorem ok__law_three_right (F : Std K mg "_law_three_right" s__law_three_right) (mR : mg "range" = none) : Cal P w K mg base "_law_three_right" 1 ["_law_shares_here", "_law_many"] spThree := by
  obtain ⟨f, fd, F, gF⟩ := F.ex
  refine ⟨f, fd, ?_, gF, F.kp, F.bindsN fun _ _ _ _ _ _ us hl => match us, hl with | [_, _], _ => rfl⟩
  refine F.ok sc__law_three_right (fun vs H Q E h => ?_) (fun cdv A outer s H vs Q E hr h => ?_)
  · obtain ⟨d, k, L, kvs, wt, rfl, _⟩ := h
    rfl
  · obtain ⟨d, k, L, kvs, wt, rfl, hS, G, hn, q⟩ := h
    have hu := hu_of hr
    refine ⟨_, PSs.nox (pss_cons (ps_for PassesOwn.never rfl (pi_range1 rfl mR (pa_cons (pv 1) pa_nil)) (pg_name (i := 2) sc__law_three_right.nd rfl (.inl rfl))
        (pss_one (ps_for PassesOwn.never rfl (pi_range1 rfl mR (pa_cons (pv 1) pa_nil)) (pg_name (i := 3) sc__law_three_right.nd rfl (.inl rfl))
          (pss_cons (ps_set (i := 4) sc__law_three_right.nd rfl (.inl rfl) (pe_dget2 hu (pv 0) (pe_tup (pa_cons (pv 2) (pa_cons (pv 3) pa_nil))) (pe_tup (pa_cons pe_int (pa_cons pe_int pa_nil))) ⟨rfl, rfl, rfl, rfl⟩))
          (pss_one (ps_for PassesOwn.never rfl (pi_range1 rfl mR (pa_cons (pv 1) pa_nil)) (pg_name (i := 5) sc__law_three_right.nd rfl (.inl rfl))
            (pss_cons (ps_set (i := 6) sc__law_three_right.nd rfl (.inl rfl) (pe_dget2 hu (pv 0) (pe_tup (pa_cons (pv 3) (pa_cons (pv 5) pa_nil))) (pe_tup (pa_cons pe_int (pa_cons pe_int pa_nil))) ⟨rfl, rfl, rfl, rfl⟩))
            (pss_cons (ps_set (i := 7) sc__law_three_right.nd rfl (.inl rfl) (pe_dget2 hu (pv 0) (pe_tup (pa_cons (pv 2) (pa_cons (pv 5) pa_nil))) (pe_tup (pa_cons pe_int (pa_cons pe_int pa_nil))) ⟨rfl, rfl, rfl, rfl⟩))
            (pss_cons (ps_set (i := 8) sc__law_three_right.nd rfl (.inl rfl) (pe_op op_add (pe_op op_mul (pe_ix ix_tup (pv 4) pe_int (fun _ _ => rfl)) (pe_ix ix_tup (pv 6) pe_int (fun _ _ => rfl))) (pe_op op_mul (pe_ix ix_tup (pv 6) pe_int (fun _ _ => rfl)) (pe_ix ix_tup (pv 4) pe_int (fun _ _ => rfl)))))
            (pss_cons (ps_set (i := 9) sc__law_three_right.nd rfl (.inl rfl) (pe_cmpR op_lt (pe_op op_mul (pe_op op_mul (pe_op op_add (pe_ix ix_tup (pv 7) pe_int (fun _ _ => rfl)) (pe_ix ix_tup (pv 7) pe_int (fun _ _ => rfl))) (pe_ix ix_tup (pv 4) pe_int (fun _ _ => rfl))) (pe_ix ix_tup (pv 6) pe_int (fun _ _ => rfl)))
                (pe_op op_mul (pv 8) (pe_ix ix_tup (pv 7) pe_int (fun _ _ => rfl))) (nomark _)))
            (pss_one (ps_if (PW.pt (pw_and (pt_val (pv 9)) (pw_and (pt_cmpR op_ne (pv 2) (pv 3) (nomark _)) (pw_and (pt_cmpR op_ne (pv 3) (pv 5) (nomark _)) (pw_and1 (pt_cmpR op_ne (pv 2) (pv 5) (nomark _))))))
              ) (pss_one (ps_ret pe_bl)) pss_nil))))))))))))
      (pss_one (ps_ret pe_bl))), ?_⟩
    have rn : ∀ m : Nat, ((m : Nat) : Int).toNat = m := Int.toNat_natCast
    refine ⟨_, rfl, _, rfl, (by omega), (by omega), for_range (lo := 0) (n := ((L.length : Nat) : Int).toNat) (fun i σ H' => ∃ v2 v3 v4 v5 v6 v7 v8 v9 : Option V, σ = [some (.ref d), some (.int ((L.length : Nat) : Int)), v2, v3, v4, v5, v6, v7, v8, v9] ∧ Same H H')
      ⟨none, none, none, none, none, none, none, none, rfl, Same.refl H⟩ ?_ ?_⟩
    · rintro i σ H1 hi ⟨v2, v3, v4, v5, v6, v7, v8, v9, rfl, s1⟩
      rw [rn] at hi
      rw [Int.zero_add]
      refine ⟨_, rfl, _, rfl, (by omega), (by omega), for_range (lo := 0) (n := ((L.length : Nat) : Int).toNat) (fun j σ H' => ∃ v3 v4 v5 v6 v7 v8 v9 : Option V, σ = [some (.ref d), some (.int ((L.length : Nat) : Int)), some (.int (i : Int)), v3, v4, v5, v6, v7, v8, v9] ∧ Same H H')
        ⟨v3, v4, v5, v6, v7, v8, v9, rfl, s1⟩ ?_ ?_⟩
      · rintro j σ H2 hj ⟨v3, v4, v5, v6, v7, v8, v9, rfl, s2⟩
        rw [rn] at hj
        rw [Int.zero_add]
        have S2 := hS.same s2
        refine ⟨_, rfl, d, rfl, .inr ⟨kvs, .inl S2.top⟩, _, rfl, _, rfl, (by show 2 ≤ sizeLine; decide), fun t nt => ⟨by show 2 ≤ sizeLine; decide, fun u nu => ?_⟩⟩
        obtain ⟨A1, p1, ea1, ha1, l1, m1, eq1⟩ := S2.get G (i : Int) (j : Int) nt nu
        have s3 := s2.trans ((upd_new (o := .tup [.int (i : Int), .int (j : Int)]) nt).trans (upd_new (o := .tup [.int 0, .int 1]) nu))
        refine ⟨_, DGet.t (k := ky (i : Int) (j : Int)) ((hS.same s3).top) (upd_new nu _ _ upd_same), ?_⟩
        rw [ea1]
        generalize upd (upd H2 t (.tup [.int (i : Int), .int (j : Int)])) u (.tup [.int 0, .int 1]) = H3 at ha1 s3
        refine ⟨_, rfl, _, rfl, (by omega), (by omega), for_range (lo := 0) (n := ((L.length : Nat) : Int).toNat) (fun o σ H' => ∃ v5 v6 v7 v8 v9 : Option V, σ = [some (.ref d), some (.int ((L.length : Nat) : Int)), some (.int (i : Int)), some (.int (j : Int)), some (.ref A1), v5, v6, v7, v8, v9] ∧ Same H3 H')
          ⟨v5, v6, v7, v8, v9, rfl, Same.refl _⟩ ?_ ?_⟩
        · rintro o σ H4 ho ⟨v5, v6, v7, v8, v9, rfl, s4⟩
          rw [rn] at ho
          rw [Int.zero_add]
          have S4 := (hS.same s3).same s4
          refine ⟨_, rfl, d, rfl, .inr ⟨kvs, .inl S4.top⟩, _, rfl, _, rfl, (by show 2 ≤ sizeLine; decide), fun t nt => ⟨by show 2 ≤ sizeLine; decide, fun u nu => ?_⟩⟩
          obtain ⟨A2, p2, ea2, ha2, l2, m2, eq2⟩ := S4.get G (j : Int) (o : Int) nt nu
          have s5 := (upd_new (o := .tup [.int (j : Int), .int (o : Int)]) nt).trans (upd_new (o := .tup [.int 0, .int 1]) nu)
          refine ⟨_, DGet.t (k := ky (j : Int) (o : Int)) ((S4.same s5).top) (upd_new nu _ _ upd_same), ?_⟩
          rw [ea2]
          have S5 := S4.same s5
          have s35 := s4.trans s5
          generalize upd (upd H4 t (.tup [.int (j : Int), .int (o : Int)])) u (.tup [.int 0, .int 1]) = H5 at ha2 S5 s35
          refine ⟨_, rfl, d, rfl, .inr ⟨kvs, .inl S5.top⟩, _, rfl, _, rfl, (by show 2 ≤ sizeLine; decide), fun t nt => ⟨by show 2 ≤ sizeLine; decide, fun u nu => ?_⟩⟩
          obtain ⟨A3, p3, ea3, ha3, l3, m3, eq3⟩ := S5.get G (i : Int) (o : Int) nt nu
          have s6 := (upd_new (o := .tup [.int (i : Int), .int (o : Int)]) nt).trans (upd_new (o := .tup [.int 0, .int 1]) nu)
          refine ⟨_, DGet.t (k := ky (i : Int) (o : Int)) ((S5.same s6).top) (upd_new nu _ _ upd_same), ?_⟩
          rw [ea3]
          have s36 := s35.trans s6
          have hb1 := s36 _ _ ha1
          have hb2 := s6 _ _ ha2
          generalize upd (upd H5 t (.tup [.int (i : Int), .int (o : Int)])) u (.tup [.int 0, .int 1]) = H6 at ha3 s36 hb1 hb2
          -- both
          refine ⟨_, rfl, _, _, _, _, rfl, rfl, tup hb1, at0 _ _, _, rfl, _, _, _, _, rfl, rfl, tup hb2, at1 _ _ _, _, _, rfl, rfl, .inl ⟨by omega, by omega⟩,
            _, rfl, _, _, _, _, rfl, rfl, tup hb2, at0 _ _, _, rfl, _, _, _, _, rfl, rfl, tup hb1, at1 _ _ _, _, _, rfl, rfl, .inl ⟨by omega, by omega⟩, _, _, rfl, rfl, ?_⟩
          -- less
          refine ⟨_, rfl, _, _, _, _, rfl, rfl, tup ha3, at0 _ _, _, rfl, _, _, _, _, rfl, rfl, tup ha3, at1 _ _ _, _, _, rfl, rfl, _, rfl, _, _, _, _, rfl, rfl, tup hb1, at1 _ _ _, _, _, rfl, rfl, .inr ⟨by omega, by omega⟩,
            _, rfl, _, _, _, _, rfl, rfl, tup hb2, at1 _ _ _, _, _, rfl, rfl, .inr ⟨by omega, by omega⟩, _, rfl, _, rfl, _, _, _, _, rfl, rfl, tup ha3, at1 _ _ _, _, _, rfl, rfl, .inr ⟨by omega, by omega⟩, _, _, rfl, rfl, ?_⟩
          have stay : ∀ v8 v9 : Option V, ∃ v5 v6 v7 v8' v9' : Option V, [some (.ref d), some (.int ((L.length : Nat) : Int)), some (.int (i : Int)), some (.int (j : Int)), some (.ref A1), some (.int (o : Int)), some (.ref A2), some (.ref A3), v8, v9] =
              [some (.ref d), some (.int ((L.length : Nat) : Int)), some (.int (i : Int)), some (.int (j : Int)), some (.ref A1), v5, v6, v7, v8', v9'] ∧ Same H3 H6 := fun v8 v9 => ⟨_, _, _, _, _, rfl, s36⟩
          refine ⟨_, rfl, _, rfl, ?_⟩
          refine ite2 (fun less => ?_) (fun _ => stay _ _)
          refine ⟨_, rfl, _, rfl, rfl, _, rfl, ?_⟩
          by_cases eij : i = j
          · refine iteNS (by rw [eij]) (stay _ _)
          rw [show decide (V.int (i : Int) = V.int (j : Int)) = false from decide_eq_false (fun z => eij (by injection z with z; omega))]
          refine iteT ⟨_, rfl, _, rfl, rfl, _, rfl, ?_⟩
          by_cases ejo : j = o
          · refine iteNS (by rw [ejo]) (stay _ _)
          rw [show decide (V.int (j : Int) = V.int (o : Int)) = false from decide_eq_false (fun z => ejo (by injection z with z; omega))]
          refine iteT ⟨_, rfl, _, rfl, rfl, _, rfl, ?_⟩
          by_cases eio : i = o
          · refine iteNS (by rw [eio]) (stay _ _)
          exfalso
          rw [eq1 i j rfl rfl hi hj eij, eq2 j o rfl rfl hj ho ejo, eq3 i o rfl rfl hi ho eio] at less
          exact tri_not_less (tri k wt (G.at i).1 (G.at j).1 (G.at o).1) (of_decide_eq_true less)
        · rintro σ H4 ⟨v5, v6, v7, v8, v9, rfl, s4⟩
          exact ⟨_, _, _, _, _, _, _, rfl, s3.trans s4⟩
      · rintro σ H2 ⟨v3, v4, v5, v6, v7, v8, v9, rfl, s2⟩
        exact ⟨_, _, _, _, _, _, _, _, rfl, s2⟩
    · rintro σ H1 ⟨v2, v3, v4, v5, v6, v7, v8, v9, rfl, s1⟩
      exact q _ s1
end
end Muc
namespace Muc
open PySem PySem.Spec PyProof.Rows L2
section
variable {P : Program} {w : World} {K : PySem.W.Frag} {mg : Str → Option Value} {base : Heap}
def spChains (K : PySem.W.Frag) : Sp := fun vs H Q _ => ∃ (k : Bool) (b a d sd : Addr) (p q : Nat) (L : List (Addr × List Str)) (kvs : List (Key × V)) (wt : Str → Nat) (skvs : List (List Key × V)), vs = [.str (kd k), .ref b, .ref a, .ref d, .ref sd] ∧
  SqT K H b [.int (p : Int), .int (q : Int)] ∧ 1 ≤ p ∧ p ≤ q ∧ q ≤ 999999999 ∧ Nat.gcd p q = 1 ∧ LotAt H a L ∧ L.length ≤ 30 ∧ H d = some (.dK kvs) ∧ WtOk kvs wt ∧ ShAt H sd k wt L skvs ∧ ∀ H', Same H H' → Q (.bl true) H'
theorem sc__law_chains_right : FnScope ["_law_kind", "_law_least_here", "_law_lot_here", "_law_weights_here", "_law_shares_here", "_law_pairs", "_law_group", "_law_i", "_law_j", "_law_row", "_law_far", "_law_turns", "_law_lack"] ["_law_kind", "_law_least_here", "_law_lot_here", "_law_weights_here", "_law_shares_here"] (defScope s__law_chains_right) := ⟨rfl, rfl, rfl, by decide +kernel, rfl, by decide +kernel, by decide +kernel⟩
theorem ends_at {r : List Int} {i j : Int} (h0 : r.head? = some i) (h1 : r.getLast? = some j) : atI (r.map V.int) 0 = some (.int i) ∧ atI (r.map V.int) (-1) = some (.int j) ∧ 0 < r.length := by
  refine ⟨?_, ?_, ?_⟩
  · cases r with
    | nil => cases h0
    | cons x r =>
      obtain rfl : x = i := by simpa using h0
      exact at0 _ _
  · obtain ⟨ys, rfl⟩ := List.getLast?_eq_some_iff.mp h1
    rw [List.map_append]
    exact atI_last _ _
  · cases r with
    | nil => cases h0
    | cons x r => exact Nat.succ_pos _
theorem ok__law_chains_right (F : Std K mg "_law_chains_right" s__law_chains_right) (cP : Cal P w K mg base "plain_pairs" 5 ["kind", "least", "lot", "weights"] (spPairs K)) (cG : Cal P w K mg base "groups" 2 ["pairs", "many"] spGroups) (cC : Cal P w K mg base "chain" 2 ["pairs", "many", "i", "j"] spChain) (cK : Cal P w K mg base "_law_lacking" 1 ["_law_share"] (spLack K)) (mL : mg "len" = none) (mI : mg "isinstance" = none) (mT : mg "list" = none) : Cal P w K mg base "_law_chains_right" 6 ["_law_kind", "_law_least_here", "_law_lot_here", "_law_weights_here", "_law_shares_here"] (spChains K) := by
  obtain ⟨f, fd, F, gF⟩ := F.ex
  refine ⟨f, fd, ?_, gF, F.kp, F.bindsN fun _ _ _ _ _ _ us hl => match us, hl with | [_, _, _, _, _], _ => rfl⟩
  refine F.ok sc__law_chains_right (fun vs H Q E h => ?_) (fun cdv A outer s H vs Q E hr h => ?_)
  · obtain ⟨k, b, a, d, sd, p, q, L, kvs, wt, skvs, rfl, _⟩ := h
    rfl
  · obtain ⟨k, b, a, d, sd, p, q, L, kvs, wt, skvs, rfl, hb, p1, pq, q9, pg, hL, hn, hd, W, hS, kq⟩ := h
    have hu := hu_of hr
    have G : Sets wt L := ⟨hL.good, W.bd⟩
    refine ⟨_, PSs.nox (pss_cons (ps_set (i := 5) sc__law_chains_right.nd rfl (.inl rfl) (pe_cal cP hr (pa_cons (pv 0) (pa_cons (pv 1) (pa_cons (pv 2) (pa_cons (pv 3) pa_nil))))))
      (pss_cons (ps_for PassesOwn.never rfl (pi_list (pe_cal cG hr (pa_cons (pv 5) (pa_cons (pe_callB call_len_seq (by rfl) mL (by decide +kernel) (pa_cons (pv 2) pa_nil)) pa_nil)))) (pg_name (i := 6) sc__law_chains_right.nd rfl (.inl rfl))
        (pss_one (ps_for PassesOwn.never rfl (pi_list (pv 6)) (pg_name (i := 7) sc__law_chains_right.nd rfl (.inl rfl))
          (pss_one (ps_for PassesOwn.never rfl (pi_list (pv 6)) (pg_name (i := 8) sc__law_chains_right.nd rfl (.inl rfl))
            (pss_cons (ps_set (i := 9) sc__law_chains_right.nd rfl (.inl rfl) (pe_cal cC hr (pa_cons (pv 5) (pa_cons (pe_callB call_len_seq (by rfl) mL (by decide +kernel) (pa_cons (pv 2) pa_nil)) (pa_cons (pv 7) (pa_cons (pv 8) pa_nil))))))
            (pss_cons (ps_if (PW.pt (pw_or (pt_not (pt_val (pe_callB RZ.call_isTy (by rfl) mI (by decide +kernel) (pa_cons (pv 9) (pa_cons (pe_bltn (by rfl) mT (by decide +kernel) (v := .ty "list") rfl) pa_nil)))))
                (pw_or (pt_cmpR op_ne (pe_ix ix_list (pv 9) pe_int (fun _ _ => rfl)) (pv 7) (nomark _)) (pw_or1 (pt_cmpR op_ne (pe_ix ix_list (pv 9) (pe_un un_neg pe_int) (fun _ _ => rfl)) (pv 8) (nomark _)))))) pss_never pss_nil)
            (pss_cons (ps_set (i := 10) sc__law_chains_right.nd rfl (.inl rfl) (pe_dget2 hu (pv 4) (pe_tup (pa_cons (pv 7) (pa_cons (pv 8) pa_nil))) (pe_tup (pa_cons pe_int (pa_cons pe_int pa_nil))) ⟨rfl, rfl, rfl, rfl⟩))
            (pss_cons (ps_set (i := 11) sc__law_chains_right.nd rfl (.inl rfl) (pe_op op_sub (pe_callB call_len_seq (by rfl) mL (by decide +kernel) (pa_cons (pv 9) pa_nil)) pe_int))
            (pss_cons (ps_set (i := 12) sc__law_chains_right.nd rfl (.inl rfl) (pe_op op_mul (pe_cal cK hr (pa_cons (pv 10) pa_nil)) (pe_ix ix_tup (pv 1) pe_int (fun _ _ => rfl))))
            (pss_one (ps_if (PW.pt (pw_and (pt_cmpR op_ne (pv 7) (pv 8) (nomark _)) (pw_and1 (pt_cmpR op_gt (pv 12) (pe_op op_mul (pe_op op_mul (pv 11) (pe_cal cK hr (pa_cons (pv 1) pa_nil))) (pe_ix ix_tup (pv 10) pe_int (fun _ _ => rfl))) (nomark _))))) pss_never pss_nil))))))))))))
      (pss_one (ps_ret pe_bl)))), ?_⟩
    refine ⟨_, rfl, _, rfl, _, rfl, _, rfl, k, b, a, d, p, q, L, kvs, wt, rfl, hb, p1, pq, (by omega), pg, hL, hn, hd, W, fun H1 T qs s1 A1 => ?_⟩
    have P1 : PrsAt H1 T qs := ⟨A1.top, fun r hr => (A1.sound r hr).tp⟩
    have hIn : InN (edg qs) L.length := fun x y hxy => by
      obtain ⟨r, hr, z⟩ := mem_edg.mp hxy
      have h1 := (A1.sound r hr).lt
      have h2 := (A1.sound r hr).bd
      omega
    have ql := A1.len
    have hE : ∀ x y : Int, (x, y) ∈ edg qs → (p : Int) * (shS k wt (stt L x.toNat) (stt L y.toNat)).2 ≤ (shS k wt (stt L x.toNat) (stt L y.toNat)).1 * q := fun x y hxy => by
      obtain ⟨r, hr, z⟩ := mem_edg.mp hxy
      have h1 := (A1.sound r hr).le
      rcases z with ⟨rfl, rfl⟩ | ⟨rfl, rfl⟩
      · rw [Int.toNat_natCast, Int.toNat_natCast]
        exact h1
      · rw [Int.toNat_natCast, Int.toNat_natCast]
        have e : shS k wt (stt L r.j) (stt L r.i) = sh k wt L r.i r.j := G.sh_comm k r.j r.i
        rw [e]
        exact h1
    refine ⟨_, rfl, _, rfl, a, _, rfl, .inl (lst (s1 _ _ hL.top)), T, qs, L.length, (by first | (rw [List.length_map]; done) | (rw [List.length_map]; rfl)), P1, ql, hIn, (by omega), fun H2 GT gs s2 G2 => ?_⟩
    have s12 := s1.trans s2
    -- for group in groups
    refine ⟨GT, rfl, ⟨_, lst G2.top⟩, for_list (K := K) (a := GT) (xs := gs.map fun g => V.ref g.1) (fun t σ H' => ∃ v6 v7 v8 v9 v10 v11 v12 : Option V, σ = [some (.str (kd k)), some (.ref b), some (.ref a), some (.ref d), some (.ref sd), some (.ref T), v6, v7, v8, v9, v10, v11, v12] ∧ Same H2 H')
      ⟨none, none, none, none, none, none, none, rfl, Same.refl _⟩ (fun t σ H' _ ⟨_, _, _, _, _, _, _, _, s⟩ => lst (s _ _ G2.top)) ?_ ?_⟩
    · rintro t x σ H3 hx ⟨v6, v7, v8, v9, v10, v11, v12, rfl, s3⟩
      obtain ⟨g, hg, rfl⟩ := grp_get hx
      obtain ⟨_, gok⟩ := G2.all g hg
      -- for i in group
      refine ⟨_, rfl, g.1, rfl, ⟨_, lst (s3 _ _ gok.hg)⟩, for_list (K := K) (a := g.1) (xs := g.2.map V.int) (fun t σ H' => ∃ v7 v8 v9 v10 v11 v12 : Option V, σ = [some (.str (kd k)), some (.ref b), some (.ref a), some (.ref d), some (.ref sd), some (.ref T), some (.ref g.1), v7, v8, v9, v10, v11, v12] ∧ Same H2 H')
        ⟨v7, v8, v9, v10, v11, v12, rfl, s3⟩ (fun t σ H' _ ⟨_, _, _, _, _, _, _, s⟩ => lst (s _ _ gok.hg)) ?_ ?_⟩
      · rintro ti x σ H4 hx4 ⟨v7, v8, v9, v10, v11, v12, rfl, s4⟩
        obtain ⟨i, _, him, rfl⟩ := ints_get hx4
        -- for j in group
        refine ⟨_, rfl, g.1, rfl, ⟨_, lst (s4 _ _ gok.hg)⟩, for_list (K := K) (a := g.1) (xs := g.2.map V.int) (fun t σ H' => ∃ v8 v9 v10 v11 v12 : Option V, σ = [some (.str (kd k)), some (.ref b), some (.ref a), some (.ref d), some (.ref sd), some (.ref T), some (.ref g.1), some (.int i), v8, v9, v10, v11, v12] ∧ Same H2 H')
          ⟨v8, v9, v10, v11, v12, rfl, s4⟩ (fun t σ H' _ ⟨_, _, _, _, _, _, s⟩ => lst (s _ _ gok.hg)) ?_ ?_⟩
        · rintro tj x σ H5 hx5 ⟨v8, v9, v10, v11, v12, rfl, s5⟩
          obtain ⟨j, _, hjm, rfl⟩ := ints_get hx5
          obtain ⟨m, hm⟩ := gok.one
          have hre : Reach (edg qs) i j := Reach.trans ((hm i him).symm (edg_symm qs)) (hm j hjm)
          obtain ⟨i0, i1⟩ := gok.bd i him
          obtain ⟨j0, j1⟩ := gok.bd j hjm
          have s05 := s12.trans s5
          refine ⟨_, rfl, _, rfl, a, _, rfl, .inl (lst (s05 _ _ hL.top)), _, rfl, _, rfl, T, qs, L.length, i, j, (by first | (rw [List.length_map]; done) | (rw [List.length_map]; rfl)), (P1.same s2).same s5, ql, hIn, (by omega), i0, i1, hre, fun H6 R r s6 hR hch hh hlst hrl => ?_⟩
          obtain ⟨e0, e1, rpos⟩ := ends_at hh hlst
          have s06 := s05.trans s6
          -- the row is one
          refine ⟨_, rfl, _, _, rfl, .lst hR, _, rfl, ?_⟩
          refine iteF ⟨_, rfl, R, _, _, _, rfl, rfl, lst hR, e0, _, rfl, rfl, _, rfl, ?_⟩
          refine iteNS rfl ⟨_, rfl, _, rfl, R, _, _, _, rfl, rfl, lst hR, e1, _, rfl, rfl, _, rfl, ?_⟩
          refine iteNS rfl ?_
          -- far
          have S6 := hS.same s06
          refine ⟨_, rfl, sd, rfl, .inr ⟨skvs, .inl S6.top⟩, _, rfl, _, rfl, (by show 2 ≤ sizeLine; decide), fun t nt => ⟨by show 2 ≤ sizeLine; decide, fun u nu => ?_⟩⟩
          obtain ⟨F1, p3, ea3, ha3, l3, m3, eq3⟩ := S6.get G i j nt nu
          have s7 := (upd_new (o := .tup [.int i, .int j]) nt).trans (upd_new (o := .tup [.int 0, .int 1]) nu)
          refine ⟨_, DGet.t (k := ky i j) ((S6.same s7).top) (upd_new nu _ _ upd_same), ?_⟩
          rw [ea3]
          have s07 := s06.trans s7
          have s27 := (s5.trans s6).trans s7
          have hR7 := s7 _ _ hR
          generalize upd (upd H6 t (.tup [.int i, .int j])) u (.tup [.int 0, .int 1]) = H7 at ha3 s07 s27 hR7
          have hb7 := Same.tup s07 hb
          -- turns, lack
          refine ⟨_, rfl, R, _, rfl, .inl (lst hR7), _, _, rfl, rfl, ?_⟩
          refine ⟨_, rfl, F1, p3, rfl, tup ha3, _, rfl, _, _, _, _, rfl, rfl, hb7, at1 _ _ _, _, _, rfl, rfl, .inl ⟨by omega, by omega⟩, ?_⟩
          have stay : ∀ v11 v12 : Option V, ∃ v8 v9 v10 v11' v12' : Option V, [some (.str (kd k)), some (.ref b), some (.ref a), some (.ref d), some (.ref sd), some (.ref T), some (.ref g.1), some (.int i), some (.int j), some (.ref R), some (.ref F1), v11, v12] =
              [some (.str (kd k)), some (.ref b), some (.ref a), some (.ref d), some (.ref sd), some (.ref T), some (.ref g.1), some (.int i), v8, v9, v10, v11', v12'] ∧ Same H2 H7 := fun v11 v12 => ⟨_, _, _, _, _, rfl, s27⟩
          refine ⟨_, rfl, _, rfl, rfl, _, rfl, ?_⟩
          by_cases eij : i = j
          · refine iteNS (by rw [eij]) (stay _ _)
          rw [show decide (V.int i = V.int j) = false from decide_eq_false (fun z => eij (by injection z))]
          refine iteT ⟨_, rfl, _, rfl, _, rfl, b, (p, q), rfl, hb7, _, _, rfl, rfl, .inl ⟨by rw [List.length_map]; omega, by rw [List.length_map]; omega⟩, _, rfl, _, _, _, _, rfl, rfl, tup ha3, at1 _ _ _, _, _, rfl, rfl, .inr ⟨by omega, by omega⟩, _, _, rfl, rfl, _, rfl, ?_⟩
          have e3 : p3 = sh k wt L i.toNat j.toNat := eq3 i.toNat j.toNat (by omega) (by omega) (by omega) (by omega) (by omega)
          have lk := chain_right (both := k) (wt := wt) (E := edg qs) (S := fun x => stt L x.toNat) (p := p) (q := q) (by omega) (fun x => (G.at x.toNat).1) hE hh hlst hch eij
          have lk2 : ((p3.2 : Int) - p3.1) * q ≤ ((r.length - 1 : Nat) : Int) * (q - p) * p3.2 := by
            rw [e3]
            exact lk
          refine ite2 (fun d => ?_) (fun _ => stay _ _)
          exfalso
          have d2 := of_decide_eq_true d
          rw [List.length_map, show ((r.length : Nat) : Int) - 1 = ((r.length - 1 : Nat) : Int) by omega] at d2
          exact absurd lk2 (Int.not_le.mpr d2)
        · rintro σ H5 ⟨v8, v9, v10, v11, v12, rfl, s5⟩
          exact ⟨_, _, _, _, _, _, rfl, s5⟩
      · rintro σ H4 ⟨v7, v8, v9, v10, v11, v12, rfl, s4⟩
        exact ⟨_, _, _, _, _, _, _, rfl, s4⟩
    · rintro σ H3 ⟨v6, v7, v8, v9, v10, v11, v12, rfl, s3⟩
      exact kq _ (s12.trans s3)
end
end Muc
namespace Muc
open PySem PySem.Spec PyProof.Rows L2
theorem valV_nd {κ : Type} [DecidableEq κ] : ∀ {kvs : List (κ × V)} {k : κ} {v : V}, (kvs.map (·.1)).Nodup → (k, v) ∈ kvs → valV kvs k = some v
  | [], _, _, _, h => nomatch h
  | p :: r, k, v, hn, h => by
    obtain ⟨h1, h2⟩ := List.nodup_cons.mp hn
    rcases List.mem_cons.mp h with h | h
    · rw [← h]
      exact valV_pos rfl
    · have ne : ¬ p.1 = k := fun e => h1 (List.mem_map.mpr ⟨_, h, e.symm⟩)
      rw [valV_neg ne]
      exact valV_nd h2 h
/-- a copy of each set stands at each of cs -/
def Copies (H : Hp) : List (Addr × List Str) → List Addr → Prop
  | [], [] => True
  | p :: L, c :: cs => H c = some (.lst (p.2.map V.str)) ∧ Copies H L cs
  | _, _ => False
theorem Copies.same {H H' : Hp} (s : Same H H') : ∀ {L : List (Addr × List Str)} {cs : List Addr}, Copies H L cs → Copies H' L cs
  | [], [], _ => trivial
  | _ :: _, _ :: _, h => ⟨s _ _ h.1, Copies.same s h.2⟩
  | [], _ :: _, h => h.elim
  | _ :: _, [], h => h.elim
theorem Copies.keep {H H' : Hp} : ∀ {L : List (Addr × List Str)} {cs : List Addr}, (∀ c ∈ cs, ∀ o, H c = some o → H' c = some o) → Copies H L cs → Copies H' L cs
  | [], [], _, _ => trivial
  | _ :: _, c :: _, k, h => ⟨k c List.mem_cons_self _ h.1, Copies.keep (fun b hb => k b (List.mem_cons_of_mem _ hb)) h.2⟩
  | [], _ :: _, _, h => h.elim
  | _ :: _, [], _, h => h.elim
theorem Copies.more {H : Hp} {c : Addr} {p : Addr × List Str} (hc : H c = some (.lst (p.2.map V.str))) : ∀ {L : List (Addr × List Str)} {cs : List Addr}, Copies H L cs → Copies H (L ++ [p]) (cs ++ [c])
  | [], [], _ => ⟨hc, trivial⟩
  | _ :: _, _ :: _, h => ⟨h.1, Copies.more hc h.2⟩
  | [], _ :: _, h => h.elim
  | _ :: _, [], h => h.elim
theorem Copies.len {H : Hp} : ∀ {L : List (Addr × List Str)} {cs : List Addr}, Copies H L cs → L.length = cs.length
  | [], [], _ => rfl
  | _ :: L, _ :: cs, h => by
    have := Copies.len h.2
    rw [List.length_cons, List.length_cons, this]
  | [], _ :: _, h => h.elim
  | _ :: _, [], h => h.elim
theorem eq_texts {K : PySem.W.Frag} {H : Hp} : ∀ ws : List Str, Paired (EqV K H 1) (ws.map V.str) (ws.map V.str)
  | [] => .nil
  | z :: ws => .cons (.inl ⟨rfl, rfl⟩) (eq_texts ws)
theorem eq_copies {K : PySem.W.Frag} {H : Hp} : ∀ {L : List (Addr × List Str)} {cs : List Addr}, (∀ p ∈ L, H p.1 = some (.lst (p.2.map V.str))) → Copies H L cs → Paired (EqV K H 2) (L.map fun p => V.ref p.1) (cs.map V.ref)
  | [], [], _, _ => .nil
  | p :: L, c :: cs, hL, h => .cons (.inr (.inr (.inl ⟨p.1, c, _, _, rfl, rfl, lst (hL p List.mem_cons_self), lst h.1, eq_texts p.2⟩))) (eq_copies (fun q hq => hL q (List.mem_cons_of_mem _ hq)) h.2)
  | [], _ :: _, _, h => h.elim
  | _ :: _, [], _, h => h.elim
theorem eq_kept {K : PySem.W.Frag} {H : Hp} {E Kp T D C D2 : Addr} {L : List (Addr × List Str)} {cs : List Addr} {kvs : List (Key × V)} (hE : H E = some (.lst [.ref T, .ref D])) (hK : H Kp = some (.lst [.ref C, .ref D2]))
    (hT : LotAt H T L) (hD : H D = some (.dK kvs)) (hC : H C = some (.lst (cs.map V.ref))) (hcs : Copies H L cs) (hD2 : H D2 = some (.dK kvs)) (W : WtP kvs) : EqR K H (EqV K H 3) (.ref E) (.ref Kp) := by
  refine .inl ⟨E, Kp, _, _, rfl, rfl, lst hE, lst hK, .cons ?_ (.cons ?_ .nil)⟩
  · exact .inr (.inr (.inl ⟨T, C, _, _, rfl, rfl, lst hT.top, lst hC, eq_copies hT.sets hcs⟩))
  · refine .inr (.inr (.inr ⟨D, D2, kvs, kvs, rfl, rfl, hD, hD2, rfl, fun p hp => ⟨p.2, valV_nd W.nd hp, .inl ⟨rfl, ?_⟩⟩⟩))
    obtain ⟨z, n, rfl, _⟩ := W.ok p hp
    rfl
theorem m4 (n : Nat) : ∃ m : Nat, atI [V.int 8, V.int 8, V.int 8, V.int 12] ((n : Int) % 4) = some (.int (m : Int)) ∧ m ≤ 12 := by
  have h : (n : Int) % 4 = 0 ∨ (n : Int) % 4 = 1 ∨ (n : Int) % 4 = 2 ∨ (n : Int) % 4 = 3 := by omega
  rcases h with h | h | h | h <;> rw [h]
  · exact ⟨8, at0 _ _, by decide⟩
  · exact ⟨8, at1 _ _ _, by decide⟩
  · exact ⟨8, at2 _ _ _ _, by decide⟩
  · exact ⟨12, atI_nat (j := 3) rfl, by decide⟩
/-- list(xs) by values -/
abbrev rLstOf (K : PySem.W.Frag) : List V → Hp → VK → Prop := fun xs H Q => ∃ p ys, xs = [V.ref p] ∧ (SqL K H p ys ∨ SqT K H p ys) ∧ ∀ l, H l = none → Q (.ref l) (upd H l (.lst ys))
section
variable {P : Program} {w : World} {K : PySem.W.Frag} {mg : Str → Option Value} {base : Heap}
def spLaw (K : PySem.W.Frag) : Sp := fun vs H Q _ => ∃ (a : Addr) (ns : List Int), vs = [.ref a] ∧ SqL K H a (ns.map V.int) ∧ ns.length ≤ 63 ∧ ∀ H', Q (.bl true) H'
theorem sc_law : FnScope ["_law_script", "_law_pool_here", "_law_pick", "_law_lot_here", "_law_weights_here", "_law_kept", "_law_kind", "_law_shares_here", "_law_number", "_law_words"] ["_law_script"] (defScope s_law) := ⟨rfl, rfl, rfl, by decide +kernel, rfl, by decide +kernel, by decide +kernel⟩
theorem ok_law {f : Addr} {fd : FuncData} (F : FnP K "law" s_law f fd) (cCut : Cal P w K mg base "_law_cut" 1 ["_law_script"] (spCut K)) (cCell : Cal P w K mg base "_law_cell_at" 1 ["_law_script", "_law_k"] (spCellAt K)) (cPool : Cal P w K mg base "_law_pool" 2 ["_law_cell", "_law_many"] spPool)
    (cMix : Cal P w K mg base "_law_mix" 1 ["_law_cell", "_law_k"] spMix) (cLot : Cal P w K mg base "_law_lot" 3 ["_law_script", "_law_first", "_law_pool_here", "_law_most"] (spLotL K)) (cWts : Cal P w K mg base "_law_weights" 2 ["_law_pool_here", "_law_cell"] spWts)
    (cSh : Cal P w K mg base "_law_shares" 6 ["_law_kind", "_law_lot_here", "_law_weights_here"] spSharesL) (cThree : Cal P w K mg base "_law_three_right" 1 ["_law_shares_here", "_law_many"] spThree) (cLeast : Cal P w K mg base "_law_least" 2 ["_law_pick"] spLeastL)
    (cCh : Cal P w K mg base "_law_chains_right" 6 ["_law_kind", "_law_least_here", "_law_lot_here", "_law_weights_here", "_law_shares_here"] (spChains K)) (mD : mg "dict" = none) (mL : mg "len" = none) (mT : mg "list" = none) : FnOk P w K mg base CX0 7 f fd ["_law_script"] (spLaw K) := by
  refine F.ok sc_law (fun vs H Q E h => ?_) (fun cdv A outer s H vs Q E hr h => ?_)
  · obtain ⟨a, ns, rfl, _⟩ := h
    rfl
  · obtain ⟨a, ns, rfl, ha, hn, kq⟩ := h
    have hu := hr.units
    refine ⟨_, PSs.nox (pss_cons (ps_set (i := 0) sc_law.nd rfl (.inl rfl) (pe_cal cCut hr (pa_cons (pv 0) pa_nil)))
      (pss_cons (ps_set (i := 1) sc_law.nd rfl (.inl rfl) (pe_cal cPool hr (pa_cons (pe_cal cCell hr (pa_cons (pv 0) (pa_cons pe_int pa_nil))) (pa_cons pe_int pa_nil))))
      (pss_cons (ps_set (i := 2) sc_law.nd rfl (.inl rfl) (pe_cal cMix hr (pa_cons (pe_cal cCell hr (pa_cons (pv 0) (pa_cons pe_int pa_nil))) (pa_cons pe_int pa_nil))))
      (pss_cons (ps_set (i := 3) sc_law.nd rfl (.inl rfl) (pe_cal cLot hr (pa_cons (pv 0) (pa_cons pe_int (pa_cons (pv 1) (pa_cons (pe_ix ix_list (pe_lst (pa_cons pe_int (pa_cons pe_int (pa_cons pe_int (pa_cons pe_int pa_nil))))) (pe_op op_mod (pv 2) pe_int) (fun _ _ => rfl)) pa_nil))))))
      (pss_cons (ps_set (i := 4) sc_law.nd rfl (.inl rfl) (pe_cal cWts hr (pa_cons (pv 1) (pa_cons (pe_cal cCell hr (pa_cons (pv 0) (pa_cons pe_int pa_nil))) pa_nil))))
      (pss_cons (ps_set (i := 5) sc_law.nd rfl (.inl rfl) (pe_lst (pa_cons
          (pe_lc (own := [("_law_words", 9)]) (g := gName 9) (tt := tYes) rfl sc_law.nd (pi_list (pv 3)) (blkOk_by (N := ["_law_script", "_law_pool_here", "_law_pick", "_law_lot_here", "_law_weights_here", "_law_kept", "_law_kind", "_law_shares_here", "_law_number", "_law_words"]) (sc := defScope s_law) (by decide +kernel))
            (fun _ _ _ _ _ => pg_name (i := 9) sc_law.nd rfl (.inl rfl)) (fun _ _ _ _ _ => pts_nil) (fun _ _ _ _ _ => pe_callTy (r := rLstOf K) call_list_of (by rfl) mT (by decide +kernel) (pa_cons (pv 9) pa_nil)))
          (pa_cons (pe_callTy call_dictD (by rfl) mD (by decide +kernel) (pa_cons (pv 4) pa_nil)) pa_nil))))
      (pss_cons (ps_for PassesOwn.never rfl (pi_list (pe_lst (pa_cons pe_str (pa_cons pe_str pa_nil)))) (pg_name (i := 6) sc_law.nd rfl (.inl rfl))
        (pss_cons (ps_set (i := 7) sc_law.nd rfl (.inl rfl) (pe_cal cSh hr (pa_cons (pv 6) (pa_cons (pv 3) (pa_cons (pv 4) pa_nil)))))
        (pss_cons (ps_if (pt_not (pt_val (pe_cal cThree hr (pa_cons (pv 7) (pa_cons (pe_callB call_len_seq (by rfl) mL (by decide +kernel) (pa_cons (pv 3) pa_nil)) pa_nil))))) pss_never pss_nil)
        (pss_one (ps_for PassesOwn.never rfl (pi_list (pe_lst (pa_cons (pe_op op_fdiv (pv 2) pe_int) (pa_cons (pe_cal cMix hr (pa_cons (pe_cal cCell hr (pa_cons (pv 0) (pa_cons pe_int pa_nil))) (pa_cons pe_int pa_nil))) pa_nil)))) (pg_name (i := 8) sc_law.nd rfl (.inl rfl))
          (pss_one (ps_if (pt_not (pt_val (pe_cal cCh hr (pa_cons (pv 6) (pa_cons (pe_cal cLeast hr (pa_cons (pv 8) pa_nil)) (pa_cons (pv 3) (pa_cons (pv 4) (pa_cons (pv 7) pa_nil)))))))) pss_never pss_nil)))))))
      (pss_one (ps_ret (pe_cmpR (op_eqV hu) (pe_lst (pa_cons (pv 3) (pa_cons (pv 4) pa_nil))) (pv 5) (nomark _))))))))))), ?_⟩
    -- script, pool, pick
    refine ⟨_, rfl, a, ns, rfl, ha, (by omega), fun H1 S ms s1 hS => ?_⟩
    refine ⟨_, rfl, S, ms, 0, rfl, lst hS, fun z => ⟨z, rfl, fun H2 Pl xs s2 hP hxl gx => ?_⟩⟩
    have hS2 := s2 _ _ hS
    refine ⟨_, rfl, S, ms, 8, rfl, lst hS2, fun z => ⟨z, 1, rfl, by decide, fun n hn2 => ?_⟩⟩
    -- lot
    obtain ⟨most, hmost, hm12⟩ := m4 n
    refine ⟨_, rfl, _, rfl, (by show 4 ≤ sizeLine; decide), fun B nB => ⟨_, rfl, _, _, rfl, rfl, (by show (0 : Int) < _; decide), B, _, _, _, rfl, rfl, lst upd_same, hmost, ?_⟩⟩
    have sB := upd_new (o := .lst [.int 8, .int 8, .int 8, .int 12]) nB
    refine ⟨S, Pl, ms, xs, 1, most, rfl, lst (sB _ _ hS2), sB _ _ hP, hxl, gx, hm12, fun H3 T L s3 hT hL12 => ?_⟩
    -- weights
    have hS3 := s3 _ _ (sB _ _ hS2)
    have hP3 := s3 _ _ (sB _ _ hP)
    refine ⟨_, rfl, _, rfl, S, ms, 7, rfl, lst hS3, fun z => ⟨Pl, z, xs, rfl, hP3, hxl, gx, fun H4 D kvs s4 hD W => ?_⟩⟩
    have hS4 := s4 _ _ hS3
    have hT4 := hT.same s4
    have Wk := W.wt
    -- kept
    refine ⟨_, rfl, T, rfl, ⟨_, lst hT4.top⟩, fun C nC => lc_list (K := K) (a := T) (xs := L.map fun p => V.ref p.1) (fun i H' => Same H4 H' ∧ ∃ cs : List Addr, H' C = some (.lst (cs.map V.ref)) ∧ C ∉ cs ∧ Copies H' (L.take i) cs) ⟨upd_new nC, [], upd_same, (by simp), trivial⟩ (fun i H' _ h => lst (h.1 _ _ hT4.top)) ?_ ?_⟩
    · rintro i y H5 hy ⟨s5, cs, hC, hcC, hcs⟩
      obtain ⟨p, hp, hpm, rfl⟩ := lot_get hy
      have hil : i < L.length := (List.getElem?_eq_some_iff.mp hp).1
      have hcl := hcs.len
      rw [List.length_take] at hcl
      refine ⟨rfl, _, rfl, p.1, _, rfl, .inl (lst (s5 _ _ (hT4.sets p hpm))), fun c nc => ?_⟩
      have sc := upd_new (o := .lst (p.2.map V.str)) nc
      have ncC : C ≠ c := ne_of_none hC nc
      refine ⟨_, sc _ _ hC, ?_, fun b o e => ?_, cs ++ [c], ?_, ?_, ?_⟩
      · rw [List.length_map]
        exact small1000 (by omega)
      · rw [upd_ne (ne_of_none e nC)]
        exact sc _ _ (s5 b o e)
      · rw [upd_same, List.map_append]
        rfl
      · intro hm
        rcases List.mem_append.mp hm with hm | hm
        · exact hcC hm
        · exact ncC (List.mem_singleton.mp hm)
      · have e : L.take (i + 1) = L.take i ++ [p] := by
          rw [List.take_add_one, hp]
          rfl
        rw [e]
        refine Copies.keep (H := upd H5 c (.lst (p.2.map V.str))) (fun b hb o eb => ?_) (Copies.more upd_same (hcs.same sc))
        rw [upd_ne (fun q => ?_)]
        · exact eb
        · rw [q] at hb
          rcases List.mem_append.mp hb with hb | hb
          · exact hcC hb
          · exact ncC (List.mem_singleton.mp hb)
    · rintro H5 ⟨s5, cs, hC, hcC, hcs⟩
      rw [List.length_map, List.take_length] at hcs
      have hD5 := s5 _ _ hD
      refine ⟨_, rfl, D, kvs, rfl, .inl hD5, fun D2 nD2 => ⟨by show 2 ≤ sizeLine; decide, fun Kp nK => ?_⟩⟩
      have s6 := (upd_new (o := .dK kvs) nD2).trans (upd_new (o := .lst [.ref C, .ref D2]) nK)
      have hK6 := upd_same (H := upd H5 D2 (.dK kvs)) (a := Kp) (o := .lst [.ref C, .ref D2])
      have hD26 := upd_new (o := .lst [.ref C, .ref D2]) nK _ _ (upd_same (H := H5) (a := D2) (o := .dK kvs))
      have hC6 := s6 _ _ hC
      have hcs6 := hcs.same s6
      have s46 := s5.trans s6
      generalize upd (upd H5 D2 (.dK kvs)) Kp (.lst [.ref C, .ref D2]) = H6 at hK6 hD26 hC6 hcs6 s46
      have hT6 := hT4.same s46
      have hD6 := s46 _ _ hD
      have hS6 := s46 _ _ hS4
      have G : Sets (wtOf kvs) L := ⟨hT.good, Wk.bd⟩
      -- for kind in [..]
      refine ⟨by show 2 ≤ sizeLine; decide, fun KL nKL => ?_⟩
      have sKL := upd_new (o := .lst [.str "both", .str "greater"]) nKL
      have hKL := upd_same (H := H6) (a := KL) (o := .lst [.str "both", .str "greater"])
      generalize upd H6 KL (.lst [.str "both", .str "greater"]) = H7 at sKL hKL
      refine ⟨KL, rfl, ⟨_, lst hKL⟩, for_list (K := K) (a := KL) (xs := [.str "both", .str "greater"]) (fun t σ H' => ∃ v6 v7 v8 : Option V, σ = [some (.ref S), some (.ref Pl), some (.int (n : Int)), some (.ref T), some (.ref D), some (.ref Kp), v6, v7, v8, none] ∧ Same H7 H')
        ⟨none, none, none, rfl, Same.refl _⟩ (fun t σ H' _ ⟨_, _, _, _, s⟩ => lst (s _ _ hKL)) ?_ ?_⟩
      · rintro t x σ H8 hx ⟨v6, v7, v8, rfl, s8⟩
        obtain ⟨k, rfl⟩ : ∃ k : Bool, x = .str (kd k) := by
          match t, hx with
          | 0, hx => exact ⟨true, (Option.some.inj hx).symm⟩
          | 1, hx => exact ⟨false, (Option.some.inj hx).symm⟩
        have s68 := sKL.trans s8
        -- shares
        refine ⟨_, rfl, _, rfl, _, rfl, k, T, D, L, kvs, wtOf kvs, rfl, hT6.same s68, (by omega), s68 _ _ hD6, Wk, fun H9 sd skvs s9 hSh => ?_⟩
        have s69 := s68.trans s9
        -- three right
        refine ⟨_, rfl, _, rfl, T, _, rfl, .inl (lst (s69 _ _ hT6.top)), sd, k, L, skvs, wtOf kvs, (by first | (rw [List.length_map]; done) | (rw [List.length_map]; rfl)), hSh, G, (by omega), fun H10 s10 => ⟨_, rfl, ?_⟩⟩
        refine iteF ?_
        have s610 := s69.trans s10
        -- for number in [..]
        refine ⟨_, rfl, _, _, rfl, rfl, ⟨by decide, by decide⟩, _, rfl, S, ms, 8, rfl, lst (s610 _ _ hS6), fun z => ⟨z, 2, rfl, by decide, fun n2 hn3 => ⟨by show 2 ≤ sizeLine; decide, fun NL nNL => ?_⟩⟩⟩
        have sNL := upd_new (o := .lst [.int ((n : Int) / 4), .int (n2 : Int)]) nNL
        have hNL := upd_same (H := H10) (a := NL) (o := .lst [.int ((n : Int) / 4), .int (n2 : Int)])
        have s611 := s610.trans sNL
        have hSh11 := (hSh.same s10).same sNL
        generalize upd H10 NL (.lst [.int ((n : Int) / 4), .int (n2 : Int)]) = H11 at hNL s611 hSh11 sNL
        have s711 := ((s8.trans s9).trans s10).trans sNL
        refine ⟨NL, rfl, ⟨_, lst hNL⟩, for_list (K := K) (a := NL) (xs := [.int ((n : Int) / 4), .int (n2 : Int)]) (fun t σ H' => ∃ v8 : Option V, σ = [some (.ref S), some (.ref Pl), some (.int (n : Int)), some (.ref T), some (.ref D), some (.ref Kp), some (.str (kd k)), some (.ref sd), v8, none] ∧ Same H11 H')
          ⟨v8, rfl, Same.refl _⟩ (fun t σ H' _ ⟨_, _, s⟩ => lst (s _ _ hNL)) ?_ ?_⟩
        · rintro t y σ H12 hy ⟨v8, rfl, s12⟩
          obtain ⟨m, hm, rfl⟩ : ∃ m : Nat, m < 536870912 ∧ y = .int (m : Int) := by
            match t, hy with
            | 0, hy => exact ⟨n / 4, by omega, by rw [← Option.some.inj hy]; exact congrArg V.int (by omega)⟩
            | 1, hy => exact ⟨n2, hn3, (Option.some.inj hy).symm⟩
          have s612 := s611.trans s12
          refine ⟨_, rfl, _, rfl, m, rfl, hm, fun H13 b tp bt s13 hb t1 t2 t3 tg => ?_⟩
          have s613 := s612.trans s13
          refine ⟨_, rfl, _, rfl, _, rfl, k, b, T, D, sd, tp, bt, L, kvs, wtOf kvs, skvs, rfl, tup hb, t1, t2, t3, tg, hT6.same s613, (by omega), s613 _ _ hD6, Wk, (hSh11.same s12).same s13, fun H14 s14 => ⟨_, rfl, ?_⟩⟩
          exact iteF ⟨_, rfl, (s12.trans s13).trans s14⟩
        · rintro σ H12 ⟨v8, rfl, s12⟩
          exact ⟨_, _, _, rfl, s711.trans s12⟩
      · rintro σ H8 ⟨v6, v7, v8, rfl, s8⟩
        have s68 := sKL.trans s8
        refine ⟨_, rfl, _, rfl, (by show 2 ≤ sizeLine; decide), fun E nE => ⟨_, rfl, 3, by decide, ?_, kq _⟩⟩
        have sE := s68.trans (upd_new (o := .lst [.ref T, .ref D]) nE)
        exact eq_kept upd_same (sE _ _ hK6) (hT6.same sE) (sE _ _ hD6) (sE _ _ hC6) (hcs6.same sE) (sE _ _ hD26) W
end
end Muc
namespace Muc
open PySem PySem.Spec PyProof.Rows L2
/-! ### what the top leaves -/
def d_mates_by : He.DefD := ⟨("mates_by", none), "mates_by", "mates_by", defArgs s_mates_by, defBody s_mates_by, defScope s_mates_by, [], []⟩
def d_led_from : He.DefD := ⟨("led_from", none), "led_from", "led_from", defArgs s_led_from, defBody s_led_from, defScope s_led_from, [], []⟩
def d_groups : He.DefD := ⟨("groups", none), "groups", "groups", defArgs s_groups, defBody s_groups, defScope s_groups, [], []⟩
def d_chain : He.DefD := ⟨("chain", none), "chain", "chain", defArgs s_chain, defBody s_chain, defScope s_chain, [], []⟩
def d_divisor : He.DefD := ⟨("divisor", none), "divisor", "divisor", defArgs s_divisor, defBody s_divisor, defScope s_divisor, [], []⟩
def d_fraction : He.DefD := ⟨("fraction", none), "fraction", "fraction", defArgs s_fraction, defBody s_fraction, defScope s_fraction, [], []⟩
def d_is_less : He.DefD := ⟨("is_less", none), "is_less", "is_less", defArgs s_is_less, defBody s_is_less, defScope s_is_less, [], []⟩
def d_check_kind : He.DefD := ⟨("check_kind", none), "check_kind", "check_kind", defArgs s_check_kind, defBody s_check_kind, defScope s_check_kind, [], []⟩
def d_check_least : He.DefD := ⟨("check_least", none), "check_least", "check_least", defArgs s_check_least, defBody s_check_least, defScope s_check_least, [], []⟩
def d_share_of : He.DefD := ⟨("share_of", none), "share_of", "share_of", defArgs s_share_of, defBody s_share_of, defScope s_share_of, [], []⟩
def d_is_word : He.DefD := ⟨("is_word", none), "is_word", "is_word", defArgs s_is_word, defBody s_is_word, defScope s_is_word, [], []⟩
def d_check_sets : He.DefD := ⟨("check_sets", none), "check_sets", "check_sets", defArgs s_check_sets, defBody s_check_sets, defScope s_check_sets, [], []⟩
def d_check_weights : He.DefD := ⟨("check_weights", none), "check_weights", "check_weights", defArgs s_check_weights, defBody s_check_weights, defScope s_check_weights, [], []⟩
def d_check_lot : He.DefD := ⟨("check_lot", none), "check_lot", "check_lot", defArgs s_check_lot, defBody s_check_lot, defScope s_check_lot, [], []⟩
def d_weight : He.DefD := ⟨("weight", none), "weight", "weight", defArgs s_weight, defBody s_weight, defScope s_weight, [], []⟩
def d_common : He.DefD := ⟨("common", none), "common", "common", defArgs s_common, defBody s_common, defScope s_common, [], []⟩
def d_share_between : He.DefD := ⟨("share_between", none), "share_between", "share_between", defArgs s_share_between, defBody s_share_between, defScope s_share_between, [], []⟩
def d_plain_pairs : He.DefD := ⟨("plain_pairs", none), "plain_pairs", "plain_pairs", defArgs s_plain_pairs, defBody s_plain_pairs, defScope s_plain_pairs, [], []⟩
def d__law_cell_at : He.DefD := ⟨("_law_cell_at", none), "_law_cell_at", "_law_cell_at", defArgs s__law_cell_at, defBody s__law_cell_at, defScope s__law_cell_at, [], []⟩
def d__law_mix : He.DefD := ⟨("_law_mix", none), "_law_mix", "_law_mix", defArgs s__law_mix, defBody s__law_mix, defScope s__law_mix, [], []⟩
def d__law_digit : He.DefD := ⟨("_law_digit", none), "_law_digit", "_law_digit", defArgs s__law_digit, defBody s__law_digit, defScope s__law_digit, [], []⟩
def d__law_pool : He.DefD := ⟨("_law_pool", none), "_law_pool", "_law_pool", defArgs s__law_pool, defBody s__law_pool, defScope s__law_pool, [], []⟩
def d__law_set : He.DefD := ⟨("_law_set", none), "_law_set", "_law_set", defArgs s__law_set, defBody s__law_set, defScope s__law_set, [], []⟩
def d__law_lot : He.DefD := ⟨("_law_lot", none), "_law_lot", "_law_lot", defArgs s__law_lot, defBody s__law_lot, defScope s__law_lot, [], []⟩
def d__law_weights : He.DefD := ⟨("_law_weights", none), "_law_weights", "_law_weights", defArgs s__law_weights, defBody s__law_weights, defScope s__law_weights, [], []⟩
def d__law_divisor : He.DefD := ⟨("_law_divisor", none), "_law_divisor", "_law_divisor", defArgs s__law_divisor, defBody s__law_divisor, defScope s__law_divisor, [], []⟩
def d__law_least : He.DefD := ⟨("_law_least", none), "_law_least", "_law_least", defArgs s__law_least, defBody s__law_least, defScope s__law_least, [], []⟩
def d__law_lacking : He.DefD := ⟨("_law_lacking", none), "_law_lacking", "_law_lacking", defArgs s__law_lacking, defBody s__law_lacking, defScope s__law_lacking, [], []⟩
def d__law_shares : He.DefD := ⟨("_law_shares", none), "_law_shares", "_law_shares", defArgs s__law_shares, defBody s__law_shares, defScope s__law_shares, [], []⟩
def d__law_three_right : He.DefD := ⟨("_law_three_right", none), "_law_three_right", "_law_three_right", defArgs s__law_three_right, defBody s__law_three_right, defScope s__law_three_right, [], []⟩
def d__law_chains_right : He.DefD := ⟨("_law_chains_right", none), "_law_chains_right", "_law_chains_right", defArgs s__law_chains_right, defBody s__law_chains_right, defScope s__law_chains_right, [], []⟩
def d__law_cut : He.DefD := ⟨("_law_cut", none), "_law_cut", "_law_cut", defArgs s__law_cut, defBody s__law_cut, defScope s__law_cut, [], []⟩
def d_law : He.DefD := ⟨("law", none), "law", "law", defArgs s_law, defBody s_law, defScope s_law, [], []⟩
def fnA : List He.DefD := [d_mates_by, d_led_from, d_groups, d_chain, d_divisor, d_fraction, d_is_less, d_check_kind, d_check_least, d_share_of, d_is_word, d_check_sets, d_check_weights, d_check_lot, d_weight, d_common, d_share_between, d_plain_pairs, d__law_cell_at, d__law_mix, d__law_digit, d__law_pool, d__law_set, d__law_lot, d__law_weights, d__law_divisor, d__law_least, d__law_lacking, d__law_shares, d__law_three_right, d__law_chains_right, d__law_cut, d_law]
def faA : List He.Fa := [.glo "mates_by", .glo "led_from", .glo "groups", .glo "chain", .glo "divisor", .glo "fraction", .glo "is_less", .glo "check_kind", .glo "check_least", .glo "share_of", .glo "is_word", .glo "check_sets", .glo "check_weights", .glo "check_lot", .glo "weight", .glo "common", .glo "share_between", .glo "plain_pairs", .glo "_law_cell_at", .glo "_law_mix", .glo "_law_digit", .glo "_law_pool", .glo "_law_set", .glo "_law_lot", .glo "_law_weights", .glo "_law_divisor", .glo "_law_least", .glo "_law_lacking", .glo "_law_shares", .glo "_law_three_right", .glo "_law_chains_right", .glo "_law_cut", .glo "law", .free "sorted", .free "range", .free "len", .free "list", .free "enumerate", .free "isinstance", .free "int", .free "dict", .free "all", .free "set", .free "sum", .free "max", .glo "KINDS", .str "SIGNS" "abcdefghijklmnopqrstuvwxyz0123456789."]
def exA (K : PySem.W.Frag) : Bool := He.lstB K "KINDS" [.str "both", .str "mean", .str "greater", .str "lesser", .str "square"]
def looseA : List Str := (["mates_by", "led_from", "groups", "chain", "divisor", "fraction", "is_less", "check_kind", "check_least", "share_of", "is_word", "check_sets", "check_weights", "check_lot", "weight", "common", "share_between", "plain_pairs", "_law_cell_at", "_law_mix", "_law_digit", "_law_pool", "_law_set", "_law_lot", "_law_weights"] : List Str) ++ (["_law_divisor", "_law_least", "_law_lacking", "_law_shares", "_law_three_right", "_law_chains_right", "_law_cut", "LikeError", "NoKind", "NoShare", "NoSet", "NoWeight", "KINDS", "SIGNS"] : List Str)
abbrev rowA : PySem.W.OpenRow := PySem.W.OpenLaw.row PySem.Challenge.rw_muchalike_k93_whole_shares_along_chains
abbrev hkA : PySem.W.Hook := He.hookX 4 faA fnA [] [] exA
def obA (s : PySem.W.SharedT) : He.AlX := He.obsX 4 faA fnA [] [] exA (HandSHeadRun.getT s)
theorem obA_eq (s : PySem.W.SharedT) : obA s = hkA.obs s.abs := He.obsX_eq (HandSHeadRun.getT_eq s)
theorem runA (w : World) : HandSHeadRun.RunEq rowA (PySem.W.view rowA.prog [44]) hkA obA 6000 looseA w := by
  intro os
  kernel_rfl
section
variable {P : Program} {w : World} {K : PySem.W.Frag} {h : Heap} {mg : Str → Option Value}
abbrev SaysA (w : World) (h : Heap) (K : PySem.W.Frag) : Prop := He.SaysX faA fnA [] [] exA w h K
theorem std_mates_by (X : K.In h) (G : h.Ns mainGlobals mg) (c : SaysA w h K) : Std K mg "mates_by" s_mates_by := by
  obtain ⟨fd, F⟩ := c.t.d.def_ 0 (d := d_mates_by) rfl
  exact ⟨_, fd, F, He.glo_ok X G (c.t.d.fact 0 (f := .glo "mates_by") rfl)⟩
theorem std_led_from (X : K.In h) (G : h.Ns mainGlobals mg) (c : SaysA w h K) : Std K mg "led_from" s_led_from := by
  obtain ⟨fd, F⟩ := c.t.d.def_ 1 (d := d_led_from) rfl
  exact ⟨_, fd, F, He.glo_ok X G (c.t.d.fact 1 (f := .glo "led_from") rfl)⟩
theorem std_groups (X : K.In h) (G : h.Ns mainGlobals mg) (c : SaysA w h K) : Std K mg "groups" s_groups := by
  obtain ⟨fd, F⟩ := c.t.d.def_ 2 (d := d_groups) rfl
  exact ⟨_, fd, F, He.glo_ok X G (c.t.d.fact 2 (f := .glo "groups") rfl)⟩
theorem std_chain (X : K.In h) (G : h.Ns mainGlobals mg) (c : SaysA w h K) : Std K mg "chain" s_chain := by
  obtain ⟨fd, F⟩ := c.t.d.def_ 3 (d := d_chain) rfl
  exact ⟨_, fd, F, He.glo_ok X G (c.t.d.fact 3 (f := .glo "chain") rfl)⟩
theorem std_divisor (X : K.In h) (G : h.Ns mainGlobals mg) (c : SaysA w h K) : Std K mg "divisor" s_divisor := by
  obtain ⟨fd, F⟩ := c.t.d.def_ 4 (d := d_divisor) rfl
  exact ⟨_, fd, F, He.glo_ok X G (c.t.d.fact 4 (f := .glo "divisor") rfl)⟩
theorem std_fraction (X : K.In h) (G : h.Ns mainGlobals mg) (c : SaysA w h K) : Std K mg "fraction" s_fraction := by
  obtain ⟨fd, F⟩ := c.t.d.def_ 5 (d := d_fraction) rfl
  exact ⟨_, fd, F, He.glo_ok X G (c.t.d.fact 5 (f := .glo "fraction") rfl)⟩
theorem std_is_less (X : K.In h) (G : h.Ns mainGlobals mg) (c : SaysA w h K) : Std K mg "is_less" s_is_less := by
  obtain ⟨fd, F⟩ := c.t.d.def_ 6 (d := d_is_less) rfl
  exact ⟨_, fd, F, He.glo_ok X G (c.t.d.fact 6 (f := .glo "is_less") rfl)⟩
theorem std_check_kind (X : K.In h) (G : h.Ns mainGlobals mg) (c : SaysA w h K) : Std K mg "check_kind" s_check_kind := by
  obtain ⟨fd, F⟩ := c.t.d.def_ 7 (d := d_check_kind) rfl
  exact ⟨_, fd, F, He.glo_ok X G (c.t.d.fact 7 (f := .glo "check_kind") rfl)⟩
theorem std_check_least (X : K.In h) (G : h.Ns mainGlobals mg) (c : SaysA w h K) : Std K mg "check_least" s_check_least := by
  obtain ⟨fd, F⟩ := c.t.d.def_ 8 (d := d_check_least) rfl
  exact ⟨_, fd, F, He.glo_ok X G (c.t.d.fact 8 (f := .glo "check_least") rfl)⟩
theorem std_share_of (X : K.In h) (G : h.Ns mainGlobals mg) (c : SaysA w h K) : Std K mg "share_of" s_share_of := by
  obtain ⟨fd, F⟩ := c.t.d.def_ 9 (d := d_share_of) rfl
  exact ⟨_, fd, F, He.glo_ok X G (c.t.d.fact 9 (f := .glo "share_of") rfl)⟩
theorem std_is_word (X : K.In h) (G : h.Ns mainGlobals mg) (c : SaysA w h K) : Std K mg "is_word" s_is_word := by
  obtain ⟨fd, F⟩ := c.t.d.def_ 10 (d := d_is_word) rfl
  exact ⟨_, fd, F, He.glo_ok X G (c.t.d.fact 10 (f := .glo "is_word") rfl)⟩
theorem std_check_sets (X : K.In h) (G : h.Ns mainGlobals mg) (c : SaysA w h K) : Std K mg "check_sets" s_check_sets := by
  obtain ⟨fd, F⟩ := c.t.d.def_ 11 (d := d_check_sets) rfl
  exact ⟨_, fd, F, He.glo_ok X G (c.t.d.fact 11 (f := .glo "check_sets") rfl)⟩
theorem std_check_weights (X : K.In h) (G : h.Ns mainGlobals mg) (c : SaysA w h K) : Std K mg "check_weights" s_check_weights := by
  obtain ⟨fd, F⟩ := c.t.d.def_ 12 (d := d_check_weights) rfl
  exact ⟨_, fd, F, He.glo_ok X G (c.t.d.fact 12 (f := .glo "check_weights") rfl)⟩
theorem std_check_lot (X : K.In h) (G : h.Ns mainGlobals mg) (c : SaysA w h K) : Std K mg "check_lot" s_check_lot := by
  obtain ⟨fd, F⟩ := c.t.d.def_ 13 (d := d_check_lot) rfl
  exact ⟨_, fd, F, He.glo_ok X G (c.t.d.fact 13 (f := .glo "check_lot") rfl)⟩
theorem std_weight (X : K.In h) (G : h.Ns mainGlobals mg) (c : SaysA w h K) : Std K mg "weight" s_weight := by
  obtain ⟨fd, F⟩ := c.t.d.def_ 14 (d := d_weight) rfl
  exact ⟨_, fd, F, He.glo_ok X G (c.t.d.fact 14 (f := .glo "weight") rfl)⟩
theorem std_common (X : K.In h) (G : h.Ns mainGlobals mg) (c : SaysA w h K) : Std K mg "common" s_common := by
  obtain ⟨fd, F⟩ := c.t.d.def_ 15 (d := d_common) rfl
  exact ⟨_, fd, F, He.glo_ok X G (c.t.d.fact 15 (f := .glo "common") rfl)⟩
theorem std_share_between (X : K.In h) (G : h.Ns mainGlobals mg) (c : SaysA w h K) : Std K mg "share_between" s_share_between := by
  obtain ⟨fd, F⟩ := c.t.d.def_ 16 (d := d_share_between) rfl
  exact ⟨_, fd, F, He.glo_ok X G (c.t.d.fact 16 (f := .glo "share_between") rfl)⟩
theorem std_plain_pairs (X : K.In h) (G : h.Ns mainGlobals mg) (c : SaysA w h K) : Std K mg "plain_pairs" s_plain_pairs := by
  obtain ⟨fd, F⟩ := c.t.d.def_ 17 (d := d_plain_pairs) rfl
  exact ⟨_, fd, F, He.glo_ok X G (c.t.d.fact 17 (f := .glo "plain_pairs") rfl)⟩
theorem std__law_cell_at (X : K.In h) (G : h.Ns mainGlobals mg) (c : SaysA w h K) : Std K mg "_law_cell_at" s__law_cell_at := by
  obtain ⟨fd, F⟩ := c.t.d.def_ 18 (d := d__law_cell_at) rfl
  exact ⟨_, fd, F, He.glo_ok X G (c.t.d.fact 18 (f := .glo "_law_cell_at") rfl)⟩
theorem std__law_mix (X : K.In h) (G : h.Ns mainGlobals mg) (c : SaysA w h K) : Std K mg "_law_mix" s__law_mix := by
  obtain ⟨fd, F⟩ := c.t.d.def_ 19 (d := d__law_mix) rfl
  exact ⟨_, fd, F, He.glo_ok X G (c.t.d.fact 19 (f := .glo "_law_mix") rfl)⟩
theorem std__law_digit (X : K.In h) (G : h.Ns mainGlobals mg) (c : SaysA w h K) : Std K mg "_law_digit" s__law_digit := by
  obtain ⟨fd, F⟩ := c.t.d.def_ 20 (d := d__law_digit) rfl
  exact ⟨_, fd, F, He.glo_ok X G (c.t.d.fact 20 (f := .glo "_law_digit") rfl)⟩
theorem std__law_pool (X : K.In h) (G : h.Ns mainGlobals mg) (c : SaysA w h K) : Std K mg "_law_pool" s__law_pool := by
  obtain ⟨fd, F⟩ := c.t.d.def_ 21 (d := d__law_pool) rfl
  exact ⟨_, fd, F, He.glo_ok X G (c.t.d.fact 21 (f := .glo "_law_pool") rfl)⟩
theorem std__law_set (X : K.In h) (G : h.Ns mainGlobals mg) (c : SaysA w h K) : Std K mg "_law_set" s__law_set := by
  obtain ⟨fd, F⟩ := c.t.d.def_ 22 (d := d__law_set) rfl
  exact ⟨_, fd, F, He.glo_ok X G (c.t.d.fact 22 (f := .glo "_law_set") rfl)⟩
theorem std__law_lot (X : K.In h) (G : h.Ns mainGlobals mg) (c : SaysA w h K) : Std K mg "_law_lot" s__law_lot := by
  obtain ⟨fd, F⟩ := c.t.d.def_ 23 (d := d__law_lot) rfl
  exact ⟨_, fd, F, He.glo_ok X G (c.t.d.fact 23 (f := .glo "_law_lot") rfl)⟩
theorem std__law_weights (X : K.In h) (G : h.Ns mainGlobals mg) (c : SaysA w h K) : Std K mg "_law_weights" s__law_weights := by
  obtain ⟨fd, F⟩ := c.t.d.def_ 24 (d := d__law_weights) rfl
  exact ⟨_, fd, F, He.glo_ok X G (c.t.d.fact 24 (f := .glo "_law_weights") rfl)⟩
theorem std__law_divisor (X : K.In h) (G : h.Ns mainGlobals mg) (c : SaysA w h K) : Std K mg "_law_divisor" s__law_divisor := by
  obtain ⟨fd, F⟩ := c.t.d.def_ 25 (d := d__law_divisor) rfl
  exact ⟨_, fd, F, He.glo_ok X G (c.t.d.fact 25 (f := .glo "_law_divisor") rfl)⟩
theorem std__law_least (X : K.In h) (G : h.Ns mainGlobals mg) (c : SaysA w h K) : Std K mg "_law_least" s__law_least := by
  obtain ⟨fd, F⟩ := c.t.d.def_ 26 (d := d__law_least) rfl
  exact ⟨_, fd, F, He.glo_ok X G (c.t.d.fact 26 (f := .glo "_law_least") rfl)⟩
theorem std__law_lacking (X : K.In h) (G : h.Ns mainGlobals mg) (c : SaysA w h K) : Std K mg "_law_lacking" s__law_lacking := by
  obtain ⟨fd, F⟩ := c.t.d.def_ 27 (d := d__law_lacking) rfl
  exact ⟨_, fd, F, He.glo_ok X G (c.t.d.fact 27 (f := .glo "_law_lacking") rfl)⟩
theorem std__law_shares (X : K.In h) (G : h.Ns mainGlobals mg) (c : SaysA w h K) : Std K mg "_law_shares" s__law_shares := by
  obtain ⟨fd, F⟩ := c.t.d.def_ 28 (d := d__law_shares) rfl
  exact ⟨_, fd, F, He.glo_ok X G (c.t.d.fact 28 (f := .glo "_law_shares") rfl)⟩
theorem std__law_three_right (X : K.In h) (G : h.Ns mainGlobals mg) (c : SaysA w h K) : Std K mg "_law_three_right" s__law_three_right := by
  obtain ⟨fd, F⟩ := c.t.d.def_ 29 (d := d__law_three_right) rfl
  exact ⟨_, fd, F, He.glo_ok X G (c.t.d.fact 29 (f := .glo "_law_three_right") rfl)⟩
theorem std__law_chains_right (X : K.In h) (G : h.Ns mainGlobals mg) (c : SaysA w h K) : Std K mg "_law_chains_right" s__law_chains_right := by
  obtain ⟨fd, F⟩ := c.t.d.def_ 30 (d := d__law_chains_right) rfl
  exact ⟨_, fd, F, He.glo_ok X G (c.t.d.fact 30 (f := .glo "_law_chains_right") rfl)⟩
theorem std__law_cut (X : K.In h) (G : h.Ns mainGlobals mg) (c : SaysA w h K) : Std K mg "_law_cut" s__law_cut := by
  obtain ⟨fd, F⟩ := c.t.d.def_ 31 (d := d__law_cut) rfl
  exact ⟨_, fd, F, He.glo_ok X G (c.t.d.fact 31 (f := .glo "_law_cut") rfl)⟩
theorem std_law (X : K.In h) (G : h.Ns mainGlobals mg) (c : SaysA w h K) : Std K mg "law" s_law := by
  obtain ⟨fd, F⟩ := c.t.d.def_ 32 (d := d_law) rfl
  exact ⟨_, fd, F, He.glo_ok X G (c.t.d.fact 32 (f := .glo "law") rfl)⟩
theorem free_sorted (X : K.In h) (G : h.Ns mainGlobals mg) (c : SaysA w h K) : mg "sorted" = none := He.free_ok X G (c.t.d.fact 33 (f := .free "sorted") rfl)
theorem free_range (X : K.In h) (G : h.Ns mainGlobals mg) (c : SaysA w h K) : mg "range" = none := He.free_ok X G (c.t.d.fact 34 (f := .free "range") rfl)
theorem free_len (X : K.In h) (G : h.Ns mainGlobals mg) (c : SaysA w h K) : mg "len" = none := He.free_ok X G (c.t.d.fact 35 (f := .free "len") rfl)
theorem free_list (X : K.In h) (G : h.Ns mainGlobals mg) (c : SaysA w h K) : mg "list" = none := He.free_ok X G (c.t.d.fact 36 (f := .free "list") rfl)
theorem free_enumerate (X : K.In h) (G : h.Ns mainGlobals mg) (c : SaysA w h K) : mg "enumerate" = none := He.free_ok X G (c.t.d.fact 37 (f := .free "enumerate") rfl)
theorem free_isinstance (X : K.In h) (G : h.Ns mainGlobals mg) (c : SaysA w h K) : mg "isinstance" = none := He.free_ok X G (c.t.d.fact 38 (f := .free "isinstance") rfl)
theorem free_int (X : K.In h) (G : h.Ns mainGlobals mg) (c : SaysA w h K) : mg "int" = none := He.free_ok X G (c.t.d.fact 39 (f := .free "int") rfl)
theorem free_dict (X : K.In h) (G : h.Ns mainGlobals mg) (c : SaysA w h K) : mg "dict" = none := He.free_ok X G (c.t.d.fact 40 (f := .free "dict") rfl)
theorem free_all (X : K.In h) (G : h.Ns mainGlobals mg) (c : SaysA w h K) : mg "all" = none := He.free_ok X G (c.t.d.fact 41 (f := .free "all") rfl)
theorem free_set (X : K.In h) (G : h.Ns mainGlobals mg) (c : SaysA w h K) : mg "set" = none := He.free_ok X G (c.t.d.fact 42 (f := .free "set") rfl)
theorem free_sum (X : K.In h) (G : h.Ns mainGlobals mg) (c : SaysA w h K) : mg "sum" = none := He.free_ok X G (c.t.d.fact 43 (f := .free "sum") rfl)
theorem free_max (X : K.In h) (G : h.Ns mainGlobals mg) (c : SaysA w h K) : mg "max" = none := He.free_ok X G (c.t.d.fact 44 (f := .free "max") rfl)
theorem kd_A (X : K.In h) (G : h.Ns mainGlobals mg) (c : SaysA w h K) : KdAt K mg := ⟨_, He.glo_ok X G (c.t.d.fact 45 (f := .glo "KINDS") rfl), fun H => He.lstB_ok c.more H⟩
theorem sg_A (X : K.In h) (G : h.Ns mainGlobals mg) (c : SaysA w h K) : SgAt mg := ⟨He.str_ok X G (c.t.d.fact 46 (f := .str "SIGNS" "abcdefghijklmnopqrstuvwxyz0123456789.") rfl)⟩
theorem law_ok {f : Addr} (X : K.In h) (G : h.Ns mainGlobals mg) (hfa : mg ("law" : Str) = some (.ref f)) (c : SaysA w h K) :
    ∃ fd : FuncData, (∀ (s : Shared) (v : Value), BindsTo s fd ⟨[v], []⟩ [("_law_script", v)]) ∧ ∀ base : Heap, K.In base → base.Ns mainGlobals mg → FnOk P w K mg base CX0 7 f fd ["_law_script"] (spLaw K) := by
  obtain ⟨fd, F⟩ := c.t.d.def_ 32 (d := d_law) rfl
  have e := hfa.symm.trans (He.glo_ok X G (c.t.d.fact 32 (f := .glo "law") rfl))
  cases e
  have b := FunD.bindsA (ps := ["_law_script"]) F fun _ _ _ _ _ _ us hl => match us, hl with | [_], _ => rfl
  refine ⟨fd, fun s v => b s [v] rfl, fun base _ _ => ?_⟩
  have c_divisor := ok_divisor (P := P) (w := w) (base := base) (std_divisor X G c) 
  have c_fraction := ok_fraction (P := P) (w := w) (base := base) (std_fraction X G c) c_divisor
  have c_is_less := ok_is_less (P := P) (w := w) (base := base) (std_is_less X G c) 
  have c_check_kind := ok_check_kind (P := P) (w := w) (base := base) (std_check_kind X G c) (kd_A X G c)
  have c_check_least := ok_check_least (P := P) (w := w) (base := base) (std_check_least X G c) c_check_kind c_divisor
  have c_share_of := ok_share_of (P := P) (w := w) (base := base) (std_share_of X G c) c_check_kind c_fraction (free_max X G c)
  have c_is_word := ok_is_word (P := P) (w := w) (base := base) (std_is_word X G c) (sg_A X G c) (free_all X G c) (free_len X G c)
  have c_check_sets := ok_check_sets (P := P) (w := w) (base := base) (std_check_sets X G c) c_is_word (free_all X G c) (free_len X G c) (free_set X G c)
  have c_check_weights := ok_check_weights (P := P) (w := w) (base := base) (std_check_weights X G c) c_is_word
  have c_check_lot := ok_check_lot (P := P) (w := w) (base := base) (std_check_lot X G c) c_check_sets c_check_weights
  have c_weight := ok_weight (P := P) (w := w) (base := base) (std_weight X G c) (free_sum X G c)
  have c_common := ok_common (P := P) (w := w) (base := base) (std_common X G c) c_weight (free_sorted X G c)
  have c_share_between := ok_share_between (P := P) (w := w) (base := base) (std_share_between X G c) c_share_of c_weight c_common
  have c_plain_pairs := ok_plain_pairs (P := P) (w := w) (base := base) (std_plain_pairs X G c) c_check_least c_check_lot c_share_between c_is_less (free_enumerate X G c) (free_range X G c) (free_len X G c)
  have c_mates_by := ok_mates_by (P := P) (w := w) (base := base) (std_mates_by X G c) 
  have c_led_from := ok_led_from (P := P) (w := w) (base := base) (std_led_from X G c) (free_len X G c)
  have c_groups := ok_groups (P := P) (w := w) (base := base) (std_groups X G c) c_mates_by c_led_from (free_range X G c) (free_sorted X G c)
  have c_chain := ok_chain (P := P) (w := w) (base := base) (std_chain X G c) c_mates_by c_led_from
  have c__law_cell_at := ok__law_cell_at (P := P) (w := w) (base := base) (std__law_cell_at X G c) (free_len X G c)
  have c__law_mix := ok__law_mix (P := P) (w := w) (base := base) (std__law_mix X G c) (free_range X G c)
  have c__law_digit := ok__law_digit (P := P) (w := w) (base := base) (std__law_digit X G c) (free_range X G c)
  have c__law_divisor := ok__law_divisor (P := P) (w := w) (base := base) (std__law_divisor X G c) 
  have c__law_least := ok__law_least (P := P) (w := w) (base := base) (std__law_least X G c) c__law_divisor
  have c__law_lacking := ok__law_lacking (P := P) (w := w) (base := base) (std__law_lacking X G c) 
  have c__law_cut := ok__law_cut (P := P) (w := w) (base := base) (std__law_cut X G c) (free_int X G c)
  have c__law_pool := ok__law_pool (P := P) (w := w) (base := base) (std__law_pool X G c) c__law_mix (free_range X G c)
  have c__law_set := ok__law_set (P := P) (w := w) (base := base) (std__law_set X G c) c__law_digit (free_enumerate X G c) (free_len X G c) (free_list X G c)
  have c__law_lot := ok__law_lot (P := P) (w := w) (base := base) (std__law_lot X G c) c__law_cell_at c__law_mix c__law_set (free_range X G c)
  have c__law_weights := ok__law_weights (P := P) (w := w) (base := base) (std__law_weights X G c) c__law_mix (free_enumerate X G c)
  have c__law_shares := ok__law_shares (P := P) (w := w) (base := base) (std__law_shares X G c) c_plain_pairs
  have c__law_three_right := ok__law_three_right (P := P) (w := w) (base := base) (std__law_three_right X G c) (free_range X G c)
  have c__law_chains_right := ok__law_chains_right (P := P) (w := w) (base := base) (std__law_chains_right X G c) c_plain_pairs c_groups c_chain c__law_lacking (free_len X G c) (free_isinstance X G c) (free_list X G c)
  exact ok_law F c__law_cut c__law_cell_at c__law_pool c__law_mix c__law_lot c__law_weights c__law_shares c__law_three_right c__law_least c__law_chains_right (free_dict X G c) (free_len X G c) (free_list X G c)
end
end Muc
open PySem PySem.W PySem.Calls PyProof.Rows
set_option maxRecDepth 100000 in
set_option maxHeartbeats 0 in
theorem PySem.Challenge.cw_muchalike_k93_whole_shares_along_chains_holds : PySem.Challenge.rw_muchalike_k93_whole_shares_along_chains.Holds := by
  w_on; o_law
  refine HandSHeadRun.head_any (r := Muc.rowA) (q := view Muc.rowA.prog [44]) (H := Muc.hkA) (ob := Muc.obA) (M := 6000) (loose := Muc.looseA) (d := HandSHeadRun.topDef Muc.rowA.prog 44) (kwd := []) Muc.obA_eq
    (by kernel_rfl) (fun s => by kernel_rfl) Muc.runA (by kernel_rfl) (by kernel_rfl) (by kernel_rfl) (by rfl) (by first | assumption | decide +kernel) (by decide +kernel) ⟨rfl, rfl, rfl, rfl, rfl, by decide +kernel⟩ ?hw ?hc
  case hw => w_witness2
  case hc =>
    refine L2.walk_ofE (l := PySem.Challenge.rw_muchalike_k93_whole_shares_along_chains) (n := 63) (k := 7) (x := "_law_script") (CX := L2.CX0) rfl (by decide) (by kernel_rfl) ⟨rfl, by decide, by decide⟩ ?F (fun _ _ _ _ z => z)
    intro w mg fa h Y G hmg0
    obtain ⟨K, KX, c⟩ := Y
    have hmg : mg ("law" : PySem.Str) = some (.ref fa) := by
      have e : (HandSHeadRun.topDef Muc.rowA.prog 44).name = ("law" : PySem.Str) := by kernel_rfl
      rw [← e]
      exact hmg0
    obtain ⟨fd, hb, hF⟩ := Muc.law_ok (P := (PySem.Challenge.rw_muchalike_k93_whole_shares_along_chains).prog) (w := w) KX G hmg c
    exact ⟨K, fd, Muc.spLaw K, KX, hb, fun H a ns hl _ hS => ⟨a, ns, rfl, hS, hl, fun _ => rfl⟩, hF⟩
