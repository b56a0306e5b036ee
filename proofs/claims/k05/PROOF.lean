import PyProof.Rows.All
import Wide.All
import OpenK.AllK
import Wide.FinOn
import HandS.ForMost
import HandS.Wide
import HandS.WideBits
import HandS.Codes
import HandS.IsInst
import HandS.Style
import HandS.TupLe
import HandS.Flow
import KE.DataMinMax
import HandS.SetFor
import PyProof.EqKinds
import HandS.HeadHook1
import HandS.Iter
import HandS.Zip
import HandS.HotCalls
import HandS.ExcIs
import HandS.ExcCtx
import HandS.WordsExc
import HandS.CallLocal
import HandS.Defaults
import HandS.Head0
import HandS.Head1
import HandS.Head2
import HandS.HeadEnd
import HandS.HeadHook2
import HandS.HeadWalk
import PySem.Challenge.RW_oneapart_k05_refused
set_option Elab.async false
set_option linter.all false
/-! The mathematics of roots and their chains, no program in sight. -/
namespace OA

theorem sqnn (a : Int) : 0 ≤ a * a := by
  rcases Int.le_total 0 a with h | h
  · exact Int.mul_nonneg h h
  · have := Int.mul_nonneg (show 0 ≤ -a by omega) (show 0 ≤ -a by omega)
    grind
theorem sqle {a b : Int} (h0 : 0 ≤ a) (h : a ≤ b) : a * a ≤ b * b := Int.mul_le_mul h h h0 (by omega)
theorem sqlt {a b : Int} (h0 : 0 ≤ a) (h : a < b) : a * a < b * b := by
  have h1 : a * a ≤ a * b := Int.mul_le_mul_of_nonneg_left (by omega) h0
  have h2 : a * b < b * b := Int.mul_lt_mul_of_pos_right h (by omega)
  omega
theorem le_of_sq {a b : Int} (hb : 0 ≤ b) (h : a * a ≤ b * b) : a ≤ b := by
  rcases Int.lt_or_le b a with q | q
  · have := sqlt hb q
    omega
  · exact q

/-! ### roots -/
def isqF : Nat → Nat → Nat
  | 0, _ => 0
  | f + 1, n => if n = 0 then 0 else if (2 * isqF f (n / 4) + 1) * (2 * isqF f (n / 4) + 1) ≤ n then 2 * isqF f (n / 4) + 1 else 2 * isqF f (n / 4)
def isqN (n : Nat) : Nat := isqF (n.log2 + 1) n
def isq (n : Int) : Int := (isqN n.toNat : Nat)

theorem isqF_spec : ∀ (f n : Nat), n < 4 ^ f → isqF f n * isqF f n ≤ n ∧ n < (isqF f n + 1) * (isqF f n + 1)
  | 0, n, h => by
    have : n = 0 := by simpa using h
    subst this
    simp [isqF]
  | f + 1, n, h => by
    have h4 : n / 4 < 4 ^ f := by
      rw [Nat.pow_succ] at h
      omega
    obtain ⟨h1, h2⟩ := isqF_spec f (n / 4) h4
    unfold isqF
    generalize isqF f (n / 4) = r at h1 h2
    by_cases h0 : n = 0
    · subst h0
      simp
    · rw [if_neg h0]
      have e1 : (2 * r) * (2 * r) = 4 * (r * r) := by grind
      have e2 : (2 * r + 1) * (2 * r + 1) = 4 * (r * r) + 4 * r + 1 := by grind
      have e3 : (2 * r + 1 + 1) * (2 * r + 1 + 1) = 4 * ((r + 1) * (r + 1)) := by grind
      split
      · rename_i q
        exact ⟨q, by rw [e3]; omega⟩
      · rename_i q
        exact ⟨by rw [e1]; omega, by omega⟩
theorem isqN_spec (n : Nat) : isqN n * isqN n ≤ n ∧ n < (isqN n + 1) * (isqN n + 1) := by
  refine isqF_spec _ _ ?_
  have h : n < 2 ^ (n.log2 + 1) := Nat.lt_log2_self
  have h2 : 2 ^ (n.log2 + 1) ≤ 4 ^ (n.log2 + 1) := Nat.pow_le_pow_left (by omega) _
  omega

/-- r is the root of n -/
structure Root (r n : Int) : Prop where
  nn : 0 ≤ r
  lo : r * r ≤ n
  hi : n < (r + 1) * (r + 1)
theorem isq_root {n : Int} (h : 0 ≤ n) : Root (isq n) n := by
  obtain ⟨h1, h2⟩ := isqN_spec n.toNat
  have e : ((n.toNat : Nat) : Int) = n := Int.toNat_of_nonneg h
  refine ⟨Int.natCast_nonneg _, ?_, ?_⟩
  · have := Int.ofNat_le.mpr h1
    rw [e, Int.natCast_mul] at this
    exact this
  · have := Int.ofNat_lt.mpr h2
    rw [e, Int.natCast_mul, Int.natCast_add] at this
    exact this
theorem Root.uniq {r s n : Int} (a : Root r n) (b : Root s n) : r = s := by
  rcases Int.lt_trichotomy r s with h | h | h
  · have := sqle (show 0 ≤ r + 1 by have := a.nn; omega) (show r + 1 ≤ s by omega)
    have := a.hi
    have := b.lo
    omega
  · exact h
  · have := sqle (show 0 ≤ s + 1 by have := b.nn; omega) (show s + 1 ≤ r by omega)
    have := b.hi
    have := a.lo
    omega
theorem Root.isq {r n : Int} (a : Root r n) : isq n = r := (isq_root (Int.le_trans (sqnn r) a.lo)).uniq a

/-- a turn of the halving: never below the root, and less -/
theorem newton {n r x : Int} (h : Root r n) (hx : 0 < x) (hr : r ≤ x) (hg : n < x * x) : r ≤ (x + n / x) / 2 ∧ (x + n / x) / 2 < x ∧ 0 < (x + n / x) / 2 ∨ n = 0 := by
  by_cases h0 : n = 0
  · exact .inr h0
  refine .inl ?_
  have hn : 0 ≤ n := Int.le_trans (sqnn r) h.lo
  have e := Int.mul_ediv_add_emod n x
  have m0 := Int.emod_nonneg n (show x ≠ 0 by omega)
  have m1 := Int.emod_lt_of_pos n hx
  generalize hq : n / x = q at e
  generalize n % x = t at e m0 m1
  have q0 : 0 ≤ q := by rw [← hq]; exact Int.ediv_nonneg hn (by omega)
  have r1 : 1 ≤ r := by
    have := h.hi
    have := h.nn
    by_cases z : r = 0
    · subst z
      omega
    · omega
  have qx : q < x := by
    rcases Int.lt_or_le q x with z | z
    · exact z
    · have := Int.mul_le_mul_of_nonneg_left z (show 0 ≤ x by omega)
      omega
  have key : 2 * r ≤ x + q := by
    rcases Int.lt_or_le (x + q) (2 * r) with z | z
    · have k1 : x * (q + 1) ≤ x * (2 * r - x) := Int.mul_le_mul_of_nonneg_left (by omega) (by omega)
      have k2 := sqnn (x - r)
      have k3 := h.lo
      grind
    · exact z
  omega

/-! ### the chain -/
/-- a number that is no square, its root -/
structure Nsq (n r : Int) : Prop where
  r1 : 1 ≤ r
  lo : r * r < n
  hi : n < (r + 1) * (r + 1)
def nx (n r : Int) (s : Int × Int) : Int × Int :=
  ((r + s.1) / s.2 * s.2 - s.1, (n - ((r + s.1) / s.2 * s.2 - s.1) * ((r + s.1) / s.2 * s.2 - s.1)) / s.2)
def st (n r : Int) : Nat → Int × Int
  | 0 => (0, 1)
  | k + 1 => nx n r (st n r k)
abbrev sm (n r : Int) (k : Nat) : Int := (st n r k).1
abbrev sd (n r : Int) (k : Nat) : Int := (st n r k).2
def sa (n r : Int) (k : Nat) : Int := (r + sm n r k) / sd n r k

structure Red (n r e m d : Int) : Prop where
  prod : e * d = n - m * m
  m1 : 1 ≤ m
  mr : m ≤ r
  dl : r - m < d
  dh : d ≤ r + m
theorem Red.d1 {n r e m d : Int} (h : Red n r e m d) : 1 ≤ d := by
  have := h.dl
  have := h.mr
  omega
theorem Red.el {n r e m d : Int} (N : Nsq n r) (h : Red n r e m d) : r - m < e := by
  rcases Int.lt_or_le (r - m) e with z | z
  · exact z
  · have k1 : e * d ≤ (r - m) * d := Int.mul_le_mul_of_nonneg_right z (by have := h.d1; omega)
    have k2 : (r - m) * d ≤ (r - m) * (r + m) := Int.mul_le_mul_of_nonneg_left h.dh (by have := h.mr; omega)
    have k3 := N.lo
    have k4 := h.prod
    grind

/-- one turn of the chain, and back -/
theorem Red.step {n r e m d : Int} (N : Nsq n r) (h : Red n r e m d) :
    Red n r d ((r + m) / d * d - m) ((n - ((r + m) / d * d - m) * ((r + m) / d * d - m)) / d) ∧ 1 ≤ (r + m) / d ∧ (r + ((r + m) / d * d - m)) / d = (r + m) / d := by
  have d1 := h.d1
  have e1 := Int.mul_ediv_add_emod (r + m) d
  have t0 := Int.emod_nonneg (r + m) (show d ≠ 0 by omega)
  have t1 := Int.emod_lt_of_pos (r + m) (show 0 < d by omega)
  generalize ha : (r + m) / d = a at e1
  generalize (r + m) % d = t at e1 t0 t1
  have hm1 := h.m1
  have hmr := h.mr
  have hdl := h.dl
  have hdh := h.dh
  have hp := h.prod
  have N1 := N.r1
  have Nlo := N.lo
  have Nhi := N.hi
  have a1 : 1 ≤ a := by
    rw [← ha]
    exact (Int.le_ediv_iff_mul_le (by omega)).mpr (by omega)
  have had : d ≤ a * d := by
    have := Int.mul_le_mul_of_nonneg_right a1 (show 0 ≤ d by omega)
    omega
  have eda : d * a = a * d := Int.mul_comm _ _
  have hmm : a * d - m = r - t := by omega
  have back : (r + (a * d - m)) / d = a := by
    have : r + (a * d - m) = (r - m) + a * d := by omega
    rw [this, Int.add_mul_ediv_right _ _ (by omega), Int.ediv_eq_zero_of_lt (by omega) hdl]
    omega
  generalize hM : a * d - m = M at hmm back
  have dM : d * (e + a * (m - M)) = n - M * M := by
    rw [← hM]
    grind
  have hdiv : (n - M * M) / d = e + a * (m - M) := by
    rw [← dM, Int.mul_ediv_cancel_left _ (by omega)]
  rw [hdiv]
  generalize e + a * (m - M) = D at dM
  have M1 : 1 ≤ M := by
    rcases Int.lt_or_le r d with z | z
    · omega
    · omega
  have dle : d ≤ r + M := by omega
  have dgt : r - M < d := by omega
  refine ⟨⟨dM, M1, by omega, ?_, ?_⟩, a1, back⟩
  · rcases Int.lt_or_le (r - M) D with z | z
    · exact z
    · have k1 : d * D ≤ d * (r - M) := Int.mul_le_mul_of_nonneg_left z (by omega)
      have k2 : d * (r - M) ≤ (r + M) * (r - M) := Int.mul_le_mul_of_nonneg_right dle (by omega)
      grind
  · rcases Int.lt_or_le (r + M) D with z | z
    · have k1 : d * (r + M + 1) ≤ d * D := Int.mul_le_mul_of_nonneg_left (by omega) (by omega)
      have k2 : (r - M + 1) * (r + M + 1) ≤ d * (r + M + 1) := Int.mul_le_mul_of_nonneg_right (by omega) (by omega)
      grind
    · exact z

section
variable {n r : Int} (N : Nsq n r)
include N
theorem red_at : ∀ k, Red n r (sd n r k) (sm n r (k + 1)) (sd n r (k + 1))
  | 0 => by
    have h1 := N.r1
    have h2 := N.lo
    have h3 := N.hi
    have e : (r + 1) * (r + 1) = r * r + 2 * r + 1 := by grind
    have e1 : sm n r 1 = r := by
      show (r + 0) / 1 * 1 - 0 = r
      simp
    have e2 : sd n r 1 = n - r * r := by
      show (n - ((r + 0) / 1 * 1 - 0) * ((r + 0) / 1 * 1 - 0)) / 1 = _
      simp
    have e0 : sd n r 0 = 1 := rfl
    rw [e0, e1, e2]
    exact ⟨by omega, h1, Int.le_refl _, by omega, by omega⟩
  | k + 1 => ((red_at k).step N).1
theorem sd_pos : ∀ k, 1 ≤ sd n r k
  | 0 => Int.le_refl _
  | k + 1 => (red_at N k).d1
theorem sa_pos : ∀ k, 1 ≤ sa n r k
  | 0 => by
    have := N.r1
    show 1 ≤ (r + 0) / 1
    simp
    omega
  | k + 1 => ((red_at N k).step N).2.1
theorem sm1 : sm n r 1 = r := by
  show (r + 0) / 1 * 1 - 0 = r
  simp
theorem sa_back (k : Nat) : (r + sm n r (k + 2)) / sd n r (k + 1) = sa n r (k + 1) := ((red_at N k).step N).2.2
theorem sm_next (k : Nat) : sm n r (k + 1) = sa n r k * sd n r k - sm n r k := rfl
theorem sm_back (k : Nat) : sm n r (k + 1) = (r + sm n r (k + 2)) / sd n r (k + 1) * sd n r (k + 1) - sm n r (k + 2) := by
  rw [sa_back N k]
  have e : sm n r (k + 2) = sa n r (k + 1) * sd n r (k + 1) - sm n r (k + 1) := rfl
  omega
/-- the part is twice the first one where the divisor is 1, and there alone -/
theorem sa_last (k : Nat) : sa n r (k + 1) = 2 * r ↔ sd n r (k + 1) = 1 := by
  have R := red_at N k
  have N1 := N.r1
  have d1 := R.d1
  have mr := R.mr
  have m1 := R.m1
  have dl := R.dl
  unfold sa
  constructor
  · intro h
    rcases Int.lt_or_le 1 (sd n r (k + 1)) with z | z
    · have : (r + sm n r (k + 1)) / sd n r (k + 1) ≤ r := by
        have h1 := Int.mul_ediv_add_emod (r + sm n r (k + 1)) (sd n r (k + 1))
        have h2 := Int.emod_nonneg (r + sm n r (k + 1)) (show sd n r (k + 1) ≠ 0 by omega)
        rw [h] at h1
        have h3 : 2 * (2 * r) ≤ sd n r (k + 1) * (2 * r) := Int.mul_le_mul_of_nonneg_right (by omega) (by omega)
        omega
      omega
    · omega
  · intro h
    rw [h] at dl ⊢
    rw [Int.ediv_one]
    omega
theorem sm_last {k : Nat} (h : sd n r (k + 1) = 1) : sm n r (k + 1) = r := by
  have R := red_at N k
  have h1 := R.dl
  have h2 := R.mr
  rw [h] at h1
  omega

/-! ### the way back: the round comes again -/
theorem st_inj {i j : Nat} (h : st n r (i + 2) = st n r (j + 2)) (hd : sd n r (i + 1) = sd n r (j + 1)) : st n r (i + 1) = st n r (j + 1) := by
  have hm : sm n r (i + 2) = sm n r (j + 2) := by
    show (st n r (i + 2)).1 = _
    rw [h]
  refine Prod.ext ?_ hd
  show sm n r (i + 1) = sm n r (j + 1)
  rw [sm_back N i, sm_back N j, hm, hd]
theorem prev_d {i j : Nat} (h : st n r (i + 1) = st n r (j + 1)) : sd n r i = sd n r j := by
  have a := (red_at N i).prod
  have b := (red_at N j).prod
  have hm : sm n r (i + 1) = sm n r (j + 1) := by
    show (st n r (i + 1)).1 = _
    rw [h]
  have hd : sd n r (i + 1) = sd n r (j + 1) := by
    show (st n r (i + 1)).2 = _
    rw [h]
  rw [hm, hd] at a
  rw [← b] at a
  exact Int.eq_of_mul_eq_mul_right (by have := sd_pos N (j + 1); omega) a
theorem st_down : ∀ (i k : Nat), st n r (i + 1) = st n r (i + k + 1) → st n r 1 = st n r (k + 1)
  | 0, k, h => by simpa using h
  | i + 1, k, h => by
    refine st_down i k ?_
    have h' : st n r (i + 2) = st n r ((i + k) + 2) := by
      rw [h]
      congr 1
      omega
    have e := prev_d N (i := i + 1) (j := (i + k) + 1) h'
    exact st_inj N h' e
theorem one_of_rep {i j : Nat} (hij : i < j) (h : st n r (i + 1) = st n r (j + 1)) : sd n r (j - i) = 1 := by
  have h' : st n r (i + 1) = st n r (i + (j - i) + 1) := by
    rw [h]
    congr 1
    omega
  have e := st_down N i (j - i) h'
  have e2 := prev_d N (i := 0) (j := j - i) e
  exact e2.symm
end

/-! ### lists of different numbers -/
theorem sum_le (f : Nat → Nat) : ∀ (M : Nat) (l : List Nat), l.Nodup → (∀ x ∈ l, x < M) → (l.map f).sum ≤ ((List.range M).map f).sum
  | 0, l, _, h => by
    cases l with
    | nil => simp
    | cons x r => exact absurd (h x List.mem_cons_self) (by omega)
  | M + 1, l, hn, h => by
    rw [List.range_succ, List.map_append, List.sum_append]
    by_cases hm : M ∈ l
    · have p := List.perm_cons_erase hm
      have e : (l.map f).sum = f M + ((l.erase M).map f).sum := by
        have := (p.map f).sum_nat
        rw [this, List.map_cons, List.sum_cons]
      have ih := sum_le f M (l.erase M) (hn.erase M) fun x hx => by
        have h1 := h x (List.mem_of_mem_erase hx)
        have h2 : x ≠ M := by
          rintro rfl
          exact (List.Nodup.not_mem_erase hn) hx
        omega
      simp only [List.map_cons, List.map_nil, List.sum_cons, List.sum_nil]
      omega
    · have ih := sum_le f M l hn fun x hx => by
        have h1 := h x hx
        have h2 : x ≠ M := by
          rintro rfl
          exact hm hx
        omega
      omega
theorem nodup_map {α : Type} (f : Nat → α) : ∀ K, (∀ i j, i < j → j < K → f i ≠ f j) → ((List.range K).map f).Nodup
  | 0, _ => by simp
  | K + 1, h => by
    rw [List.range_succ, List.map_append, List.nodup_append]
    refine ⟨nodup_map f K fun i j a b => h i j a (by omega), by simp, fun x hx y hy => ?_⟩
    obtain ⟨i, hi, rfl⟩ := List.mem_map.mp hx
    simp only [List.map_cons, List.map_nil, List.mem_singleton] at hy
    subst hy
    exact h i K (List.mem_range.mp hi) (by omega)
theorem sum_ones : ∀ l : List Nat, (l.map fun _ => 1).sum = l.length
  | [] => rfl
  | _ :: r => by
    rw [List.map_cons, List.sum_cons, sum_ones r, List.length_cons]
    omega
theorem sum_blocks (g : Nat → Nat) (K : Nat) (hK : 0 < K) : ∀ D, ((List.range (K * D)).map fun c => g (c / K)).sum = K * ((List.range D).map g).sum
  | 0 => by simp
  | D + 1 => by
    have blk : ∀ t, t ≤ K → ((List.range (K * D + t)).map fun c => g (c / K)).sum = K * ((List.range D).map g).sum + t * g D := by
      intro t
      induction t with
      | zero =>
        intro _
        rw [Nat.add_zero, sum_blocks g K hK D]
        omega
      | succ t ih =>
        intro ht
        rw [← Nat.add_assoc, List.range_succ, List.map_append, List.sum_append, ih (by omega)]
        have : (K * D + t) / K = D := by
          rw [Nat.mul_add_div hK, Nat.div_eq_of_lt (by omega)]
          omega
        simp only [List.map_cons, List.map_nil, List.sum_cons, List.sum_nil, this]
        rw [Nat.succ_mul]
        omega
    rw [Nat.mul_succ, blk K (Nat.le_refl _), List.range_succ, List.map_append, List.sum_append]
    simp only [List.map_cons, List.map_nil, List.sum_cons, List.sum_nil, Nat.add_zero]
    rw [Nat.mul_add]
end OA
set_option Elab.async false
set_option linter.all false
/-! The round: that it ends, its mirror, its pairs, how great they grow, that none is less. -/
namespace OA

/-! ### the round's length -/
def perF (n r : Int) : Nat → Nat → Nat
  | 0, k => k
  | f + 1, k => if sd n r k = 1 then k else perF n r f (k + 1)
/-- the round's length -/
def per (n r : Int) : Nat := perF n r 3000000 1

/-- a place of the box -/
def code (R : Nat) (s : Int × Int) : Nat := (R + 1) * s.2.toNat + s.1.toNat
section
variable {n r : Int} (N : Nsq n r) {R : Nat} (hR : r ≤ R)
include N hR
theorem code_lt (k : Nat) : code R (st n r (k + 1)) < (R + 1) * (2 * R + 1) := by
  have A := red_at N k
  have h1 := A.mr
  have h2 := A.dh
  have h3 := A.m1
  have h4 := A.d1
  have a1 : (sm n r (k + 1)).toNat ≤ R := by omega
  have a2 : (sd n r (k + 1)).toNat ≤ 2 * R := by omega
  show (R + 1) * (sd n r (k + 1)).toNat + (sm n r (k + 1)).toNat < _
  have b1 := Nat.mul_le_mul_left (R + 1) a2
  have b2 : (R + 1) * (2 * R + 1) = (R + 1) * (2 * R) + (R + 1) := by rw [Nat.mul_add, Nat.mul_one]
  omega
theorem code_div (k : Nat) : code R (st n r (k + 1)) / (R + 1) = (sd n r (k + 1)).toNat := by
  have A := red_at N k
  have h1 := A.mr
  have h3 := A.m1
  have a1 : (sm n r (k + 1)).toNat ≤ R := by omega
  show ((R + 1) * (sd n r (k + 1)).toNat + (sm n r (k + 1)).toNat) / (R + 1) = _
  rw [Nat.mul_add_div (by omega), Nat.div_eq_of_lt (by omega)]
  omega
theorem code_inj {i j : Nat} (h : code R (st n r (i + 1)) = code R (st n r (j + 1))) : st n r (i + 1) = st n r (j + 1) := by
  have e1 := code_div N hR i
  have e2 := code_div N hR j
  rw [h, e2] at e1
  have di := sd_pos N (i + 1)
  have dj := sd_pos N (j + 1)
  have mi := (red_at N i).m1
  have mj := (red_at N j).m1
  have hd : sd n r (i + 1) = sd n r (j + 1) := by omega
  have hm : (sm n r (i + 1)).toNat = (sm n r (j + 1)).toNat := by
    have h' : (R + 1) * (sd n r (i + 1)).toNat + (sm n r (i + 1)).toNat = (R + 1) * (sd n r (j + 1)).toNat + (sm n r (j + 1)).toNat := h
    rw [hd] at h'
    omega
  exact Prod.ext (show sm n r (i + 1) = sm n r (j + 1) by omega) hd
/-- up to the first 1 the places differ -/
theorem codes_nodup {K : Nat} (h : ∀ k, 1 ≤ k → k < K → sd n r k ≠ 1) : ((List.range K).map fun k => code R (st n r (k + 1))).Nodup := by
  refine nodup_map _ K fun i j hij hj e => ?_
  exact h (j - i) (by omega) (by omega) (one_of_rep N hij (code_inj N hR e))
theorem some_one : ∃ k, 1 ≤ k ∧ k ≤ (R + 1) * (2 * R + 1) + 1 ∧ sd n r k = 1 := by
  refine Classical.byContradiction fun no => ?_
  have hk : ∀ k, 1 ≤ k → k < (R + 1) * (2 * R + 1) + 1 → sd n r k ≠ 1 := fun k a b e => no ⟨k, a, by omega, e⟩
  have nd := codes_nodup N hR (K := (R + 1) * (2 * R + 1) + 1) hk
  have le := sum_le (fun _ => 1) ((R + 1) * (2 * R + 1)) _ nd fun x hx => by
    obtain ⟨k, _, rfl⟩ := List.mem_map.mp hx
    exact code_lt N hR k
  rw [sum_ones, sum_ones, List.length_map, List.length_range, List.length_range] at le
  omega
end
theorem perF_spec (n r : Int) : ∀ (f k : Nat), (∃ j, k ≤ j ∧ j < k + f ∧ sd n r j = 1) → k ≤ perF n r f k ∧ sd n r (perF n r f k) = 1 ∧ ∀ j, k ≤ j → j < perF n r f k → sd n r j ≠ 1
  | 0, k, h => by
    obtain ⟨j, a, b, _⟩ := h
    omega
  | f + 1, k, h => by
    unfold perF
    by_cases h1 : sd n r k = 1
    · rw [if_pos h1]
      exact ⟨Nat.le_refl _, h1, fun j a b => by omega⟩
    · rw [if_neg h1]
      obtain ⟨j, a, b, c⟩ := h
      have hj : j ≠ k := by
        rintro rfl
        exact h1 c
      obtain ⟨p, q, s⟩ := perF_spec n r f (k + 1) ⟨j, by omega, by omega, c⟩
      refine ⟨by omega, q, fun i x y => ?_⟩
      by_cases hi : i = k
      · subst hi
        exact h1
      · exact s i (by omega) y
theorem box1000 : (1000 + 1) * (2 * 1000 + 1) + 1 < 1 + 3000000 := by decide
section
variable {n r : Int} (N : Nsq n r) (h1000 : r ≤ 1000)
include N h1000
theorem per_spec : 1 ≤ per n r ∧ sd n r (per n r) = 1 ∧ ∀ j, 1 ≤ j → j < per n r → sd n r j ≠ 1 := by
  obtain ⟨k, a, b, c⟩ := some_one N (R := 1000) (by omega)
  exact perF_spec n r 3000000 1 ⟨k, a, Nat.lt_of_le_of_lt b box1000, c⟩
theorem per_pos : 1 ≤ per n r := (per_spec N h1000).1
theorem per_one : sd n r (per n r) = 1 := (per_spec N h1000).2.1
theorem per_not {j : Nat} (a : 1 ≤ j) (b : j < per n r) : sd n r j ≠ 1 := (per_spec N h1000).2.2 j a b
theorem per_le {j : Nat} (a : 1 ≤ j) (e : sd n r j = 1) : per n r ≤ j := by
  rcases Nat.lt_or_ge j (per n r) with z | z
  · exact absurd e (per_not N h1000 a z)
  · exact z
end

/-! ### the parts -/
def parts (n r : Int) : List Int := (List.range (per n r)).map fun k => sa n r (k + 1)
theorem parts_length (n r : Int) : (parts n r).length = per n r := by simp [parts]
theorem parts_get {n r : Int} {i : Nat} (h : i < per n r) : (parts n r)[i]? = some (sa n r (i + 1)) := by
  unfold parts
  rw [List.getElem?_map, List.getElem?_range h]
  rfl

section
variable {n r : Int} (N : Nsq n r) (h1000 : r ≤ 1000)
include N h1000
/-! ### the mirror -/
theorem mirror : ∀ j, j + 1 ≤ per n r → sm n r (per n r - j) = sm n r (j + 1) ∧ sd n r (per n r - (j + 1)) = sd n r (j + 1)
  | 0, h => by
    obtain ⟨L, hL⟩ : ∃ L, per n r = L + 1 := ⟨per n r - 1, by omega⟩
    have o := per_one N h1000
    rw [hL] at o ⊢
    have e := sm_last N o
    refine ⟨by rw [Nat.sub_zero, e, sm1 N], ?_⟩
    have p := (red_at N L).prod
    rw [o, e] at p
    have q := (red_at N 0).prod
    have e0 : sd n r 0 = 1 := rfl
    rw [show sm n r (0 + 1) = r from sm1 N, e0] at q
    show sd n r (L + 1 - (0 + 1)) = sd n r (0 + 1)
    rw [show L + 1 - (0 + 1) = L by omega]
    omega
  | j + 1, h => by
    obtain ⟨h1, h2⟩ := mirror j (by omega)
    obtain ⟨i, hi⟩ : ∃ i, per n r = i + j + 2 := ⟨per n r - (j + 2), by omega⟩
    rw [hi] at h1 h2 ⊢
    rw [show i + j + 2 - j = i + 2 by omega] at h1
    rw [show i + j + 2 - (j + 1) = i + 1 by omega] at h2 ⊢
    rw [show i + j + 2 - (j + 1 + 1) = i by omega]
    have e : sm n r (i + 1) = sm n r (j + 1 + 1) := by
      rw [sm_back N i, h1, h2]
      rfl
    refine ⟨e, ?_⟩
    have p := (red_at N i).prod
    have q := (red_at N (j + 1)).prod
    rw [e, h2] at p
    rw [Int.mul_comm] at q
    rw [← q] at p
    rw [Int.mul_comm (sd n r (j + 1 + 1))] at p
    rw [Int.mul_comm] at p
    exact Int.eq_of_mul_eq_mul_left (by have := sd_pos N (j + 1); omega) p
theorem mirror_sa {j : Nat} (h1 : 1 ≤ j) (h2 : j < per n r) : sa n r (per n r - j) = sa n r j := by
  obtain ⟨j, rfl⟩ : ∃ i, j = i + 1 := ⟨j - 1, by omega⟩
  obtain ⟨a1, a2⟩ := mirror N h1000 j (by omega)
  obtain ⟨i, hi⟩ : ∃ i, per n r = i + j + 2 := ⟨per n r - (j + 2), by omega⟩
  rw [hi] at a1 a2 ⊢
  rw [show i + j + 2 - j = i + 2 by omega] at a1
  rw [show i + j + 2 - (j + 1) = i + 1 by omega] at a2 ⊢
  rw [← sa_back N i, a1, a2]
  rfl
theorem parts_last : (parts n r)[per n r - 1]? = some (2 * r) := by
  have p := per_pos N h1000
  rw [parts_get (by omega), show per n r - 1 + 1 = per n r by omega]
  obtain ⟨L, hL⟩ : ∃ L, per n r = L + 1 := ⟨per n r - 1, by omega⟩
  have o := per_one N h1000
  rw [hL] at o ⊢
  rw [(sa_last N L).mpr o]
theorem parts_mirror : (parts n r).dropLast.reverse = (parts n r).dropLast := by
  have p := per_pos N h1000
  have len : (parts n r).dropLast.length = per n r - 1 := by rw [List.length_dropLast, parts_length]
  refine List.ext_getElem? fun i => ?_
  by_cases hi : i < per n r - 1
  · rw [List.getElem?_reverse (by omega), len]
    rw [List.getElem?_dropLast, List.getElem?_dropLast, parts_length]
    rw [if_pos (by omega), if_pos hi, parts_get (by omega), parts_get (by omega)]
    have := mirror_sa N h1000 (j := i + 1) (by omega) (by omega)
    rw [← this]
    congr 2
    omega
  · rw [List.getElem?_eq_none (by rw [List.length_reverse]; omega), List.getElem?_eq_none (by omega)]
theorem parts_ne {i : Nat} (h : i + 1 < per n r) : sa n r (i + 1) ≠ 2 * r := fun e => per_not N h1000 (by omega) h ((sa_last N i).mp e)
end

/-! ### the pairs -/
/-- the pair ahead, and the pair, behind k parts -/
def cv (n r : Int) : Nat → (Int × Int) × (Int × Int)
  | 0 => ((1, 0), (r, 1))
  | k + 1 => ((cv n r k).2, (sa n r (k + 1) * (cv n r k).2.1 + (cv n r k).1.1, sa n r (k + 1) * (cv n r k).2.2 + (cv n r k).1.2))
abbrev pp (n r : Int) (k : Nat) : Int := (cv n r k).2.1
abbrev qq (n r : Int) (k : Nat) : Int := (cv n r k).2.2
abbrev pa (n r : Int) (k : Nat) : Int := (cv n r k).1.1
abbrev qa (n r : Int) (k : Nat) : Int := (cv n r k).1.2
theorem pp_succ (n r : Int) (k : Nat) : pp n r (k + 1) = sa n r (k + 1) * pp n r k + pa n r k := rfl
theorem qq_succ (n r : Int) (k : Nat) : qq n r (k + 1) = sa n r (k + 1) * qq n r k + qa n r k := rfl
theorem pa_succ (n r : Int) (k : Nat) : pa n r (k + 1) = pp n r k := rfl
theorem qa_succ (n r : Int) (k : Nat) : qa n r (k + 1) = qq n r k := rfl

section
variable {n r : Int} (N : Nsq n r)
include N
theorem cv_pos : ∀ k, 1 ≤ pp n r k ∧ 1 ≤ qq n r k ∧ 1 ≤ pa n r k ∧ 0 ≤ qa n r k
  | 0 => ⟨N.r1, Int.le_refl _, Int.le_refl _, Int.le_refl _⟩
  | k + 1 => by
    obtain ⟨h1, h2, h3, h4⟩ := cv_pos k
    have a := sa_pos N (k + 1)
    have m1 := Int.mul_le_mul_of_nonneg_right a (show 0 ≤ pp n r k by omega)
    have m2 := Int.mul_le_mul_of_nonneg_right a (show 0 ≤ qq n r k by omega)
    rw [pp_succ, qq_succ, pa_succ, qa_succ]
    omega
theorem qq_mono1 (k : Nat) : qq n r k ≤ qq n r (k + 1) ∧ pp n r k ≤ pp n r (k + 1) := by
  obtain ⟨h1, h2, h3, h4⟩ := cv_pos N k
  have a := sa_pos N (k + 1)
  have m1 := Int.mul_le_mul_of_nonneg_right a (show 0 ≤ pp n r k by omega)
  have m2 := Int.mul_le_mul_of_nonneg_right a (show 0 ≤ qq n r k by omega)
  rw [pp_succ, qq_succ]
  omega
theorem qq_mono {i j : Nat} (h : i ≤ j) : qq n r i ≤ qq n r j := by
  obtain ⟨t, rfl⟩ : ∃ t, j = i + t := ⟨j - i, by omega⟩
  clear h
  induction t with
  | zero => exact Int.le_refl _
  | succ t ih => exact Int.le_trans ih (qq_mono1 N (i + t)).1
/-- the sign of the k-th pair's norm -/
def sg : Nat → Int
  | 0 => -1
  | k + 1 => - sg k
theorem norms : ∀ k, pp n r k * pp n r k - n * (qq n r k * qq n r k) = sg k * sd n r (k + 1) ∧
    pp n r k * pa n r k - n * (qq n r k * qa n r k) = - (sg k * sm n r (k + 1)) ∧ pa n r k * pa n r k - n * (qa n r k * qa n r k) = - (sg k * sd n r k)
  | 0 => by
    have e1 : sm n r 1 = r := sm1 N
    have e0 : sd n r 0 = 1 := rfl
    have p := (red_at N 0).prod
    rw [show sm n r (0 + 1) = r from e1, e0] at p
    show r * r - n * (1 * 1) = -1 * sd n r (0 + 1) ∧ r * 1 - n * (1 * 0) = - (-1 * sm n r (0 + 1)) ∧ 1 * 1 - n * (0 * 0) = -(-1 * sd n r 0)
    rw [show sm n r (0 + 1) = r from e1, e0]
    omega
  | k + 1 => by
    obtain ⟨h1, h2, h3⟩ := norms k
    have R := (red_at N k).prod
    have R' := (red_at N (k + 1)).prod
    have s1 : sm n r (k + 1 + 1) = sa n r (k + 1) * sd n r (k + 1) - sm n r (k + 1) := rfl
    rw [pp_succ, qq_succ, pa_succ, qa_succ, show sg (k + 1) = - sg k from rfl]
    have d1 := sd_pos N (k + 1)
    generalize sd n r (k + 1) = d at *
    generalize sd n r k = e at *
    generalize sm n r (k + 1) = m at *
    generalize sd n r (k + 1 + 1) = d' at *
    generalize sa n r (k + 1) = a at *
    generalize sm n r (k + 1 + 1) = m' at *
    generalize pp n r k = p at *
    generalize qq n r k = q at *
    generalize pa n r k = p0 at *
    generalize qa n r k = q0 at *
    generalize sg k = s at *
    refine ⟨?_, ?_, ?_⟩
    · have hd : d' = e + a * (m - m') := by
        refine Int.eq_of_mul_eq_mul_left (a := d) (by omega) ?_
        rw [R', s1]
        grind
      rw [hd, s1]
      grind
    · rw [s1]
      grind
    · grind
end
theorem sg_even : ∀ k, sg (2 * k) = -1 ∧ sg (2 * k + 1) = 1
  | 0 => ⟨rfl, rfl⟩
  | k + 1 => by
    obtain ⟨a, b⟩ := sg_even k
    have e1 : sg (2 * (k + 1)) = - sg (2 * k + 1) := rfl
    have e2 : sg (2 * (k + 1) + 1) = - sg (2 * (k + 1)) := rfl
    omega
theorem sg_sq : ∀ k, sg k = 1 ∨ sg k = -1
  | 0 => .inr rfl
  | k + 1 => by
    have e : sg (k + 1) = - sg k := rfl
    rcases sg_sq k with h | h <;> omega
end OA
set_option Elab.async false
set_option linter.all false
/-! The least pair and the least answer; that none is less; how great they are. -/
namespace OA

/-- put together -/
def put (n : Int) (x y : Int × Int) : Int × Int := (x.1 * y.1 + n * x.2 * y.2, x.1 * y.2 + x.2 * y.1)
/-- the first pair one apart -/
def fst1 (n r : Int) : Int × Int := (cv n r (per n r - 1)).2
def even (n r : Int) : Bool := per n r % 2 == 0
/-- the least answer -/
def lst (n r : Int) : Int × Int := if even n r then fst1 n r else put n (fst1 n r) (fst1 n r)
/-- the same by the round from its end on -/
def back : List Int → Int × Int
  | [] => (1, 0)
  | a :: l => (a * (back l).1 + (back l).2, (back l).1)
/-- forward over a list -/
def fwd : List Int → Int × Int → Int × Int → (Int × Int) × (Int × Int)
  | [], x, y => (x, y)
  | a :: l, x, y => fwd l y (a * y.1 + x.1, a * y.2 + x.2)
theorem fwd_append : ∀ (l l' : List Int) (x y : Int × Int), fwd (l ++ l') x y = fwd l' (fwd l x y).1 (fwd l x y).2
  | [], _, _, _ => rfl
  | a :: l, l', x, y => fwd_append l l' _ _
theorem fwd_back : ∀ (l : List Int) (x y : Int × Int), (fwd l x y).2 = (y.1 * (back l).1 + x.1 * (back l).2, y.2 * (back l).1 + x.2 * (back l).2)
  | [], x, y => by
    show y = _
    simp [back]
  | a :: l, x, y => by
    show (fwd l y _).2 = _
    rw [fwd_back l]
    simp only [back]
    refine Prod.ext ?_ ?_ <;> grind
theorem cv_fwd (n r : Int) : ∀ k, k ≤ per n r → fwd ((parts n r).take k) (1, 0) (r, 1) = cv n r k
  | 0, _ => rfl
  | k + 1, h => by
    rw [List.take_add_one, parts_get (by omega), fwd_append, cv_fwd n r k (by omega)]
    rfl
theorem drop_take (n r : Int) : (parts n r).dropLast = (parts n r).take (per n r - 1) := by
  rw [List.dropLast_eq_take, parts_length]
theorem first_back (n r : Int) : fst1 n r = (r * (back (parts n r).dropLast).1 + (back (parts n r).dropLast).2, (back (parts n r).dropLast).1) := by
  unfold fst1
  rw [← cv_fwd n r (per n r - 1) (by omega), ← drop_take, fwd_back]
  simp

section
variable {n r : Int} (N : Nsq n r) (h1000 : r ≤ 1000)
include N h1000
theorem first_norm : (fst1 n r).1 * (fst1 n r).1 - n * (fst1 n r).2 * (fst1 n r).2 = if even n r then 1 else -1 := by
  have p := per_pos N h1000
  have o := per_one N h1000
  have h := (norms N (per n r - 1)).1
  rw [show per n r - 1 + 1 = per n r by omega, o] at h
  show pp n r (per n r - 1) * pp n r (per n r - 1) - n * qq n r (per n r - 1) * qq n r (per n r - 1) = _
  rw [Int.mul_assoc, h]
  unfold even
  generalize per n r = L at p
  have hc : L - 1 = 2 * ((L - 1) / 2) ∨ L - 1 = 2 * ((L - 1) / 2) + 1 := by omega
  generalize (L - 1) / 2 = c at hc
  rcases hc with hc | hc
  · rw [hc, (sg_even c).1, if_neg (by simp; omega)]
    rfl
  · rw [hc, (sg_even c).2, if_pos (by simp; omega)]
    rfl
theorem first_pos : 1 ≤ (fst1 n r).1 ∧ 1 ≤ (fst1 n r).2 := ⟨(cv_pos N _).1, (cv_pos N _).2.1⟩
theorem lst_norm : (lst n r).1 * (lst n r).1 - n * (lst n r).2 * (lst n r).2 = 1 := by
  have h := first_norm N h1000
  unfold lst
  by_cases e : even n r = true
  · rw [if_pos e] at h ⊢
    exact h
  · rw [if_neg e] at h ⊢
    unfold put
    dsimp only
    grind
theorem lst_pos : 2 ≤ (lst n r).1 ∧ 1 ≤ (lst n r).2 := by
  have h := lst_norm N h1000
  have ⟨h1, h2⟩ := first_pos N h1000
  have hn : 2 ≤ n := by
    have := N.r1
    have := N.lo
    have := Int.mul_le_mul N.r1 N.r1 (by omega) (by omega)
    omega
  have q1 : 1 ≤ (lst n r).1 ∧ 1 ≤ (lst n r).2 := by
    unfold lst
    by_cases e : even n r = true
    · rw [if_pos e]
      exact ⟨h1, h2⟩
    · rw [if_neg e]
      unfold put
      dsimp only
      have m1 := Int.mul_le_mul h1 h1 (by omega) (by omega)
      have m2 := Int.mul_le_mul h1 h2 (by omega) (by omega)
      have m3 := Int.mul_nonneg (Int.mul_nonneg (show 0 ≤ n by omega) (show 0 ≤ (fst1 n r).2 by omega)) (show 0 ≤ (fst1 n r).2 by omega)
      have m4 : (fst1 n r).2 * (fst1 n r).1 = (fst1 n r).1 * (fst1 n r).2 := Int.mul_comm _ _
      omega
  refine ⟨?_, q1.2⟩
  rcases Int.lt_or_le (lst n r).1 2 with z | z
  · have e1 : (lst n r).1 = 1 := by omega
    rw [e1] at h
    have m3 := Int.mul_le_mul (Int.mul_le_mul hn q1.2 (by omega) (by omega)) q1.2 (by omega) (by
      have := Int.mul_nonneg (show 0 ≤ n by omega) (show 0 ≤ (lst n r).2 by omega)
      omega)
    omega
  · exact z
end
/-! ### none is less -/
theorem zz_id {n d m e : Int} (u v : Int) (h : e * d = n - m * m) : (d * u - m * v) * (d * u - m * v) - n * (v * v) = d * (d * (u * u) - 2 * m * u * v - e * (v * v)) := by
  have : n = e * d + m * m := by omega
  subst this
  grind
theorem zz_up {n d m e v : Int} (h : e * d = n - m * m) (z : n * (v * v) - d ≤ (m * v - d) * (m * v - d)) : d * (e * (v * v) + 2 * m * v) ≤ d * (d + 1) := by
  have : n = e * d + m * m := by omega
  subst this
  have e1 : (e * d + m * m) * (v * v) - d = d * (e * (v * v)) + m * m * (v * v) - d := by grind
  have e2 : (m * v - d) * (m * v - d) = m * m * (v * v) - d * (2 * m * v) + d * d := by grind
  rw [Int.mul_add, Int.mul_add, Int.mul_one]
  omega
section
variable {n r : Int} (N : Nsq n r) (h1000 : r ≤ 1000)
include N h1000
theorem descent : ∀ (f k : Nat) (x y u v : Int), u + v ≤ f → 1 ≤ u → 0 ≤ v → x = u * pp n r k + v * pa n r k → y = u * qq n r k + v * qa n r k →
    (x * x - n * (y * y) = 1 ∨ x * x - n * (y * y) = -1) → ∃ j, x = pp n r j ∧ y = qq n r j ∧ sd n r (j + 1) = 1
  | 0, k, x, y, u, v, hf, hu, hv, _, _, _ => by omega
  | f + 1, k, x, y, u, v, hf, hu, hv, hx, hy, hN => by
    obtain ⟨n1, n2, n3⟩ := norms N k
    have R := red_at N k
    have R' := red_at N (k + 1)
    have s1 : sm n r (k + 1 + 1) = sa n r (k + 1) * sd n r (k + 1) - sm n r (k + 1) := rfl
    have d1 := R.d1
    have form : x * x - n * (y * y) = sg k * (sd n r (k + 1) * (u * u) - 2 * sm n r (k + 1) * u * v - sd n r k * (v * v)) := by
      rw [hx, hy]
      have : (u * pp n r k + v * pa n r k) * (u * pp n r k + v * pa n r k) - n * ((u * qq n r k + v * qa n r k) * (u * qq n r k + v * qa n r k)) =
        u * u * (pp n r k * pp n r k - n * (qq n r k * qq n r k)) + 2 * u * v * (pp n r k * pa n r k - n * (qq n r k * qa n r k)) + v * v * (pa n r k * pa n r k - n * (qa n r k * qa n r k)) := by grind
      rw [this, n1, n2, n3]
      grind
    have form1 : sd n r (k + 1) * (u * u) - 2 * sm n r (k + 1) * u * v - sd n r k * (v * v) = 1 ∨ sd n r (k + 1) * (u * u) - 2 * sm n r (k + 1) * u * v - sd n r k * (v * v) = -1 := by
      rw [form] at hN
      rcases sg_sq k with e | e <;> rw [e] at hN <;> rcases hN with h | h
      · exact .inl (by omega)
      · exact .inr (by omega)
      · exact .inr (by omega)
      · exact .inl (by omega)
    by_cases hv0 : v = 0
    · subst hv0
      have h1 : sd n r (k + 1) * (u * u) = 1 := by
        have nn := Int.mul_nonneg (show 0 ≤ sd n r (k + 1) by omega) (sqnn u)
        rcases form1 with h | h
        · simpa using h
        · simp at h
          omega
      have hd : sd n r (k + 1) = 1 := Int.eq_one_of_mul_eq_one_right (by omega) h1
      have hu1 : u = 1 := by
        rw [hd, Int.one_mul] at h1
        exact Int.eq_one_of_mul_eq_one_right (by omega) h1
      subst hu1
      exact ⟨k, by rw [hx]; simp, by rw [hy]; simp, hd⟩
    · have hv1 : 1 ≤ v := by omega
      have key : sa n r (k + 1) * v ≤ u := by
        rcases Int.lt_or_le u (sa n r (k + 1) * v) with z | z
        · exfalso
          have El := R.el N
          have pr := R.prod
          have pr' := R'.prod
          have mr := R.mr
          have mr' := R'.mr
          have m1 := R.m1
          have m1' := R'.m1
          have dl' := R'.dl
          have Rdh := R.dh
          have Rdl := R.dl
          have N1 := N.r1
          have alo : sa n r (k + 1) * sd n r (k + 1) ≤ r + sm n r (k + 1) := by
            have h1 := Int.mul_ediv_add_emod (r + sm n r (k + 1)) (sd n r (k + 1))
            have h2 := Int.emod_nonneg (r + sm n r (k + 1)) (show sd n r (k + 1) ≠ 0 by omega)
            have h3 : sd n r (k + 1) * sa n r (k + 1) = sa n r (k + 1) * sd n r (k + 1) := Int.mul_comm _ _
            have h4 : sd n r (k + 1) * ((r + sm n r (k + 1)) / sd n r (k + 1)) = sd n r (k + 1) * sa n r (k + 1) := rfl
            omega
          have hdm : sd n r (k + 1) ≤ r + sm n r (k + 1 + 1) := by
            have := Int.mul_le_mul_of_nonneg_right (sa_pos N (k + 1)) (show 0 ≤ sd n r (k + 1) by omega)
            omega
          have zz : (sd n r (k + 1) * u - sm n r (k + 1) * v) * (sd n r (k + 1) * u - sm n r (k + 1) * v) - n * (v * v) = sd n r (k + 1) * (sd n r (k + 1) * (u * u) - 2 * sm n r (k + 1) * u * v - sd n r k * (v * v)) := by
            exact zz_id u v pr
          have zlow : n * (v * v) - sd n r (k + 1) ≤ (sd n r (k + 1) * u - sm n r (k + 1) * v) * (sd n r (k + 1) * u - sm n r (k + 1) * v) := by
            rcases form1 with h | h <;> rw [h] at zz <;> omega
          -- 2 d is at most r + m' where v is 1
          have two : v = 1 → 2 * sd n r (k + 1) ≤ sa n r (k + 1) * sd n r (k + 1) := fun e => by
            subst e
            exact Int.mul_le_mul_of_nonneg_right (by omega) (by omega)
          have vv : v = 1 ∨ 2 ≤ v := by omega
          generalize sd n r (k + 1 + 1) = D at *
          generalize sm n r (k + 1 + 1) = M at *
          generalize sd n r k = e at *
          generalize sm n r (k + 1) = m at *
          generalize sa n r (k + 1) = a at *
          generalize sd n r (k + 1) = d at *
          clear form form1 hN n1 n2 n3 hx hy R R' zz
          rcases Int.lt_or_le (d * u - m * v) 0 with neg | pos
          · -- below 0
            have up : m * v - d * u ≤ m * v - d := by
              have := Int.mul_le_mul_of_nonneg_left hu (show 0 ≤ d by omega)
              omega
            have sq := sqle (show 0 ≤ m * v - d * u by omega) up
            have h1 : (d * u - m * v) * (d * u - m * v) = (m * v - d * u) * (m * v - d * u) := by grind
            have h2 : d * (e * (v * v) + 2 * m * v) ≤ d * (d + 1) := by
              rw [h1] at zlow
              exact zz_up pr (Int.le_trans zlow sq)
            have h3 : e * (v * v) + 2 * m * v ≤ d + 1 := Int.le_of_mul_le_mul_left h2 (by omega)
            rcases vv with rfl | v2
            · have := two rfl
              simp at h3
              omega
            · have b1 : 2 * 2 ≤ v * v := Int.mul_le_mul v2 v2 (by omega) (by omega)
              have b2 : e * 2 ≤ e * (v * v) := Int.mul_le_mul_of_nonneg_left (by omega) (by omega)
              have b3 : 2 * m * 2 ≤ 2 * m * v := Int.mul_le_mul_of_nonneg_left v2 (by omega)
              omega
          · have up : d * u - m * v ≤ M * v - d := by
              have h0 : d * u ≤ d * (a * v - 1) := Int.mul_le_mul_of_nonneg_left (by omega) (by omega)
              have h1 : M * v = a * d * v - m * v := by rw [s1]; grind
              have h2 : d * (a * v - 1) = a * d * v - d := by grind
              omega
            have sq := sqle pos up
            have h2 : d * (D * (v * v) + 2 * M * v) ≤ d * (d + 1) := by
              have pr2 : D * d = n - M * M := by
                rw [Int.mul_comm]
                exact pr'
              exact zz_up pr2 (Int.le_trans zlow sq)
            have h3 : D * (v * v) + 2 * M * v ≤ d + 1 := Int.le_of_mul_le_mul_left h2 (by omega)
            rcases vv with rfl | v2
            · have := two rfl
              simp at h3
              omega
            · have b1 : 2 * 2 ≤ v * v := Int.mul_le_mul v2 v2 (by omega) (by omega)
              have b2 : D * 2 ≤ D * (v * v) := Int.mul_le_mul_of_nonneg_left (by omega) (by omega)
              have b3 : 2 * M * 2 ≤ 2 * M * v := Int.mul_le_mul_of_nonneg_left v2 (by omega)
              omega
        · exact z
      have a1 := sa_pos N (k + 1)
      have av : v ≤ sa n r (k + 1) * v := by
        have := Int.mul_le_mul_of_nonneg_right a1 (show 0 ≤ v by omega)
        omega
      refine descent f (k + 1) x y v (u - sa n r (k + 1) * v) (by omega) hv1 (by omega) ?_ ?_ hN
      · rw [hx, pp_succ, pa_succ]
        grind
      · rw [hy, qq_succ, qa_succ]
        grind
theorem least_one {x y : Int} (hx : 1 ≤ x) (hy : 1 ≤ y) (h : x * x - n * (y * y) = 1 ∨ x * x - n * (y * y) = -1) : (fst1 n r).2 ≤ y := by
  have N1 := N.r1
  have b : r * y ≤ x := by
    refine le_of_sq (by omega) ?_
    have h1 : (r * r + 1) * (y * y) ≤ n * (y * y) := Int.mul_le_mul_of_nonneg_right (by have := N.lo; omega) (sqnn y)
    have h2 : 1 * 1 ≤ y * y := Int.mul_le_mul hy hy (by omega) (by omega)
    have h3 : (r * y) * (r * y) = r * r * (y * y) := by grind
    have h4 : (r * r + 1) * (y * y) = r * r * (y * y) + y * y := by grind
    omega
  obtain ⟨j, h1, h2, h3⟩ := descent N h1000 (y + (x - r * y)).toNat 0 x y y (x - r * y) (by omega) hy (by omega) (by
    show x = y * r + (x - r * y) * 1
    grind) (by
    show y = y * 1 + (x - r * y) * 0
    grind) h
  have := per_le N h1000 (j := j + 1) (by omega) h3
  rw [h2]
  exact qq_mono N (by omega)
/-- where the round is even no half is the square of such a number -/
theorem barred (he : even n r = true) {h : Int} (h0 : 0 ≤ h) (h2 : 2 * h * h + 1 = (lst n r).1) : (lst n r).2 % (2 * h) ≠ 0 := by
  intro hz
  have nm := lst_norm N h1000
  have ⟨p1, p2⟩ := lst_pos N h1000
  have h1 : 1 ≤ h := by
    rcases Int.lt_or_le h 1 with z | z
    · have : h = 0 := by omega
      subst this
      omega
    · exact z
  obtain ⟨k, hk⟩ : ∃ k, (lst n r).2 = 2 * h * k := ⟨_, (Int.mul_ediv_cancel' (Int.dvd_of_emod_eq_zero hz)).symm⟩
  have k1 : 1 ≤ k := by
    rcases Int.lt_or_le k 1 with z | z
    · have := Int.mul_nonneg (show 0 ≤ 2 * h by omega) (show 0 ≤ -k by omega)
      have : 2 * h * (-k) = - (2 * h * k) := by grind
      omega
    · exact z
  rw [← h2, hk] at nm
  have e1 : 4 * (h * h) * (h * h + 1 - n * (k * k)) = 0 := by grind
  have hh := Int.mul_le_mul h1 h1 (by omega) (by omega)
  have e2 : h * h + 1 - n * (k * k) = 0 := by
    rcases Int.mul_eq_zero.mp e1 with z | z
    · omega
    · exact z
  have c := least_one N h1000 h1 k1 (.inr (by omega))
  have e : lst n r = fst1 n r := by
    unfold lst
    rw [if_pos he]
  rw [← e, hk] at c
  have m := Int.mul_le_mul_of_nonneg_right (show 2 ≤ 2 * h by omega) (show 0 ≤ k by omega)
  omega
end
end OA
set_option Elab.async false
set_option linter.all false
/-! How great the pairs are. -/
namespace OA

/-- below 2 ^ B in size -/
def Bt (B : Nat) (i : Int) : Prop := i.natAbs < 2 ^ B
theorem Bt.mono {A B : Nat} {i : Int} (h : Bt A i) (hb : A ≤ B) : Bt B i := Nat.lt_of_lt_of_le h (Nat.pow_le_pow_right (by omega) hb)
theorem Bt.le {B : Nat} {i j : Int} (h : Bt B j) (h0 : 0 ≤ i) (hij : i ≤ j) : Bt B i := Nat.lt_of_le_of_lt (show i.natAbs ≤ j.natAbs by omega) h
theorem Bt.mul {A B : Nat} {i j : Int} (h : Bt A i) (g : Bt B j) : Bt (A + B) (i * j) := by
  unfold Bt
  rw [Int.natAbs_mul, Nat.pow_add]
  exact Nat.mul_lt_mul'' h g
theorem Bt.add {B : Nat} {i j : Int} (h : Bt B i) (g : Bt B j) : Bt (B + 1) (i + j) := by
  have := Int.natAbs_add_le i j
  unfold Bt at *
  rw [Nat.pow_succ]
  omega
theorem Bt.neg {B : Nat} {i : Int} (h : Bt B i) : Bt B (-i) := by
  unfold Bt at *
  rw [Int.natAbs_neg]
  exact h

/-- the bits that a part takes -/
def gr (a : Int) : Nat := a.toNat.log2 + 1
def wt : List Int → Nat
  | [] => 0
  | a :: l => gr a + wt l
theorem gr_le {a : Int} (h : 0 ≤ a) : a + 1 ≤ ((2 ^ gr a : Nat) : Int) := by
  have := @Nat.lt_log2_self a.toNat
  unfold gr
  omega
theorem gr_mono {a b : Int} (h : a ≤ b) : gr a ≤ gr b := by
  unfold gr
  have h2 : a.toNat ≤ b.toNat := by omega
  by_cases z : a.toNat = 0
  · rw [z]
    have : Nat.log2 0 = 0 := by decide
    omega
  · have h3 : 2 ^ a.toNat.log2 ≤ b.toNat := Nat.le_trans (Nat.log2_self_le z) h2
    have h4 : a.toNat.log2 ≤ b.toNat.log2 := (Nat.le_log2 (by omega)).mpr h3
    omega
theorem back_le : ∀ l : List Int, (∀ a ∈ l, 1 ≤ a) → 1 ≤ (back l).1 ∧ 0 ≤ (back l).2 ∧ (back l).2 ≤ (back l).1 ∧ (back l).1 ≤ ((2 ^ wt l : Nat) : Int)
  | [], _ => by simp [back, wt]
  | a :: l, h => by
    obtain ⟨h1, h2, h3, h4⟩ := back_le l fun x hx => h x (List.mem_cons_of_mem _ hx)
    have a1 := h a List.mem_cons_self
    have g := gr_le (show 0 ≤ a by omega)
    have m1 := Int.mul_le_mul_of_nonneg_right a1 (show 0 ≤ (back l).1 by omega)
    have m2 : (a + 1) * (back l).1 ≤ ((2 ^ gr a : Nat) : Int) * ((2 ^ wt l : Nat) : Int) := Int.mul_le_mul g h4 (by omega) (by omega)
    have e : ((2 ^ wt (a :: l) : Nat) : Int) = ((2 ^ gr a : Nat) : Int) * ((2 ^ wt l : Nat) : Int) := by
      show ((2 ^ (gr a + wt l) : Nat) : Int) = _
      rw [Nat.pow_add, Int.natCast_mul]
    rw [e]
    show 1 ≤ a * (back l).1 + (back l).2 ∧ 0 ≤ (back l).1 ∧ (back l).1 ≤ a * (back l).1 + (back l).2 ∧ a * (back l).1 + (back l).2 ≤ _
    rw [Int.add_mul] at m2
    omega
theorem wt_dropLast : ∀ l : List Int, wt l.dropLast ≤ wt l
  | [] => Nat.le_refl _
  | [a] => Nat.zero_le _
  | a :: b :: l => by
    have := wt_dropLast (b :: l)
    show gr a + wt (b :: l).dropLast ≤ gr a + wt (b :: l)
    omega
/-- the weight of a divisor, the bits of the whole box -/
def gd (R d : Nat) : Nat := (2 * R / d).log2 + 1
def box (R : Nat) : Nat := (R + 1) * ((List.range (2 * R + 1)).map (gd R)).sum
theorem wt_map : ∀ l : List Nat, ∀ f : Nat → Int, wt (l.map f) = (l.map fun k => gr (f k)).sum
  | [], _ => rfl
  | a :: l, f => by
    rw [List.map_cons, List.map_cons, List.sum_cons, ← wt_map l f]
    rfl
theorem sum_mono (f g : Nat → Nat) : ∀ l : List Nat, (∀ x ∈ l, f x ≤ g x) → (l.map f).sum ≤ (l.map g).sum
  | [], _ => Nat.le_refl _
  | a :: l, h => by
    have h1 := h a List.mem_cons_self
    have h2 := sum_mono f g l fun x hx => h x (List.mem_cons_of_mem _ hx)
    rw [List.map_cons, List.map_cons, List.sum_cons, List.sum_cons]
    omega
section
variable {n r : Int} (N : Nsq n r) (h1000 : r ≤ 1000)
include N
theorem sa_le (k : Nat) {R : Nat} (hR : r ≤ R) : sa n r (k + 1) ≤ ((2 * R / (sd n r (k + 1)).toNat : Nat) : Int) := by
  have A := red_at N k
  have d1 := A.d1
  have mr := A.mr
  have e : ((sd n r (k + 1)).toNat : Int) = sd n r (k + 1) := Int.toNat_of_nonneg (by omega)
  rw [Int.natCast_ediv, e]
  show (r + sm n r (k + 1)) / sd n r (k + 1) ≤ _
  exact Int.ediv_le_ediv (by omega) (by push_cast; omega)
include h1000
theorem wt_parts {R : Nat} (hR : r ≤ R) : wt (parts n r) ≤ box R := by
  have nd := codes_nodup N hR (K := per n r) fun k a b => per_not N h1000 a b
  have s1 := sum_le (fun c => gd R (c / (R + 1))) ((R + 1) * (2 * R + 1)) _ nd fun x hx => by
    obtain ⟨k, _, rfl⟩ := List.mem_map.mp hx
    exact code_lt N hR k
  rw [sum_blocks (gd R) (R + 1) (by omega) (2 * R + 1)] at s1
  unfold parts
  rw [wt_map]
  refine Nat.le_trans ?_ s1
  rw [List.map_map]
  refine sum_mono _ _ _ fun k _ => ?_
  show gr (sa n r (k + 1)) ≤ gd R (code R (st n r (k + 1)) / (R + 1))
  rw [code_div N hR k]
  have h := gr_mono (sa_le N k hR)
  have e : gr ((2 * R / (sd n r (k + 1)).toNat : Nat) : Int) = gd R (sd n r (k + 1)).toNat := rfl
  omega
theorem parts_pos : ∀ a ∈ parts n r, 1 ≤ a := fun a ha => by
  obtain ⟨k, _, rfl⟩ := List.mem_map.mp ha
  exact sa_pos N (k + 1)
theorem parts_le : ∀ a ∈ parts n r, a ≤ 2000 := fun a ha => by
  obtain ⟨k, _, rfl⟩ := List.mem_map.mp ha
  have h := sa_le N k (R := 1000) (by omega)
  have : 2 * 1000 / (sd n r (k + 1)).toNat ≤ 2000 := Nat.div_le_self _ _
  omega
theorem per_bound : per n r ≤ 2003002 := by
  obtain ⟨k, a, b, c⟩ := some_one N (R := 1000) (by omega)
  exact Nat.le_trans (per_le N h1000 a c) (Nat.le_trans b (by decide))
theorem first_bt {R : Nat} (hR : r ≤ R) (hR2 : R + 1 ≤ 2 ^ 10) : Bt (box R + 11) (fst1 n r).1 ∧ Bt (box R + 11) (fst1 n r).2 := by
  have p : ∀ a ∈ (parts n r).dropLast, 1 ≤ a := fun a ha => parts_pos N h1000 a ((List.dropLast_sublist _).subset ha)
  obtain ⟨h1, h2, h3, h4⟩ := back_le _ p
  have w : wt (parts n r).dropLast ≤ box R := Nat.le_trans (wt_dropLast _) (wt_parts N h1000 hR)
  have w2 : 2 ^ wt (parts n r).dropLast ≤ 2 ^ box R := Nat.pow_le_pow_right (by omega) w
  rw [first_back]
  dsimp only
  have X : (back (parts n r).dropLast).1.natAbs ≤ 2 ^ box R := by omega
  have N1 := N.r1
  have hx : r * (back (parts n r).dropLast).1 + (back (parts n r).dropLast).2 ≤ (r + 1) * (back (parts n r).dropLast).1 := by
    rw [Int.add_mul]
    omega
  have h0 := Int.mul_nonneg (show 0 ≤ r by omega) (show 0 ≤ (back (parts n r).dropLast).1 by omega)
  have hy : (r + 1) * (back (parts n r).dropLast).1 ≤ 1024 * (back (parts n r).dropLast).1 := Int.mul_le_mul_of_nonneg_right (by omega) (by omega)
  have e : (2 : Nat) ^ (box R + 11) = 2048 * 2 ^ box R := by
    rw [Nat.pow_add, Nat.mul_comm]
  have pos : 0 < 2 ^ box R := Nat.two_pow_pos _
  unfold Bt
  rw [e]
  omega
end
theorem put_norm {n : Int} {x y : Int × Int} {a b : Int} (hx : x.1 * x.1 - n * x.2 * x.2 = a) (hy : y.1 * y.1 - n * y.2 * y.2 = b) : (put n x y).1 * (put n x y).1 - n * (put n x y).2 * (put n x y).2 = a * b := by
  unfold put
  dsimp only
  rw [← hx, ← hy]
  grind
/-- an answer -/
structure Ans (n : Int) (x : Int × Int) : Prop where
  a0 : 1 ≤ x.1
  b0 : 0 ≤ x.2
  nm : x.1 * x.1 - n * x.2 * x.2 = 1
theorem Ans.one {n : Int} : Ans n (1, 0) := ⟨Int.le_refl _, Int.le_refl _, by simp⟩
theorem Ans.le {n : Int} {x : Int × Int} (hn : 2 ≤ n) (h : Ans n x) : x.2 ≤ x.1 := by
  refine le_of_sq (by have := h.a0; omega) ?_
  have h1 := h.nm
  have h2 : 1 * (x.2 * x.2) ≤ n * (x.2 * x.2) := Int.mul_le_mul_of_nonneg_right (by omega) (sqnn _)
  rw [Int.mul_assoc] at h1
  omega
theorem Ans.put {n : Int} {x y : Int × Int} (hn : 2 ≤ n) (h : Ans n x) (g : Ans n y) : Ans n (put n x y) := by
  have h1 := h.a0
  have h2 := h.b0
  have g1 := g.a0
  have g2 := g.b0
  have m1 := Int.mul_le_mul h1 g1 (by omega) (by omega)
  have m2 := Int.mul_nonneg (Int.mul_nonneg (show 0 ≤ n by omega) h2) g2
  have m3 := Int.mul_nonneg (show 0 ≤ x.1 by omega) g2
  have m4 := Int.mul_nonneg h2 (show 0 ≤ y.1 by omega)
  refine ⟨?_, ?_, by rw [put_norm h.nm g.nm]; rfl⟩
  · show 1 ≤ x.1 * y.1 + n * x.2 * y.2
    omega
  · show 0 ≤ x.1 * y.2 + x.2 * y.1
    omega
theorem put_le {n : Int} {x y : Int × Int} {a b : Int} (hn : 2 ≤ n) (hx1 : 0 ≤ x.1) (hx2 : 0 ≤ x.2) (hy1 : 0 ≤ y.1) (hy2 : 0 ≤ y.2) (hx : n * x.2 * x.2 ≤ 4 * (x.1 * x.1)) (hy : n * y.2 * y.2 ≤ 4 * (y.1 * y.1)) :
    (put n x y).1 ≤ 5 * (x.1 * y.1) := by
  have n1 : n * x.2 * y.2 ≤ 4 * (x.1 * y.1) := by
    refine le_of_sq (by have := Int.mul_nonneg hx1 hy1; omega) ?_
    have m := Int.mul_le_mul hx hy (Int.mul_nonneg (Int.mul_nonneg (by omega) hy2) hy2) (by have := sqnn x.1; omega)
    have e1 : n * x.2 * y.2 * (n * x.2 * y.2) = n * x.2 * x.2 * (n * y.2 * y.2) := by grind
    have e2 : 4 * (x.1 * y.1) * (4 * (x.1 * y.1)) = 4 * (x.1 * x.1) * (4 * (y.1 * y.1)) := by grind
    omega
  show x.1 * y.1 + n * x.2 * y.2 ≤ _
  omega
theorem Bt.five {A : Nat} {i : Int} (h : Bt A i) : Bt (A + 3) (5 * i) := by
  have := Bt.mul (A := 3) (i := 5) (show (5 : Int).natAbs < 2 ^ 3 by decide) h
  rw [Nat.add_comm]
  exact this
theorem Ans.put_bt {n : Int} {x y : Int × Int} {A B : Nat} (hn : 2 ≤ n) (h : Ans n x) (g : Ans n y) (ha : Bt A x.1) (hb : Bt B y.1) : Bt (A + B + 3) (OA.put n x y).1 := by
  have h1 := h.nm
  have h2 := g.nm
  have h3 := h.a0
  have h4 := g.a0
  have h5 := sqnn x.1
  have h6 := sqnn y.1
  have P := Ans.put hn h g
  exact Bt.le (ha.mul hb).five (by have := P.a0; omega) (put_le (a := 0) (b := 0) hn (by omega) h.b0 (by omega) g.b0 (by omega) (by omega))
section
variable {n r : Int} (N : Nsq n r) (h1000 : r ≤ 1000)
include N
theorem n_two : 2 ≤ n := by
  have h1 := N.r1
  have h2 := N.lo
  have h3 := Int.mul_le_mul h1 h1 (by omega) (by omega)
  omega
include h1000
theorem lst_ans : Ans n (lst n r) := ⟨by have := (lst_pos N h1000).1; omega, by have := (lst_pos N h1000).2; omega, lst_norm N h1000⟩
theorem lst_bt {R : Nat} (hR : r ≤ R) (hR2 : R + 1 ≤ 2 ^ 10) : Bt (2 * box R + 25) (lst n r).1 ∧ Bt (2 * box R + 25) (lst n r).2 := by
  obtain ⟨b1, b2⟩ := first_bt N h1000 hR hR2
  have A := lst_ans N h1000
  have key : Bt (2 * box R + 25) (lst n r).1 := by
    unfold lst
    by_cases e : even n r = true
    · rw [if_pos e]
      exact b1.mono (by omega)
    · rw [if_neg e]
      have nm := first_norm N h1000
      rw [if_neg e] at nm
      obtain ⟨p1, p2⟩ := first_pos N h1000
      have hh := Int.mul_le_mul p1 p1 (by omega) (by omega)
      have h := put_le (a := 0) (b := 0) (n_two N) (x := fst1 n r) (y := fst1 n r) (by omega) (by omega) (by omega) (by omega) (by omega) (by omega)
      refine ((b1.mul b1).five.mono (show _ ≤ 2 * box R + 25 by omega)).le ?_ h
      have := A.a0
      unfold lst at this
      rw [if_neg e] at this
      omega
  exact ⟨key, key.le A.b0 (A.le (n_two N))⟩
end
/-! ### the answers by their numbers -/
def ans (n r : Int) : Nat → Int × Int
  | 0 => (1, 0)
  | k + 1 => put n (ans n r k) (lst n r)
section
variable {n r : Int} (N : Nsq n r) (h1000 : r ≤ 1000)
include N h1000
theorem ans_ans : ∀ k, Ans n (ans n r k)
  | 0 => .one
  | k + 1 => (ans_ans k).put (n_two N) (lst_ans N h1000)
theorem ans_rise (k : Nat) : (ans n r k).2 < (ans n r (k + 1)).2 := by
  have A := ans_ans N h1000 k
  have ⟨p1, p2⟩ := lst_pos N h1000
  show _ < (ans n r k).1 * (lst n r).2 + (ans n r k).2 * (lst n r).1
  have m1 := Int.mul_le_mul A.a0 p2 (by omega) (by have := A.a0; omega)
  have m2 := Int.mul_le_mul_of_nonneg_left (show 1 ≤ (lst n r).1 by omega) A.b0
  omega
theorem ans_lt {i j : Nat} (h : i < j) : (ans n r i).2 < (ans n r j).2 := by
  obtain ⟨t, rfl⟩ : ∃ t, j = i + t + 1 := ⟨j - i - 1, by omega⟩
  clear h
  induction t with
  | zero => exact ans_rise N h1000 i
  | succ t ih => exact Int.lt_trans ih (ans_rise N h1000 _)
theorem ans_put (i : Nat) : ∀ j, put n (ans n r i) (ans n r j) = ans n r (i + j)
  | 0 => by
    show put n (ans n r i) (1, 0) = _
    unfold put
    simp
  | j + 1 => by
    show put n (ans n r i) (put n (ans n r j) (lst n r)) = put n (ans n r (i + j)) (lst n r)
    rw [← ans_put i j]
    unfold put
    refine Prod.ext ?_ ?_
    · dsimp only
      grind
    · dsimp only
      grind
theorem ans_bt {R : Nat} (hR : r ≤ R) (hR2 : R + 1 ≤ 2 ^ 10) : ∀ k, Bt (k * (2 * box R + 28) + 1) (ans n r k).1 ∧ Bt (k * (2 * box R + 28) + 1) (ans n r k).2
  | 0 => ⟨by show (1 : Int).natAbs < 2 ^ (0 * _ + 1); rw [Nat.zero_mul]; decide, by show (0 : Int).natAbs < 2 ^ (0 * _ + 1); rw [Nat.zero_mul]; decide⟩
  | k + 1 => by
    have ih := ans_bt hR hR2 k
    have A := ans_ans N h1000 (k + 1)
    have b := (ans_ans N h1000 k).put_bt (n_two N) (lst_ans N h1000) ih.1 (lst_bt N h1000 hR hR2).1
    have b' : Bt ((k + 1) * (2 * box R + 28) + 1) (ans n r (k + 1)).1 := Bt.mono b (by
      have e : (k + 1) * (2 * box R + 28) = k * (2 * box R + 28) + (2 * box R + 28) := Nat.succ_mul _ _
      omega)
    exact ⟨b', b'.le A.b0 (A.le (n_two N))⟩
end
/-- is it a square (a natural one) -/
def sqN (n : Nat) : Bool := isqN n * isqN n == n
theorem box_1000 : box 1000 = 3998995 := by decide +kernel
theorem box_54 : box 54 = 11715 := by decide +kernel
end OA
set_option Elab.async false
set_option linter.all false
set_option maxRecDepth 100000
set_option maxHeartbeats 4000000
/-! Small rules over the hand layer: great products, heaps that grow. -/
namespace OA
open PySem PySem.Spec PyProof.Rows L2

/-! ### heaps that grow -/
theorem same_upd {H : Hp} {p : Addr} {o : HO} (h : H p = none) : Same H (upd H p o) := fun b x e => by
  rw [upd_ne (ne_of_none e h)]
  exact e
theorem same_up2 {H H' : Hp} {p : Addr} {o : HO} (s : Same H H') (h : H' p = none) : Same H (upd H' p o) := s.trans (same_upd h)
theorem SqT.at {K : PySem.W.Frag} {H : Hp} {p : Addr} {xs : List V} (h : H p = some (.tup xs)) : SqT K H p xs := .inl (.inl h)
theorem SqL.at {K : PySem.W.Frag} {H : Hp} {p : Addr} {xs : List V} (h : H p = some (.lst xs)) : SqL K H p xs := .inl (.inl h)
/-- a value is the pair of these numbers -/
def Pr (H : Hp) (v : V) (x : Int × Int) : Prop := ∃ p, v = .ref p ∧ H p = some (.tup [.int x.1, .int x.2])
theorem Pr.same {H H' : Hp} {v : V} {x : Int × Int} (h : Pr H v x) (s : Same H H') : Pr H' v x := let ⟨p, e, q⟩ := h; ⟨p, e, s _ _ q⟩

/-! ### products of great numbers -/
/-- * of two factors of together at most 2 ^ 27 bits -/
def CMulB (i j : Int) : Prop := ∃ A B : Nat, Bt A i ∧ Bt B j ∧ A + B ≤ 134217728
theorem bits_of_bt {A : Nat} {i : Int} (h : Bt A i) : Builtin.Int.intBits i ≤ A := PyProof.Rows.intBits_le h
theorem bt_bits {i : Int} (h : Builtin.Int.intBits i ≤ 1048576) : Bt 1050000 i := by
  unfold Builtin.Int.intBits at h
  by_cases z : i = 0
  · subst z
    exact Nat.two_pow_pos _
  · rw [if_neg (by simpa using z)] at h
    have h1 : i.natAbs < 2 ^ (i.natAbs.log2 + 1) := Nat.lt_log2_self
    exact Bt.mono (A := i.natAbs.log2 + 1) h1 (by omega)
theorem CMulB.ok {i j : Int} (h : CMulB i j) : IntMulOk i j := by
  obtain ⟨A, B, ha, hb, hs⟩ := h
  have h1 := bits_of_bt ha
  have h2 := bits_of_bt hb
  have e : bitsLine = 134217728 := by decide
  unfold IntMulOk
  intro z
  rw [Bool.and_eq_true] at z
  have z2 := z.2
  unfold Builtin.Int.intTooBig at z2
  have z3 := of_decide_eq_true z2
  rw [e] at z3
  omega
section
variable {X : Cx}
theorem dp_ints_all {K : PySem.W.Frag} {H : Hp} : ∀ ns : List Int, DpAll K H (ns.map V.int) (ns.map PyData.int)
  | [] => .nil
  | _ :: r => .cons (.int _) (dp_ints_all r)
theorem dp_bls_all {K : PySem.W.Frag} {H : Hp} : ∀ ns : List Bool, DpAll K H (ns.map V.bl) (ns.map PyData.bool)
  | [] => .nil
  | _ :: r => .cons (.bl _) (dp_bls_all r)
theorem dp_ints {K : PySem.W.Frag} {H : Hp} {a : Addr} {ns : List Int} (h : SqL K H a (ns.map V.int)) : Dp K H (.ref a) (.list (ns.map PyData.int)) := .lst h (dp_ints_all ns)
theorem dp_bls {K : PySem.W.Frag} {H : Hp} {a : Addr} {ns : List Bool} (h : SqL K H a (ns.map V.bl)) : Dp K H (.ref a) (.list (ns.map PyData.bool)) := .lst h (dp_bls_all ns)
def dPair (x : Int × Int) : PyData := .tuple [.int x.1, .int x.2]
theorem dp_pair {K : PySem.W.Frag} {H : Hp} {a : Addr} {x y : Int} (h : SqT K H a [.int x, .int y]) : Dp K H (.ref a) (dPair (x, y)) := .tup h (.cons (.int _) (.cons (.int _) .nil))
theorem sh_pair (x : Int × Int) : SeqAt.shaped (dPair x) = true := rfl
theorem lay_ints : ∀ ns : List Int, PyData.canLayAll0 (ns.map PyData.int) = true
  | [] => rfl
  | n :: r => by
    rw [List.map_cons, PyData.canLayAll0, lay_ints r]
    rfl
theorem depth_ints : ∀ ns : List Int, PyData.depthAll (ns.map PyData.int) = 0
  | [] => rfl
  | n :: r => by
    rw [List.map_cons, PyData.depthAll, depth_ints r]
    rfl
theorem lay_bls : ∀ ns : List Bool, PyData.canLayAll0 (ns.map PyData.bool) = true
  | [] => rfl
  | n :: r => by
    rw [List.map_cons, PyData.canLayAll0, lay_bls r]
    rfl
theorem depth_bls : ∀ ns : List Bool, PyData.depthAll (ns.map PyData.bool) = 0
  | [] => rfl
  | n :: r => by
    rw [List.map_cons, PyData.depthAll, depth_bls r]
    rfl
theorem sh_ints (ns : List Int) : SeqAt.shaped (.list (ns.map PyData.int)) = true := by
  unfold SeqAt.shaped
  rw [PyData.canLay0, lay_ints, PyData.depth, depth_ints]
  rfl
theorem sh_bls (ns : List Bool) : SeqAt.shaped (.list (ns.map PyData.bool)) = true := by
  unfold SeqAt.shaped
  rw [PyData.canLay0, lay_bls, PyData.depth, depth_bls]
  rfl
theorem sh_parts (r : Int) (ns : List Int) : SeqAt.shaped (.tuple [.int r, .list (ns.map PyData.int)]) = true := by
  unfold SeqAt.shaped
  simp only [PyData.canLay0, PyData.canLayAll0, lay_ints, PyData.depth, PyData.depthAll, depth_ints]
  rfl
theorem eqv_pair (x y : Int × Int) : PyData.eqv (dPair x) (dPair y) = decide (x = y) := by
  have e : PyData.eqv (dPair x) (dPair y) = ((x.1 == y.1) && ((x.2 == y.2) && true)) := rfl
  rw [e]
  obtain ⟨a, b⟩ := x
  obtain ⟨c, d⟩ := y
  by_cases h1 : a = c
  · by_cases h2 : b = d
    · subst h1 h2
      simp
    · rw [decide_eq_false (fun z => h2 (Prod.mk.inj z).2)]
      simp [h2]
  · rw [decide_eq_false (fun z => h1 (Prod.mk.inj z).1)]
    simp [h1]
theorem eqv_ints : ∀ ns ms : List Int, PyData.eqvAll (ns.map PyData.int) (ms.map PyData.int) = decide (ns = ms)
  | [], [] => rfl
  | [], _ :: _ => rfl
  | _ :: _, [] => rfl
  | a :: r, b :: t => by
    have e : PyData.eqvAll ((a :: r).map PyData.int) ((b :: t).map PyData.int) = ((a == b) && PyData.eqvAll (r.map PyData.int) (t.map PyData.int)) := rfl
    rw [e, eqv_ints r t]
    by_cases h : a = b
    · subst h
      simp
    · rw [decide_eq_false (fun z => h (List.cons.inj z).1)]
      simp [h]
theorem eqv_ilist (ns ms : List Int) : PyData.eqv (.list (ns.map PyData.int)) (.list (ms.map PyData.int)) = decide (ns = ms) := by
  rw [PyData.eqv]
  exact eqv_ints ns ms
theorem eqv_bls : ∀ ns ms : List Bool, PyData.eqvAll (ns.map PyData.bool) (ms.map PyData.bool) = decide (ns = ms)
  | [], [] => rfl
  | [], _ :: _ => rfl
  | _ :: _, [] => rfl
  | a :: r, b :: t => by
    have e : PyData.eqvAll ((a :: r).map PyData.bool) ((b :: t).map PyData.bool) = ((a == b) && PyData.eqvAll (r.map PyData.bool) (t.map PyData.bool)) := rfl
    rw [e, eqv_bls r t]
    by_cases h : a = b
    · subst h
      simp
    · rw [decide_eq_false (fun z => h (List.cons.inj z).1)]
      simp [h]
theorem eqv_blist (ns ms : List Bool) : PyData.eqv (.list (ns.map PyData.bool)) (.list (ms.map PyData.bool)) = decide (ns = ms) := by
  rw [PyData.eqv]
  exact eqv_bls ns ms
theorem alike_ints (ns : List Int) : PySem.W.AlikeAll (ns.map PyData.int) := by
  refine ⟨fun x hx y hy => ?_, fun x hx => ?_⟩
  · obtain ⟨i, _, rfl⟩ := List.mem_map.mp hx
    obtain ⟨j, _, rfl⟩ := List.mem_map.mp hy
    rfl
  · obtain ⟨i, _, rfl⟩ := List.mem_map.mp hx
    exact fun z => nomatch z
/-- min of a tuple of whole numbers -/
theorem call_minT (hc : X.calm = true) (hu : X.A.units + 64 < cLine) : CallR X (.builtin "min") (fun xs H Q => ∃ p n ns, xs = [.ref p] ∧ SqT X.K H p ((n :: ns).map V.int) ∧ Q (.int (ns.foldl min n)) H) := by
  intro pins s σ H xs us Q I r h
  obtain ⟨p, n, ns, rfl, hT, q⟩ := h
  obtain ⟨its, rv, hl, _⟩ := I.tuple hT
  rw [Vals.ref1 r]
  obtain ⟨as, hr⟩ := Dp.readsAll I _ _ _ (dp_ints_all (K := X.K) (H := H) (n :: ns)) rv
  refine PySem.W.min_tuple_data (vs := its.toArray) (x := .int n) (xs := ns.map .int) (as := as) (I.ok.hd hc) hl (by simpa using hr) (alike_ints (n :: ns)) (by
    have := depth_ints (n :: ns)
    rw [List.map_cons] at this
    rw [this]
    omega) fun i v h' tk bs hv rd hk => ?_
  rw [PySem.W.minD_ints] at rd
  cases rd
  exact ⟨.int _, H, I.kept hk, ⟨_, rfl⟩, q⟩
theorem op_mulB : OpR X (binaryOp .Mult) (rI CMulB fun i j => .int (i * j)) := opI fun _ _ _ _ _ _ _ hc q => mul_int q hc.ok
end
end OA
set_option Elab.async false
set_option linter.all false
set_option maxRecDepth 100000
set_option maxHeartbeats 4000000
/-! Division of great numbers; how often a bool stands in a list of bools. -/
namespace OA
open PySem PySem.Spec PyProof.Rows L2

/-! ### nobody looks on when _pylong comes in -/
def noB (K : PySem.W.Frag) (a : Addr) (x : Str) : Bool := match PySem.W.nsIn K a x with
  | some none => true
  | _ => false
def keysB (K : PySem.W.Frag) (a : Addr) : Bool := match K.lookup a with
  | some ⟨_, _, .dict es _, _⟩ => es.toList.all fun e => match e.key with
    | .str _ _ => true
    | _ => false
  | _ => false
def bltB (K : PySem.W.Frag) : Bool := match PySem.W.nsIn K mainGlobals "__builtins__" with
  | some (some (.ref bm)) => match K.lookup bm with
    | some ⟨.type c, some d, _, _⟩ => decide (c = "module") && decide (d = builtinsNs)
    | _ => false
  | _ => false
def seerB (K : PySem.W.Frag) : Bool := noB K cStatics "sys.audit-hooks" && (noB K cStatics "sys.dict" && (noB K sysModules "_pylong" && (keysB K sysModules && bltB K)))
theorem ns_at {K : PySem.W.Frag} {h : Heap} {a : Addr} {m : Str → Option Value} {x : Str} {r : Option Value} (X : K.In h) (G : h.Ns a m) (e : PySem.W.nsIn K a x = some r) : m x = r := by
  obtain ⟨o, es, ep, ho, hd, _, hf⟩ := G
  rw [← hf]
  unfold PySem.W.nsIn at e
  cases q : K.lookup a with
  | none =>
    rw [q] at e
    cases e
  | some u =>
    have hu := X _ _ q
    rw [ho] at hu
    cases hu
    obtain ⟨c, d, dat, sl⟩ := o
    cases hd
    rw [q] at e
    dsimp only at e
    unfold nsFind findBy
    rw [← Array.find?_toList]
    cases z : es.toList.find? (fun e => e.key.isStr x) with
    | none =>
      rw [z] at e
      dsimp only at e
      by_cases hz : es.toList.any (·.refKey) = true
      · rw [if_pos hz] at e
        cases e
      · rw [if_neg hz] at e
        cases e
        rfl
    | some y =>
      rw [z] at e
      cases e
      rfl
theorem no_at {K : PySem.W.Frag} {h : Heap} {a : Addr} {m : Str → Option Value} {x : Str} (X : K.In h) (G : h.Ns a m) (e : noB K a x = true) : m x = none := by
  unfold noB at e
  split at e
  · rename_i q
    exact ns_at X G q
  · cases e
theorem keys_ns {K : PySem.W.Frag} {h : Heap} {a : Addr} (X : K.In h) (e : keysB K a = true) : ∃ m, h.Ns a m := by
  unfold keysB at e
  split at e
  · rename_i c d es ep sl q
    refine ⟨nsFind es, _, es, ep, X _ _ q, rfl, fun y hy => ?_, fun _ => rfl⟩
    have z := List.all_eq_true.mp e y (by simpa using hy)
    split at z
    · rename_i n t q
      exact ⟨n, t, q⟩
    · cases z
  · cases e
theorem seer_of {K : PySem.W.Frag} {mg : Str → Option Value} {base : Heap} (e : seerB K = true) (M : Mod K mg base) : base.NoSeer := by
  obtain ⟨h1, e⟩ := He.ba e
  obtain ⟨h2, e⟩ := He.ba e
  obtain ⟨h3, e⟩ := He.ba e
  obtain ⟨h4, h5⟩ := He.ba e
  obtain ⟨mc, nc, _⟩ := M.nolimit
  obtain ⟨mm, nm⟩ := keys_ns M.kin h4
  refine ⟨⟨mc, nc, no_at M.kin nc h1, no_at M.kin nc h2⟩, ⟨mm, nm, no_at M.kin nm h3⟩, M.blt, ?_⟩
  unfold bltB at h5
  split at h5
  · rename_i bm q
    have g := ns_at M.kin M.glob q
    split at h5
    · rename_i c d dat sl q2
      obtain ⟨a, b⟩ := He.ba h5
      have ec := of_decide_eq_true a
      have ed := of_decide_eq_true b
      subst ec ed
      exact ⟨mg, bm, _, M.glob, g, M.kin _ _ q2, rfl, rfl⟩
    · cases h5
  · cases h5
/-- what stands behind a division by the module -/
structure Seer (P : Program) (K : PySem.W.Frag) : Prop where
  tree : P.given.tree = none
  see : seerB K = true
section
variable {X : Cx}
theorem op_fdivP {k : Nat} (S : Seer X.prog X.K) (hr : Room k X.A) (hk : 32 ≤ k) (hs : X.stack = X.env :: X.outer) (hg : X.env.scope.isGenerator = false) (hc : X.env.scope.isCoroutine = false) :
    OpR X (binaryOp .FloorDiv) (rI (fun _ j => 0 < j) fun i j => .int (i / j)) := by
  intro pins s σ H x y v u Q I rx ry h
  obtain ⟨i, j, rfl, rfl, c, q⟩ := h
  obtain ⟨t, rfl⟩ := rx
  obtain ⟨t', rfl⟩ := ry
  have jp : 0 < j := c
  have room : PylongRoom (model X.prog X.w) X.A s := by
    refine PylongRoom.of I.nolimit ?_ (SeerAt.of ((seer_of S.see I.mod).keeps I.bk) S.tree (I.ok.frames.trans (by rw [hs])) hg hc I.ok.blt I.ok.glob)
    have d := hr.dp
    have e : Builtin.pylongFrames = 100 := rfl
    omega
  refine floordiv_int (by omega) ?_ (.inr room)
  rw [Int.fdiv_eq_ediv_of_nonneg i (by omega)]
  exact ⟨.int (i / j), H, I.tok _, ⟨_, rfl⟩, q⟩
/-- a list's count of a bool among bools -/
def rCntB (K : PySem.W.Frag) : V → List V → Hp → VK → Prop := fun x xs H Q => ∃ (p : Addr) (ns : List Bool) (b : Bool), x = .ref p ∧ xs = [.bl b] ∧ SqL K H p (ns.map V.bl) ∧ Q (.int (ns.count b : Nat)) H
theorem vals_bls : ∀ {ns : List Bool} {its : List Value}, Vals (ns.map V.bl) its → its = ns.map Value.bool
  | [], _, .nil => rfl
  | b :: r, _, .cons h t => by
    rw [vals_bls t]
    cases h
    rfl
def isB (b : Bool) (v : Value) : Bool := match v with
  | .bool c => c == b
  | _ => false
theorem mt_lcountB : MtR X "list.count" (rCntB X.K) := by
  intro pins s σ H x xs v us Q I rx rxs h
  obtain ⟨p, ns, b, rfl, rfl, hs, q⟩ := h
  cases rx
  obtain ⟨u, rfl, ru⟩ := rxs.one
  cases ru
  obtain ⟨its, rv, ⟨⟨cls, dd, data, sl⟩, n, ho, hc, hdn, hd⟩, hlen⟩ := I.list hs
  dsimp only at hc hd
  subst hc hd
  have ei := vals_bls rv
  subst ei
  refine call_meets PySem.F.slot_list_count ⟨_, ho, rfl⟩ PySem.F.entry_list_count (PySem.F.args_list_count_2 _ _)
    (SeqAt.list_countAt p _ n dd sl (.bool b) (isB b)) ⟨ho, fun y hy => ?_, ?_⟩
  · obtain ⟨c, _, rfl⟩ := List.mem_map.mp (List.mem_toArray.mp hy)
    exact SeqAt.EqAt.bool_bool c b
  · have ec : (ns.map Value.bool).countP (isB b) = ns.count b := by
      rw [List.countP_map]
      rfl
    refine ⟨.int (ns.count b : Nat), H, I.tok _, ⟨s.toks, ?_⟩, q⟩
    show Value.int (((ns.map Value.bool).countP (isB b) : Nat) : Int) s.toks = _
    rw [ec]
end
end OA
set_option Elab.async false
set_option linter.all false
set_option maxRecDepth 100000
set_option maxHeartbeats 4000000
/-! A loop over enumerate, a list built over zip, a reading that is chosen when it is used. -/
namespace OA
open PySem PySem.Spec PyProof.Rows L2
theorem pe_or2 {X : Cx} {e : Expr} {t u : TE} (a : PE X e t) (b : PE X e u) : PE X e (fun σ H Q => t σ H Q ∨ u σ H Q) :=
  ⟨fun pins s σ H Q I h => h.elim (a.run pins s σ H Q I) (b.run pins s σ H Q I)⟩
theorem pg_tupB {X : Cx} {K : PySem.W.Frag} {es : List Expr} {k : Nat} {t : TGs} {n : Nat} {pos : Pos} (hK : X.K = K) (hc : X.calm = true) (h : PGs X es t)
    (hn : (assignEach es X.env).length = n := by rfl) (hst : (assignEach es X.env).findIdx? (·.1) = none := by rfl) : PG X (.Tuple es k pos) (gTup K n t) := by
  subst hK
  exact pg_tup hc h hn hst
theorem for_enum {K : PySem.W.Frag} {a : Addr} {xs : List V} {g : TG} {tb : TS} {D : Ends} {σ : L2.St} {H : Hp} (Pv : Nat → L2.St → Hp → Prop) (h0 : Pv 0 σ H) (hl : ∀ i σ H, Pv i σ H → SqL K H a xs)
    (hs : ∀ (i : Nat) (x : V) (t : Addr) (σ : L2.St) (H : Hp), xs[i]? = some x → Pv i σ H → H t = none → g (.ref t) σ (upd H t (.tup [.int (i : Nat), x])) fun σ2 H2 => tb { D with nx := Pv (i + 1), ct := Pv (i + 1), bk := D.nx } σ2 H2)
    (hd : ∀ σ H, Pv xs.length σ H → D.nx σ H) :
    ∃ W : Nat → Nat → L2.St → Hp → Prop, (∃ m, W 0 m σ H) ∧ ∀ i m σ H, W i m σ H →
      ((Ite K a).stop i H ∧ D.nx σ H) ∨ ((Ite K a).go i H ∧ ∃ N : L2.St → Hp → Prop, (∀ σ' H', N σ' H' → ∃ m', m' < m ∧ W (i + 1) m' σ' H') ∧ ∀ v H', (Ite K a).yld i H v H' → g v σ H' fun σ2 H2 => tb { D with nx := N, ct := N, bk := D.nx } σ2 H2) := by
  refine ⟨fun i m σ H => i + m = xs.length ∧ Pv i σ H, ⟨xs.length, by omega, h0⟩, fun i m σ H w => ?_⟩
  have q := hl i σ H w.2
  cases m with
  | zero =>
    have e : i = xs.length := by omega
    subst e
    exact .inl ⟨⟨xs, q, Nat.le_refl _⟩, hd σ H w.2⟩
  | succ m =>
    have e := List.getElem?_eq_getElem (show i < xs.length by omega)
    refine .inr ⟨⟨xs, _, q, e⟩, Pv (i + 1), fun σ' H' p => ⟨m, by omega, by omega, p⟩, fun v H' y => ?_⟩
    obtain ⟨t, x, rfl, n, rfl, f⟩ := y
    exact hs i x t σ H (f xs q) w.2 n
theorem lc_zip {K : PySem.W.Frag} {a b : Addr} {xs ys : List V} {g : TG} {tt : TT} {te : TE} {vs : List Nat} {σ : L2.St} {H1 : Hp} {D : Addr} {Qd : Hp → Prop} (hl : xs.length = ys.length) (Pv : Nat → Hp → Prop) (h0 : Pv 0 (upd H1 D (.lst [])))
    (hq : ∀ i H, Pv i H → SqL K H a xs ∧ SqL K H b ys)
    (hs : ∀ (i : Nat) (x y : V) (t : Addr) (H : Hp), xs[i]? = some x → ys[i]? = some y → Pv i H → H t = none → g (.ref t) (wipe σ vs) (upd H t (.tup [x, y])) fun σ2 H2 => wipe σ2 vs = wipe σ vs ∧ tt σ2 H2 fun b H3 =>
      if b = true then te σ2 H3 fun y H4 => ∃ acc, H4 D = some (.lst acc) ∧ acc.length < sizeLine ∧ Pv (i + 1) (upd H4 D (.lst (acc ++ [y]))) else Pv (i + 1) H3) (hd : ∀ H, Pv xs.length H → Qd H) :
    ∃ W : Nat → Nat → Hp → Prop, (∃ m, W 0 m (upd H1 D (.lst []))) ∧ ∀ i m H, W i m H →
      ((Itz K a b).stop i H ∧ Qd H) ∨ ((Itz K a b).go i H ∧ ∃ Nx : Hp → Prop, (∀ H', Nx H' → ∃ m', m' < m ∧ W (i + 1) m' H') ∧ ∀ x H', (Itz K a b).yld i H x H' → g x (wipe σ vs) H' fun σ2 H2 => wipe σ2 vs = wipe σ vs ∧ tt σ2 H2 fun b H3 =>
        if b = true then te σ2 H3 fun y H4 => ∃ acc, H4 D = some (.lst acc) ∧ acc.length < sizeLine ∧ Nx (upd H4 D (.lst (acc ++ [y]))) else Nx H3) := by
  refine ⟨fun i m H => i + m = xs.length ∧ Pv i H, ⟨xs.length, by omega, h0⟩, fun i m H w => ?_⟩
  obtain ⟨qx, qy⟩ := hq i H w.2
  cases m with
  | zero =>
    have e : i = xs.length := by omega
    subst e
    exact .inl ⟨⟨xs, ys, qx, qy, .inl (Nat.le_refl _)⟩, hd H w.2⟩
  | succ m =>
    have e1 := List.getElem?_eq_getElem (show i < xs.length by omega)
    have e2 := List.getElem?_eq_getElem (show i < ys.length by omega)
    refine .inr ⟨⟨xs, ys, _, _, qx, qy, e1, e2⟩, Pv (i + 1), fun H' p => ⟨m, by omega, by omega, p⟩, fun v H' z => ?_⟩
    obtain ⟨t, x, y, rfl, n, rfl, f1, f2⟩ := z
    exact hs i x y t H (f1 xs qx) (f2 ys qy) w.2 n
end OA
set_option Elab.async false
set_option linter.all false
set_option maxRecDepth 100000
set_option maxHeartbeats 4000000
/-! Defs that raise, and one that looks at the exception that is handled. -/
namespace OA
open PySem PySem.Spec PyProof.Rows L2

/-! ### a def called where p is handled, its promise names p -/
structure FnP (P : Program) (w : World) (K : PySem.W.Frag) (mg : Str → Option Value) (base : Heap) (k : Nat) (f : Addr) (fd : FuncData) (ps : List Str) (sp : Addr → Value → Sp) : Prop where
  len : ∀ a c vs H Q E, sp a c vs H Q E → vs.length = ps.length
  run : ∀ (p : Addr × Obj) (c : Value) (A : Around) (outer : List Env) (s : Shared) (H : Hp) (us : List Value) (vs : List V) (Q : VK) (E : XK) (args : Args),
    L2H.RoomH k A → L2H.Hot1 A p → L2H.PinOk outer H s p → L2N.Zn c none p.2 → Env0 P w K mg base A outer s H → BindsTo s fd args (ps.zip us) → Vals vs us →
    sp p.1 c vs H Q E → codeAny (model P w) A (.call (.ref f) args) (CR C8.CX0 outer P w H s Q E) s
abbrev cxP (P : Program) (w : World) (K : PySem.W.Frag) (mg : Str → Option Value) (base : Heap) (N : List Str) (qual : Str) (st : Stmt) (f : Addr) (cd : Value) (A : Around) (outer : List Env) (s : Shared) (H : Hp) (E : XK) (p : Addr × Obj) : Cx :=
  L2H.cxH C8.CX0 P w K mg base N qual (C8.fnScope st) f cd A outer s H E p
section
variable {P : Program} {w : World} {K : PySem.W.Frag} {mg : Str → Option Value} {base : Heap}
theorem fnP_of {x qual : Str} {st : Stmt} {f : Addr} {fd : FuncData} {N ps : List Str} {k : Nat} {sp : Addr → Value → Sp} (F : C8.Fun K x qual st f fd) (S : FnScope N ps (C8.fnScope st)) (len : ∀ a c vs H Q E, sp a c vs H Q E → vs.length = ps.length)
    (body : ∀ (cd : Value) (p : Addr × Obj) (c : Value) (A : Around) (outer : List Env) (s : Shared) (H : Hp) (vs : List V) (Q : VK) (E : XK), L2H.Hot1 A p → L2N.Zn c none p.2 → sp p.1 c vs H Q E →
      ∃ t, PSs (cxP P w K mg base N qual st f cd A outer s H E p) (C8.fnBody st) t ∧ t { nx := fun _ H' => Q .non H', rt := Q } (start N vs) H) : FnP P w K mg base (k + 1) f fd ps sp := by
  obtain ⟨oc, od, dV, kV, doc, pm, an, cd, ct, osl, rfl, lk, hcd⟩ := F.ex
  refine ⟨len, fun p c A outer s H us vs Q E args room hot pin zn e0 bind rv h => ?_⟩
  have keep : ∀ b o, base.get? b = some o → s.heap.get? b = some o := fun b o e => (e0.bs b o e).1
  have inK : K.In s.heap := PySem.W.Frag.In.keeps e0.mod.kin keep
  have known : ∀ y ∈ ps.zip us, (C8.fnScope st).names.lookup y.1 = some .local ∨ ((C8.fnScope st).names.lookup y.1 = some .cell ∧ ((cellsFrom (s.heap.objs.size + 1) (C8.fnScope st).names []).lookup y.1).isSome = true) := by
    intro y hy
    rcases S.par y.1 (List.of_mem_zip hy).1 with z | z
    · exact .inl z
    · exact .inr ⟨z, PySem.W.cellsFrom_some _ _ _ (.inl z)⟩
  refine codeAny_call_function room.depth (inK _ _ lk) rfl S.co S.gen rfl (PySem.W.codeRec_of inK hcd) (bind _ _ _ _ (wpAny_newFunctionEnv_cells S.kind known fun env he s1 ic => ?_))
  subst he
  obtain ⟨t, d, q⟩ := body cd p c A outer s H vs Q E hot zn h
  have I := L2H.inv_startH (CX := C8.CX0) (E := E) S pin e0 (len _ _ _ _ _ _ h) rv ic
  refine ⟨(e0.mod.nolimit.keeps keep).keeps ic.toInCall.keep, codeAny_func (wpAny_mono (d.run [] s1 (start N vs) H _ I q) (fun fl s' z => ?_) fun _ _ z => z)⟩
  cases fl with
  | ret u => exact let ⟨v, _, H', J, r, g⟩ := z; ⟨v, H', J.os, J.bare, J.base, J.hok, r, g⟩
  | next => exact let ⟨_, H', J, g⟩ := z; ⟨.non, H', J.os, J.bare, J.base, J.hok, rfl, g⟩
  | brk => exact let ⟨_, _, _, g⟩ := z; g.elim
  | cont => exact let ⟨_, _, _, g⟩ := z; g.elim
end
section
variable {X : Cx} {k : Nat} {f : Addr} {fd : FuncData} {ps : List Str} {x : Str} {q pos : Pos} {e : Expr} {es : List Expr} {t : TA}
theorem pe_callP {sp : Addr → Value → Sp} {a : Addr} {oe : Obj} {c : Value} (F : FnP X.prog X.w X.K X.mg X.base k f fd ps sp) (hr : L2H.RoomH k X.A) (hot : L2H.Hot1 X.A (a, oe)) (zn : L2N.Zn c none oe) (hp : (a, oe) ∈ X.pn) (hg : Gl X x) (hm : X.mg x = some (.ref f)) (hk : PySem.W.keepIn X.K (.ref f) = true) (hb : Binds X.K fd ps [])
    (ha : PA X (e :: es) t) (hdb : (x == ("__debug__" : Str)) = false := by decide) (he : starEach (e :: es) X.env = (false, eval e X.env) :: starEach es X.env := by rfl) (hpl : (backTo pos (starEach es X.env)).any (·.1) = false := by rfl) :
    PE X (.Call (.Name x q) (e :: es) [] pos) (tCall (sp a c) [] C8.E0 t) := by
  refine ⟨fun pins s σ H Q I h => wpAny_Call_Name_kw (ld_glob I hg hm ?_ hdb)⟩
  refine PySem.W.callWith_K (h₀ := X.base) I.ok.mod.kin hk (thn (ha.run pos pins s σ H _ I h) fun us s1 z => ?_) he hpl
  obtain ⟨vs, H1, J, r, g⟩ := z
  rw [List.append_nil] at g
  have n := F.len _ _ _ _ _ _ g
  have b := hb s1 us J.kIn (by rw [List.append_nil, ← r.length, n])
  rw [List.append_nil] at b
  obtain ⟨z1, z2, z3, z4, z5⟩ := J.pin (a, oe) (List.mem_append_left _ hp)
  have pin : L2H.PinOk X.stack H1 s1 (a, oe) := ⟨z1, z2, fun y => (List.mem_cons.mp (J.stkSub a y)).elim z3 z4, z5⟩
  refine ⟨J.kIn, wpAny_call (codeAny_mono (F.run (a, oe) c X.A X.stack s1 H1 us vs Q C8.E0 _ hr hot pin zn J.env0 b r g) fun o s2 y => ?_)⟩
  cases o with
  | error e => exact False.elim y
  | ok fl =>
    cases fl with
    | ret u => exact J.after y
    | next => exact False.elim y
    | brk => exact False.elim y
    | cont => exact False.elim y
/-- isinstance of the exception that stands at a pin -/
theorem call_isP {D : Addr} {p : Addr × Obj} (C : ExcC X.K D) (hc : p.2.cls = .ref D) (hd : p.2.dict = none) (hf : ∃ vs, p.2.data = .fields vs) (hp : p ∈ X.pn) : CallR X (.builtin "isinstance") (rIsE X.K D p.1) := by
  intro pins s σ H xs us Q I r h
  obtain ⟨c, cv, b, rfl, hcv, e, g⟩ := h
  obtain ⟨u1, u2, rfl, r1, r2⟩ := vals2 r
  obtain rfl : u1 = Value.ref p.1 := r1
  obtain rfl := hcv _ r2
  have hget := (I.pin p (List.mem_append_left _ hp)).1
  obtain ⟨vs, hv⟩ := hf
  have J : PySem.W.InstAt s.heap p.1 p.2 D none := by
    obtain ⟨a, oc, od, dat, sl⟩ := p
    dsimp only at hc hd hv
    subst hc hd hv
    exact ⟨hget, rfl, rfl, True.intro⟩
  exact PySem.W.kia_one (PySem.W.handS_kitx_exc C.hg C.hk C.hs C.hd C.ha C.hn C.ht C.hm) I.kIn J e (fun z => nomatch z) fun tk => ⟨.bl b, H, I.kept (t' := tk) fun _ _ y => y, rfl, g⟩
/-- a call of the def that slot i holds; what it lets out is wished for at the slots -/
def tCallLS (i : Nat) (f : Addr) (sp : Sp) (E : L2.St → XK) (t : TA) : TE := fun σ H Q => σ[i]? = some (some (.ref f)) ∧ t σ H fun vs H1 => sp vs H1 Q (E σ)
theorem pe_callLS {CX : CXT} {i : Nat} {sp : Sp} {E : L2.St → XK} (F : FnOk X.prog X.w X.K X.mg X.base CX k f fd ps sp) (hr : Room k X.A) (hN : X.N[i]? = some x) (hv : Vis X.env.scope x) (hk : PySem.W.keepIn X.K (.ref f) = true) (hb : Binds X.K fd ps []) (hx : ∀ σ, PassesAt CX X σ (E σ)) (ha : PA X (e :: es) t)
    (hdb : (x == ("__debug__" : Str)) = false := by decide) (hcd : (x == ("__classdict__" : Str)) = false := by decide)
    (he : starEach (e :: es) X.env = (false, eval e X.env) :: starEach es X.env := by rfl) (hpl : (backTo pos (starEach es X.env)).any (·.1) = false := by rfl) : PE X (.Call (.Name x q) (e :: es) [] pos) (tCallLS i f sp E t) := by
  refine ⟨fun pins s σ H Q I h => ?_⟩
  refine wpAny_Call_Name_kw (thn ((pe_var (pos := q) hN hv hdb hcd).run pins s σ H (fun v H1 => v = .ref f ∧ H = H1) I ⟨.ref f, h.1, rfl, rfl⟩) fun u s1 z => ?_)
  obtain ⟨v, H1, J, r, rfl, rfl⟩ := z
  obtain rfl : u = Value.ref f := r
  refine PySem.W.callWith_K (h₀ := X.base) I.ok.mod.kin hk (thn (ha.run pos pins s1 σ _ _ J h.2) fun us s2 z => ?_) he hpl
  obtain ⟨vs, H2, J2, r2, g⟩ := z
  exact ⟨J2.kIn, run_fnS F hr hb (hx σ) J2 r2 g⟩
end

/-! ### promises of defs that raise -/
structure CalX (P : Program) (w : World) (K : PySem.W.Frag) (mg : Str → Option Value) (base : Heap) (k : Nat) (x : Str) (sp : Sp) : Prop where
  ex : ∃ (f : Addr) (fd : FuncData) (ps : List Str), FnOk P w K mg base (L2N.CX P w) k f fd ps sp ∧ mg x = some (.ref f) ∧ PySem.W.keepIn K (.ref f) = true ∧ Binds K fd ps []
section
variable {P : Program} {w : World} {K : PySem.W.Frag} {mg : Str → Option Value} {base : Heap}
theorem fnX_of {x qual : Str} {st : Stmt} {f : Addr} {fd : FuncData} {N ps : List Str} {k : Nat} {sp : Sp} (F : C8.Fun K x qual st f fd) (S : FnScope N ps (C8.fnScope st)) (len : ∀ vs H Q E, sp vs H Q E → vs.length = ps.length)
    (body : ∀ (cd : Value) (A : Around) (outer : List Env) (s : Shared) (H : Hp) (vs : List V) (Q : VK) (E : XK), Room k (A.deeper (envOfC qual (C8.fnScope st) s.heap.objs.size f cd)) → sp vs H Q E →
      ∃ t, PSs (cxOf (L2N.CX P w) P w K mg base N qual (C8.fnScope st) f cd A outer s H E) (C8.fnBody st) t ∧ t { nx := fun _ H' => Q .non H', rt := Q } (start N vs) H) : FnOk P w K mg base (L2N.CX P w) (k + 1) f fd ps sp := by
  obtain ⟨oc, od, dV, kV, doc, pm, an, cd, ct, osl, rfl, lk, hcd⟩ := F.ex
  exact fn_of lk hcd S len fun A outer s H vs Q E hr h => body cd A outer s H vs Q E hr h
theorem calX {x : Str} {st : Stmt} {f : Addr} {fd : FuncData} {N ps : List Str} {k : Nat} {sp : Sp} (F : C8.Def K mg x st f fd) (b : Binds K fd ps []) (S : FnScope N ps (C8.fnScope st)) (len : ∀ vs H Q E, sp vs H Q E → vs.length = ps.length)
    (body : ∀ (cd : Value) (A : Around) (outer : List Env) (s : Shared) (H : Hp) (vs : List V) (Q : VK) (E : XK), Room k (A.deeper (envOfC x (C8.fnScope st) s.heap.objs.size f cd)) → sp vs H Q E →
      ∃ t, PSs (cxOf (L2N.CX P w) P w K mg base N x (C8.fnScope st) f cd A outer s H E) (C8.fnBody st) t ∧ t { nx := fun _ H' => Q .non H', rt := Q } (start N vs) H) : CalX P w K mg base (k + 1) x sp :=
  ⟨f, fd, ps, fnX_of F.fn S len body, F.mgf, F.kp, b⟩
end
section
variable {X : Cx} {W : WX} {k j : Nat} {x : Str} {sp : Sp} {p pos : Pos} {e : Expr} {es : List Expr} {t : TA}
theorem pe_cX (c : CalX X.prog X.w X.K X.mg X.base k x sp) (tk : L2N.Takes X W) (hr : Room j X.A) (hk : k ≤ j) (hg : Gl X x) (ha : PA X (e :: es) t)
    (hdb : (x == ("__debug__" : Str)) = false := by decide) (he : starEach (e :: es) X.env = (false, eval e X.env) :: starEach es X.env := by rfl) (hpl : (backTo pos (starEach es X.env)).any (·.1) = false := by rfl) :
    PE X (.Call (.Name x p) (e :: es) [] pos) (tCallS sp (WE W) t) := by
  obtain ⟨f, fd, ps, F, hm, kp, b⟩ := c.ex
  exact pe_callS F (hr.mono hk) hg hm kp b (fun σ => L2N.passAt tk σ) ha hdb he hpl
/-- what stands only if so -/
theorem pss_when {c : Prop} {b : List Stmt} {t : TS} (h : c → PSs X b t) : PSs X b (fun D σ H => c ∧ t D σ H) := ⟨fun pins s σ H D I z => (h z.1).run pins s σ H D I z.2⟩
/-- what is never reached -/
theorem pss_dead {b : List Stmt} : PSs X b (fun _ _ _ => False) := ⟨fun _ _ _ _ _ _ h => h.elim⟩
end
end OA
set_option Elab.async false
set_option linter.all false
set_option maxRecDepth 100000
set_option maxHeartbeats 4000000
/-! What the written part says of the classes of what is refused. -/
namespace OA
open PySem PySem.Spec PyProof.Rows L2
abbrev xa (K : PySem.W.Frag) (c : Str) : Addr := He.ga K c
def xNames : List Str := ["BadNumber", "IsSquare", "BadAnswer", "BadCount"]
/-- the kinds of the class named c, as the law lists them -/
def kinds (c : Str) : List Bool := xNames.map (fun x => decide (c = x)) ++ [true]
def sB (a b : Option Bool) : Bool := decide (a = b)
def tyB (a : Option Value) : Bool := match a with
  | some (.type n) => decide (n = "type")
  | _ => false
def exL1 (K : PySem.W.Frag) (c : Str) : List Bool := [
  PySem.W.excIn K (xa K c) He.veBase "ValueError.__new__",
  PySem.W.keepIn K (.ref (xa K c)),
  sB (PySem.W.subIn K (.ref (xa K c)) (.type "BaseException")) (some true),
  tyB (PySem.W.typeIn K (.ref (xa K c))),
  sB (PySem.W.exmOne K (.ref (xa K c)) (.ref (xa K "ApartError"))) (some true),
  He.eqO (PySem.W.findIn K (.ref (xa K c)) "__getattribute__") (some (some (.builtin "BaseException.__getattribute__"))),
  He.eqO (PySem.W.findIn K (.ref (xa K c)) "__getattr__") (some none),
  PySem.W.hasDictIn K (xa K c),
  He.eqO (PySem.W.findIn K (.ref (xa K c)) "__class__") (some (some (.builtin "object.__class__"))),
  He.eqO (PySem.W.specialIn K (.builtin "object.__class__") "__get__") (some (some (.builtin "getset_descriptor.__get__"))),
  sB (PySem.W.takesIn K (.builtin "object.__class__")) (some true),
  sB (PySem.W.mroIn K (xa K c) (.type "object")) (some true),
  sB (PySem.W.kitOne K (.ref (xa K c)) (.type "ValueError")) (some true),
  sB (PySem.W.kitOne K (.ref (xa K c)) (.ref (xa K "BadNumber"))) (some (decide (c = "BadNumber"))),
  sB (PySem.W.kitOne K (.ref (xa K c)) (.ref (xa K "IsSquare"))) (some (decide (c = "IsSquare"))),
  sB (PySem.W.kitOne K (.ref (xa K c)) (.ref (xa K "BadAnswer"))) (some (decide (c = "BadAnswer"))),
  sB (PySem.W.kitOne K (.ref (xa K c)) (.ref (xa K "BadCount"))) (some (decide (c = "BadCount")))]
def exfB (K : PySem.W.Frag) (c : Str) : Bool := (exL1 K c).all id
structure ExF (K : PySem.W.Frag) (c : Str) : Prop where
  ex : PySem.W.excIn K (xa K c) He.veBase "ValueError.__new__" = true
  kp : PySem.W.keepIn K (.ref (xa K c)) = true
  bs : PySem.W.subIn K (.ref (xa K c)) (.type "BaseException") = some true
  ty : PySem.W.typeIn K (.ref (xa K c)) = some (.type "type")
  at' : PySem.W.exmOne K (.ref (xa K c)) (.ref (xa K "ApartError")) = some true
  cc : ExcC K (xa K c)
  kv : PySem.W.kitOne K (.ref (xa K c)) (.type "ValueError") = some true
  k0 : PySem.W.kitOne K (.ref (xa K c)) (.ref (xa K "BadNumber")) = some (decide (c = "BadNumber"))
  k1 : PySem.W.kitOne K (.ref (xa K c)) (.ref (xa K "IsSquare")) = some (decide (c = "IsSquare"))
  k2 : PySem.W.kitOne K (.ref (xa K c)) (.ref (xa K "BadAnswer")) = some (decide (c = "BadAnswer"))
  k3 : PySem.W.kitOne K (.ref (xa K c)) (.ref (xa K "BadCount")) = some (decide (c = "BadCount"))
theorem tyB_ok {a : Option Value} (h : tyB a = true) : a = some (.type "type") := by
  unfold tyB at h
  split at h
  · rw [of_decide_eq_true h]
  · cases h
theorem exf_of {K : PySem.W.Frag} {c : Str} (h : exfB K c = true) : ExF K c := by
  have g : ∀ (i : Nat) (b : Bool), (exL1 K c)[i]? = some b → b = true := fun i b hi => List.all_eq_true.mp h b (List.mem_of_getElem? hi)
  have d : ∀ {a b : Option Bool}, sB a b = true → a = b := fun h => of_decide_eq_true h
  exact ⟨g 0 _ rfl, g 1 _ rfl, d (g 2 _ rfl), tyB_ok (g 3 _ rfl), d (g 4 _ rfl), ⟨He.eqO_ok (g 5 _ rfl), He.eqO_ok (g 6 _ rfl), d (g 2 _ rfl), g 7 _ rfl, He.eqO_ok (g 8 _ rfl), He.eqO_ok (g 9 _ rfl), d (g 10 _ rfl), d (g 11 _ rfl)⟩,
    d (g 12 _ rfl), d (g 13 _ rfl), d (g 14 _ rfl), d (g 15 _ rfl), d (g 16 _ rfl)⟩
theorem glX {mg : Str → Option Value} {x : Str} {a : Addr} (h : ∃ u, mg x = some u ∧ RelV (.ref a) u) : mg x = some (.ref a) := by
  obtain ⟨u, e, r⟩ := h
  obtain rfl : u = Value.ref a := r
  exact e
end OA
set_option Elab.async false
set_option linter.all false
set_option maxRecDepth 100000
set_option maxHeartbeats 4000000
/-! The text by its places, and what stands behind its top. -/
namespace OA
open PySem PySem.Spec PyProof.Rows L2
def topS (i : Nat) : Stmt := PySem.Challenge.pw_oneapart_k05_refused.main.body.getD i (.Pass ⟨0, 0, 0, 0⟩)
abbrev ca (K : PySem.W.Frag) (x : Str) : Addr := He.ga K x
abbrev s_is_whole : Stmt := topS 8
abbrev N_is_whole : List Str := ["thing"]
theorem sc_is_whole : FnScope N_is_whole ["thing"] (C8.fnScope s_is_whole) := C8.fnScope_by (by decide +kernel)

abbrev s_check_number : Stmt := topS 9
abbrev N_check_number : List Str := ["number"]
theorem sc_check_number : FnScope N_check_number ["number"] (C8.fnScope s_check_number) := C8.fnScope_by (by decide +kernel)

abbrev s_root_of : Stmt := topS 10
abbrev N_root_of : List Str := ["number", "now"]
theorem sc_root_of : FnScope N_root_of ["number"] (C8.fnScope s_root_of) := C8.fnScope_by (by decide +kernel)

abbrev s_check_root : Stmt := topS 11
abbrev N_check_root : List Str := ["number"]
theorem sc_check_root : FnScope N_check_root ["number"] (C8.fnScope s_check_root) := C8.fnScope_by (by decide +kernel)

abbrev s_parts_of : Stmt := topS 12
abbrev N_parts_of : List Str := ["number", "first", "found", "more", "below", "part"]
theorem sc_parts_of : FnScope N_parts_of ["number"] (C8.fnScope s_parts_of) := C8.fnScope_by (by decide +kernel)

abbrev s_chain : Stmt := topS 13
abbrev N_chain : List Str := ["number"]
theorem sc_chain : FnScope N_chain ["number"] (C8.fnScope s_chain) := C8.fnScope_by (by decide +kernel)

abbrev s_least_of : Stmt := topS 14
abbrev N_least_of : List Str := ["number", "first", "found", "ahead", "one", "part"]
theorem sc_least_of : FnScope N_least_of ["number"] (C8.fnScope s_least_of) := C8.fnScope_by (by decide +kernel)

abbrev s_put : Stmt := topS 15
abbrev N_put : List Str := ["number", "one", "other"]
theorem sc_put : FnScope N_put ["number", "one", "other"] (C8.fnScope s_put) := C8.fnScope_by (by decide +kernel)

abbrev s_answer_of : Stmt := topS 16
abbrev N_answer_of : List Str := ["number", "one", "more"]
theorem sc_answer_of : FnScope N_answer_of ["number"] (C8.fnScope s_answer_of) := C8.fnScope_by (by decide +kernel)

abbrev s_check_answer : Stmt := topS 19
abbrev N_check_answer : List Str := ["number", "answer"]
theorem sc_check_answer : FnScope N_check_answer ["number", "answer"] (C8.fnScope s_check_answer) := C8.fnScope_by (by decide +kernel)

abbrev s_answer_by : Stmt := topS 20
abbrev N_answer_by : List Str := ["number", "count", "least", "found", "turn"]
theorem sc_answer_by : FnScope N_answer_by ["number", "count"] (C8.fnScope s_answer_by) := C8.fnScope_by (by decide +kernel)

abbrev s_count_of : Stmt := topS 21
abbrev N_count_of : List Str := ["number", "answer", "least", "found", "now"]
theorem sc_count_of : FnScope N_count_of ["number", "answer"] (C8.fnScope s_count_of) := C8.fnScope_by (by decide +kernel)

abbrev s_together : Stmt := topS 22
abbrev N_together : List Str := ["number", "one", "other"]
theorem sc_together : FnScope N_together ["number", "one", "other"] (C8.fnScope s_together) := C8.fnScope_by (by decide +kernel)

abbrev s_is_square : Stmt := topS 25
abbrev N_is_square : List Str := ["number"]
theorem sc_is_square : FnScope N_is_square ["number"] (C8.fnScope s_is_square) := C8.fnScope_by (by decide +kernel)

abbrev s_Square_init : Stmt := inClass (topS 26) 0
abbrev N_Square_init : List Str := ["self", "root"]
theorem sc_Square_init : FnScope N_Square_init ["self", "root"] (C8.fnScope s_Square_init) := C8.fnScope_by (by decide +kernel)

abbrev s_Square_shows : Stmt := inClass (topS 26) 1
abbrev N_Square_shows : List Str := ["self", "number"]
theorem sc_Square_shows : FnScope N_Square_shows ["self", "number"] (C8.fnScope s_Square_shows) := C8.fnScope_by (by decide +kernel)

abbrev s_Least_init : Stmt := inClass (topS 27) 0
abbrev N_Least_init : List Str := ["self", "one", "other"]
theorem sc_Least_init : FnScope N_Least_init ["self", "one", "other"] (C8.fnScope s_Least_init) := C8.fnScope_by (by decide +kernel)

abbrev s_Least_shows : Stmt := inClass (topS 27) 1
abbrev N_Least_shows : List Str := ["self", "number"]
theorem sc_Least_shows : FnScope N_Least_shows ["self", "number"] (C8.fnScope s_Least_shows) := C8.fnScope_by (by decide +kernel)

abbrev s_Other_init : Stmt := inClass (topS 28) 0
abbrev N_Other_init : List Str := ["self", "one", "other"]
theorem sc_Other_init : FnScope N_Other_init ["self", "one", "other"] (C8.fnScope s_Other_init) := C8.fnScope_by (by decide +kernel)

abbrev s_Other_shows : Stmt := inClass (topS 28) 1
abbrev N_Other_shows : List Str := ["self", "number"]
theorem sc_Other_shows : FnScope N_Other_shows ["self", "number"] (C8.fnScope s_Other_shows) := C8.fnScope_by (by decide +kernel)

abbrev s_Barred_init : Stmt := inClass (topS 29) 0
abbrev N_Barred_init : List Str := ["self", "one", "other"]
theorem sc_Barred_init : FnScope N_Barred_init ["self", "one", "other"] (C8.fnScope s_Barred_init) := C8.fnScope_by (by decide +kernel)

abbrev s_Barred_shows : Stmt := inClass (topS 29) 1
abbrev N_Barred_shows : List Str := ["self", "number", "half"]
theorem sc_Barred_shows : FnScope N_Barred_shows ["self", "number"] (C8.fnScope s_Barred_shows) := C8.fnScope_by (by decide +kernel)

abbrev s_told : Stmt := topS 31
abbrev N_told : List Str := ["number", "one", "other"]
theorem sc_told : FnScope N_told ["number"] (C8.fnScope s_told) := C8.fnScope_by (by decide +kernel)

abbrev s_less : Stmt := topS 32
abbrev N_less : List Str := ["number", "pair", "more"]
theorem sc_less : FnScope N_less ["number"] (C8.fnScope s_less) := C8.fnScope_by (by decide +kernel)

abbrev s__law_cell_at : Stmt := topS 34
abbrev N__law_cell_at : List Str := ["_law_script", "_law_k"]
theorem sc__law_cell_at : FnScope N__law_cell_at ["_law_script", "_law_k"] (C8.fnScope s__law_cell_at) := C8.fnScope_by (by decide +kernel)

abbrev s__law_draw : Stmt := topS 35
abbrev N__law_draw : List Str := ["_law_cell", "_law_k", "_law_many", "_law_primes"]
theorem sc__law_draw : FnScope N__law_draw ["_law_cell", "_law_k", "_law_many"] (C8.fnScope s__law_draw) := C8.fnScope_by (by decide +kernel)

abbrev s__law_value : Stmt := topS 36
abbrev N__law_value : List Str := ["_law_cell", "_law_k", "_law_limit"]
theorem sc__law_value : FnScope N__law_value ["_law_cell", "_law_k", "_law_limit"] (C8.fnScope s__law_value) := C8.fnScope_by (by decide +kernel)

abbrev s__law_root : Stmt := topS 37
abbrev N__law_root : List Str := ["_law_number", "_law_now"]
theorem sc__law_root : FnScope N__law_root ["_law_number"] (C8.fnScope s__law_root) := C8.fnScope_by (by decide +kernel)

abbrev s__law_is_square : Stmt := topS 38
abbrev N__law_is_square : List Str := ["_law_number"]
theorem sc__law_is_square : FnScope N__law_is_square ["_law_number"] (C8.fnScope s__law_is_square) := C8.fnScope_by (by decide +kernel)

abbrev s__law_numbers : Stmt := topS 39
abbrev N__law_numbers : List Str := ["_law_script", "_law_found", "_law_k", "_law_cell", "_law_kind", "_law_number", "_law_root_here"]
theorem sc__law_numbers : FnScope N__law_numbers ["_law_script"] (C8.fnScope s__law_numbers) := C8.fnScope_by (by decide +kernel)

abbrev s__law_parts : Stmt := topS 40
abbrev N__law_parts : List Str := ["_law_number", "_law_top", "_law_found", "_law_more", "_law_below", "_law_part"]
theorem sc__law_parts : FnScope N__law_parts ["_law_number"] (C8.fnScope s__law_parts) := C8.fnScope_by (by decide +kernel)

abbrev s__law_put : Stmt := topS 41
abbrev N__law_put : List Str := ["_law_number", "_law_one", "_law_other", "_law_a", "_law_b", "_law_c", "_law_d"]
theorem sc__law_put : FnScope N__law_put ["_law_number", "_law_one", "_law_other"] (C8.fnScope s__law_put) := C8.fnScope_by (by decide +kernel)

abbrev s__law_first : Stmt := topS 42
abbrev N__law_first : List Str := ["_law_number", "_law_first_here", "_law_found", "_law_above", "_law_beneath", "_law_part", "_law_pair"]
theorem sc__law_first : FnScope N__law_first ["_law_number"] (C8.fnScope s__law_first) := C8.fnScope_by (by decide +kernel)

abbrev s__law_least : Stmt := topS 43
abbrev N__law_least : List Str := ["_law_number", "_law_pair", "_law_apart"]
theorem sc__law_least : FnScope N__law_least ["_law_number"] (C8.fnScope s__law_least) := C8.fnScope_by (by decide +kernel)

abbrev s__law_kinds : Stmt := topS 44
abbrev N__law_kinds : List Str := ["_law_error", "_law_found"]
theorem sc__law_kinds : FnScope N__law_kinds ["_law_error"] (C8.fnScope s__law_kinds) := C8.fnScope_by (by decide +kernel)

abbrev s__law_with_number : Stmt := topS 45
abbrev N__law_with_number : List Str := ["_law_door", "_law_number"]
theorem sc__law_with_number : FnScope N__law_with_number ["_law_door", "_law_number"] (C8.fnScope s__law_with_number) := C8.fnScope_by (by decide +kernel)

abbrev s__law_with_square : Stmt := topS 46
abbrev N__law_with_square : List Str := ["_law_door", "_law_number"]
theorem sc__law_with_square : FnScope N__law_with_square ["_law_door", "_law_number"] (C8.fnScope s__law_with_square) := C8.fnScope_by (by decide +kernel)

abbrev s__law_with_count : Stmt := topS 47
abbrev N__law_with_count : List Str := ["_law_number", "_law_count"]
theorem sc__law_with_count : FnScope N__law_with_count ["_law_number", "_law_count"] (C8.fnScope s__law_with_count) := C8.fnScope_by (by decide +kernel)

abbrev s__law_with_answer : Stmt := topS 48
abbrev N__law_with_answer : List Str := ["_law_number", "_law_pair"]
theorem sc__law_with_answer : FnScope N__law_with_answer ["_law_number", "_law_pair"] (C8.fnScope s__law_with_answer) := C8.fnScope_by (by decide +kernel)

abbrev s__law_told : Stmt := topS 49
abbrev N__law_told : List Str := ["_law_ask", "_law_one", "_law_other", "_law_error"]
theorem sc__law_told : FnScope N__law_told ["_law_ask", "_law_one", "_law_other"] (C8.fnScope s__law_told) := C8.fnScope_by (by decide +kernel)

abbrev s__law_answers_right : Stmt := topS 50
abbrev N__law_answers_right : List Str := ["_law_number", "_law_due", "_law_far", "_law_one", "_law_other", "_law_bad", "_law_door", "_law_pair"]
theorem sc__law_answers_right : FnScope N__law_answers_right ["_law_number", "_law_due", "_law_far"] (C8.fnScope s__law_answers_right) := C8.fnScope_by (by decide +kernel)

abbrev s_law : Stmt := topS 51
abbrev N_law : List Str := ["_law_script", "_law_far", "_law_due", "_law_k", "_law_bad", "_law_door", "_law_squares", "_law_number", "_law_count", "_law_thing"]
theorem sc_law : FnScope N_law ["_law_script"] (C8.fnScope s_law) := C8.fnScope_by (by decide +kernel)

/-- what isinstance asks of an own class -/
structure InsF (K : PySem.W.Frag) (C : Addr) : Prop where
  ha : PySem.W.findIn K (.ref C) "__class__" = some (some (.builtin "object.__class__"))
  hn : PySem.W.specialIn K (.builtin "object.__class__") "__get__" = some (some (.builtin "getset_descriptor.__get__"))
  htk : PySem.W.takesIn K (.builtin "object.__class__") = some true
  hm : PySem.W.mroIn K C (.type "object") = some true
structure Txt (K : PySem.W.Frag) (mg : Str → Option Value) : Prop where
  d_is_whole : ∃ f fd, C8.Def K mg "is_whole" s_is_whole f fd ∧ fd.defaults = .none
  d_check_number : ∃ f fd, C8.Def K mg "check_number" s_check_number f fd ∧ fd.defaults = .none
  d_root_of : ∃ f fd, C8.Def K mg "root_of" s_root_of f fd ∧ fd.defaults = .none
  d_check_root : ∃ f fd, C8.Def K mg "check_root" s_check_root f fd ∧ fd.defaults = .none
  d_parts_of : ∃ f fd, C8.Def K mg "parts_of" s_parts_of f fd ∧ fd.defaults = .none
  d_chain : ∃ f fd, C8.Def K mg "chain" s_chain f fd ∧ fd.defaults = .none
  d_least_of : ∃ f fd, C8.Def K mg "least_of" s_least_of f fd ∧ fd.defaults = .none
  d_put : ∃ f fd, C8.Def K mg "put" s_put f fd ∧ fd.defaults = .none
  d_answer_of : ∃ f fd, C8.Def K mg "answer_of" s_answer_of f fd ∧ fd.defaults = .none
  d_check_answer : ∃ f fd, C8.Def K mg "check_answer" s_check_answer f fd ∧ fd.defaults = .none
  d_answer_by : ∃ f fd, C8.Def K mg "answer_by" s_answer_by f fd ∧ fd.defaults = .none
  d_count_of : ∃ f fd, C8.Def K mg "count_of" s_count_of f fd ∧ fd.defaults = .none
  d_together : ∃ f fd, C8.Def K mg "together" s_together f fd ∧ fd.defaults = .none
  d_is_square : ∃ f fd, C8.Def K mg "is_square" s_is_square f fd ∧ fd.defaults = .none
  d_told : ∃ f fd, C8.Def K mg "told" s_told f fd ∧ fd.defaults = .none
  d_less : ∃ f fd, C8.Def K mg "less" s_less f fd ∧ fd.defaults = .none
  d__law_cell_at : ∃ f fd, C8.Def K mg "_law_cell_at" s__law_cell_at f fd ∧ fd.defaults = .none
  d__law_draw : ∃ f fd, C8.Def K mg "_law_draw" s__law_draw f fd ∧ fd.defaults = .none
  d__law_value : ∃ f fd, C8.Def K mg "_law_value" s__law_value f fd ∧ fd.defaults = .none
  d__law_root : ∃ f fd, C8.Def K mg "_law_root" s__law_root f fd ∧ fd.defaults = .none
  d__law_is_square : ∃ f fd, C8.Def K mg "_law_is_square" s__law_is_square f fd ∧ fd.defaults = .none
  d__law_numbers : ∃ f fd, C8.Def K mg "_law_numbers" s__law_numbers f fd ∧ fd.defaults = .none
  d__law_parts : ∃ f fd, C8.Def K mg "_law_parts" s__law_parts f fd ∧ fd.defaults = .none
  d__law_put : ∃ f fd, C8.Def K mg "_law_put" s__law_put f fd ∧ fd.defaults = .none
  d__law_first : ∃ f fd, C8.Def K mg "_law_first" s__law_first f fd ∧ fd.defaults = .none
  d__law_least : ∃ f fd, C8.Def K mg "_law_least" s__law_least f fd ∧ fd.defaults = .none
  d__law_kinds : ∃ f fd, C8.Def K mg "_law_kinds" s__law_kinds f fd ∧ fd.defaults = .none
  d__law_with_number : ∃ f fd, C8.Def K mg "_law_with_number" s__law_with_number f fd ∧ fd.defaults = .none
  d__law_with_square : ∃ f fd, C8.Def K mg "_law_with_square" s__law_with_square f fd ∧ fd.defaults = .none
  d__law_with_count : ∃ f fd, C8.Def K mg "_law_with_count" s__law_with_count f fd ∧ fd.defaults = .none
  d__law_with_answer : ∃ f fd, C8.Def K mg "_law_with_answer" s__law_with_answer f fd ∧ fd.defaults = .none
  d__law_told : ∃ f fd, C8.Def K mg "_law_told" s__law_told f fd ∧ fd.defaults = .none
  d__law_answers_right : ∃ f fd, C8.Def K mg "_law_answers_right" s__law_answers_right f fd ∧ fd.defaults = .none
  d_law : ∃ f fd, C8.Def K mg "law" s_law f fd ∧ fd.defaults = .none
  g_ApartError : ∃ u, mg "ApartError" = some u ∧ RelV (.ref (ca K "ApartError")) u
  g_BadNumber : ∃ u, mg "BadNumber" = some u ∧ RelV (.ref (ca K "BadNumber")) u
  g_IsSquare : ∃ u, mg "IsSquare" = some u ∧ RelV (.ref (ca K "IsSquare")) u
  g_BadAnswer : ∃ u, mg "BadAnswer" = some u ∧ RelV (.ref (ca K "BadAnswer")) u
  g_BadCount : ∃ u, mg "BadCount" = some u ∧ RelV (.ref (ca K "BadCount")) u
  g_Answer : ∃ u, mg "Answer" = some u ∧ RelV (.ref (ca K "Answer")) u
  g_Square : ∃ u, mg "Square" = some u ∧ RelV (.ref (ca K "Square")) u
  g_Least : ∃ u, mg "Least" = some u ∧ RelV (.ref (ca K "Least")) u
  g_Other : ∃ u, mg "Other" = some u ∧ RelV (.ref (ca K "Other")) u
  g_Barred : ∃ u, mg "Barred" = some u ∧ RelV (.ref (ca K "Barred")) u
  g_GREATEST : ∃ u, mg "GREATEST" = some u ∧ RelV (.int 1000000) u
  g_MOST : ∃ u, mg "MOST" = some u ∧ RelV (.int 100) u
  n_ValueError : mg "ValueError" = none
  n_all : mg "all" = none
  n_bool : mg "bool" = none
  n_int : mg "int" = none
  n_isinstance : mg "isinstance" = none
  n_len : mg "len" = none
  n_min : mg "min" = none
  n_range : mg "range" = none
  n_tuple : mg "tuple" = none
  m_Square : ∃ f fd, Mk K (ca K "Square") f ∧ mg "Square" = some (.ref (ca K "Square")) ∧ C8.Fun K "__init__" "Square.__init__" s_Square_init f fd ∧ fd.defaults = .none
  c_Square : Cls K (ca K "Square")
  a_Square_root : NoAttr K (ca K "Square") "root"
  i_Square : InsF K (ca K "Square")
  t_Square_shows : ∃ f fd, Meth K (ca K "Square") "shows" f ∧ C8.Fun K "shows" "Square.shows" s_Square_shows f fd ∧ fd.defaults = .none
  m_Least : ∃ f fd, Mk K (ca K "Least") f ∧ mg "Least" = some (.ref (ca K "Least")) ∧ C8.Fun K "__init__" "Least.__init__" s_Least_init f fd ∧ fd.defaults = .none
  c_Least : Cls K (ca K "Least")
  a_Least_one : NoAttr K (ca K "Least") "one"
  a_Least_other : NoAttr K (ca K "Least") "other"
  i_Least : InsF K (ca K "Least")
  t_Least_shows : ∃ f fd, Meth K (ca K "Least") "shows" f ∧ C8.Fun K "shows" "Least.shows" s_Least_shows f fd ∧ fd.defaults = .none
  m_Other : ∃ f fd, Mk K (ca K "Other") f ∧ mg "Other" = some (.ref (ca K "Other")) ∧ C8.Fun K "__init__" "Other.__init__" s_Other_init f fd ∧ fd.defaults = .none
  c_Other : Cls K (ca K "Other")
  a_Other_one : NoAttr K (ca K "Other") "one"
  a_Other_other : NoAttr K (ca K "Other") "other"
  i_Other : InsF K (ca K "Other")
  t_Other_shows : ∃ f fd, Meth K (ca K "Other") "shows" f ∧ C8.Fun K "shows" "Other.shows" s_Other_shows f fd ∧ fd.defaults = .none
  m_Barred : ∃ f fd, Mk K (ca K "Barred") f ∧ mg "Barred" = some (.ref (ca K "Barred")) ∧ C8.Fun K "__init__" "Barred.__init__" s_Barred_init f fd ∧ fd.defaults = .none
  c_Barred : Cls K (ca K "Barred")
  a_Barred_one : NoAttr K (ca K "Barred") "one"
  a_Barred_other : NoAttr K (ca K "Barred") "other"
  i_Barred : InsF K (ca K "Barred")
  t_Barred_shows : ∃ f fd, Meth K (ca K "Barred") "shows" f ∧ C8.Fun K "shows" "Barred.shows" s_Barred_shows f fd ∧ fd.defaults = .none
  k_Square_Answer : PySem.W.kitOne K (.ref (ca K "Square")) (.ref (ca K "Answer")) = some true
  k_Square_Square : PySem.W.kitOne K (.ref (ca K "Square")) (.ref (ca K "Square")) = some true
  k_Square_Least : PySem.W.kitOne K (.ref (ca K "Square")) (.ref (ca K "Least")) = some false
  k_Square_Other : PySem.W.kitOne K (.ref (ca K "Square")) (.ref (ca K "Other")) = some false
  k_Square_Barred : PySem.W.kitOne K (.ref (ca K "Square")) (.ref (ca K "Barred")) = some false
  k_Least_Answer : PySem.W.kitOne K (.ref (ca K "Least")) (.ref (ca K "Answer")) = some true
  k_Least_Square : PySem.W.kitOne K (.ref (ca K "Least")) (.ref (ca K "Square")) = some false
  k_Least_Least : PySem.W.kitOne K (.ref (ca K "Least")) (.ref (ca K "Least")) = some true
  k_Least_Other : PySem.W.kitOne K (.ref (ca K "Least")) (.ref (ca K "Other")) = some false
  k_Least_Barred : PySem.W.kitOne K (.ref (ca K "Least")) (.ref (ca K "Barred")) = some false
  k_Other_Answer : PySem.W.kitOne K (.ref (ca K "Other")) (.ref (ca K "Answer")) = some true
  k_Other_Square : PySem.W.kitOne K (.ref (ca K "Other")) (.ref (ca K "Square")) = some false
  k_Other_Least : PySem.W.kitOne K (.ref (ca K "Other")) (.ref (ca K "Least")) = some false
  k_Other_Other : PySem.W.kitOne K (.ref (ca K "Other")) (.ref (ca K "Other")) = some true
  k_Other_Barred : PySem.W.kitOne K (.ref (ca K "Other")) (.ref (ca K "Barred")) = some false
  k_Barred_Answer : PySem.W.kitOne K (.ref (ca K "Barred")) (.ref (ca K "Answer")) = some true
  k_Barred_Square : PySem.W.kitOne K (.ref (ca K "Barred")) (.ref (ca K "Square")) = some false
  k_Barred_Least : PySem.W.kitOne K (.ref (ca K "Barred")) (.ref (ca K "Least")) = some false
  k_Barred_Other : PySem.W.kitOne K (.ref (ca K "Barred")) (.ref (ca K "Other")) = some false
  k_Barred_Barred : PySem.W.kitOne K (.ref (ca K "Barred")) (.ref (ca K "Barred")) = some true
  x_BadNumber : ExF K "BadNumber"
  x_IsSquare : ExF K "IsSquare"
  x_BadAnswer : ExF K "BadAnswer"
  x_BadCount : ExF K "BadCount"
end OA
set_option Elab.async false
set_option linter.all false
set_option maxRecDepth 100000
set_option maxHeartbeats 4000000
/-! The defs of chains: put together, the root, the parts, the least pair. -/
namespace OA
open PySem PySem.Spec PyProof.Rows L2

/-! ### promises -/
def spPut (K : PySem.W.Frag) : Sp := fun vs H Q _ => ∃ (n : Int) (x y : Int × Int) (p q : Addr) (A B : Nat), vs = [.int n, .ref p, .ref q] ∧ SqT K H p [.int x.1, .int x.2] ∧ SqT K H q [.int y.1, .int y.2] ∧
  (1 ≤ n ∧ n ≤ 1000000) ∧ Bt A x.1 ∧ Bt A x.2 ∧ Bt B y.1 ∧ Bt B y.2 ∧ A + B + 20 ≤ 134217728 ∧ ∀ r, H r = none → Q (.ref r) (upd H r (.tup [.int (put n x y).1, .int (put n x y).2]))
def spRoot : Sp := fun vs H Q _ => ∃ n : Int, vs = [.int n] ∧ 0 ≤ n ∧ n < 2 ^ 50 ∧ Q (.int (isq n)) H
theorem bt20 {n : Int} (h : 1 ≤ n ∧ n ≤ 1000000) : Bt 20 n := by
  show n.natAbs < 2 ^ 20
  have : (2 : Nat) ^ 20 = 1048576 := by decide
  omega
theorem isq_le50 {n : Int} (h0 : 0 ≤ n) (h : n < 2 ^ 50) : isq n < 2 ^ 25 := by
  have r := isq_root h0
  rcases Int.lt_or_le (isq n) (2 ^ 25) with z | z
  · exact z
  · have := sqle (show (0 : Int) ≤ 2 ^ 25 by decide) z
    have := r.lo
    have e : (2 : Int) ^ 25 * 2 ^ 25 = 2 ^ 50 := by decide
    omega
/-- the first guess, from the number's bits -/
theorem guess {n : Int} (h0 : 0 < n) : isq n ≤ 2 ^ ((Builtin.Int.intBits n + 1) / 2) ∧ n < (2 ^ ((Builtin.Int.intBits n + 1) / 2)) * (2 ^ ((Builtin.Int.intBits n + 1) / 2)) := by
  have hb : Builtin.Int.intBits n = n.natAbs.log2 + 1 := by
    unfold Builtin.Int.intBits
    rw [if_neg (by simpa using (show n ≠ 0 by omega))]
  have h1 : n.natAbs < 2 ^ (n.natAbs.log2 + 1) := Nat.lt_log2_self
  have h2 : 2 ^ (n.natAbs.log2 + 1) ≤ 2 ^ ((n.natAbs.log2 + 1 + 1) / 2) * 2 ^ ((n.natAbs.log2 + 1 + 1) / 2) := by
    rw [← Nat.pow_add]
    exact Nat.pow_le_pow_right (by omega) (by omega)
  rw [hb]
  generalize (n.natAbs.log2 + 1 + 1) / 2 = k at h2
  have h3 : n.natAbs < 2 ^ k * 2 ^ k := Nat.lt_of_lt_of_le h1 h2
  have e : (2 : Int) ^ k = ((2 ^ k : Nat) : Int) := by simp
  have h4 : n < ((2 ^ k : Nat) : Int) * ((2 ^ k : Nat) : Int) := by
    rw [← Int.natCast_mul]
    omega
  rw [e]
  refine ⟨le_of_sq (Int.natCast_nonneg _) ?_, h4⟩
  have := (isq_root (show 0 ≤ n by omega)).lo
  omega
theorem guess_le {n : Int} (h : n < 2 ^ 50) (h0 : 0 < n) : (Builtin.Int.intBits n + 1) / 2 ≤ 25 := by
  have hb : Builtin.Int.intBits n ≤ 50 := PyProof.Rows.intBits_le (show n.natAbs < 2 ^ 50 by
    have e : ((2 ^ 50 : Nat) : Int) = 2 ^ 50 := by decide
    omega)
  omega
section
variable {P : Program} {w : World} {K : PySem.W.Frag} {mg : Str → Option Value} {base : Heap} (T : Txt K mg)
include T
theorem c_put : C8.Cal P w K mg base 1 "put" (spPut K) [] := by
  obtain ⟨f, fd, F, df⟩ := T.d_put
  refine C8.cal0 F (F.fn.binds df fun _ _ _ _ _ _ us hl => match us, hl with | [_, _, _], _ => rfl) .nil sc_put (fun vs H Q E h => ?_) (fun cdv A outer s H vs Q E hr h => ?_)
  · obtain ⟨n, x, y, p, q, A, B, rfl, _⟩ := h
    rfl
  · obtain ⟨n, x, y, p, q, a, b, rfl, hx, hy, hn, h1, h2, h3, h4, hs, hQ⟩ := h
    refine ⟨_, (pss_one (ps_ret (pe_tup (pa_cons (pe_op op_add (pe_op op_mulB (pe_ix ix_tup (pv 1) pe_int (fun _ _ => rfl)) (pe_ix ix_tup (pv 2) pe_int (fun _ _ => rfl))) (pe_op op_mulB (pe_op op_mul (pv 0) (pe_ix ix_tup (pv 1) pe_int (fun _ _ => rfl))) (pe_ix ix_tup (pv 2) pe_int (fun _ _ => rfl)))) (pa_cons (pe_op op_add (pe_op op_mulB (pe_ix ix_tup (pv 1) pe_int (fun _ _ => rfl)) (pe_ix ix_tup (pv 2) pe_int (fun _ _ => rfl))) (pe_op op_mulB (pe_ix ix_tup (pv 1) pe_int (fun _ _ => rfl)) (pe_ix ix_tup (pv 2) pe_int (fun _ _ => rfl)))) pa_nil))))), ?_⟩
    refine ⟨_, rfl, p, _, 0, _, rfl, rfl, hx, rfl, _, rfl, q, _, 0, _, rfl, rfl, hy, rfl, _, _, rfl, rfl, ⟨a, b, h1, h3, by omega⟩, ?_⟩
    refine ⟨_, rfl, _, rfl, p, _, 1, _, rfl, rfl, hx, rfl, _, _, rfl, rfl, .inl ⟨by omega, by omega⟩, _, rfl, q, _, 1, _, rfl, rfl, hy, rfl, _, _, rfl, rfl, ⟨20 + a, b, (bt20 hn).mul h2, h4, by omega⟩, _, _, rfl, rfl, ?_⟩
    refine ⟨_, rfl, p, _, 0, _, rfl, rfl, hx, rfl, _, rfl, q, _, 1, _, rfl, rfl, hy, rfl, _, _, rfl, rfl, ⟨a, b, h1, h4, by omega⟩, ?_⟩
    refine ⟨_, rfl, p, _, 1, _, rfl, rfl, hx, rfl, _, rfl, q, _, 0, _, rfl, rfl, hy, rfl, _, _, rfl, rfl, ⟨a, b, h2, h3, by omega⟩, _, _, rfl, rfl, ?_⟩
    exact ⟨by show 2 ≤ sizeLine; decide, hQ⟩
theorem c_root_of : C8.Cal P w K mg base 1 "root_of" spRoot [] := by
  obtain ⟨f, fd, F, df⟩ := T.d_root_of
  refine C8.cal0 F (F.fn.binds df fun _ _ _ _ _ _ us hl => match us, hl with | [_], _ => rfl) .nil sc_root_of (fun vs H Q E h => ?_) (fun cdv A outer s H vs Q E hr h => ?_)
  · obtain ⟨n, rfl, _⟩ := h
    rfl
  · obtain ⟨n, rfl, h0, h50, hQ⟩ := h
    refine ⟨_, (pss_cons (ps_if (pt_cmpR op_eq (pv 0) pe_int (nomark _))
  (pss_one (ps_ret pe_int))
  pss_nil)
 (pss_cons (ps_set (i := 1) sc_root_of.nd rfl (.inl rfl) (pe_op op_shlW pe_int (pe_op op_fdiv (pe_op op_add (pe_bits (pv 0)) pe_int) pe_int)))
 (pss_cons (ps_while PassesOwn.never (pt_cmpR op_gt (pe_op op_mul (pv 1) (pv 1)) (pv 0) (nomark _))
  (pss_one (ps_set (i := 1) sc_root_of.nd rfl (.inl rfl) (pe_op op_fdiv (pe_op op_add (pv 1) (pe_op op_fdiv (pv 0) (pv 1))) pe_int))))
 (pss_one (ps_ret (pv 1)))))), ?_⟩
    refine ⟨_, rfl, rfl, _, rfl, ite2 (fun e => ?_) (fun e => ?_)⟩
    · have e0 : n = 0 := V.int.inj (of_decide_eq_true e)
      subst e0
      exact hQ
    · have n0 : n ≠ 0 := fun z => by
        subst z
        exact e (decide_eq_true rfl)
      have np : 0 < n := by omega
      obtain ⟨g1, g2⟩ := guess np
      have g3 := guess_le h50 np
      refine ⟨_, rfl, _, rfl, _, _, rfl, rfl, _, _, rfl, rfl, ⟨by decide, by decide⟩, _, _, rfl, rfl, ?_, ?_⟩
      · have e2 : ((Builtin.Int.intBits n : Nat) : Int) + 1 = ((Builtin.Int.intBits n + 1 : Nat) : Int) := by omega
        rw [e2, show ((Builtin.Int.intBits n + 1 : Nat) : Int) / 2 = (((Builtin.Int.intBits n + 1) / 2 : Nat) : Int) by omega]
        exact shl_ok (n := 1) (by decide) (by omega)
      · have ek : ((((Builtin.Int.intBits n : Nat) : Int) + 1) / 2).toNat = (Builtin.Int.intBits n + 1) / 2 := by omega
        have hx : (1 : Int) * 2 ^ ((((Builtin.Int.intBits n : Nat) : Int) + 1) / 2).toNat ≤ 2 ^ 25 := by
          rw [ek, Int.one_mul]
          generalize (Builtin.Int.intBits n + 1) / 2 = k at g3
          have := Nat.pow_le_pow_right (n := 2) (by omega) g3
          have e1 : (2 : Int) ^ k = ((2 ^ k : Nat) : Int) := by simp
          have e2 : (2 : Int) ^ 25 = ((2 ^ 25 : Nat) : Int) := by simp
          omega
        have g1' : isq n ≤ (1 : Int) * 2 ^ ((((Builtin.Int.intBits n : Nat) : Int) + 1) / 2).toNat := by
          rw [ek, Int.one_mul]
          exact g1
        have R := isq_root h0
        refine ⟨fun m σ H' => ∃ x : Int, σ = [some (.int n), some (.int x)] ∧ H' = H ∧ isq n ≤ x ∧ x ≤ 2 ^ 25 ∧ m = x.toNat, ⟨_, _, rfl, rfl, g1', hx, rfl⟩, fun m σ H' hW => ?_⟩
        obtain ⟨x, rfl, rfl, x1, x2, rfl⟩ := hW
        have r0 := R.nn
        refine ⟨_, rfl, _, rfl, _, _, rfl, rfl, .inl ⟨by omega, by omega⟩, _, rfl, _, _, rfl, rfl, _, rfl, ite2 (fun e => ?_) (fun e => ?_)⟩
        · have hg : n < x * x := of_decide_eq_true e
          have xp : 0 < x := by
            rcases Int.lt_or_le 0 x with z | z
            · exact z
            · have : x = 0 := by omega
              subst this
              omega
          rcases newton R xp x1 hg with ⟨k1, k2, k3⟩ | z
          · refine ⟨fun σ' H'' => ∃ y : Int, σ' = [some (.int n), some (.int y)] ∧ H'' = H' ∧ isq n ≤ y ∧ y < x, fun σ' H'' hN => ?_, ?_⟩
            · obtain ⟨y, rfl, rfl, y1, y2⟩ := hN
              exact ⟨y.toNat, by omega, y, rfl, rfl, y1, by omega, rfl⟩
            · refine ⟨_, rfl, _, rfl, _, rfl, _, _, rfl, rfl, ⟨by omega, by omega⟩, _, _, rfl, rfl, _, _, rfl, rfl, ⟨by decide, by decide⟩, ?_⟩
              exact ⟨_, rfl, rfl, k1, k2⟩
          · exact absurd z n0
        · have hg : ¬ n < x * x := fun z => e (decide_eq_true z)
          have ex : x = isq n := by
            have h1 := R.hi
            have h2 : x * x < (isq n + 1) * (isq n + 1) := by omega
            rcases Int.lt_or_le x (isq n + 1) with z | z
            · omega
            · have := sqle (by omega) z
              omega
          rw [ex]
          exact ⟨_, rfl, hQ⟩
end
end OA
set_option Elab.async false
set_option linter.all false
set_option maxRecDepth 100000
set_option maxHeartbeats 4000000
namespace OA
open PySem PySem.Spec PyProof.Rows L2

theorem cut_last (xs : List V) : cutV xs none (some (-1)) = xs.dropLast := by
  have e : HT.sIx xs.length xs.length (some (-1)) = xs.length - 1 := by
    show (if (-1 : Int) < 0 then ((-1 : Int) + (xs.length : Int)).toNat else min (-1 : Int).toNat xs.length) = _
    rw [if_pos (by decide)]
    omega
  unfold cutV
  rw [HT.sIx_none, e, List.drop_zero, List.dropLast_eq_take, Nat.sub_zero]
theorem cut_to (xs : List V) (k : Nat) : cutV xs none (some (k : Int)) = xs.take k := by
  unfold cutV
  rw [HT.sIx_none, HT.sIx_nat, List.drop_zero, Nat.sub_zero]
  by_cases h : k ≤ xs.length
  · rw [Nat.min_eq_left h]
  · rw [Nat.min_eq_right (by omega), List.take_of_length_le (Nat.le_refl _), List.take_of_length_le (by omega)]
theorem line_of {n : Nat} (h : n ≤ 10000000) : n < sizeLine := Nat.lt_of_le_of_lt h (by decide)

/-! ### the numbers -/
/-- a number of the law's, no square -/
structure Num (n : Int) : Prop where
  nsq : Nsq n (isq n)
  le : n ≤ 1000000
theorem Num.r1000 {n : Int} (h : Num n) : isq n ≤ 1000 := by
  rcases Int.lt_or_le (isq n) 1001 with z | z
  · omega
  · have := sqle (by decide) z
    have := h.nsq.lo
    have := h.le
    omega
theorem Num.two {n : Int} (h : Num n) : 2 ≤ n := n_two h.nsq
theorem num_of {n : Int} (h2 : 2 ≤ n) (hl : n ≤ 1000000) (hs : isq n * isq n ≠ n) : Num n := by
  have R := isq_root (show 0 ≤ n by omega)
  refine ⟨⟨?_, ?_, R.hi⟩, hl⟩
  · have := R.nn
    have := R.hi
    rcases Int.lt_or_le (isq n) 1 with z | z
    · have : isq n = 0 := by omega
      rw [this] at R
      have := R.hi
      omega
    · exact z
  · have := R.lo
    omega
theorem sd_2000 {n : Int} (N : Num n) (k : Nat) : sd n (isq n) k ≤ 2000 := by
  have r := N.r1000
  cases k with
  | zero =>
    show (1 : Int) ≤ 2000
    decide
  | succ k =>
    have A := red_at N.nsq k
    have := A.dh
    have := A.mr
    omega
theorem sm_1000 {n : Int} (N : Num n) (k : Nat) : 0 ≤ sm n (isq n) k ∧ sm n (isq n) k ≤ 1000 := by
  have r := N.r1000
  cases k with
  | zero =>
    show (0 : Int) ≤ 0 ∧ (0 : Int) ≤ 1000
    decide
  | succ k =>
    have A := red_at N.nsq k
    have := A.m1
    have := A.mr
    omega
/-! ### promises -/
def spWhole : Sp := fun vs H Q _ => ∃ i : Int, vs = [.int i] ∧ Q (.bl true) H
def spParts (K : PySem.W.Frag) : Sp := fun vs H Q _ => ∃ n : Int, vs = [.int n] ∧ Num n ∧
  ∀ H' p l, Same H H' → H l = none → H' p = some (.tup [.int (isq n), .ref l]) → H' l = some (.lst ((parts n (isq n)).map V.int)) → Q (.ref p) H'
def spLeastOf (K : PySem.W.Frag) : Sp := fun vs H Q _ => ∃ n : Int, vs = [.int n] ∧ Num n ∧
  ∀ H' p q, Same H H' → H' p = some (.tup [.ref q, .bl (even n (isq n))]) → H' q = some (.tup [.int (fst1 n (isq n)).1, .int (fst1 n (isq n)).2]) → Q (.ref p) H'
def spAnswerOf (K : PySem.W.Frag) : Sp := fun vs H Q _ => ∃ n : Int, vs = [.int n] ∧ Num n ∧
  ∀ H' q, Same H H' → H' q = some (.tup [.int (lst n (isq n)).1, .int (lst n (isq n)).2]) → Q (.ref q) H'
section
variable {P : Program} {w : World} {K : PySem.W.Frag} {mg : Str → Option Value} {base : Heap} (T : Txt K mg)
include T
theorem c_parts_of : C8.Cal P w K mg base 2 "parts_of" (spParts K) [] := by
  obtain ⟨f, fd, F, df⟩ := T.d_parts_of
  have c_root_of : C8.Cal P w K mg base 1 "root_of" spRoot [] := c_root_of T
  refine C8.cal0 F (F.fn.binds df fun _ _ _ _ _ _ us hl => match us, hl with | [_], _ => rfl) .nil sc_parts_of (fun vs H Q E h => ?_) (fun cdv A outer s H vs Q E hr h => ?_)
  · obtain ⟨n, rfl, _⟩ := h
    rfl
  · obtain ⟨n, rfl, N, hQ⟩ := h
    have N2 := N.two
    have Nl := N.le
    have hp := per_pos N.nsq N.r1000
    refine ⟨_, (pss_cons (ps_set (i := 1) sc_parts_of.nd rfl (.inl rfl) (C8.pe_c c_root_of hr (by decide) (by rfl) (pa_cons (pv 0) pa_nil)))
 (pss_cons (ps_set (i := 2) sc_parts_of.nd rfl (.inl rfl) (pe_lst pa_nil))
 (pss_cons (ps_par3 (i := 3) (j := 4) (l := 5) (by rfl) sc_parts_of.nd rfl rfl rfl (by decide) (by decide) (by decide) rfl rfl rfl (pa_cons pe_int (pa_cons pe_int (pa_cons (pv 1) pa_nil))) (by rfl))
 (pss_cons (ps_while PassesOwn.never (pt_cmpR op_ne (pv 5) (pe_op op_mul pe_int (pv 1)) (nomark _))
  (pss_cons (ps_set (i := 3) sc_parts_of.nd rfl (.inl rfl) (pe_op op_sub (pe_op op_mul (pv 4) (pv 5)) (pv 3)))
 (pss_cons (ps_set (i := 4) sc_parts_of.nd rfl (.inl rfl) (pe_op op_fdiv (pe_op op_sub (pv 0) (pe_op op_mul (pv 3) (pv 3))) (pv 4)))
 (pss_cons (ps_set (i := 5) sc_parts_of.nd rfl (.inl rfl) (pe_op op_fdiv (pe_op op_add (pv 1) (pv 3)) (pv 4)))
 (pss_one (ps_expr (pe_bm PySem.F.plainAttrs_list PySem.F.slot_list_append PySem.F.type_list_append mt_append (pv 2) (pa_cons (pv 5) pa_nil))))))))
 (pss_one (ps_ret (pe_tup (pa_cons (pv 1) (pa_cons (pv 2) pa_nil))))))))), ?_⟩
    refine ⟨_, rfl, n, rfl, by omega, by omega, ?_⟩
    refine ⟨Nat.zero_le _, fun o no => ?_⟩
    refine ⟨_, rfl, _, _, _, rfl, ?_⟩
    refine ⟨fun m σ H' => ∃ k, k ≤ per n (isq n) ∧ σ = [some (.int n), some (.int (isq n)), some (.ref o), some (.int (sm n (isq n) k)), some (.int (sd n (isq n) k)), some (.int (sa n (isq n) k))] ∧
      Same H H' ∧ H' o = some (.lst (((parts n (isq n)).take k).map V.int)) ∧ m = per n (isq n) - k, ⟨_, 0, Nat.zero_le _, ?_, same_upd no, ?_, rfl⟩, fun m σ H' hW => ?_⟩
    · have e : sa n (isq n) 0 = isq n := by
        show (isq n + 0) / 1 = isq n
        simp
      rw [e]
      rfl
    · rw [upd_same]
      rfl
    obtain ⟨k, hk, rfl, sH, ho, rfl⟩ := hW
    have r1000 := N.r1000
    have r1 := N.nsq.r1
    refine ⟨_, rfl, _, rfl, _, _, rfl, rfl, .inl ⟨by decide, by decide⟩, rfl, _, rfl, ?_⟩
    by_cases hL : k = per n (isq n)
    · subst hL
      have e : sa n (isq n) (per n (isq n)) = 2 * isq n := by
        obtain ⟨L, hL⟩ : ∃ L, per n (isq n) = L + 1 := ⟨per n (isq n) - 1, by omega⟩
        have o := per_one N.nsq N.r1000
        rw [hL] at o ⊢
        exact (sa_last N.nsq L).mpr o
      rw [e, decide_eq_true rfl]
      refine iteF ?_
      refine ⟨_, rfl, _, rfl, by show 2 ≤ sizeLine; decide, fun p np => ?_⟩
      have et : (parts n (isq n)).take (per n (isq n)) = parts n (isq n) := List.take_of_length_le (by rw [parts_length]; exact Nat.le_refl _)
      rw [et] at ho
      refine hQ _ p o (same_up2 sH np) no upd_same ?_
      rw [upd_ne (ne_of_none ho np)]
      exact ho
    · have hlt : k < per n (isq n) := by omega
      have ne : sa n (isq n) k ≠ 2 * isq n := by
        cases k with
        | zero =>
          have e : sa n (isq n) 0 = isq n := by
            show (isq n + 0) / 1 = isq n
            simp
          rw [e]
          omega
        | succ k => exact parts_ne N.nsq N.r1000 hlt
      rw [decide_eq_false (fun z => ne (V.int.inj z))]
      refine iteT ?_
      have d1 := sd_pos N.nsq k
      have d2 := sd_2000 N k
      have d3 := sd_pos N.nsq (k + 1)
      have d4 := sd_2000 N (k + 1)
      have m1 := sm_1000 N (k + 1)
      have em : sd n (isq n) k * sa n (isq n) k - sm n (isq n) k = sm n (isq n) (k + 1) := by
        rw [Int.mul_comm]
        rfl
      have ed : (n - sm n (isq n) (k + 1) * sm n (isq n) (k + 1)) / sd n (isq n) k = sd n (isq n) (k + 1) := rfl
      refine ⟨fun σ' H'' => σ' = [some (.int n), some (.int (isq n)), some (.ref o), some (.int (sm n (isq n) (k + 1))), some (.int (sd n (isq n) (k + 1))), some (.int (sa n (isq n) (k + 1)))] ∧
        Same H H'' ∧ H'' o = some (.lst (((parts n (isq n)).take (k + 1)).map V.int)), fun σ' H'' hN => ?_, ?_⟩
      · obtain ⟨e1, e2, e3⟩ := hN
        exact ⟨per n (isq n) - (k + 1), by omega, k + 1, hlt, e1, e2, e3, rfl⟩
      · refine ⟨_, rfl, _, rfl, _, _, rfl, rfl, .inl ⟨by omega, by omega⟩, _, rfl, _, _, rfl, rfl, ?_⟩
        dsimp only
        rw [em]
        refine ⟨_, rfl, _, rfl, _, rfl, _, _, rfl, rfl, .inl ⟨by omega, by omega⟩, _, _, rfl, rfl, _, rfl, _, _, rfl, rfl, ⟨by omega, by omega⟩, ?_⟩
        refine ⟨_, rfl, _, rfl, _, _, rfl, rfl, _, rfl, _, _, rfl, rfl, ⟨by show 0 < sd n (isq n) (k + 1); omega, by show sd n (isq n) (k + 1) < _; omega⟩, ?_⟩
        have hz : (((parts n (isq n)).take k).map V.int).length < sizeLine := by
          rw [List.length_map, List.length_take, parts_length]
          have := per_bound N.nsq N.r1000
          exact line_of (by omega)
        refine ⟨.ref o, rfl, .inl ⟨rfl, _, SqL.at ho⟩, _, rfl, o, _, _, rfl, rfl, ho, hz, ?_⟩
        refine ⟨rfl, fun b z e => ?_, ?_⟩
        · have nb : b ≠ o := ne_of_none e no
          rw [upd_ne nb]
          exact sH _ _ e
        · rw [upd_same, List.take_add_one, parts_get hlt, List.map_append]
          rfl
theorem c_least_of : C8.Cal P w K mg base 3 "least_of" (spLeastOf K) [] := by
  obtain ⟨f, fd, F, df⟩ := T.d_least_of
  have c_parts_of : C8.Cal P w K mg base 2 "parts_of" (spParts K) [] := c_parts_of T
  refine C8.cal0 F (F.fn.binds df fun _ _ _ _ _ _ us hl => match us, hl with | [_], _ => rfl) .nil sc_least_of (fun vs H Q E h => ?_) (fun cdv A outer s H vs Q E hr h => ?_)
  · obtain ⟨n, rfl, _⟩ := h
    rfl
  · obtain ⟨n, rfl, N, hQ⟩ := h
    have hp := per_pos N.nsq N.r1000
    refine ⟨_, (pss_cons (ps_asg (C8.pe_c c_parts_of hr (by decide) (by rfl) (pa_cons (pv 0) pa_nil)) (pg_tup (by rfl) (pgs_cons (pg_name (i := 1) sc_least_of.nd rfl (.inl rfl)) (pgs_cons (pg_name (i := 2) sc_least_of.nd rfl (.inl rfl)) pgs_nil))))
 (pss_cons (ps_par (i := 3) (j := 4) (by rfl) sc_least_of.nd rfl rfl (by decide) rfl rfl (pa_cons (pe_tup (pa_cons pe_int (pa_cons pe_int pa_nil))) (pa_cons (pe_tup (pa_cons (pv 1) (pa_cons pe_int pa_nil))) pa_nil)) (by rfl))
 (pss_cons (ps_for PassesOwn.never rfl (pi_list (pe_slice sl_list (pv 2) po_none (po_some (pe_un un_neg pe_int)))) (pg_name (i := 5) sc_least_of.nd rfl (.inl rfl))
  (pss_one (ps_par (i := 3) (j := 4) (by rfl) sc_least_of.nd rfl rfl (by decide) rfl rfl (pa_cons (pv 4) (pa_cons (pe_tup (pa_cons (pe_op op_add (pe_op op_mul (pv 5) (pe_ix ix_tup (pv 4) pe_int (fun _ _ => rfl))) (pe_ix ix_tup (pv 3) pe_int (fun _ _ => rfl))) (pa_cons (pe_op op_add (pe_op op_mul (pv 5) (pe_ix ix_tup (pv 4) pe_int (fun _ _ => rfl))) (pe_ix ix_tup (pv 3) pe_int (fun _ _ => rfl))) pa_nil))) pa_nil)) (by rfl))))
 (pss_one (ps_ret (pe_tup (pa_cons (pv 4) (pa_cons (pe_cmpR op_eq (pe_op op_mod (pe_callB call_len_seq (by rfl) T.n_len PySem.boot_len (pa_cons (pv 2) pa_nil)) pe_int) pe_int (nomark _)) pa_nil)))))))), ?_⟩
    refine ⟨_, rfl, n, rfl, N, fun H1 p l s1 nl ep el => ?_⟩
    refine ⟨p, _, rfl, SqT.at ep, rfl, _, _, rfl, _, _, rfl, rfl, ?_⟩
    refine ⟨by show 2 ≤ sizeLine; decide, fun q0 n0 => ?_⟩
    refine ⟨_, rfl, by show 2 ≤ sizeLine; decide, fun q1 n1 => ?_⟩
    refine ⟨_, _, rfl, ?_⟩
    have el1 : (upd (upd H1 q0 (.tup [.int 1, .int 0])) q1 (.tup [.int (isq n), .int 1])) l = some (.lst ((parts n (isq n)).map V.int)) := same_up2 (same_upd n0) n1 _ _ el
    refine ⟨_, rfl, 1, rfl, _, rfl, l, _, rfl, SqL.at el1, fun c nc => ?_⟩
    have s2 : Same H1 (upd (upd (upd H1 q0 (.tup [.int 1, .int 0])) q1 (.tup [.int (isq n), .int 1])) c (.lst (cutV ((parts n (isq n)).map V.int) none (some (-1))))) := same_up2 (same_up2 (same_upd n0) n1) nc
    have ecut : cutV ((parts n (isq n)).map V.int) none (some (-1)) = ((parts n (isq n)).dropLast).map V.int := by rw [cut_last, List.map_dropLast]
    have elen : ((parts n (isq n)).dropLast).length = per n (isq n) - 1 := by rw [List.length_dropLast, parts_length]
    have eq1 : (upd (upd (upd H1 q0 (.tup [.int 1, .int 0])) q1 (.tup [.int (isq n), .int 1])) c (.lst (cutV ((parts n (isq n)).map V.int) none (some (-1))))) q1 = some (.tup [.int (isq n), .int 1]) := same_upd nc _ _ upd_same
    have eq0 : (upd (upd (upd H1 q0 (.tup [.int 1, .int 0])) q1 (.tup [.int (isq n), .int 1])) c (.lst (cutV ((parts n (isq n)).map V.int) none (some (-1))))) q0 = some (.tup [.int 1, .int 0]) := same_upd nc _ _ (same_upd n1 _ _ upd_same)
    refine ⟨c, rfl, ⟨_, SqL.at upd_same⟩, for_list (xs := ((parts n (isq n)).dropLast).map V.int) (fun i σ H' => ∃ a b z, σ = [some (.int n), some (.int (isq n)), some (.ref l), some (.ref a), some (.ref b), z] ∧
      Same H1 H' ∧ H' c = some (.lst (((parts n (isq n)).dropLast).map V.int)) ∧ H' a = some (.tup [.int (pa n (isq n) i), .int (qa n (isq n) i)]) ∧ H' b = some (.tup [.int (pp n (isq n) i), .int (qq n (isq n) i)])) ?_ (fun i σ H' _ h => ?_) (fun i x σ H' hx h => ?_) (fun σ H' h => ?_)⟩
    · exact ⟨q0, q1, none, rfl, s2, by rw [upd_same, ecut], eq0, eq1⟩
    · obtain ⟨a, b, z, _, _, h, _⟩ := h
      exact SqL.at h
    · obtain ⟨a, b, z, rfl, sH, hc, ha, hb⟩ := h
      have hi : i < per n (isq n) - 1 := by
        have := (List.getElem?_eq_some_iff.mp hx).1
        rw [List.length_map, elen] at this
        exact this
      have ex : x = .int (sa n (isq n) (i + 1)) := by
        rw [List.getElem?_map, List.getElem?_dropLast, parts_length, if_pos hi, parts_get (by omega)] at hx
        exact (Option.some.inj hx).symm
      subst ex
      have a2 : 1 ≤ sa n (isq n) (i + 1) := sa_pos N.nsq _
      have a3 : sa n (isq n) (i + 1) ≤ 2000 := parts_le N.nsq N.r1000 _ (List.mem_of_getElem? (parts_get (show i < per n (isq n) by omega)))
      refine ⟨_, rfl, _, rfl, _, rfl, b, _, 0, _, rfl, rfl, SqT.at hb, rfl, _, _, rfl, rfl, .inl ⟨by omega, by omega⟩, _, rfl, a, _, 0, _, rfl, rfl, SqT.at ha, rfl, _, _, rfl, rfl, ?_⟩
      refine ⟨_, rfl, _, rfl, b, _, 1, _, rfl, rfl, SqT.at hb, rfl, _, _, rfl, rfl, .inl ⟨by omega, by omega⟩, _, rfl, a, _, 1, _, rfl, rfl, SqT.at ha, rfl, _, _, rfl, rfl, ?_⟩
      refine ⟨by show 2 ≤ sizeLine; decide, fun q2 n2 => ⟨_, _, rfl, ?_⟩⟩
      exact ⟨b, q2, _, rfl, same_up2 sH n2, same_upd n2 _ _ hc, same_upd n2 _ _ hb, upd_same⟩
    · obtain ⟨a, b, z, rfl, sH, hc, ha, hb⟩ := h
      rw [List.length_map, elen] at ha hb
      have el2 := sH _ _ el
      refine ⟨_, rfl, _, rfl, l, _, rfl, .inl (SqL.at el2), _, _, rfl, rfl, (by show (0 : Int) < 2; decide), rfl, ?_⟩
      refine ⟨by show 2 ≤ sizeLine; decide, fun p2 n2 => ?_⟩
      refine hQ _ p2 b ((s1.trans sH).trans (same_upd n2)) ?_ (same_upd n2 _ _ hb)
      rw [upd_same]
      congr 4
      rw [List.length_map, parts_length]
      unfold even
      congr 1
      by_cases h : per n (isq n) % 2 = 0
      · rw [h]
        rw [decide_eq_true (show V.int (((per n (isq n) : Nat) : Int) % 2) = V.int 0 by congr 1; omega)]
        rfl
      · rw [show per n (isq n) % 2 = 1 by omega]
        rw [decide_eq_false (fun z => h (by have := V.int.inj z; omega))]
        rfl
theorem c_answer_of : C8.Cal P w K mg base 4 "answer_of" (spAnswerOf K) [] := by
  obtain ⟨f, fd, F, df⟩ := T.d_answer_of
  have c_least_of : C8.Cal P w K mg base 3 "least_of" (spLeastOf K) [] := c_least_of T
  have c_put : C8.Cal P w K mg base 1 "put" (spPut K) [] := c_put T
  refine C8.cal0 F (F.fn.binds df fun _ _ _ _ _ _ us hl => match us, hl with | [_], _ => rfl) .nil sc_answer_of (fun vs H Q E h => ?_) (fun cdv A outer s H vs Q E hr h => ?_)
  · obtain ⟨n, rfl, _⟩ := h
    rfl
  · obtain ⟨n, rfl, N, hQ⟩ := h
    have N2 := N.two
    obtain ⟨b1, b2⟩ := first_bt N.nsq N.r1000 (R := 1000) N.r1000 (by decide)
    rw [box_1000] at b1 b2
    refine ⟨_, (pss_cons (ps_asg (C8.pe_c c_least_of hr (by decide) (by rfl) (pa_cons (pv 0) pa_nil)) (pg_tup (by rfl) (pgs_cons (pg_name (i := 1) sc_answer_of.nd rfl (.inl rfl)) (pgs_cons (pg_name (i := 2) sc_answer_of.nd rfl (.inl rfl)) pgs_nil))))
 (pss_one (ps_ret (pe_ifExp (pt_val (pv 2)) (pv 1) (C8.pe_c c_put hr (by decide) (by rfl) (pa_cons (pv 0) (pa_cons (pv 1) (pa_cons (pv 1) pa_nil)))))))), ?_⟩
    refine ⟨_, rfl, n, rfl, N, fun H1 p q s1 ep eq => ?_⟩
    refine ⟨p, _, rfl, SqT.at ep, rfl, _, _, rfl, _, _, rfl, rfl, ?_⟩
    refine ⟨_, rfl, _, rfl, ?_⟩
    cases he : even n (isq n) with
    | true =>
      refine iteT ⟨_, rfl, hQ _ q s1 ?_⟩
      rw [eq]
      unfold lst
      rw [if_pos he]
    | false =>
      refine iteF ⟨_, rfl, _, rfl, _, rfl, n, _, _, q, q, _, _, rfl, SqT.at eq, SqT.at eq, ⟨by omega, N.le⟩, b1, b2, b1, b2, by decide, fun r nr => ?_⟩
      refine hQ _ r (same_up2 s1 nr) ?_
      rw [upd_same]
      unfold lst
      rw [if_neg (by rw [he]; decide)]
end
end OA
set_option Elab.async false
set_option linter.all false
set_option maxRecDepth 100000
set_option maxHeartbeats 4000000
namespace OA
open PySem PySem.Spec PyProof.Rows L2

/-! ### words -/
theorem iteD {c A B : Prop} [Decidable c] (h : c) (a : A) : if decide c = true then A else B := by
  rw [decide_eq_true h]
  exact iteT a
theorem iteDF {c A B : Prop} [Decidable c] (h : ¬ c) (b : B) : if decide c = true then A else B := by
  rw [decide_eq_false h]
  exact iteF b
theorem iteNF {c A B : Prop} [Decidable c] (h : ¬ c) (a : A) : if (!decide c) = true then A else B := by
  rw [decide_eq_false h]
  exact iteT a
theorem decV (a b : Int) : decide (V.int a = V.int b) = decide (a = b) := by
  by_cases h : a = b
  · subst h
    simp
  · rw [decide_eq_false h, decide_eq_false (fun z => h (V.int.inj z))]
theorem decB (a b : Bool) : decide (V.bl a = V.bl b) = decide (a = b) := by
  by_cases h : a = b
  · subst h
    simp
  · rw [decide_eq_false h, decide_eq_false (fun z => h (V.bl.inj z))]
/-- whether it is a square -/
def sqB (n : Int) : Bool := decide (isq n * isq n = n)
/-- an instance of the class named c, with these fields -/
def Is (K : PySem.W.Frag) (c : Str) (fs : List (Str × V)) (H : Hp) (v : V) : Prop := ∃ p dx, v = .ref p ∧ H p = some (.ins (ca K c) dx fs)
theorem Is.same {K : PySem.W.Frag} {c : Str} {fs : List (Str × V)} {H H' : Hp} {v : V} (h : Is K c fs H v) (s : Same H H') : Is K c fs H' v := let ⟨p, dx, e, q⟩ := h; ⟨p, dx, e, s _ _ q⟩
abbrev f1 (r : Int) : List (Str × V) := [("root", .int r)]
abbrev f2 (x : Int × Int) : List (Str × V) := [("one", .int x.1), ("other", .int x.2)]

/-! ### promises -/
def spCheck : Sp := fun vs H Q _ => ∃ n : Int, vs = [.int n] ∧ 2 ≤ n ∧ n ≤ 1000000 ∧ Q .non H
def spCheckRoot : Sp := fun vs H Q _ => ∃ n : Int, vs = [.int n] ∧ Num n ∧ Q .non H
def spIsSq : Sp := fun vs H Q _ => ∃ n : Int, vs = [.int n] ∧ 0 ≤ n ∧ n < 2 ^ 50 ∧ Q (.bl (sqB n)) H
def spInit1 (K : PySem.W.Frag) (c : Str) : Sp := fun vs H Q _ => ∃ a dx v, vs = [.ref a, v] ∧ H a = some (.ins (ca K c) dx []) ∧ Q .non (upd H a (.ins (ca K c) dx [("root", v)]))
def spInit2 (K : PySem.W.Frag) (c : Str) : Sp := fun vs H Q _ => ∃ a dx v u, vs = [.ref a, v, u] ∧ H a = some (.ins (ca K c) dx []) ∧ Q .non (upd H a (.ins (ca K c) dx [("one", v), ("other", u)]))
def spSqShows (K : PySem.W.Frag) : Sp := fun vs H Q _ => ∃ (o : V) (r n : Int), vs = [o, .int n] ∧ Is K "Square" (f1 r) H o ∧ Bt 60000000 r ∧ Q (.bl (decide (0 < r) && decide (r * r = n))) H
def leastB (x : Int × Int) (n : Int) : Bool := !sqB n && decide (x = lst n (isq n))
def spLeastShows (K : PySem.W.Frag) : Sp := fun vs H Q _ => ∃ (o : V) (x : Int × Int) (n : Int), vs = [o, .int n] ∧ Is K "Least" (f2 x) H o ∧ 2 ≤ n ∧ n ≤ 1000000 ∧ ∀ H', Same H H' → Q (.bl (leastB x n)) H'
theorem sqB_nat (m : Nat) : sqB (m : Int) = sqN m := by
  unfold sqB sqN isq
  rw [Int.toNat_natCast]
  by_cases h : isqN m * isqN m = m
  · have h2 : ((isqN m : Nat) : Int) * ((isqN m : Nat) : Int) = (m : Int) := by rw [← Int.natCast_mul, h]
    rw [decide_eq_true h2]
    simp [h]
  · have h2 : ¬ ((isqN m : Nat) : Int) * ((isqN m : Nat) : Int) = (m : Int) := by
      rw [← Int.natCast_mul]
      omega
    rw [decide_eq_false h2]
    simp [h]
theorem sq_num {n : Int} (h2 : 2 ≤ n) (hl : n ≤ 1000000) (hs : sqB n = false) : Num n := num_of h2 hl (of_decide_eq_false hs)
theorem isq_1000 {n : Int} (h2 : 2 ≤ n) (hl : n ≤ 1000000) : 1 ≤ isq n ∧ isq n ≤ 1000 := by
  have R := isq_root (show 0 ≤ n by omega)
  constructor
  · have := R.nn
    rcases Int.lt_or_le (isq n) 1 with z | z
    · have : isq n = 0 := by omega
      rw [this] at R
      have := R.hi
      omega
    · exact z
  · rcases Int.lt_or_le (isq n) 1001 with z | z
    · omega
    · have := sqle (by decide) z
      have := R.lo
      omega
theorem num_lit {n : Int} (h2 : 2 ≤ n := by decide) (hl : n ≤ 1000000 := by decide) (hs : sqB n = false := by decide +kernel) : Num n := sq_num h2 hl hs
theorem lst_bt8 {n : Int} (N : Num n) : Bt 67108850 (lst n (isq n)).1 ∧ Bt 67108850 (lst n (isq n)).2 := by
  obtain ⟨b1, b2⟩ := lst_bt N.nsq N.r1000 (R := 1000) N.r1000 (by decide)
  rw [box_1000] at b1 b2
  exact ⟨b1.mono (by decide), b2.mono (by decide)⟩
section
variable {P : Program} {w : World} {K : PySem.W.Frag} {mg : Str → Option Value} {base : Heap} (T : Txt K mg)
include T
theorem c_is_whole : C8.Cal P w K mg base 1 "is_whole" spWhole [] := by
  obtain ⟨f, fd, F, df⟩ := T.d_is_whole
  refine C8.cal0 F (F.fn.binds df fun _ _ _ _ _ _ us hl => match us, hl with | [_], _ => rfl) .nil sc_is_whole (fun vs H Q E h => ?_) (fun cdv A outer s H vs Q E hr h => ?_)
  · obtain ⟨n, rfl, _⟩ := h
    rfl
  · obtain ⟨n, rfl, hQ⟩ := h
    refine ⟨_, (pss_one (ps_ret (pe_and (pe_callB call_isi (by rfl) T.n_isinstance (by decide +kernel) (pa_cons (pv 0) (pa_cons (pe_bltn (by rfl) T.n_int (by decide +kernel) (v := .ty "int") rfl) pa_nil))) (pe_one (pe_not (pe_callB call_isi (by rfl) T.n_isinstance (by decide +kernel) (pa_cons (pv 0) (pa_cons (pe_bltn (by rfl) T.n_bool (by decide +kernel) (v := .ty "bool") rfl) pa_nil)))))))), ?_⟩
    refine ⟨_, rfl, _, _, _, _, true, rfl, .ty _, .base (.int _), kit_ty (by decide +kernel), _, rfl, iteT ?_⟩
    exact ⟨_, rfl, _, _, _, _, false, rfl, .ty _, .base (.int _), kit_ty (by decide +kernel), _, rfl, hQ⟩
theorem c_check_number : C8.Cal P w K mg base 2 "check_number" spCheck [] := by
  obtain ⟨f, fd, F, df⟩ := T.d_check_number
  have c_is_whole : C8.Cal P w K mg base 1 "is_whole" spWhole [] := c_is_whole T
  refine C8.cal0 F (F.fn.binds df fun _ _ _ _ _ _ us hl => match us, hl with | [_], _ => rfl) .nil sc_check_number (fun vs H Q E h => ?_) (fun cdv A outer s H vs Q E hr h => ?_)
  · obtain ⟨n, rfl, _⟩ := h
    rfl
  · obtain ⟨n, rfl, h2, hl, hQ⟩ := h
    refine ⟨_, (pss_one (ps_if (PW.pt (pw_or (pt_not (pt_val (C8.pe_c c_is_whole hr (by decide) (by rfl) (pa_cons (pv 0) pa_nil)))) (pw_or1 (pt_not (pt_chain op_le op_le pe_int (pv 0) (C8.pe_gc (by rfl) T.g_GREATEST))))))
  (pss_one ps_never)
  pss_nil)), ?_⟩
    refine ⟨_, rfl, n, rfl, _, rfl, iteF ⟨_, rfl, _, _, rfl, rfl, _, rfl, iteD h2 ⟨_, _, rfl, rfl, _, rfl, iteNS hl hQ⟩⟩⟩
theorem c_check_root : C8.Cal P w K mg base 2 "check_root" spCheckRoot [] := by
  obtain ⟨f, fd, F, df⟩ := T.d_check_root
  have c_root_of : C8.Cal P w K mg base 1 "root_of" spRoot [] := c_root_of T
  refine C8.cal0 F (F.fn.binds df fun _ _ _ _ _ _ us hl => match us, hl with | [_], _ => rfl) .nil sc_check_root (fun vs H Q E h => ?_) (fun cdv A outer s H vs Q E hr h => ?_)
  · obtain ⟨n, rfl, _⟩ := h
    rfl
  · obtain ⟨n, rfl, N, hQ⟩ := h
    have h2 := N.two
    have hl := N.le
    have r1 := N.nsq.r1
    have r2 := N.r1000
    have lo := N.nsq.lo
    refine ⟨_, (pss_one (ps_if (pt_cmpR op_eq (pe_op op_mul (C8.pe_c c_root_of hr (by decide) (by rfl) (pa_cons (pv 0) pa_nil)) (C8.pe_c c_root_of hr (by decide) (by rfl) (pa_cons (pv 0) pa_nil))) (pv 0) (nomark _))
  (pss_one ps_never)
  pss_nil)), ?_⟩
    refine ⟨_, rfl, n, rfl, by omega, by omega, _, rfl, n, rfl, by omega, by omega, _, _, rfl, rfl, .inl ⟨by omega, by omega⟩, _, rfl, rfl, _, rfl, iteDF (fun z => ?_) hQ⟩
    have := V.int.inj z
    omega
theorem c_chain : C8.Cal P w K mg base 3 "chain" (spParts K) [] := by
  obtain ⟨f, fd, F, df⟩ := T.d_chain
  have c_check_number : C8.Cal P w K mg base 2 "check_number" spCheck [] := c_check_number T
  have c_check_root : C8.Cal P w K mg base 2 "check_root" spCheckRoot [] := c_check_root T
  have c_parts_of : C8.Cal P w K mg base 2 "parts_of" (spParts K) [] := c_parts_of T
  refine C8.cal0 F (F.fn.binds df fun _ _ _ _ _ _ us hl => match us, hl with | [_], _ => rfl) .nil sc_chain (fun vs H Q E h => ?_) (fun cdv A outer s H vs Q E hr h => ?_)
  · obtain ⟨n, rfl, _⟩ := h
    rfl
  · obtain ⟨n, rfl, N, hQ⟩ := h
    refine ⟨_, (pss_cons (ps_expr (C8.pe_c c_check_number hr (by decide) (by rfl) (pa_cons (pv 0) pa_nil)))
 (pss_cons (ps_expr (C8.pe_c c_check_root hr (by decide) (by rfl) (pa_cons (pv 0) pa_nil)))
 (pss_one (ps_ret (C8.pe_c c_parts_of hr (by decide) (by rfl) (pa_cons (pv 0) pa_nil)))))), ?_⟩
    exact ⟨_, rfl, n, rfl, N.two, N.le, _, rfl, n, rfl, N, _, rfl, n, rfl, N, hQ⟩
theorem c_is_square : C8.Cal P w K mg base 2 "is_square" spIsSq [] := by
  obtain ⟨f, fd, F, df⟩ := T.d_is_square
  have c_root_of : C8.Cal P w K mg base 1 "root_of" spRoot [] := c_root_of T
  refine C8.cal0 F (F.fn.binds df fun _ _ _ _ _ _ us hl => match us, hl with | [_], _ => rfl) .nil sc_is_square (fun vs H Q E h => ?_) (fun cdv A outer s H vs Q E hr h => ?_)
  · obtain ⟨n, rfl, _⟩ := h
    rfl
  · obtain ⟨n, rfl, h0, h50, hQ⟩ := h
    have r0 := (isq_root h0).nn
    have r1 := isq_le50 h0 h50
    refine ⟨_, (pss_one (ps_ret (pe_cmpR op_eq (pe_op op_mul (C8.pe_c c_root_of hr (by decide) (by rfl) (pa_cons (pv 0) pa_nil)) (C8.pe_c c_root_of hr (by decide) (by rfl) (pa_cons (pv 0) pa_nil))) (pv 0) (nomark _)))), ?_⟩
    refine ⟨_, rfl, n, rfl, h0, h50, _, rfl, n, rfl, h0, h50, _, _, rfl, rfl, .inl ⟨by omega, by omega⟩, _, rfl, rfl, ?_⟩
    dsimp only
    rw [decV]
    exact hQ
theorem c_Square_init : C8.Mak P w K mg base 1 "Square" (ca K "Square") (spInit1 K "Square") [] := by
  obtain ⟨f, fd, M, hm, F, df⟩ := T.m_Square
  refine C8.mak0 M hm F (F.binds df fun _ _ _ _ _ _ us hl => match us, hl with | [_, _], _ => rfl) .nil sc_Square_init (fun vs H Q E h => ?_) (fun cdv A outer s H vs Q E hr h => ?_)
  · obtain ⟨a, dx, v, rfl, _⟩ := h
    rfl
  · obtain ⟨a, dx, v, rfl, ha, hQ⟩ := h
    refine ⟨_, (pss_one (ps_fld (pv 0) (pv 1) rfl)), ?_⟩
    exact ⟨_, rfl, _, rfl, a, _, dx, _, rfl, ha, T.c_Square, T.a_Square_root, (by show 0 < 1000; decide), hQ⟩
theorem c_Square_shows : C8.Met P w K mg base 2 (ca K "Square") "shows" (spSqShows K) [] := by
  obtain ⟨f, fd, M, F, df⟩ := T.t_Square_shows
  have c_is_whole : C8.Cal P w K mg base 1 "is_whole" spWhole [] := c_is_whole T
  refine C8.met0 T.c_Square M F (F.binds df fun _ _ _ _ _ _ us hl => match us, hl with | [_, _], _ => rfl) sc_Square_shows (fun vs H Q E h => ?_) (fun cdv A outer s H vs Q E hr h => ?_)
  · obtain ⟨o, r, n, rfl, _⟩ := h
    rfl
  · obtain ⟨o, r, n, rfl, ⟨a, dx, rfl, ha⟩, hb, hQ⟩ := h
    refine ⟨_, (pss_one (ps_ret (pe_and (C8.pe_c c_is_whole hr (by decide) (by rfl) (pa_cons (pe_fld (pv 0) rfl) pa_nil)) (pe_and (pe_cmpR op_gt (pe_fld (pv 0) rfl) pe_int (nomark _)) (pe_one (pe_cmpR op_eq (pe_op op_mulB (pe_fld (pv 0) rfl) (pe_fld (pv 0) rfl)) (pv 1) (nomark _))))))), ?_⟩
    refine ⟨_, rfl, a, _, dx, _, _, rfl, ha, T.c_Square, T.a_Square_root, rfl, r, rfl, _, rfl, iteT ?_⟩
    refine ⟨_, rfl, a, _, dx, _, _, rfl, ha, T.c_Square, T.a_Square_root, rfl, _, _, rfl, rfl, _, rfl, ite2 (fun e => ?_) (fun e => ?_)⟩
    · refine ⟨_, rfl, a, _, dx, _, _, rfl, ha, T.c_Square, T.a_Square_root, rfl, _, rfl, a, _, dx, _, _, rfl, ha, T.c_Square, T.a_Square_root, rfl, _, _, rfl, rfl, ⟨60000000, 60000000, hb, hb, by decide⟩, _, rfl, rfl, ?_⟩
      dsimp only
      rw [decV]
      have e' : decide (0 < r) = true := e
      rw [e'] at hQ
      exact hQ
    · have e' : decide (0 < r) = false := by simpa using e
      rw [e'] at hQ
      exact hQ
theorem c_Least_init : C8.Mak P w K mg base 1 "Least" (ca K "Least") (spInit2 K "Least") [] := by
  obtain ⟨f, fd, M, hm, F, df⟩ := T.m_Least
  refine C8.mak0 M hm F (F.binds df fun _ _ _ _ _ _ us hl => match us, hl with | [_, _, _], _ => rfl) .nil sc_Least_init (fun vs H Q E h => ?_) (fun cdv A outer s H vs Q E hr h => ?_)
  · obtain ⟨a, dx, v, u, rfl, _⟩ := h
    rfl
  · obtain ⟨a, dx, v, u, rfl, ha, hQ⟩ := h
    refine ⟨_, (pss_cons (ps_fld (pv 0) (pv 1) rfl)
 (pss_one (ps_fld (pv 0) (pv 2) rfl))), ?_⟩
    refine ⟨_, rfl, _, rfl, a, _, dx, _, rfl, ha, T.c_Least, T.a_Least_one, (by show 0 < 1000; decide), ?_⟩
    refine ⟨_, rfl, _, rfl, a, _, dx, _, rfl, upd_same, T.c_Least, T.a_Least_other, (by show 1 < 1000; decide), ?_⟩
    rw [upd_upd]
    exact hQ
theorem c_Least_shows : C8.Met P w K mg base 5 (ca K "Least") "shows" (spLeastShows K) [] := by
  obtain ⟨f, fd, M, F, df⟩ := T.t_Least_shows
  have c_is_whole : C8.Cal P w K mg base 1 "is_whole" spWhole [] := c_is_whole T
  have c_is_square : C8.Cal P w K mg base 2 "is_square" spIsSq [] := c_is_square T
  have c_answer_of : C8.Cal P w K mg base 4 "answer_of" (spAnswerOf K) [] := c_answer_of T
  refine C8.met0 T.c_Least M F (F.binds df fun _ _ _ _ _ _ us hl => match us, hl with | [_, _], _ => rfl) sc_Least_shows (fun vs H Q E h => ?_) (fun cdv A outer s H vs Q E hr h => ?_)
  · obtain ⟨o, x, n, rfl, _⟩ := h
    rfl
  · obtain ⟨o, x, n, rfl, ⟨a, dx, rfl, ha⟩, h2, hl, hQ⟩ := h
    refine ⟨_, (pss_cons (ps_if (PW.pt (pw_or (pt_not (pt_val (C8.pe_c c_is_whole hr (by decide) (by rfl) (pa_cons (pe_fld (pv 0) rfl) pa_nil)))) (pw_or (pt_not (pt_val (C8.pe_c c_is_whole hr (by decide) (by rfl) (pa_cons (pe_fld (pv 0) rfl) pa_nil)))) (pw_or1 (pt_val (C8.pe_c c_is_square hr (by decide) (by rfl) (pa_cons (pv 1) pa_nil)))))))
  (pss_one (ps_ret pe_bl))
  pss_nil)
 (pss_one (ps_ret (pe_cmpR (op_eqD hr.units) (pe_tup (pa_cons (pe_fld (pv 0) rfl) (pa_cons (pe_fld (pv 0) rfl) pa_nil))) (C8.pe_c c_answer_of hr (by decide) (by rfl) (pa_cons (pv 1) pa_nil)) (nomark _))))), ?_⟩
    refine ⟨_, rfl, a, _, dx, _, _, rfl, ha, T.c_Least, T.a_Least_one, rfl, x.1, rfl, _, rfl, iteF ?_⟩
    refine ⟨_, rfl, a, _, dx, _, _, rfl, ha, T.c_Least, T.a_Least_other, rfl, x.2, rfl, _, rfl, iteF ?_⟩
    refine ⟨_, rfl, n, rfl, by omega, by omega, _, rfl, ite2 (fun e => ?_) (fun e => ?_)⟩
    · have q := hQ H (Same.refl H)
      unfold leastB at q
      rw [show sqB n = true from e] at q
      exact q
    · have es : sqB n = false := by simpa using e
      have N := sq_num h2 hl es
      refine ⟨_, rfl, a, _, dx, _, _, rfl, ha, T.c_Least, T.a_Least_one, rfl, _, rfl, a, _, dx, _, _, rfl, ha, T.c_Least, T.a_Least_other, rfl, ?_⟩
      refine ⟨by show 2 ≤ sizeLine; decide, fun p np => ?_⟩
      refine ⟨_, rfl, n, rfl, N, fun H' q sH eq => ?_⟩
      refine ⟨_, _, dp_pair (SqT.at (sH _ _ upd_same)), dp_pair (SqT.at eq), sh_pair _, sh_pair _, ?_⟩
      rw [eqv_pair]
      have q := hQ H' ((same_upd np).trans sH)
      unfold leastB at q
      rw [es] at q
      exact q
end
end OA
set_option Elab.async false
set_option linter.all false
set_option maxRecDepth 100000
set_option maxHeartbeats 4000000
namespace OA
open PySem PySem.Spec PyProof.Rows L2

theorem turns_ok : ∀ n : Nat, n < 64 → Builtin.Range.small 0 (n : Int) (1 + (n : Int) / 5) = true ∧ ∀ i : Nat, i < (Builtin.Range.rangeSize 0 (n : Int) (1 + (n : Int) / 5)).toNat → i * (1 + n / 5) < n ∧ i < 64 := by
  decide +kernel
/-! ### promises -/
def spCell (K : PySem.W.Frag) : Sp := fun vs H Q _ => ∃ (a : Addr) (ns : List Int) (k : Nat), vs = [.ref a, .int k] ∧ SqL K H a (ns.map V.int) ∧ Q (.int (ns.getD k 0)) H
def spDraw : Sp := fun vs H Q _ => ∃ c k m : Int, vs = [.int c, .int k, .int m] ∧ 0 < m ∧ ∀ H' r, Same H H' → 0 ≤ r → r < m → Q (.int r) H'
def spValue : Sp := fun vs H Q _ => ∃ c k l : Int, vs = [.int c, .int k, .int l] ∧ Bt 1050000 c ∧ 0 ≤ k ∧ k ≤ 1000 ∧ 0 < l ∧ ∀ H' r, Same H H' → 0 ≤ r → r < l → Q (.int r) H'
def spNumbers (K : PySem.W.Frag) : Sp := fun vs H Q _ => ∃ (a : Addr) (ns : List Int), vs = [.ref a] ∧ SqL K H a (ns.map V.int) ∧ ns.length ≤ 63 ∧ (∀ z ∈ ns, Bt 1050000 z) ∧
  ∀ H' l xs, Same H H' → H' l = some (.lst (xs.map V.int)) → (∀ x ∈ xs, 2 ≤ x ∧ x ≤ 1000000) → (∃ ys y, xs = ys ++ [y]) → xs.length ≤ 64 → Q (.ref l) H'
def ap (n : Int) : Int := if even n (isq n) = true then 1 else -1
def spFirst (K : PySem.W.Frag) : Sp := fun vs H Q _ => ∃ n : Int, vs = [.int n] ∧ Num n ∧
  ∀ H' p q, Same H H' → H' p = some (.tup [.ref q, .int (ap n)]) → H' q = some (.tup [.int (fst1 n (isq n)).1, .int (fst1 n (isq n)).2]) → Q (.ref p) H'
def spIsAnswer (K : PySem.W.Frag) : Sp := fun vs H Q _ => ∃ (n : Int) (x : Int × Int) (p : Addr) (z : Int), vs = [.int n, .ref p, .int z] ∧ SqT K H p [.int x.1, .int x.2] ∧ (1 ≤ n ∧ n ≤ 1000000) ∧ Bt 67108850 x.1 ∧ Bt 67108850 x.2 ∧
  Q (.bl (decide (0 ≤ min x.1 x.2) && decide (x.1 * x.1 - n * x.2 * x.2 = z))) H
def spSays : Sp := fun vs H Q _ => ∃ a b : Bool, vs = [.bl a, .bl b] ∧ Q (.bl (decide (a = b))) H
section
variable {P : Program} {w : World} {K : PySem.W.Frag} {mg : Str → Option Value} {base : Heap} (T : Txt K mg)
include T
theorem c__law_cell_at : C8.Cal P w K mg base 1 "_law_cell_at" (spCell K) [] := by
  obtain ⟨f, fd, F, df⟩ := T.d__law_cell_at
  refine C8.cal0 F (F.fn.binds df fun _ _ _ _ _ _ us hl => match us, hl with | [_, _], _ => rfl) .nil sc__law_cell_at (fun vs H Q E h => ?_) (fun cdv A outer s H vs Q E hr h => ?_)
  · obtain ⟨a, ns, k, rfl, _⟩ := h
    rfl
  · obtain ⟨a, ns, k, rfl, hS, hQ⟩ := h
    refine ⟨_, (pss_cons (ps_if (pt_cmpR op_lt (pv 1) (pe_callB call_len_seq (by rfl) T.n_len PySem.boot_len (pa_cons (pv 0) pa_nil)) (nomark _))
  (pss_one (ps_ret (pe_ix ix_list (pv 0) (pv 1) (fun _ _ => rfl))))
  pss_nil)
 (pss_one (ps_ret pe_int))), ?_⟩
    refine ⟨_, rfl, _, rfl, a, _, rfl, .inl hS, _, _, rfl, rfl, _, rfl, ?_⟩
    rw [List.length_map]
    by_cases hk : k < ns.length
    · refine iteD (by omega) ?_
      refine ⟨_, rfl, _, rfl, a, _, _, _, rfl, rfl, hS, atI_nat (v := .int (ns.getD k 0)) ?_, hQ⟩
      rw [List.getElem?_map, List.getElem?_eq_getElem hk, List.getD_eq_getElem?_getD, List.getElem?_eq_getElem hk]
      rfl
    · refine iteDF (by omega) ?_
      have e : ns.getD k 0 = 0 := by rw [List.getD_eq_getElem?_getD, List.getElem?_eq_none (by omega)]; rfl
      rw [e] at hQ
      exact hQ
theorem c__law_draw : C8.Cal P w K mg base 1 "_law_draw" spDraw [] := by
  obtain ⟨f, fd, F, df⟩ := T.d__law_draw
  refine C8.cal0 F (F.fn.binds df fun _ _ _ _ _ _ us hl => match us, hl with | [_, _, _], _ => rfl) .nil sc__law_draw (fun vs H Q E h => ?_) (fun cdv A outer s H vs Q E hr h => ?_)
  · obtain ⟨c, k, m, rfl, _⟩ := h
    rfl
  · obtain ⟨c, k, m, rfl, hm, hQ⟩ := h
    refine ⟨_, (pss_cons (ps_set (i := 3) sc__law_draw.nd rfl (.inl rfl) (pe_tup (pa_cons pe_int (pa_cons pe_int (pa_cons pe_int (pa_cons pe_int (pa_cons pe_int (pa_cons pe_int (pa_cons pe_int (pa_cons pe_int (pa_cons pe_int (pa_cons pe_int (pa_cons pe_int (pa_cons pe_int (pa_cons pe_int (pa_cons pe_int (pa_cons pe_int (pa_cons pe_int pa_nil))))))))))))))))))
 (pss_one (ps_ret (pe_op op_mod (pe_op op_mod (pe_op op_add (pe_op op_mul (pv 0) pe_int) (pe_op op_mul (pv 1) pe_int)) (pe_ix ix_tup (pv 3) (pe_op op_mod (pv 1) pe_int) (fun _ _ => rfl))) (pv 2))))), ?_⟩
    refine ⟨by show 16 ≤ sizeLine; decide, fun p np => ?_⟩
    refine ⟨_, rfl, _, _, rfl, rfl, .inr ⟨by decide, by decide⟩, _, rfl, _, _, rfl, rfl, .inr ⟨by decide, by decide⟩, _, _, rfl, rfl, ?_⟩
    refine ⟨_, rfl, _, rfl, _, _, rfl, rfl, (by show (0 : Int) < 16; decide), ?_⟩
    have k0 := Int.emod_nonneg k (show (16 : Int) ≠ 0 by decide)
    have k1 := Int.emod_lt_of_pos k (show (0 : Int) < 16 by decide)
    obtain ⟨j, hj⟩ := Int.eq_ofNat_of_zero_le k0
    have j16 : j < 16 := by omega
    obtain ⟨pr, e1, e2⟩ : ∃ pr : Int, ([.int 1000003, .int 1000033, .int 1000037, .int 1000039, .int 1000081, .int 1000099, .int 1000117, .int 1000121, .int 1000133, .int 1000151, .int 1000159, .int 1000171, .int 1000183, .int 1000187, .int 1000193, .int 1000199] : List V)[j]? = some (.int pr) ∧ 0 < pr := by
      clear hj
      match j, j16 with
      | 0, _ | 1, _ | 2, _ | 3, _ | 4, _ | 5, _ | 6, _ | 7, _ | 8, _ | 9, _ | 10, _ | 11, _ | 12, _ | 13, _ | 14, _ | 15, _ => exact ⟨_, rfl, by decide⟩
      | j + 16, h => omega
    refine ⟨p, _, _, _, rfl, rfl, SqT.at upd_same, (by rw [hj]; exact atI_nat e1), _, _, rfl, rfl, e2, _, rfl, _, _, rfl, rfl, hm, ?_⟩
    exact hQ _ _ (same_upd np) (Int.emod_nonneg _ (by omega)) (Int.emod_lt_of_pos _ hm)
theorem c__law_value : C8.Cal P w K mg base 2 "_law_value" spValue [] := by
  obtain ⟨f, fd, F, df⟩ := T.d__law_value
  have c__law_draw : C8.Cal P w K mg base 1 "_law_draw" spDraw [] := c__law_draw T
  refine C8.cal0 F (F.fn.binds df fun _ _ _ _ _ _ us hl => match us, hl with | [_, _, _], _ => rfl) .nil sc__law_value (fun vs H Q E h => ?_) (fun cdv A outer s H vs Q E hr h => ?_)
  · obtain ⟨c, k, m, rfl, _⟩ := h
    rfl
  · obtain ⟨c, k, l, rfl, hc, k0, k1, hl, hQ⟩ := h
    refine ⟨_, (pss_cons (ps_if (pt_cmpR op_ge (pv 0) (pe_op op_pow pe_int pe_int) (nomark _))
  (pss_one (ps_ret (pe_op op_mod (pe_op op_sub (pv 0) (pe_op op_pow pe_int pe_int)) (pv 2))))
  pss_nil)
 (pss_one (ps_ret (pe_op op_mod (C8.pe_c c__law_draw hr (by decide) (by rfl) (pa_cons (pe_op op_mulB (pe_op op_add (pv 0) (pe_op op_mul pe_int (pv 1))) (pe_op op_add (pe_op op_add (pv 0) (pe_op op_mul pe_int (pv 1))) pe_int)) (pa_cons (pe_op op_add (pe_op op_mod (pv 1) pe_int) pe_int) (pa_cons pe_int pa_nil)))) (pv 2))))), ?_⟩
    refine ⟨_, rfl, _, _, rfl, rfl, ⟨by decide, by decide, by decide⟩, _, _, rfl, rfl, _, rfl, ite2 (fun e => ?_) (fun e => ?_)⟩
    · refine ⟨_, rfl, _, _, rfl, rfl, ⟨by decide, by decide, by decide⟩, _, _, rfl, rfl, _, rfl, _, _, rfl, rfl, hl, ?_⟩
      exact hQ _ _ (Same.refl H) (Int.emod_nonneg _ (by omega)) (Int.emod_lt_of_pos _ hl)
    · have b1 : Bt 1050001 (c + 977 * k) := Bt.add hc (Bt.mono (A := 20) (show (977 * k).natAbs < 2 ^ 20 by
        have : (2 : Nat) ^ 20 = 1048576 := by decide
        omega) (by decide))
      have b2 : Bt 1050002 (c + 31 * k + 5) := Bt.add (Bt.add hc (Bt.mono (A := 20) (show (31 * k).natAbs < 2 ^ 20 by
        have : (2 : Nat) ^ 20 = 1048576 := by decide
        omega) (by decide))) (Bt.mono (A := 3) (show (5 : Int).natAbs < 2 ^ 3 by decide) (by decide))
      refine ⟨_, rfl, _, rfl, _, _, rfl, rfl, .inl ⟨by decide, by decide⟩, _, _, rfl, rfl, _, rfl, _, rfl, _, _, rfl, rfl, .inl ⟨by decide, by decide⟩, _, _, rfl, rfl, _, _, rfl, rfl, _, _, rfl, rfl, ⟨_, _, b1, b2, by decide⟩, ?_⟩
      refine ⟨_, rfl, _, _, rfl, rfl, (by show (0 : Int) < 9; decide), _, _, rfl, rfl, ?_⟩
      refine ⟨_, _, _, rfl, by decide, fun H' r sH r0 r1 => ?_⟩
      refine ⟨_, rfl, _, _, rfl, rfl, hl, ?_⟩
      exact hQ _ _ sH (Int.emod_nonneg _ (by omega)) (Int.emod_lt_of_pos _ hl)
theorem c__law_root : C8.Cal P w K mg base 1 "_law_root" spRoot [] := by
  obtain ⟨f, fd, F, df⟩ := T.d__law_root
  refine C8.cal0 F (F.fn.binds df fun _ _ _ _ _ _ us hl => match us, hl with | [_], _ => rfl) .nil sc__law_root (fun vs H Q E h => ?_) (fun cdv A outer s H vs Q E hr h => ?_)
  · obtain ⟨n, rfl, _⟩ := h
    rfl
  · obtain ⟨n, rfl, h0, h50, hQ⟩ := h
    have R := isq_root h0
    have r0 := R.nn
    refine ⟨_, (pss_cons (ps_set (i := 1) sc__law_root.nd rfl (.inl rfl) pe_int)
 (pss_cons (ps_while PassesOwn.never (pt_cmpR op_le (pe_op op_mul (pv 1) (pv 1)) (pv 0) (nomark _))
  (pss_one (ps_set (i := 1) sc__law_root.nd rfl (.inl rfl) (pe_op op_mul pe_int (pv 1)))))
 (pss_cons (ps_while PassesOwn.never (pt_cmpR op_gt (pe_op op_mul (pv 1) (pv 1)) (pv 0) (nomark _))
  (pss_one (ps_set (i := 1) sc__law_root.nd rfl (.inl rfl) (pe_op op_fdiv (pe_op op_add (pv 1) (pe_op op_fdivW (pv 0) (pv 1))) pe_int))))
 (pss_one (ps_ret (pv 1)))))), ?_⟩
    refine ⟨fun m σ H' => ∃ x : Int, σ = [some (.int n), some (.int x)] ∧ H' = H ∧ 1 ≤ x ∧ x ≤ 2 ^ 35 ∧ m = (2 ^ 35 - x).toNat, ⟨_, 1, rfl, rfl, by decide, by decide, rfl⟩, fun m σ H' hW => ?_⟩
    obtain ⟨x, rfl, rfl, x1, x2, rfl⟩ := hW
    refine ⟨_, rfl, _, rfl, _, _, rfl, rfl, .inl ⟨by omega, by omega⟩, _, rfl, _, _, rfl, rfl, _, rfl, ite2 (fun e => ?_) (fun e => ?_)⟩
    · have hg : x * x ≤ n := of_decide_eq_true e
      have x25 : x < 2 ^ 25 := by
        rcases Int.lt_or_le x (2 ^ 25) with z | z
        · exact z
        · have := sqle (show (0 : Int) ≤ 2 ^ 25 by decide) z
          have e : (2 : Int) ^ 25 * 2 ^ 25 = 2 ^ 50 := by decide
          omega
      refine ⟨fun σ' H'' => σ' = [some (.int n), some (.int (1024 * x))] ∧ H'' = H', fun σ' H'' hN => ?_, ?_⟩
      · obtain ⟨rfl, rfl⟩ := hN
        exact ⟨(2 ^ 35 - 1024 * x).toNat, by omega, 1024 * x, rfl, rfl, by omega, by omega, rfl⟩
      · exact ⟨_, rfl, _, _, rfl, rfl, .inl ⟨by decide, by decide⟩, rfl, rfl⟩
    · have hg : ¬ x * x ≤ n := fun z => e (decide_eq_true z)
      refine ⟨fun m σ H2 => ∃ y : Int, σ = [some (.int n), some (.int y)] ∧ H2 = H' ∧ isq n ≤ y ∧ y ≤ 2 ^ 35 ∧ m = y.toNat, ⟨_, x, rfl, rfl, ?_, x2, rfl⟩, fun m σ H2 hW => ?_⟩
      · refine le_of_sq (by omega) ?_
        have := R.lo
        omega
      obtain ⟨y, rfl, rfl, y1, y2, rfl⟩ := hW
      refine ⟨_, rfl, _, rfl, _, _, rfl, rfl, .inl ⟨by omega, by omega⟩, _, rfl, _, _, rfl, rfl, _, rfl, ite2 (fun e => ?_) (fun e => ?_)⟩
      · have hg : n < y * y := of_decide_eq_true e
        have yp : 0 < y := by
          rcases Int.lt_or_le 0 y with z | z
          · exact z
          · have : y = 0 := by omega
            subst this
            omega
        refine ⟨fun σ' H3 => ∃ z : Int, σ' = [some (.int n), some (.int z)] ∧ H3 = H2 ∧ isq n ≤ z ∧ z < y, fun σ' H3 hN => ?_, ?_⟩
        · obtain ⟨z, rfl, rfl, z1, z2⟩ := hN
          exact ⟨z.toNat, by omega, z, rfl, rfl, z1, by omega, rfl⟩
        · have hd : CDivW n y := wide_div (b := 40) yp (by
            have : (2 : Nat) ^ 40 = 1099511627776 := by decide
            omega) (by decide) (by decide)
          refine ⟨_, rfl, _, rfl, _, rfl, _, _, rfl, rfl, hd, _, _, rfl, rfl, _, _, rfl, rfl, ⟨by decide, by decide⟩, ?_⟩
          refine ⟨_, rfl, rfl, ?_⟩
          rcases newton R yp y1 hg with ⟨k1, k2, k3⟩ | z
          · exact ⟨k1, k2⟩
          · subst z
            have hz : isq 0 = 0 := by decide +kernel
            rw [hz]
            rw [Int.zero_ediv]
            omega
      · have hg : ¬ n < y * y := fun z => e (decide_eq_true z)
        have ex : y = isq n := by
          have h1 := R.hi
          rcases Int.lt_or_le y (isq n + 1) with z | z
          · omega
          · have := sqle (by omega) z
            omega
        rw [ex]
        exact ⟨_, rfl, hQ⟩
theorem c__law_is_square : C8.Cal P w K mg base 2 "_law_is_square" spIsSq [] := by
  obtain ⟨f, fd, F, df⟩ := T.d__law_is_square
  have c__law_root : C8.Cal P w K mg base 1 "_law_root" spRoot [] := c__law_root T
  refine C8.cal0 F (F.fn.binds df fun _ _ _ _ _ _ us hl => match us, hl with | [_], _ => rfl) .nil sc__law_is_square (fun vs H Q E h => ?_) (fun cdv A outer s H vs Q E hr h => ?_)
  · obtain ⟨n, rfl, _⟩ := h
    rfl
  · obtain ⟨n, rfl, h0, h50, hQ⟩ := h
    have r0 := (isq_root h0).nn
    have r1 := isq_le50 h0 h50
    refine ⟨_, (pss_one (ps_ret (pe_and (pe_cmpR op_ge (pv 0) pe_int (nomark _)) (pe_one (pe_cmpR op_eq (pe_op op_mul (C8.pe_c c__law_root hr (by decide) (by rfl) (pa_cons (pv 0) pa_nil)) (C8.pe_c c__law_root hr (by decide) (by rfl) (pa_cons (pv 0) pa_nil))) (pv 0) (nomark _)))))), ?_⟩
    refine ⟨_, rfl, _, _, rfl, rfl, _, rfl, iteD h0 ?_⟩
    refine ⟨_, rfl, n, rfl, h0, h50, _, rfl, n, rfl, h0, h50, _, _, rfl, rfl, .inl ⟨by omega, by omega⟩, _, rfl, rfl, ?_⟩
    dsimp only
    rw [decV]
    exact hQ
theorem c__law_numbers : C8.Cal P w K mg base 3 "_law_numbers" (spNumbers K) [] := by
  obtain ⟨f, fd, F, df⟩ := T.d__law_numbers
  have c__law_draw : C8.Cal P w K mg base 1 "_law_draw" spDraw [] := c__law_draw T
  have c__law_value : C8.Cal P w K mg base 2 "_law_value" spValue [] := c__law_value T
  have c__law_cell_at : C8.Cal P w K mg base 1 "_law_cell_at" (spCell K) [] := c__law_cell_at T
  refine C8.cal0 F (F.fn.binds df fun _ _ _ _ _ _ us hl => match us, hl with | [_], _ => rfl) .nil sc__law_numbers (fun vs H Q E h => ?_) (fun cdv A outer s H vs Q E hr h => ?_)
  · obtain ⟨a, ns, rfl, _⟩ := h
    rfl
  · obtain ⟨a, ns, rfl, hS, hlen, hb, hQ⟩ := h
    refine ⟨_, (pss_cons (ps_par (i := 0) (j := 1) (by rfl) sc__law_numbers.nd rfl rfl (by decide) rfl rfl (pa_cons (pe_slice sl_list (pv 0) po_none (po_some pe_int)) (pa_cons (pe_lst pa_nil) pa_nil)) (by rfl))
 (pss_cons (ps_for PassesOwn.never rfl (pi_range3 (by rfl) T.n_range (pa_cons pe_int (pa_cons (pe_callB call_len_seq (by rfl) T.n_len PySem.boot_len (pa_cons (pv 0) pa_nil)) (pa_cons (pe_op op_add pe_int (pe_op op_fdiv (pe_callB call_len_seq (by rfl) T.n_len PySem.boot_len (pa_cons (pv 0) pa_nil)) pe_int)) pa_nil)))) (pg_name (i := 2) sc__law_numbers.nd rfl (.inl rfl))
  (pss_cons (ps_set (i := 3) sc__law_numbers.nd rfl (.inl rfl) (pe_ix ix_list (pv 0) (pv 2) (fun _ _ => rfl)))
 (pss_cons (ps_set (i := 4) sc__law_numbers.nd rfl (.inl rfl) (C8.pe_c c__law_draw hr (by decide) (by rfl) (pa_cons (pe_op op_add (pe_op op_mod (pv 3) (pe_op op_pow pe_int pe_int)) (pe_op op_mul pe_int (pv 2))) (pa_cons pe_int (pa_cons pe_int pa_nil)))))
 (pss_cons (ps_set (i := 5) sc__law_numbers.nd rfl (.inl rfl) (pe_op op_add pe_int (C8.pe_c c__law_value hr (by decide) (by rfl) (pa_cons (pv 3) (pa_cons (pv 2) (pa_cons (pe_ix ix_tup (pe_tup (pa_cons pe_int (pa_cons pe_int (pa_cons pe_int (pa_cons pe_int (pa_cons pe_int pa_nil)))))) (pe_op op_mod (pv 4) pe_int) (fun _ _ => rfl)) pa_nil))))))
 (pss_cons (ps_set (i := 6) sc__law_numbers.nd rfl (.inl rfl) (pe_op op_add pe_int (C8.pe_c c__law_value hr (by decide) (by rfl) (pa_cons (pv 3) (pa_cons (pe_op op_add (pv 2) pe_int) (pa_cons pe_int pa_nil))))))
 (pss_cons (ps_if (pt_cmpR op_eq (pv 4) pe_int (nomark _))
  (pss_one (ps_set (i := 5) sc__law_numbers.nd rfl (.inl rfl) (pe_op op_mul (pv 6) (pv 6))))
  pss_nil)
 (pss_cons (ps_if (pt_cmpR op_gt (pv 4) pe_int (nomark _))
  (pss_one (ps_set (i := 5) sc__law_numbers.nd rfl (.inl rfl) (pe_op op_add (pe_op op_mul (pv 6) (pv 6)) (pe_ix ix_tup (pe_tup (pa_cons pe_int (pa_cons (pe_un un_neg pe_int) (pa_cons pe_int (pa_cons (pe_un un_neg pe_int) pa_nil))))) (C8.pe_c c__law_draw hr (by decide) (by rfl) (pa_cons (pe_op op_mod (pv 3) (pe_op op_pow pe_int pe_int)) (pa_cons pe_int (pa_cons pe_int pa_nil)))) (fun _ _ => rfl)))))
  pss_nil)
 (pss_one (ps_expr (pe_bm PySem.F.plainAttrs_list PySem.F.slot_list_append PySem.F.type_list_append mt_append (pv 1) (pa_cons (pe_callB (call_min2 rfl) (by rfl) T.n_min (by decide +kernel) (pa_cons (pv 5) (pa_cons pe_int pa_nil))) pa_nil)))))))))))
 (pss_one (ps_ret (pe_op op_cat (pv 1) (pe_lst (pa_cons (pe_op op_add pe_int (C8.pe_c c__law_value hr (by decide) (by rfl) (pa_cons (C8.pe_c c__law_cell_at hr (by decide) (by rfl) (pa_cons (pv 0) (pa_cons pe_int pa_nil))) (pa_cons pe_int (pa_cons pe_int pa_nil))))) pa_nil))))))), ?_⟩
    refine ⟨_, rfl, _, rfl, a, _, rfl, hS, fun p np => ⟨Nat.zero_le _, fun o no => ⟨_, _, rfl, ?_⟩⟩⟩
    have ecut : cutV (ns.map V.int) none (some 63) = ns.map V.int := by
      rw [show (63 : Int) = ((63 : Nat) : Int) from rfl, cut_to, List.take_of_length_le (by rw [List.length_map]; exact hlen)]
    have s1 : Same H (upd (upd H p (.lst (cutV (ns.map V.int) none (some 63)))) o (.lst [])) := same_up2 (same_upd np) no
    have ep : (upd (upd H p (.lst (cutV (ns.map V.int) none (some 63)))) o (.lst [])) p = some (.lst (ns.map V.int)) := same_upd no _ _ (by rw [upd_same, ecut])
    have eo : (upd (upd H p (.lst (cutV (ns.map V.int) none (some 63)))) o (.lst [])) o = some (.lst (([] : List Int).map V.int)) := upd_same
    generalize (upd (upd H p (.lst (cutV (ns.map V.int) none (some 63)))) o (.lst [])) = H1 at s1 ep eo
    obtain ⟨t1, t2⟩ := turns_ok ns.length (by omega)
    have c30 : (1 + (ns.length : Int) / 5).natAbs < 1073741824 := by omega
    refine ⟨_, rfl, p, _, rfl, .inl (SqL.at ep), _, rfl, p, _, rfl, .inl (SqL.at ep), _, _, rfl, rfl, ⟨by decide, by decide⟩, _, _, rfl, rfl, _, _, _, (Builtin.Range.rangeSize 0 (ns.length : Int) (1 + (ns.length : Int) / 5)).toNat, rfl, ?_, ?_⟩
    · rw [List.length_map]
      exact ⟨by omega, c30, t1, rangeSize_toNat _ _ _⟩
    rw [List.length_map]
    refine for_rangeC (fun i σ H' => ∃ xs : List Int, ∃ y2 y3 y4 y5 y6, σ = [some (.ref p), some (.ref o), y2, y3, y4, y5, y6] ∧ Same H H' ∧ H' p = some (.lst (ns.map V.int)) ∧ H' o = some (.lst (xs.map V.int)) ∧ xs.length = i ∧ ∀ x ∈ xs, 2 ≤ x ∧ x ≤ 1000000) ?_ (fun i σ H' hi h => ?_) (fun σ H' h => ?_)
    · exact ⟨[], none, none, none, none, none, rfl, s1, ep, eo, rfl, fun _ z => nomatch z⟩
    · obtain ⟨xs, y2, y3, y4, y5, y6, rfl, sH, hp, ho, hx, hxs⟩ := h
      obtain ⟨t3, t4⟩ := t2 i hi
      have hk : (0 : Int) + (i : Nat) * (1 + (ns.length : Int) / 5) = ((i * (1 + ns.length / 5) : Nat) : Int) := by
        rw [Int.zero_add, Int.natCast_mul, Int.natCast_add, Int.natCast_ediv]
        rfl
      rw [hk]
      generalize i * (1 + ns.length / 5) = j at t3
      have ej : (ns.map V.int)[j]? = some (.int ns[j]) := by
        rw [List.getElem?_map, List.getElem?_eq_getElem t3]
        rfl
      have bj : Bt 1050000 ns[j] := hb _ (List.getElem_mem t3)
      generalize ns[j] = c at ej bj
      -- cell, kind
      refine ⟨_, rfl, _, rfl, p, _, _, _, rfl, rfl, SqL.at hp, atI_nat ej, ?_⟩
      refine ⟨_, rfl, _, _, rfl, rfl, ⟨by decide, by decide, by decide⟩, _, _, rfl, rfl, (by show (0 : Int) < 10 ^ Int.toNat 18; decide), _, rfl, _, _, rfl, rfl, .inl ⟨by decide, by decide⟩, _, _, rfl, rfl, _, _, _, rfl, by decide, fun H2 kd s2 d0 d1 => ?_⟩
      -- number
      refine ⟨_, rfl, _, rfl, by show 5 ≤ sizeLine; decide, fun q nq => ⟨_, rfl, _, _, rfl, rfl, (by show (0 : Int) < 5; decide), ?_⟩⟩
      have m0 := Int.emod_nonneg kd (show (5 : Int) ≠ 0 by decide)
      have m1 := Int.emod_lt_of_pos kd (show (0 : Int) < 5 by decide)
      obtain ⟨u, hu⟩ := Int.eq_ofNat_of_zero_le m0
      have u5 : u < 5 := by omega
      obtain ⟨lim, e1, e2, e3⟩ : ∃ lim : Int, ([.int 60, .int 2000, .int 2000, .int 30000, .int 999999] : List V)[u]? = some (.int lim) ∧ 0 < lim ∧ lim ≤ 999999 := by
        clear hu
        match u, u5 with
        | 0, _ | 1, _ | 2, _ | 3, _ | 4, _ => exact ⟨_, rfl, by decide, by decide⟩
        | u + 5, h => omega
      refine ⟨q, _, _, _, rfl, rfl, SqT.at upd_same, (by rw [hu]; exact atI_nat e1), ?_⟩
      refine ⟨_, _, _, rfl, bj, by omega, by omega, e2, fun H3 v1 s3 v10 v11 => ⟨_, _, rfl, rfl, ?_⟩⟩
      -- root_here
      refine ⟨_, rfl, _, rfl, _, _, rfl, rfl, _, _, _, rfl, bj, by omega, by omega, by decide, fun H4 v2 s4 v20 v21 => ⟨_, _, rfl, rfl, ?_⟩⟩
      have sB : Same H' H4 := ((s2.trans (same_upd nq)).trans s3).trans s4
      have sq : 2 * 2 ≤ (2 + v2) * (2 + v2) ∧ (2 + v2) * (2 + v2) ≤ 1000 * 1000 := ⟨Int.mul_le_mul (by omega) (by omega) (by decide) (by omega), Int.mul_le_mul (by omega) (by omega) (by omega) (by decide)⟩
      have app : ∀ (z : Int) (H5 : Hp), Same H' H5 → 2 ≤ z → ∃ xs2 : List Int, xs2.length = i + 1 ∧ (∀ x ∈ xs2, 2 ≤ x ∧ x ≤ 1000000) ∧ xs.map V.int ++ [V.int (if 1000000 < z then 1000000 else z)] = xs2.map V.int := fun z H5 _ hz => by
        refine ⟨xs ++ [if 1000000 < z then 1000000 else z], by rw [List.length_append, hx]; rfl, fun x hx2 => ?_, by rw [List.map_append]; rfl⟩
        rcases List.mem_append.mp hx2 with h | h
        · exact hxs x h
        · rw [List.mem_singleton] at h
          subst h
          split <;> omega
      have hz0 : (xs.map V.int).length < sizeLine := by
        rw [List.length_map, hx]
        exact line_of (by omega)
      refine ⟨_, rfl, rfl, _, rfl, ite2 (fun e => ?_) (fun e => ?_)⟩
      · have k5 : kd = 5 := V.int.inj (of_decide_eq_true e)
        refine ⟨_, rfl, _, rfl, _, _, rfl, rfl, .inl ⟨by omega, by omega⟩, ?_⟩
        refine ⟨_, rfl, _, _, rfl, rfl, _, rfl, iteDF (by omega) ?_⟩
        obtain ⟨xs2, x1, x2, x3⟩ := app ((2 + v2) * (2 + v2)) H4 sB (by omega)
        refine ⟨.ref o, rfl, .inl ⟨rfl, _, SqL.at (sB _ _ ho)⟩, _, rfl, _, _, rfl, o, _, _, rfl, rfl, sB _ _ ho, hz0, ?_⟩
        refine ⟨xs2, _, _, _, _, _, rfl, fun b z e => ?_, ?_, by rw [upd_same, x3], x1, x2⟩
        · have nb : b ≠ o := ne_of_none e ((same_upd np).free no)
          rw [upd_ne nb]
          exact sB _ _ (sH _ _ e)
        · have nb : p ≠ o := ne_of_none (H := upd H p (.lst (cutV (ns.map V.int) none (some 63)))) upd_same no
          rw [upd_ne nb]
          exact sB _ _ hp
      · by_cases k6 : 5 < kd
        · refine ⟨_, rfl, _, _, rfl, rfl, _, rfl, iteD k6 ?_⟩
          refine ⟨_, rfl, _, rfl, _, _, rfl, rfl, .inl ⟨by omega, by omega⟩, ?_⟩
          refine ⟨_, rfl, _, rfl, by show 4 ≤ sizeLine; decide, fun q2 nq2 => ?_⟩
          refine ⟨_, rfl, _, _, rfl, rfl, ⟨by decide, by decide, by decide⟩, _, _, rfl, rfl, (by show (0 : Int) < 10 ^ Int.toNat 18; decide), _, _, _, rfl, by decide, fun H5 d2 s5 d20 d21 => ?_⟩
          obtain ⟨u2, hu2⟩ := Int.eq_ofNat_of_zero_le d20
          have u4 : u2 < 4 := by omega
          obtain ⟨dl, g1, g2, g3⟩ : ∃ dl : Int, ([.int 1, .int (-1), .int 2, .int (-2)] : List V)[u2]? = some (.int dl) ∧ -2 ≤ dl ∧ dl ≤ 2 := by
            clear hu2
            match u2, u4 with
            | 0, _ | 1, _ | 2, _ | 3, _ => exact ⟨_, rfl, by decide, by decide⟩
            | u2 + 4, h => omega
          refine ⟨q2, _, _, _, rfl, rfl, SqT.at (s5 _ _ upd_same), (by rw [hu2]; exact atI_nat g1), _, _, rfl, rfl, ?_⟩
          have sC : Same H' H5 := (sB.trans (same_upd nq2)).trans s5
          obtain ⟨xs2, x1, x2, x3⟩ := app ((2 + v2) * (2 + v2) + dl) H5 sC (by omega)
          refine ⟨.ref o, rfl, .inl ⟨rfl, _, SqL.at (sC _ _ ho)⟩, _, rfl, _, _, rfl, o, _, _, rfl, rfl, sC _ _ ho, hz0, ?_⟩
          refine ⟨xs2, _, _, _, _, _, rfl, fun b z e => ?_, ?_, by rw [upd_same, x3], x1, x2⟩
          · have nb : b ≠ o := ne_of_none e ((same_upd np).free no)
            rw [upd_ne nb]
            exact sC _ _ (sH _ _ e)
          · have nb : p ≠ o := ne_of_none (H := upd H p (.lst (cutV (ns.map V.int) none (some 63)))) upd_same no
            rw [upd_ne nb]
            exact sC _ _ hp
        · refine ⟨_, rfl, _, _, rfl, rfl, _, rfl, iteDF k6 ?_⟩
          obtain ⟨xs2, x1, x2, x3⟩ := app (2 + v1) H4 sB (by omega)
          refine ⟨.ref o, rfl, .inl ⟨rfl, _, SqL.at (sB _ _ ho)⟩, _, rfl, _, _, rfl, o, _, _, rfl, rfl, sB _ _ ho, hz0, ?_⟩
          refine ⟨xs2, _, _, _, _, _, rfl, fun b z e => ?_, ?_, by rw [upd_same, x3], x1, x2⟩
          · have nb : b ≠ o := ne_of_none e ((same_upd np).free no)
            rw [upd_ne nb]
            exact sB _ _ (sH _ _ e)
          · have nb : p ≠ o := ne_of_none (H := upd H p (.lst (cutV (ns.map V.int) none (some 63)))) upd_same no
            rw [upd_ne nb]
            exact sB _ _ hp
    · obtain ⟨xs, y2, y3, y4, y5, y6, rfl, sH, hp, ho, hx, hxs⟩ := h
      have hx64 : xs.length < 64 := by
        rw [hx]
        have := t2
        rcases Nat.lt_or_ge (Builtin.Range.rangeSize 0 (ns.length : Int) (1 + (ns.length : Int) / 5)).toNat 64 with z | z
        · exact z
        · have := (t2 63 (by omega)).1
          omega
      refine ⟨_, rfl, _, rfl, p, ns, 0, rfl, SqL.at hp, ?_⟩
      have b0 : Bt 1050000 (ns.getD 0 0) := by
        cases ns with
        | nil => show (0 : Int).natAbs < 2 ^ 1050000; exact Nat.two_pow_pos _
        | cons x r => exact hb x List.mem_cons_self
      refine ⟨_, _, _, rfl, b0, by decide, by decide, by decide, fun H2 v s2 v0 v1 => ⟨_, _, rfl, rfl, ?_⟩⟩
      refine ⟨by show 1 ≤ sizeLine; decide, fun p2 np2 => ?_⟩
      have ho2 : (upd H2 p2 (.lst [.int (2 + v)])) o = some (.lst (xs.map V.int)) := same_up2 s2 np2 _ _ ho
      refine ⟨o, p2, _, _, rfl, rfl, ho2, upd_same, ?_, fun p3 np3 => ?_⟩
      · rw [List.length_map]
        have := line_of (n := xs.length + 1) (by omega)
        exact Nat.le_of_lt this
      · refine hQ _ p3 (xs ++ [2 + v]) (((sH.trans s2).trans (same_upd np2)).trans (same_upd np3)) (by rw [upd_same, List.map_append]; rfl) (fun x hx2 => ?_) ⟨xs, _, rfl⟩ (by rw [List.length_append]; exact hx64)
        rcases List.mem_append.mp hx2 with h | h
        · exact hxs x h
        · rw [List.mem_singleton] at h
          subst h
          omega
end
end OA
set_option Elab.async false
set_option linter.all false
set_option maxRecDepth 100000
set_option maxHeartbeats 4000000
namespace OA
open PySem PySem.Spec PyProof.Rows L2
theorem ap_norm {n : Int} (N : Num n) : (fst1 n (isq n)).1 * (fst1 n (isq n)).1 - n * (fst1 n (isq n)).2 * (fst1 n (isq n)).2 = ap n := first_norm N.nsq N.r1000
theorem back_drop (l : List Int) (i : Nat) (h : i < l.length) : back (l.drop (l.length - (i + 1))) = (l[l.length - (i + 1)] * (back (l.drop (l.length - i))).1 + (back (l.drop (l.length - i))).2, (back (l.drop (l.length - i))).1) := by
  rw [List.drop_eq_getElem_cons (show l.length - (i + 1) < l.length by omega)]
  rw [show l.length - (i + 1) + 1 = l.length - i by omega]
  rfl
def spPutL (K : PySem.W.Frag) : Sp := fun vs H Q _ => ∃ (n : Int) (x y : Int × Int) (p q : Addr) (A B : Nat), vs = [.int n, .ref p, .ref q] ∧ SqT K H p [.int x.1, .int x.2] ∧ SqT K H q [.int y.1, .int y.2] ∧
  (1 ≤ n ∧ n ≤ 1000000) ∧ Bt A x.1 ∧ Bt A x.2 ∧ Bt B y.1 ∧ Bt B y.2 ∧ A + B + 20 ≤ 134217728 ∧ ∀ H' r, Same H H' → H' r = some (.tup [.int (put n x y).1, .int (put n x y).2]) → Q (.ref r) H'
section
variable {P : Program} {w : World} {K : PySem.W.Frag} {mg : Str → Option Value} {base : Heap} (T : Txt K mg)
include T
theorem c__law_parts : C8.Cal P w K mg base 2 "_law_parts" (spParts K) [] := by
  obtain ⟨f, fd, F, df⟩ := T.d__law_parts
  have c__law_root : C8.Cal P w K mg base 1 "_law_root" spRoot [] := c__law_root T
  refine C8.cal0 F (F.fn.binds df fun _ _ _ _ _ _ us hl => match us, hl with | [_], _ => rfl) .nil sc__law_parts (fun vs H Q E h => ?_) (fun cdv A outer s H vs Q E hr h => ?_)
  · obtain ⟨n, rfl, _⟩ := h
    rfl
  · obtain ⟨n, rfl, N, hQ⟩ := h
    have N2 := N.two
    have Nl := N.le
    have hp := per_pos N.nsq N.r1000
    have r1000 := N.r1000
    have r1 := N.nsq.r1
    refine ⟨_, (pss_cons (ps_par (i := 1) (j := 2) (by rfl) sc__law_parts.nd rfl rfl (by decide) rfl rfl (pa_cons (C8.pe_c c__law_root hr (by decide) (by rfl) (pa_cons (pv 0) pa_nil)) (pa_cons (pe_lst pa_nil) pa_nil)) (by rfl))
 (pss_cons (ps_par (i := 3) (j := 4) (by rfl) sc__law_parts.nd rfl rfl (by decide) rfl rfl (pa_cons (pv 1) (pa_cons (pe_op op_sub (pv 0) (pe_op op_mul (pv 1) (pv 1))) pa_nil)) (by rfl))
 (pss_cons (ps_while PassesOwn.never (PW.pt (pw_or (pt_cmpR (op_eqD hr.units) (pv 2) (pe_lst pa_nil) (nomark _)) (pw_or1 (pt_cmpR op_ne (pe_ix ix_list (pv 2) (pe_un un_neg pe_int) (fun _ _ => rfl)) (pe_op op_mul pe_int (pv 1)) (nomark _)))))
  (pss_cons (ps_set (i := 5) sc__law_parts.nd rfl (.inl rfl) (pe_op op_fdiv (pe_op op_add (pv 1) (pv 3)) (pv 4)))
 (pss_cons (ps_expr (pe_bm PySem.F.plainAttrs_list PySem.F.slot_list_append PySem.F.type_list_append mt_append (pv 2) (pa_cons (pv 5) pa_nil)))
 (pss_cons (ps_set (i := 3) sc__law_parts.nd rfl (.inl rfl) (pe_op op_sub (pe_op op_mul (pv 5) (pv 4)) (pv 3)))
 (pss_one (ps_set (i := 4) sc__law_parts.nd rfl (.inl rfl) (pe_op op_fdiv (pe_op op_sub (pv 0) (pe_op op_mul (pv 3) (pv 3))) (pv 4))))))))
 (pss_one (ps_ret (pe_tup (pa_cons (pv 1) (pa_cons (pv 2) pa_nil)))))))), ?_⟩
    refine ⟨_, rfl, n, rfl, by omega, by omega, Nat.zero_le _, fun o no => ⟨_, _, rfl, ?_⟩⟩
    refine ⟨_, rfl, _, rfl, _, rfl, _, rfl, _, _, rfl, rfl, .inl ⟨by omega, by omega⟩, _, _, rfl, rfl, _, _, rfl, ?_⟩
    have em1 : sm n (isq n) 1 = isq n := sm1 N.nsq
    have ed1 : sd n (isq n) 1 = n - isq n * isq n := by
      have p := (red_at N.nsq 0).prod
      rw [show sm n (isq n) (0 + 1) = isq n from em1] at p
      have e0 : sd n (isq n) 0 = 1 := rfl
      rw [e0] at p
      show sd n (isq n) (0 + 1) = _
      omega
    refine ⟨fun m σ H' => ∃ k y, k ≤ per n (isq n) ∧ σ = [some (.int n), some (.int (isq n)), some (.ref o), some (.int (sm n (isq n) (k + 1))), some (.int (sd n (isq n) (k + 1))), y] ∧
      Same H H' ∧ H' o = some (.lst (((parts n (isq n)).take k).map V.int)) ∧ m = per n (isq n) - k, ⟨_, 0, none, Nat.zero_le _, ?_, same_upd no, ?_, rfl⟩, fun m σ H' hW => ?_⟩
    · show _ = [some (V.int n), some (.int (isq n)), some (.ref o), some (.int (sm n (isq n) 1)), some (.int (sd n (isq n) 1)), none]
      rw [em1, ed1]
      rfl
    · rw [upd_same]
      rfl
    obtain ⟨k, y, hk, rfl, sH, ho, rfl⟩ := hW
    -- the test
    refine ⟨_, rfl, Nat.zero_le _, fun p0 np0 => ?_⟩
    have sH2 : Same H (upd H' p0 (.lst [])) := same_up2 sH np0
    have ho2 : (upd H' p0 (.lst [])) o = some (.lst (((parts n (isq n)).take k).map V.int)) := same_upd np0 _ _ ho
    have hno := no
    generalize hH3 : upd H' p0 (.lst []) = H3 at sH2 ho2
    have e0 : H3 p0 = some (.lst (([] : List Int).map V.int)) := by
      rw [← hH3]
      exact upd_same
    refine ⟨_, _, dp_ints (SqL.at ho2), dp_ints (SqL.at e0), sh_ints _, sh_ints _, _, rfl, ?_⟩
    rw [eqv_ilist]
    -- what the body and the end ask
    have d1 := sd_pos N.nsq (k + 1)
    have d2 := sd_2000 N (k + 1)
    have d3 := sd_pos N.nsq (k + 2)
    have d4 := sd_2000 N (k + 2)
    have m1 := sm_1000 N (k + 1)
    have m2 := sm_1000 N (k + 2)
    have a1 := sa_pos N.nsq (k + 1)
    have hz : (((parts n (isq n)).take k).map V.int).length < sizeLine := by
      rw [List.length_map, List.length_take, parts_length]
      have := per_bound N.nsq N.r1000
      exact line_of (by omega)
    by_cases hL : k = per n (isq n)
    · have et : (parts n (isq n)).take k = parts n (isq n) := List.take_of_length_le (by rw [parts_length]; omega)
      rw [et] at ho2 ⊢
      have pn : ¬ parts n (isq n) = [] := fun z => by
        have := parts_length n (isq n)
        rw [z] at this
        simp at this
        omega
      refine iteDF pn ?_
      have el := parts_last N.nsq N.r1000
      obtain ⟨ys, hys⟩ : ∃ ys, parts n (isq n) = ys ++ [2 * isq n] := by
        refine ⟨(parts n (isq n)).dropLast, ?_⟩
        have h1 := List.dropLast_concat_getLast pn
        have h2 : (parts n (isq n)).getLast pn = 2 * isq n := by
          rw [List.getLast_eq_getElem]
          have h3 := el
          rw [show per n (isq n) = (parts n (isq n)).length from (parts_length _ _).symm] at h3
          rw [List.getElem?_eq_getElem (by rw [parts_length]; omega)] at h3
          exact Option.some.inj h3
        rw [h2] at h1
        exact h1.symm
      have ei : atI ((parts n (isq n)).map V.int) (-1) = some (.int (2 * isq n)) := by
        rw [hys, List.map_append]
        exact atI_last _ _
      refine ⟨_, rfl, 1, rfl, o, _, _, _, rfl, rfl, SqL.at ho2, ei, _, rfl, _, _, rfl, rfl, .inl ⟨by decide, by decide⟩, rfl, _, rfl, ?_⟩
      dsimp only
      rw [decide_eq_true rfl]
      refine iteF ?_
      refine ⟨_, rfl, _, rfl, by show 2 ≤ sizeLine; decide, fun p np => ?_⟩
      refine hQ _ p o (same_up2 sH2 np) hno upd_same ?_
      rw [upd_ne (ne_of_none ho2 np)]
      exact ho2
    · have hlt : k < per n (isq n) := by omega
      have fin : ∀ (σ' : L2.St) (H'' : Hp), (∃ y, σ' = [some (.int n), some (.int (isq n)), some (.ref o), some (.int (sm n (isq n) (k + 2))), some (.int (sd n (isq n) (k + 2))), y] ∧
          Same H H'' ∧ H'' o = some (.lst (((parts n (isq n)).take (k + 1)).map V.int))) → ∃ m', m' < per n (isq n) - k ∧ ∃ k y, k ≤ per n (isq n) ∧ σ' = [some (.int n), some (.int (isq n)), some (.ref o), some (.int (sm n (isq n) (k + 1))), some (.int (sd n (isq n) (k + 1))), y] ∧
          Same H H'' ∧ H'' o = some (.lst (((parts n (isq n)).take k).map V.int)) ∧ m' = per n (isq n) - k := fun σ' H'' ⟨y, e1, e2, e3⟩ => ⟨per n (isq n) - (k + 1), by omega, k + 1, y, hlt, e1, e2, e3, rfl⟩
      have enew : ∀ b z, H b = some z → (upd H3 o (.lst (((parts n (isq n)).take k).map V.int ++ [.int (sa n (isq n) (k + 1))]))) b = some z := fun b z e => by
        have nb : b ≠ o := ne_of_none e hno
        rw [upd_ne nb]
        exact sH2 _ _ e
      have elst : (upd H3 o (.lst (((parts n (isq n)).take k).map V.int ++ [.int (sa n (isq n) (k + 1))]))) o = some (.lst (((parts n (isq n)).take (k + 1)).map V.int)) := by
        rw [upd_same, List.take_add_one, parts_get hlt, List.map_append]
        rfl
      by_cases h0 : (parts n (isq n)).take k = []
      · rw [decide_eq_true h0]
        refine iteT ⟨_, fin, ?_⟩
        refine ⟨_, rfl, _, rfl, _, _, rfl, rfl, _, rfl, _, _, rfl, rfl, ⟨by omega, by omega⟩, ?_⟩
        refine ⟨.ref o, rfl, .inl ⟨rfl, _, SqL.at ho2⟩, _, rfl, o, _, _, rfl, rfl, ho2, hz, ?_⟩
        have ea : sa n (isq n) (k + 1) < 2 ^ 64 := by
          have := sa_le N.nsq k (R := 1000) (by omega)
          have h2 : 2 * 1000 / (sd n (isq n) (k + 1)).toNat ≤ 2000 := Nat.div_le_self _ _
          omega
        refine ⟨_, rfl, _, rfl, _, _, rfl, rfl, .inl ⟨by show -(2 ^ 64) < sa n (isq n) (k + 1); omega, ea⟩, _, rfl, _, _, rfl, rfl, ?_⟩
        refine ⟨_, rfl, _, rfl, _, rfl, _, _, rfl, rfl, .inl ⟨by show -(2 ^ 64) < sm n (isq n) (k + 2); omega, by show sm n (isq n) (k + 2) < _; omega⟩, _, _, rfl, rfl, _, rfl, _, _, rfl, rfl, ⟨by omega, by omega⟩, ?_⟩
        exact ⟨_, rfl, enew, elst⟩
      · rw [decide_eq_false h0]
        refine iteF ?_
        obtain ⟨j, rfl⟩ : ∃ j, k = j + 1 := ⟨k - 1, by
          cases k with
          | zero => exact absurd rfl h0
          | succ k => rfl⟩
        have ei : atI (((parts n (isq n)).take (j + 1)).map V.int) (-1) = some (.int (sa n (isq n) (j + 1))) := by
          rw [List.take_add_one, parts_get (by omega), List.map_append]
          exact atI_last _ _
        refine ⟨_, rfl, 1, rfl, o, _, _, _, rfl, rfl, SqL.at ho2, ei, _, rfl, _, _, rfl, rfl, .inl ⟨by decide, by decide⟩, rfl, _, rfl, ?_⟩
        dsimp only
        rw [decide_eq_false (fun z => parts_ne N.nsq N.r1000 hlt (V.int.inj z))]
        refine iteT ⟨_, fin, ?_⟩
        refine ⟨_, rfl, _, rfl, _, _, rfl, rfl, _, rfl, _, _, rfl, rfl, ⟨by omega, by omega⟩, ?_⟩
        refine ⟨.ref o, rfl, .inl ⟨rfl, _, SqL.at ho2⟩, _, rfl, o, _, _, rfl, rfl, ho2, hz, ?_⟩
        have ea : sa n (isq n) (j + 1 + 1) < 2 ^ 64 := by
          have := sa_le N.nsq (j + 1) (R := 1000) (by omega)
          have h2 : 2 * 1000 / (sd n (isq n) (j + 1 + 1)).toNat ≤ 2000 := Nat.div_le_self _ _
          omega
        refine ⟨_, rfl, _, rfl, _, _, rfl, rfl, .inl ⟨by show -(2 ^ 64) < sa n (isq n) (j + 1 + 1); omega, ea⟩, _, rfl, _, _, rfl, rfl, ?_⟩
        refine ⟨_, rfl, _, rfl, _, rfl, _, _, rfl, rfl, .inl ⟨by show -(2 ^ 64) < sm n (isq n) (j + 1 + 2); omega, by show sm n (isq n) (j + 1 + 2) < _; omega⟩, _, _, rfl, rfl, _, rfl, _, _, rfl, rfl, ⟨by omega, by omega⟩, ?_⟩
        exact ⟨_, rfl, enew, elst⟩
theorem c__law_put : C8.Cal P w K mg base 1 "_law_put" (spPutL K) [] := by
  obtain ⟨f, fd, F, df⟩ := T.d__law_put
  refine C8.cal0 F (F.fn.binds df fun _ _ _ _ _ _ us hl => match us, hl with | [_, _, _], _ => rfl) .nil sc__law_put (fun vs H Q E h => ?_) (fun cdv A outer s H vs Q E hr h => ?_)
  · obtain ⟨n, x, y, p, q, A, B, rfl, _⟩ := h
    rfl
  · obtain ⟨n, x, y, p, q, a, b, rfl, hx, hy, hn, h1, h2, h3, h4, hs, hQ⟩ := h
    refine ⟨_, (pss_cons (ps_asg (pe_tup (pa_cons (pv 1) (pa_cons (pv 2) pa_nil))) (pg_tup (by rfl) (pgs_cons (pg_tup (by rfl) (pgs_cons (pg_name (i := 3) sc__law_put.nd rfl (.inl rfl)) (pgs_cons (pg_name (i := 4) sc__law_put.nd rfl (.inl rfl)) pgs_nil))) (pgs_cons (pg_tup (by rfl) (pgs_cons (pg_name (i := 5) sc__law_put.nd rfl (.inl rfl)) (pgs_cons (pg_name (i := 6) sc__law_put.nd rfl (.inl rfl)) pgs_nil))) pgs_nil))))
 (pss_one (ps_ret (pe_tup (pa_cons (pe_op op_add (pe_op op_mulB (pv 3) (pv 5)) (pe_op op_mulB (pe_op op_mul (pv 0) (pv 4)) (pv 6))) (pa_cons (pe_op op_add (pe_op op_mulB (pv 3) (pv 6)) (pe_op op_mulB (pv 4) (pv 5))) pa_nil)))))), ?_⟩
    refine ⟨_, rfl, _, rfl, by show 2 ≤ sizeLine; decide, fun t nt => ?_⟩
    have sT := same_upd (o := .tup [V.ref p, V.ref q]) nt
    have sqT : ∀ {a : Addr} {xs : List V}, SqT K H a xs → SqT K (upd H t (.tup [.ref p, .ref q])) a xs := fun {a xs} h => by
      rcases h with (h | ⟨o, h⟩) | h
      · exact .inl (.inl (sT _ _ h))
      · exact .inl (.inr ⟨o, sT _ _ h⟩)
      · exact .inr h
    refine ⟨t, _, rfl, SqT.at upd_same, rfl, _, _, rfl, p, _, rfl, sqT hx, rfl, _, _, rfl, _, _, rfl, rfl, _, _, rfl, q, _, rfl, sqT hy, rfl, _, _, rfl, _, _, rfl, rfl, rfl, ?_⟩
    refine ⟨_, rfl, _, rfl, _, _, rfl, rfl, ⟨a, b, h1, h3, by omega⟩, _, rfl, _, rfl, _, _, rfl, rfl, .inl ⟨by omega, by omega⟩, _, rfl, _, _, rfl, rfl, ⟨20 + a, b, (bt20 hn).mul h2, h4, by omega⟩, _, _, rfl, rfl, ?_⟩
    refine ⟨_, rfl, _, rfl, _, _, rfl, rfl, ⟨a, b, h1, h4, by omega⟩, _, rfl, _, rfl, _, _, rfl, rfl, ⟨a, b, h2, h3, by omega⟩, _, _, rfl, rfl, ?_⟩
    exact ⟨by show 2 ≤ sizeLine; decide, fun r nr => hQ _ r ((same_upd nt).trans (same_upd nr)) upd_same⟩
theorem c__law_first : C8.Cal P w K mg base 3 "_law_first" (spFirst K) [] := by
  obtain ⟨f, fd, F, df⟩ := T.d__law_first
  have c__law_parts : C8.Cal P w K mg base 2 "_law_parts" (spParts K) [] := c__law_parts T
  refine C8.cal0 F (F.fn.binds df fun _ _ _ _ _ _ us hl => match us, hl with | [_], _ => rfl) .nil sc__law_first (fun vs H Q E h => ?_) (fun cdv A outer s H vs Q E hr h => ?_)
  · obtain ⟨n, rfl, _⟩ := h
    rfl
  · obtain ⟨n, rfl, N, hQ⟩ := h
    have hp := per_pos N.nsq N.r1000
    have r1000 := N.r1000
    have r1 := N.nsq.r1
    obtain ⟨b1, b2⟩ := first_bt N.nsq N.r1000 (R := 1000) N.r1000 (by decide)
    rw [box_1000] at b1 b2
    refine ⟨_, (pss_cons (ps_asg (C8.pe_c c__law_parts hr (by decide) (by rfl) (pa_cons (pv 0) pa_nil)) (pg_tup (by rfl) (pgs_cons (pg_name (i := 1) sc__law_first.nd rfl (.inl rfl)) (pgs_cons (pg_name (i := 2) sc__law_first.nd rfl (.inl rfl)) pgs_nil))))
 (pss_cons (ps_asg (pe_tup (pa_cons pe_int (pa_cons pe_int pa_nil))) (pg_tup (by rfl) (pgs_cons (pg_name (i := 3) sc__law_first.nd rfl (.inl rfl)) (pgs_cons (pg_name (i := 4) sc__law_first.nd rfl (.inl rfl)) pgs_nil))))
 (pss_cons (ps_for PassesOwn.never rfl (pi_list (pe_revL (pe_slice sl_list (pv 2) po_none (po_some (pe_un un_neg pe_int))))) (pg_name (i := 5) sc__law_first.nd rfl (.inl rfl))
  (pss_one (ps_par (i := 3) (j := 4) (by rfl) sc__law_first.nd rfl rfl (by decide) rfl rfl (pa_cons (pe_op op_add (pe_op op_mul (pv 5) (pv 3)) (pv 4)) (pa_cons (pv 3) pa_nil)) (by rfl))))
 (pss_cons (ps_set (i := 6) sc__law_first.nd rfl (.inl rfl) (pe_tup (pa_cons (pe_op op_add (pe_op op_mul (pv 1) (pv 3)) (pv 4)) (pa_cons (pv 3) pa_nil))))
 (pss_one (ps_ret (pe_tup (pa_cons (pv 6) (pa_cons (pe_op op_sub (pe_op op_mulB (pe_ix ix_tup (pv 6) pe_int (fun _ _ => rfl)) (pe_ix ix_tup (pv 6) pe_int (fun _ _ => rfl))) (pe_op op_mulB (pe_op op_mul (pv 0) (pe_ix ix_tup (pv 6) pe_int (fun _ _ => rfl))) (pe_ix ix_tup (pv 6) pe_int (fun _ _ => rfl)))) pa_nil))))))))), ?_⟩
    refine ⟨_, rfl, n, rfl, N, fun H1 p l s1 nl ep el => ?_⟩
    refine ⟨p, _, rfl, SqT.at ep, rfl, _, _, rfl, _, _, rfl, rfl, ?_⟩
    refine ⟨by show 2 ≤ sizeLine; decide, fun t nt => ⟨t, _, rfl, SqT.at upd_same, rfl, _, _, rfl, _, _, rfl, rfl, ?_⟩⟩
    replace el := same_upd nt (o := .tup [.int 1, .int 0]) _ _ el
    replace s1 := same_up2 s1 nt (o := .tup [.int 1, .int 0])
    generalize upd H1 t (.tup [.int 1, .int 0]) = H1 at el s1
    refine ⟨_, rfl, 1, rfl, _, rfl, l, _, rfl, SqL.at el, fun c nc => ?_⟩
    have ecut : cutV ((parts n (isq n)).map V.int) none (some (-1)) = ((parts n (isq n)).dropLast).map V.int := by rw [cut_last, List.map_dropLast]
    refine ⟨c, _, rfl, SqL.at upd_same, fun c2 nc2 => ?_⟩
    have s2 : Same H1 (upd (upd H1 c (.lst (cutV ((parts n (isq n)).map V.int) none (some (-1))))) c2 (.lst (cutV ((parts n (isq n)).map V.int) none (some (-1))).reverse)) := same_up2 (same_upd nc) nc2
    have ec2 : (upd (upd H1 c (.lst (cutV ((parts n (isq n)).map V.int) none (some (-1))))) c2 (.lst (cutV ((parts n (isq n)).map V.int) none (some (-1))).reverse)) c2 = some (.lst (((parts n (isq n)).dropLast.reverse).map V.int)) := by
      rw [upd_same, ecut, List.map_reverse]
    have pos : ∀ a ∈ (parts n (isq n)).dropLast, 1 ≤ a ∧ a ≤ 2000 := fun a ha => ⟨parts_pos N.nsq N.r1000 a ((List.dropLast_sublist _).subset ha), parts_le N.nsq N.r1000 a ((List.dropLast_sublist _).subset ha)⟩
    have fb := first_back n (isq n)
    generalize (parts n (isq n)).dropLast = L at ec2 pos fb
    refine ⟨c2, rfl, ⟨_, SqL.at ec2⟩, for_list (xs := (L.reverse).map V.int) (fun i σ H' => ∃ z y, σ = [some (.int n), some (.int (isq n)), some (.ref l), some (.int (back (L.drop (L.length - i))).1), some (.int (back (L.drop (L.length - i))).2), z, y] ∧
      Same H1 H' ∧ H' c2 = some (.lst ((L.reverse).map V.int))) ?_ (fun i σ H' _ h => ?_) (fun i x σ H' hx h => ?_) (fun σ H' h => ?_)⟩
    · refine ⟨none, none, ?_, s2, ec2⟩
      rw [Nat.sub_zero, List.drop_length]
      rfl
    · obtain ⟨z, y, _, _, h⟩ := h
      exact SqL.at h
    · obtain ⟨z, y, rfl, sH, hc⟩ := h
      have hi : i < L.length := by
        have := (List.getElem?_eq_some_iff.mp hx).1
        simpa using this
      have ex : x = .int L[L.length - (i + 1)] := by
        rw [List.getElem?_map, List.getElem?_reverse hi, show L.length - 1 - i = L.length - (i + 1) by omega, List.getElem?_eq_getElem (by omega)] at hx
        exact (Option.some.inj hx).symm
      subst ex
      have pa := pos _ (List.getElem_mem (show L.length - (i + 1) < L.length by omega))
      have bd := back_drop L i hi
      refine ⟨_, rfl, _, rfl, _, _, rfl, rfl, .inl ⟨by omega, by omega⟩, _, rfl, _, _, rfl, rfl, _, rfl, _, _, rfl, ?_⟩
      refine ⟨some (.int L[L.length - (i + 1)]), y, ?_, sH, hc⟩
      rw [bd]
      rfl
    · obtain ⟨z, y, rfl, sH, hc⟩ := h
      have e0 : L.length - (L.reverse.map V.int).length = 0 := by simp
      rw [e0, List.drop_zero]
      have ef1 : isq n * (back L).1 + (back L).2 = (fst1 n (isq n)).1 := by rw [fb]
      have ef2 : (back L).1 = (fst1 n (isq n)).2 := by rw [fb]
      refine ⟨_, rfl, _, rfl, _, _, rfl, rfl, .inl ⟨by omega, by omega⟩, _, rfl, _, _, rfl, rfl, _, rfl, by show 2 ≤ sizeLine; decide, fun q nq => ?_⟩
      have eq1 : (upd H' q (.tup [.int (isq n * (back L).1 + (back L).2), .int (back L).1])) q = some (.tup [.int (fst1 n (isq n)).1, .int (fst1 n (isq n)).2]) := by
        rw [upd_same, ef1, ef2]
      have sq := same_up2 sH nq (o := .tup [.int (isq n * (back L).1 + (back L).2), .int (back L).1])
      dsimp only
      generalize upd H' q (.tup [.int (isq n * (back L).1 + (back L).2), .int (back L).1]) = H5 at eq1 sq
      refine ⟨_, rfl, _, rfl, q, _, 0, _, rfl, rfl, SqT.at eq1, rfl, _, rfl, q, _, 0, _, rfl, rfl, SqT.at eq1, rfl, _, _, rfl, rfl, ⟨_, _, b1, b1, by decide⟩, ?_⟩
      refine ⟨_, rfl, _, rfl, q, _, 1, _, rfl, rfl, SqT.at eq1, rfl, _, _, rfl, rfl, .inl ⟨by have := N.two; omega, by have := N.le; omega⟩, _, rfl, q, _, 1, _, rfl, rfl, SqT.at eq1, rfl, _, _, rfl, rfl, ⟨_, _, (bt20 ⟨by have := N.two; omega, N.le⟩).mul b2, b2, by decide⟩, _, _, rfl, rfl, ?_⟩
      refine ⟨by show 2 ≤ sizeLine; decide, fun p2 np2 => ?_⟩
      refine hQ _ p2 q ((s1.trans sq).trans (same_upd np2)) ?_ (same_upd np2 _ _ eq1)
      rw [upd_same]
      dsimp only
      rw [ap_norm N]
theorem c__law_least : C8.Cal P w K mg base 4 "_law_least" (spAnswerOf K) [] := by
  obtain ⟨f, fd, F, df⟩ := T.d__law_least
  have c__law_first : C8.Cal P w K mg base 3 "_law_first" (spFirst K) [] := c__law_first T
  have c__law_put : C8.Cal P w K mg base 1 "_law_put" (spPutL K) [] := c__law_put T
  refine C8.cal0 F (F.fn.binds df fun _ _ _ _ _ _ us hl => match us, hl with | [_], _ => rfl) .nil sc__law_least (fun vs H Q E h => ?_) (fun cdv A outer s H vs Q E hr h => ?_)
  · obtain ⟨n, rfl, _⟩ := h
    rfl
  · obtain ⟨n, rfl, N, hQ⟩ := h
    have N2 := N.two
    obtain ⟨b1, b2⟩ := first_bt N.nsq N.r1000 (R := 1000) N.r1000 (by decide)
    rw [box_1000] at b1 b2
    refine ⟨_, (pss_cons (ps_asg (C8.pe_c c__law_first hr (by decide) (by rfl) (pa_cons (pv 0) pa_nil)) (pg_tup (by rfl) (pgs_cons (pg_name (i := 1) sc__law_least.nd rfl (.inl rfl)) (pgs_cons (pg_name (i := 2) sc__law_least.nd rfl (.inl rfl)) pgs_nil))))
 (pss_one (ps_ret (pe_ifExp (pt_cmpR op_eq (pv 2) pe_int (nomark _)) (pv 1) (C8.pe_c c__law_put hr (by decide) (by rfl) (pa_cons (pv 0) (pa_cons (pv 1) (pa_cons (pv 1) pa_nil)))))))), ?_⟩
    refine ⟨_, rfl, n, rfl, N, fun H1 p q s1 ep eq => ?_⟩
    refine ⟨p, _, rfl, SqT.at ep, rfl, _, _, rfl, _, _, rfl, rfl, ?_⟩
    refine ⟨_, rfl, rfl, _, rfl, ?_⟩
    rw [decV]
    unfold ap
    by_cases he : even n (isq n) = true
    · rw [if_pos he]
      refine iteD rfl ⟨_, rfl, hQ _ q s1 ?_⟩
      rw [eq]
      unfold lst
      rw [if_pos he]
    · rw [if_neg he]
      refine iteDF (by decide) ⟨_, rfl, _, rfl, _, rfl, n, _, _, q, q, _, _, rfl, SqT.at eq, SqT.at eq, ⟨by omega, N.le⟩, b1, b2, b1, b2, by decide, fun H2 r s2 er => ?_⟩
      refine hQ _ r (s1.trans s2) ?_
      rw [er]
      unfold lst
      rw [if_neg he]
end
end OA
set_option Elab.async false
set_option linter.all false
set_option maxRecDepth 100000
set_option maxHeartbeats 4000000
namespace OA
open PySem PySem.Spec PyProof.Rows L2
/-- how many bits the answers have, to the c-th -/
structure Big (n : Int) (c W : Nat) : Prop where
  a : ∀ k, Bt (k * W + 1) (ans n (isq n) k).1 ∧ Bt (k * W + 1) (ans n (isq n) k).2
  l : Bt W (lst n (isq n)).1 ∧ Bt W (lst n (isq n)).2
  s : (2 * c + 2) * W + 40 ≤ 134217728
theorem Big.k1 {n : Int} {c W k : Nat} (B : Big n c W) (h : k ≤ c) : k * W + 1 + W + 20 ≤ 134217728 := by
  have s := B.s
  have m : (k + 1) * W ≤ (2 * c + 2) * W := Nat.mul_le_mul_right _ (by omega)
  rw [Nat.succ_mul] at m
  omega
theorem Big.k2 {n : Int} {c W k : Nat} (B : Big n c W) (h : k ≤ c) : 2 * (k * W + 1) + 20 ≤ 134217728 := by
  have s := B.s
  have m : 2 * k * W ≤ (2 * c + 2) * W := Nat.mul_le_mul_right _ (by omega)
  rw [Nat.mul_assoc] at m
  omega
theorem Big.k3 {n : Int} {c W i j : Nat} (B : Big n c W) (h : i + j ≤ c) : (i * W + 1) + (j * W + 1) + 20 ≤ 134217728 := by
  have s := B.s
  have m : (i + j) * W ≤ (2 * c + 2) * W := Nat.mul_le_mul_right _ (by omega)
  rw [Nat.add_mul] at m
  omega
theorem big_of {n : Int} (N : Num n) : Big n 7 7998018 := by
  have A := fun k => ans_bt N.nsq N.r1000 (R := 1000) N.r1000 (by decide) k
  have l := lst_bt N.nsq N.r1000 (R := 1000) N.r1000 (by decide)
  rw [box_1000] at l
  refine ⟨fun k => ?_, ⟨l.1.mono (by decide), l.2.mono (by decide)⟩, by decide⟩
  have h := A k
  rw [box_1000] at h
  exact h
theorem big_low {n : Int} (N : Num n) (h : n < 3000) : Big n 101 23458 := by
  have r : isq n ≤ 54 := by
    rcases Int.lt_or_le (isq n) 55 with z | z
    · omega
    · have := sqle (by decide) z
      have := N.nsq.lo
      omega
  have A := fun k => ans_bt N.nsq N.r1000 (R := 54) r (by decide) k
  have l := lst_bt N.nsq N.r1000 (R := 54) r (by decide)
  rw [box_54] at l
  refine ⟨fun k => ?_, ⟨l.1.mono (by decide), l.2.mono (by decide)⟩, by decide⟩
  have h := A k
  rw [box_54] at h
  exact h
/-! ### promises -/
def spCheckAns : Sp := fun vs H Q _ => ∃ (n : Int) (x : Int × Int) (p : Addr) (A : Nat), vs = [.int n, .ref p] ∧ H p = some (.tup [.int x.1, .int x.2]) ∧ (1 ≤ n ∧ n ≤ 1000000) ∧ Ans n x ∧ Bt A x.1 ∧ Bt A x.2 ∧ 2 * A + 20 ≤ 134217728 ∧ Q .non H
def spAnswerBy : Sp := fun vs H Q _ => ∃ (n : Int) (c W : Nat), vs = [.int n, .int c] ∧ Num n ∧ c ≤ 100 ∧ Big n c W ∧ ∀ H' p, Same H H' → H' p = some (.tup [.int (ans n (isq n) c).1, .int (ans n (isq n) c).2]) → Q (.ref p) H'
def spCountOf : Sp := fun vs H Q _ => ∃ (n : Int) (c W : Nat) (p : Addr), vs = [.int n, .ref p] ∧ Num n ∧ Big n c W ∧ H p = some (.tup [.int (ans n (isq n) c).1, .int (ans n (isq n) c).2]) ∧ ∀ H', Same H H' → Q (.int c) H'
def spTogether : Sp := fun vs H Q _ => ∃ (n : Int) (x y : Int × Int) (p q : Addr) (A B : Nat), vs = [.int n, .ref p, .ref q] ∧ 2 ≤ n ∧ n ≤ 1000000 ∧ H p = some (.tup [.int x.1, .int x.2]) ∧ H q = some (.tup [.int y.1, .int y.2]) ∧ Ans n x ∧ Ans n y ∧
  Bt A x.1 ∧ Bt A x.2 ∧ Bt B y.1 ∧ Bt B y.2 ∧ 2 * A + 20 ≤ 134217728 ∧ 2 * B + 20 ≤ 134217728 ∧ A + B + 20 ≤ 134217728 ∧ ∀ H' r, Same H H' → H' r = some (.tup [.int (put n x y).1, .int (put n x y).2]) → Q (.ref r) H'
section
variable {P : Program} {w : World} {K : PySem.W.Frag} {mg : Str → Option Value} {base : Heap} (T : Txt K mg)
include T
theorem c_check_answer : C8.Cal P w K mg base 2 "check_answer" spCheckAns [] := by
  obtain ⟨f, fd, F, df⟩ := T.d_check_answer
  have c_is_whole : C8.Cal P w K mg base 1 "is_whole" spWhole [] := c_is_whole T
  refine C8.cal0 F (F.fn.binds df fun _ _ _ _ _ _ us hl => match us, hl with | [_, _], _ => rfl) .nil sc_check_answer (fun vs H Q E h => ?_) (fun cdv A outer s H vs Q E hr h => ?_)
  · obtain ⟨n, x, p, a, rfl, _⟩ := h
    rfl
  · obtain ⟨n, x, p, a, rfl, hp, hn, X, b1, b2, hs, hQ⟩ := h
    have x1 := X.a0
    have x2 := X.b0
    have nm := X.nm
    refine ⟨_, (pss_cons (ps_if (PW.pt (pw_or (pt_not (pt_val (pe_callB call_isi (by rfl) T.n_isinstance (by decide +kernel) (pa_cons (pv 1) (pa_cons (pe_bltn (by rfl) T.n_tuple (by decide +kernel) (v := .ty "tuple") rfl) pa_nil))))) (pw_or (pt_cmpR op_ne (pe_callB call_len_seq (by rfl) T.n_len PySem.boot_len (pa_cons (pv 1) pa_nil)) pe_int (nomark _)) (pw_or (pt_not (pt_val (C8.pe_c c_is_whole hr (by decide) (by rfl) (pa_cons (pe_ix ix_tup (pv 1) pe_int (fun _ _ => rfl)) pa_nil)))) (pw_or1 (pt_not (pt_val (C8.pe_c c_is_whole hr (by decide) (by rfl) (pa_cons (pe_ix ix_tup (pv 1) pe_int (fun _ _ => rfl)) pa_nil)))))))))
  (pss_one ps_never)
  pss_nil)
 (pss_one (ps_if (PW.pt (pw_or (pt_cmpR op_lt (pe_callB (call_minT rfl hr.units) (by rfl) T.n_min (by decide +kernel) (pa_cons (pv 1) pa_nil)) pe_int (nomark _)) (pw_or1 (pt_cmpR op_ne (pe_op op_mulB (pe_ix ix_tup (pv 1) pe_int (fun _ _ => rfl)) (pe_ix ix_tup (pv 1) pe_int (fun _ _ => rfl))) (pe_op op_add (pe_op op_mulB (pe_op op_mul (pv 0) (pe_ix ix_tup (pv 1) pe_int (fun _ _ => rfl))) (pe_ix ix_tup (pv 1) pe_int (fun _ _ => rfl))) pe_int) (nomark _)))))
  (pss_one ps_never)
  pss_nil))), ?_⟩
    refine ⟨_, rfl, _, _, _, _, true, rfl, .ty _, .base (.tup hp), kit_ty (by decide +kernel), _, rfl, iteF ?_⟩
    refine ⟨_, rfl, p, _, rfl, .inr (SqT.at hp), rfl, _, rfl, iteF ?_⟩
    refine ⟨_, rfl, p, _, 0, _, rfl, rfl, SqT.at hp, rfl, _, rfl, _, rfl, iteF ?_⟩
    refine ⟨_, rfl, p, _, 1, _, rfl, rfl, SqT.at hp, rfl, _, rfl, _, rfl, iteF ?_⟩
    refine ⟨_, rfl, p, x.1, [x.2], rfl, SqT.at hp, _, _, rfl, rfl, _, rfl, iteDF (show ¬ min x.1 x.2 < 0 by omega) ?_⟩
    refine ⟨_, rfl, p, _, 0, _, rfl, rfl, SqT.at hp, rfl, _, rfl, p, _, 0, _, rfl, rfl, SqT.at hp, rfl, _, _, rfl, rfl, ⟨_, _, b1, b1, by omega⟩, ?_⟩
    refine ⟨_, rfl, _, rfl, p, _, 1, _, rfl, rfl, SqT.at hp, rfl, _, _, rfl, rfl, .inl ⟨by omega, by omega⟩, _, rfl, p, _, 1, _, rfl, rfl, SqT.at hp, rfl, _, _, rfl, rfl, ⟨20 + a, a, (bt20 hn).mul b2, b2, by omega⟩, _, _, rfl, rfl, rfl, _, rfl, iteNS ?_ hQ⟩
    exact congrArg V.int (show x.1 * x.1 = n * x.2 * x.2 + 1 by omega)
theorem c_answer_by : C8.Cal P w K mg base 5 "answer_by" spAnswerBy [] := by
  obtain ⟨f, fd, F, df⟩ := T.d_answer_by
  have c_check_number : C8.Cal P w K mg base 2 "check_number" spCheck [] := c_check_number T
  have c_check_root : C8.Cal P w K mg base 2 "check_root" spCheckRoot [] := c_check_root T
  have c_is_whole : C8.Cal P w K mg base 1 "is_whole" spWhole [] := c_is_whole T
  have c_answer_of : C8.Cal P w K mg base 4 "answer_of" (spAnswerOf K) [] := c_answer_of T
  have c_put : C8.Cal P w K mg base 1 "put" (spPut K) [] := c_put T
  refine C8.cal0 F (F.fn.binds df fun _ _ _ _ _ _ us hl => match us, hl with | [_, _], _ => rfl) .nil sc_answer_by (fun vs H Q E h => ?_) (fun cdv A outer s H vs Q E hr h => ?_)
  · obtain ⟨n, c, W, rfl, _⟩ := h
    rfl
  · obtain ⟨n, c, W, rfl, N, hc, B, hQ⟩ := h
    have N2 := N.two
    refine ⟨_, (pss_cons (ps_expr (C8.pe_c c_check_number hr (by decide) (by rfl) (pa_cons (pv 0) pa_nil)))
 (pss_cons (ps_expr (C8.pe_c c_check_root hr (by decide) (by rfl) (pa_cons (pv 0) pa_nil)))
 (pss_cons (ps_if (PW.pt (pw_or (pt_not (pt_val (C8.pe_c c_is_whole hr (by decide) (by rfl) (pa_cons (pv 1) pa_nil)))) (pw_or1 (pt_not (pt_chain op_le op_le pe_int (pv 1) (C8.pe_gc (by rfl) T.g_MOST))))))
  (pss_one ps_never)
  pss_nil)
 (pss_cons (ps_set (i := 2) sc_answer_by.nd rfl (.inl rfl) (C8.pe_c c_answer_of hr (by decide) (by rfl) (pa_cons (pv 0) pa_nil)))
 (pss_cons (ps_set (i := 3) sc_answer_by.nd rfl (.inl rfl) (pe_tup (pa_cons pe_int (pa_cons pe_int pa_nil))))
 (pss_cons (ps_for PassesOwn.never rfl (pi_range1 (by rfl) T.n_range (pa_cons (pv 1) pa_nil)) (pg_name (i := 4) sc_answer_by.nd rfl (.inl rfl))
  (pss_one (ps_set (i := 3) sc_answer_by.nd rfl (.inl rfl) (C8.pe_c c_put hr (by decide) (by rfl) (pa_cons (pv 0) (pa_cons (pv 3) (pa_cons (pv 2) pa_nil)))))))
 (pss_one (ps_ret (pv 3))))))))), ?_⟩
    refine ⟨_, rfl, n, rfl, N.two, N.le, _, rfl, n, rfl, N, ?_⟩
    refine ⟨_, rfl, _, rfl, _, rfl, iteF ⟨_, rfl, _, _, rfl, rfl, _, rfl, iteD (by omega) ⟨_, _, rfl, rfl, _, rfl, iteNS (by omega) ?_⟩⟩⟩
    refine ⟨_, rfl, n, rfl, N, fun H1 q s1 eq => ?_⟩
    refine ⟨by show 2 ≤ sizeLine; decide, fun t nt => ?_⟩
    refine ⟨_, rfl, _, rfl, by omega, by omega, for_range (n := ((c : Nat) : Int).toNat) (fun i σ H' => ∃ b y, σ = [some (.int n), some (.int c), some (.ref q), some (.ref b), y] ∧ Same H1 H' ∧ H' b = some (.tup [.int (ans n (isq n) i).1, .int (ans n (isq n) i).2])) ⟨t, none, rfl, same_upd nt, upd_same⟩ (fun i σ H' hi h => ?_) (fun σ H' h => ?_)⟩
    · obtain ⟨b, y, rfl, sH, hb⟩ := h
      obtain ⟨a1, a2⟩ := B.a i
      refine ⟨_, rfl, _, rfl, _, rfl, n, ans n (isq n) i, lst n (isq n), b, q, _, _, rfl, SqT.at hb, SqT.at (sH _ _ eq), ⟨by omega, N.le⟩, a1, a2, B.l.1, B.l.2, B.k1 (by omega), fun r nr => ?_⟩
      exact ⟨r, _, rfl, same_up2 sH nr, upd_same⟩
    · obtain ⟨b, y, rfl, sH, hb⟩ := h
      rw [Int.toNat_natCast] at hb
      exact ⟨_, rfl, hQ _ b (s1.trans sH) hb⟩
theorem c_count_of : C8.Cal P w K mg base 5 "count_of" spCountOf [] := by
  obtain ⟨f, fd, F, df⟩ := T.d_count_of
  have c_check_number : C8.Cal P w K mg base 2 "check_number" spCheck [] := c_check_number T
  have c_check_root : C8.Cal P w K mg base 2 "check_root" spCheckRoot [] := c_check_root T
  have c_check_answer : C8.Cal P w K mg base 2 "check_answer" spCheckAns [] := c_check_answer T
  have c_answer_of : C8.Cal P w K mg base 4 "answer_of" (spAnswerOf K) [] := c_answer_of T
  have c_put : C8.Cal P w K mg base 1 "put" (spPut K) [] := c_put T
  refine C8.cal0 F (F.fn.binds df fun _ _ _ _ _ _ us hl => match us, hl with | [_, _], _ => rfl) .nil sc_count_of (fun vs H Q E h => ?_) (fun cdv A outer s H vs Q E hr h => ?_)
  · obtain ⟨n, c, W, p, rfl, _⟩ := h
    rfl
  · obtain ⟨n, c, W, p, rfl, N, B, hp, hQ⟩ := h
    have N2 := N.two
    obtain ⟨b1, b2⟩ := B.a c
    refine ⟨_, (pss_cons (ps_expr (C8.pe_c c_check_number hr (by decide) (by rfl) (pa_cons (pv 0) pa_nil)))
 (pss_cons (ps_expr (C8.pe_c c_check_root hr (by decide) (by rfl) (pa_cons (pv 0) pa_nil)))
 (pss_cons (ps_expr (C8.pe_c c_check_answer hr (by decide) (by rfl) (pa_cons (pv 0) (pa_cons (pv 1) pa_nil))))
 (pss_cons (ps_set (i := 2) sc_count_of.nd rfl (.inl rfl) (C8.pe_c c_answer_of hr (by decide) (by rfl) (pa_cons (pv 0) pa_nil)))
 (pss_cons (ps_set (i := 3) sc_count_of.nd rfl (.inl rfl) pe_int)
 (pss_cons (ps_set (i := 4) sc_count_of.nd rfl (.inl rfl) (pe_tup (pa_cons pe_int (pa_cons pe_int pa_nil))))
 (pss_cons (ps_while PassesOwn.never (pt_cmpR op_lt (pe_ix ix_tup (pv 4) pe_int (fun _ _ => rfl)) (pe_ix ix_tup (pv 1) pe_int (fun _ _ => rfl)) (nomark _))
  (pss_cons (ps_set (i := 4) sc_count_of.nd rfl (.inl rfl) (C8.pe_c c_put hr (by decide) (by rfl) (pa_cons (pv 0) (pa_cons (pv 4) (pa_cons (pv 2) pa_nil)))))
 (pss_one (ps_aug (i := 3) sc_count_of.nd rfl (.inl rfl) pe_int ip_add))))
 (pss_one (ps_ret (pv 3)))))))))), ?_⟩
    refine ⟨_, rfl, n, rfl, N.two, N.le, _, rfl, n, rfl, N, ?_⟩
    refine ⟨_, rfl, _, rfl, n, ans n (isq n) c, p, _, rfl, hp, ⟨by omega, N.le⟩, ans_ans N.nsq N.r1000 c, b1, b2, B.k2 (Nat.le_refl _), ?_⟩
    refine ⟨_, rfl, n, rfl, N, fun H1 q s1 eq => ?_⟩
    refine ⟨by show 2 ≤ sizeLine; decide, fun t nt => ?_⟩
    refine ⟨fun m σ H' => ∃ (k : Nat) (b : Addr), k ≤ c ∧ σ = [some (.int n), some (.ref p), some (.ref q), some (.int k), some (.ref b)] ∧ Same H1 H' ∧ H' b = some (.tup [.int (ans n (isq n) k).1, .int (ans n (isq n) k).2]) ∧ m = c - k, ⟨_, 0, t, Nat.zero_le _, rfl, same_upd nt, upd_same, rfl⟩, fun m σ H' hW => ?_⟩
    obtain ⟨k, b, hk, rfl, sH, hb, rfl⟩ := hW
    have hp' := sH _ _ (s1 _ _ hp)
    refine ⟨_, rfl, b, _, 1, _, rfl, rfl, SqT.at hb, rfl, _, rfl, p, _, 1, _, rfl, rfl, SqT.at hp', rfl, _, _, rfl, rfl, _, rfl, ?_⟩
    by_cases hkc : k = c
    · subst hkc
      exact iteDF (by omega) ⟨_, rfl, hQ _ (s1.trans sH)⟩
    · have hlt : k < c := by omega
      refine iteD (ans_lt N.nsq N.r1000 hlt) ?_
      obtain ⟨a1, a2⟩ := B.a k
      refine ⟨fun σ' H'' => ∃ b, σ' = [some (.int n), some (.ref p), some (.ref q), some (.int ((k + 1 : Nat) : Int)), some (.ref b)] ∧ Same H1 H'' ∧ H'' b = some (.tup [.int (ans n (isq n) (k + 1)).1, .int (ans n (isq n) (k + 1)).2]), fun σ' H'' hN => ?_, ?_⟩
      · obtain ⟨b2, e1, e2, e3⟩ := hN
        exact ⟨c - (k + 1), by omega, k + 1, b2, hlt, e1, e2, e3, rfl⟩
      · refine ⟨_, rfl, _, rfl, _, rfl, n, ans n (isq n) k, lst n (isq n), b, q, _, _, rfl, SqT.at hb, SqT.at (sH _ _ eq), ⟨by omega, N.le⟩, a1, a2, B.l.1, B.l.2, B.k1 hk, fun r nr => ?_⟩
        refine ⟨_, rfl, _, _, rfl, rfl, ?_⟩
        refine ⟨r, ?_, same_up2 sH nr, upd_same⟩
        rfl
theorem c_together : C8.Cal P w K mg base 3 "together" spTogether [] := by
  obtain ⟨f, fd, F, df⟩ := T.d_together
  have c_check_number : C8.Cal P w K mg base 2 "check_number" spCheck [] := c_check_number T
  have c_check_answer : C8.Cal P w K mg base 2 "check_answer" spCheckAns [] := c_check_answer T
  have c_put : C8.Cal P w K mg base 1 "put" (spPut K) [] := c_put T
  refine C8.cal0 F (F.fn.binds df fun _ _ _ _ _ _ us hl => match us, hl with | [_, _, _], _ => rfl) .nil sc_together (fun vs H Q E h => ?_) (fun cdv A outer s H vs Q E hr h => ?_)
  · obtain ⟨n, x, y, p, q, a, b, rfl, _⟩ := h
    rfl
  · obtain ⟨n, x, y, p, q, a, b, rfl, h2, hl, hp, hq, X, Y, b1, b2, b3, b4, z1, z2, z3, hQ⟩ := h
    refine ⟨_, (pss_cons (ps_expr (C8.pe_c c_check_number hr (by decide) (by rfl) (pa_cons (pv 0) pa_nil)))
 (pss_cons (ps_expr (C8.pe_c c_check_answer hr (by decide) (by rfl) (pa_cons (pv 0) (pa_cons (pv 1) pa_nil))))
 (pss_cons (ps_expr (C8.pe_c c_check_answer hr (by decide) (by rfl) (pa_cons (pv 0) (pa_cons (pv 2) pa_nil))))
 (pss_one (ps_ret (C8.pe_c c_put hr (by decide) (by rfl) (pa_cons (pv 0) (pa_cons (pv 1) (pa_cons (pv 2) pa_nil))))))))), ?_⟩
    refine ⟨_, rfl, n, rfl, h2, hl, ?_⟩
    refine ⟨_, rfl, _, rfl, n, x, p, _, rfl, hp, ⟨by omega, hl⟩, X, b1, b2, z1, ?_⟩
    refine ⟨_, rfl, _, rfl, n, y, q, _, rfl, hq, ⟨by omega, hl⟩, Y, b3, b4, z2, ?_⟩
    exact ⟨_, rfl, _, rfl, _, rfl, n, x, y, p, q, _, _, rfl, SqT.at hp, SqT.at hq, ⟨by omega, hl⟩, b1, b2, b3, b4, z3, fun r nr => hQ _ r (same_upd nr) upd_same⟩
end
end OA
set_option Elab.async false
set_option linter.all false
set_option maxRecDepth 100000
set_option maxHeartbeats 4000000
namespace OA
open PySem PySem.Spec PyProof.Rows L2
theorem same_make {H : Hp} {x dx : Addr} {o i : HO} (hx : H x = none) (hd : H dx = none) : Same H (upd (upd H dx o) x i) := fun b z e => by
  rw [upd_ne (ne_of_none e hx), upd_ne (ne_of_none e hd)]
  exact e
/-- what told tells of a number -/
def ToldIs (K : PySem.W.Frag) (n : Int) (H : Hp) (v : V) : Prop := (sqB n = true → Is K "Square" (f1 (isq n)) H v) ∧ (sqB n = false → Is K "Least" (f2 (lst n (isq n))) H v)
def spTold (K : PySem.W.Frag) : Sp := fun vs H Q _ => ∃ n : Int, vs = [.int n] ∧ 2 ≤ n ∧ n ≤ 1000000 ∧ ∀ H' v, Same H H' → ToldIs K n H' v → Q v H'
theorem sq_eq {n : Int} (h : sqB n = true) : isq n * isq n = n := of_decide_eq_true h
theorem bt_small {i : Int} {B : Nat} (h0 : -1000000000 ≤ i) (h : i ≤ 1000000000) (hB : 30 ≤ B) : Bt B i := Bt.mono (A := 30) (by
  show i.natAbs < 2 ^ 30
  have : (2 : Nat) ^ 30 = 1073741824 := by decide
  omega) hB
/-- all of these are true -/
theorem all_true : ∀ k : Nat, (List.replicate k true).all id = true
  | 0 => rfl
  | k + 1 => by
    rw [List.replicate_succ, List.all_cons, all_true k]
    rfl
section
variable {P : Program} {w : World} {K : PySem.W.Frag} {mg : Str → Option Value} {base : Heap} (T : Txt K mg)
include T
theorem ty_Square {H : Hp} {p dx : Addr} {fs : List (Str × V)} (h : H p = some (.ins (ca K "Square") dx fs)) : TyX K H (.ref p) (.ref (ca K "Square")) := .base (.ins h T.c_Square T.i_Square.ha T.i_Square.hn T.i_Square.htk T.i_Square.hm)
theorem ty_Least {H : Hp} {p dx : Addr} {fs : List (Str × V)} (h : H p = some (.ins (ca K "Least") dx fs)) : TyX K H (.ref p) (.ref (ca K "Least")) := .base (.ins h T.c_Least T.i_Least.ha T.i_Least.hn T.i_Least.htk T.i_Least.hm)
theorem c_told : C8.Cal P w K mg base 5 "told" (spTold K) [] := by
  obtain ⟨f, fd, F, df⟩ := T.d_told
  have c_check_number : C8.Cal P w K mg base 2 "check_number" spCheck [] := c_check_number T
  have c_is_square : C8.Cal P w K mg base 2 "is_square" spIsSq [] := c_is_square T
  have c_root_of : C8.Cal P w K mg base 1 "root_of" spRoot [] := c_root_of T
  have c_answer_of : C8.Cal P w K mg base 4 "answer_of" (spAnswerOf K) [] := c_answer_of T
  have m_Square : C8.Mak P w K mg base 1 "Square" (ca K "Square") (spInit1 K "Square") [] := c_Square_init T
  have m_Least : C8.Mak P w K mg base 1 "Least" (ca K "Least") (spInit2 K "Least") [] := c_Least_init T
  refine C8.cal0 F (F.fn.binds df fun _ _ _ _ _ _ us hl => match us, hl with | [_], _ => rfl) .nil sc_told (fun vs H Q E h => ?_) (fun cdv A outer s H vs Q E hr h => ?_)
  · obtain ⟨n, rfl, _⟩ := h
    rfl
  · obtain ⟨n, rfl, h2, hl, hQ⟩ := h
    refine ⟨_, (pss_cons (ps_expr (C8.pe_c c_check_number hr (by decide) (by rfl) (pa_cons (pv 0) pa_nil)))
 (pss_cons (ps_if (pt_val (C8.pe_c c_is_square hr (by decide) (by rfl) (pa_cons (pv 0) pa_nil)))
  (pss_one (ps_ret (C8.pe_mk m_Square hr (by decide) (by rfl) (pa_cons (C8.pe_c c_root_of hr (by decide) (by rfl) (pa_cons (pv 0) pa_nil)) pa_nil))))
  pss_nil)
 (pss_cons (ps_asg (C8.pe_c c_answer_of hr (by decide) (by rfl) (pa_cons (pv 0) pa_nil)) (pg_tup (by rfl) (pgs_cons (pg_name (i := 1) sc_told.nd rfl (.inl rfl)) (pgs_cons (pg_name (i := 2) sc_told.nd rfl (.inl rfl)) pgs_nil))))
 (pss_one (ps_ret (C8.pe_mk m_Least hr (by decide) (by rfl) (pa_cons (pv 1) (pa_cons (pv 2) pa_nil)))))))), ?_⟩
    refine ⟨_, rfl, n, rfl, h2, hl, _, rfl, n, rfl, by omega, by omega, _, rfl, ite2 (fun e => ?_) (fun e => ?_)⟩
    · have es : sqB n = true := e
      refine ⟨_, rfl, n, rfl, by omega, by omega, fun x dx nx ndx ne => ?_⟩
      refine ⟨x, dx, _, rfl, upd_same, rfl, ?_⟩
      rw [upd_upd]
      exact hQ _ _ (same_make nx ndx) ⟨fun _ => ⟨x, dx, rfl, upd_same⟩, fun z => absurd es (by rw [z]; decide)⟩
    · have es : sqB n = false := by simpa using e
      have N := sq_num h2 hl es
      refine ⟨_, rfl, n, rfl, N, fun H1 q s1 eq => ?_⟩
      refine ⟨q, _, rfl, SqT.at eq, rfl, _, _, rfl, _, _, rfl, rfl, ?_⟩
      refine ⟨_, rfl, _, rfl, fun x dx nx ndx ne => ?_⟩
      refine ⟨x, dx, _, _, rfl, upd_same, rfl, ?_⟩
      rw [upd_upd]
      exact hQ _ _ (s1.trans (same_make nx ndx)) ⟨fun z => absurd es (by rw [z]; decide), fun _ => ⟨x, dx, rfl, upd_same⟩⟩
end
end OA
set_option Elab.async false
set_option linter.all false
set_option maxRecDepth 100000
set_option maxHeartbeats 4000000
namespace OA
open PySem PySem.Spec PyProof.Rows L2
/-- what less tells of a number -/
def LessIs (K : PySem.W.Frag) (n : Int) (H : Hp) (v : V) : Prop := (sqB n = true → Is K "Square" (f1 (isq n)) H v) ∧ (sqB n = false → even n (isq n) = true → Is K "Barred" (f2 (fst1 n (isq n))) H v) ∧ (sqB n = false → even n (isq n) = false → Is K "Other" (f2 (fst1 n (isq n))) H v)
def spLess (K : PySem.W.Frag) : Sp := fun vs H Q _ => ∃ n : Int, vs = [.int n] ∧ 2 ≤ n ∧ n ≤ 1000000 ∧ ∀ H' v, Same H H' → LessIs K n H' v → Q v H'
section
variable {P : Program} {w : World} {K : PySem.W.Frag} {mg : Str → Option Value} {base : Heap} (T : Txt K mg)
include T
theorem c_Other_init : C8.Mak P w K mg base 1 "Other" (ca K "Other") (spInit2 K "Other") [] := by
  obtain ⟨f, fd, M, hm, F, df⟩ := T.m_Other
  refine C8.mak0 M hm F (F.binds df fun _ _ _ _ _ _ us hl => match us, hl with | [_, _, _], _ => rfl) .nil sc_Other_init (fun vs H Q E h => ?_) (fun cdv A outer s H vs Q E hr h => ?_)
  · obtain ⟨a, dx, v, u, rfl, _⟩ := h
    rfl
  · obtain ⟨a, dx, v, u, rfl, ha, hQ⟩ := h
    refine ⟨_, (pss_cons (ps_fld (pv 0) (pv 1) rfl)
 (pss_one (ps_fld (pv 0) (pv 2) rfl))), ?_⟩
    refine ⟨_, rfl, _, rfl, a, _, dx, _, rfl, ha, T.c_Other, T.a_Other_one, (by show 0 < 1000; decide), ?_⟩
    refine ⟨_, rfl, _, rfl, a, _, dx, _, rfl, upd_same, T.c_Other, T.a_Other_other, (by show 1 < 1000; decide), ?_⟩
    rw [upd_upd]
    exact hQ
theorem c_Barred_init : C8.Mak P w K mg base 1 "Barred" (ca K "Barred") (spInit2 K "Barred") [] := by
  obtain ⟨f, fd, M, hm, F, df⟩ := T.m_Barred
  refine C8.mak0 M hm F (F.binds df fun _ _ _ _ _ _ us hl => match us, hl with | [_, _, _], _ => rfl) .nil sc_Barred_init (fun vs H Q E h => ?_) (fun cdv A outer s H vs Q E hr h => ?_)
  · obtain ⟨a, dx, v, u, rfl, _⟩ := h
    rfl
  · obtain ⟨a, dx, v, u, rfl, ha, hQ⟩ := h
    refine ⟨_, (pss_cons (ps_fld (pv 0) (pv 1) rfl)
 (pss_one (ps_fld (pv 0) (pv 2) rfl))), ?_⟩
    refine ⟨_, rfl, _, rfl, a, _, dx, _, rfl, ha, T.c_Barred, T.a_Barred_one, (by show 0 < 1000; decide), ?_⟩
    refine ⟨_, rfl, _, rfl, a, _, dx, _, rfl, upd_same, T.c_Barred, T.a_Barred_other, (by show 1 < 1000; decide), ?_⟩
    rw [upd_upd]
    exact hQ
theorem c_less : C8.Cal P w K mg base 4 "less" (spLess K) [] := by
  obtain ⟨f, fd, F, df⟩ := T.d_less
  have c_check_number : C8.Cal P w K mg base 2 "check_number" spCheck [] := c_check_number T
  have c_is_square : C8.Cal P w K mg base 2 "is_square" spIsSq [] := c_is_square T
  have c_root_of : C8.Cal P w K mg base 1 "root_of" spRoot [] := c_root_of T
  have c_least_of : C8.Cal P w K mg base 3 "least_of" (spLeastOf K) [] := c_least_of T
  have m_Square : C8.Mak P w K mg base 1 "Square" (ca K "Square") (spInit1 K "Square") [] := c_Square_init T
  have m_Barred : C8.Mak P w K mg base 1 "Barred" (ca K "Barred") (spInit2 K "Barred") [] := c_Barred_init T
  have m_Other : C8.Mak P w K mg base 1 "Other" (ca K "Other") (spInit2 K "Other") [] := c_Other_init T
  refine C8.cal0 F (F.fn.binds df fun _ _ _ _ _ _ us hl => match us, hl with | [_], _ => rfl) .nil sc_less (fun vs H Q E h => ?_) (fun cdv A outer s H vs Q E hr h => ?_)
  · obtain ⟨n, rfl, _⟩ := h
    rfl
  · obtain ⟨n, rfl, h2, hl, hQ⟩ := h
    refine ⟨_, (pss_cons (ps_expr (C8.pe_c c_check_number hr (by decide) (by rfl) (pa_cons (pv 0) pa_nil)))
 (pss_cons (ps_if (pt_val (C8.pe_c c_is_square hr (by decide) (by rfl) (pa_cons (pv 0) pa_nil)))
  (pss_one (ps_ret (C8.pe_mk m_Square hr (by decide) (by rfl) (pa_cons (C8.pe_c c_root_of hr (by decide) (by rfl) (pa_cons (pv 0) pa_nil)) pa_nil))))
  pss_nil)
 (pss_cons (ps_asg (C8.pe_c c_least_of hr (by decide) (by rfl) (pa_cons (pv 0) pa_nil)) (pg_tup (by rfl) (pgs_cons (pg_name (i := 1) sc_less.nd rfl (.inl rfl)) (pgs_cons (pg_name (i := 2) sc_less.nd rfl (.inl rfl)) pgs_nil))))
 (pss_cons (ps_if (pt_val (pv 2))
  (pss_one (ps_ret (C8.pe_mk m_Barred hr (by decide) (by rfl) (pa_cons (pe_ix ix_tup (pv 1) pe_int (fun _ _ => rfl)) (pa_cons (pe_ix ix_tup (pv 1) pe_int (fun _ _ => rfl)) pa_nil)))))
  pss_nil)
 (pss_one (ps_ret (C8.pe_mk m_Other hr (by decide) (by rfl) (pa_cons (pe_ix ix_tup (pv 1) pe_int (fun _ _ => rfl)) (pa_cons (pe_ix ix_tup (pv 1) pe_int (fun _ _ => rfl)) pa_nil))))))))), ?_⟩
    refine ⟨_, rfl, n, rfl, h2, hl, _, rfl, n, rfl, by omega, by omega, _, rfl, ite2 (fun e => ?_) (fun e => ?_)⟩
    · have es : sqB n = true := e
      refine ⟨_, rfl, n, rfl, by omega, by omega, fun x dx nx ndx ne => ?_⟩
      refine ⟨x, dx, _, rfl, upd_same, rfl, ?_⟩
      rw [upd_upd]
      exact hQ _ _ (same_make nx ndx) ⟨fun _ => ⟨x, dx, rfl, upd_same⟩, fun z => absurd es (by rw [z]; decide), fun z => absurd es (by rw [z]; decide)⟩
    · have es : sqB n = false := by simpa using e
      have N := sq_num h2 hl es
      refine ⟨_, rfl, n, rfl, N, fun H1 p q s1 ep eq => ?_⟩
      refine ⟨p, _, rfl, SqT.at ep, rfl, _, _, rfl, _, _, rfl, rfl, ?_⟩
      cases he : even n (isq n) with
      | true =>
        refine ⟨_, rfl, _, rfl, iteT ?_⟩
        refine ⟨_, rfl, q, _, 0, _, rfl, rfl, SqT.at eq, rfl, _, rfl, q, _, 1, _, rfl, rfl, SqT.at eq, rfl, fun x dx nx ndx ne => ?_⟩
        refine ⟨x, dx, _, _, rfl, upd_same, rfl, ?_⟩
        rw [upd_upd]
        exact hQ _ _ (s1.trans (same_make nx ndx)) ⟨fun z => absurd z (by rw [es]; decide), fun _ _ => ⟨x, dx, rfl, upd_same⟩, fun _ z => absurd he (by rw [z]; decide)⟩
      | false =>
        refine ⟨_, rfl, _, rfl, iteF ?_⟩
        refine ⟨_, rfl, q, _, 0, _, rfl, rfl, SqT.at eq, rfl, _, rfl, q, _, 1, _, rfl, rfl, SqT.at eq, rfl, fun x dx nx ndx ne => ?_⟩
        refine ⟨x, dx, _, _, rfl, upd_same, rfl, ?_⟩
        rw [upd_upd]
        exact hQ _ _ (s1.trans (same_make nx ndx)) ⟨fun z => absurd z (by rw [es]; decide), fun _ z => absurd he (by rw [z]; decide), fun _ _ => ⟨x, dx, rfl, upd_same⟩⟩
end
end OA
set_option Elab.async false
set_option linter.all false
set_option maxRecDepth 100000
set_option maxHeartbeats 4000000
/-! What the program refuses. -/
namespace OA
open PySem PySem.Spec PyProof.Rows L2
/-- no whole number -/
inductive Odd (H : Hp) : V → Prop
  | non : Odd H .non
  | bl (b : Bool) : Odd H (.bl b)
  | str (s : Str) : Odd H (.str s)
  | lst {a : Addr} {xs : List V} (e : H a = some (.lst xs)) : Odd H (.ref a)
  | tup {a : Addr} {xs : List V} (e : H a = some (.tup xs)) : Odd H (.ref a)
  | dct {a : Addr} {kvs : List (Key × V)} (e : H a = some (.dK kvs)) : Odd H (.ref a)
theorem Odd.same {H H' : Hp} {v : V} (s : Same H H') : Odd H v → Odd H' v
  | .non => .non
  | .bl b => .bl b
  | .str x => .str x
  | .lst e => .lst (s _ _ e)
  | .tup e => .tup (s _ _ e)
  | .dct e => .dct (s _ _ e)
def BadN (H : Hp) (v : V) : Prop := Odd H v ∨ ∃ i : Int, v = .int i ∧ ¬ (2 ≤ i ∧ i ≤ 1000000)
theorem BadN.same {H H' : Hp} {v : V} (s : Same H H') (h : BadN H v) : BadN H' v := h.elim (fun o => .inl (o.same s)) .inr
def BadC (H : Hp) (v : V) : Prop := Odd H v ∨ ∃ i : Int, v = .int i ∧ ¬ (0 ≤ i ∧ i ≤ 100)
theorem BadC.same {H H' : Hp} {v : V} (s : Same H H') (h : BadC H v) : BadC H' v := h.elim (fun o => .inl (o.same s)) .inr
/-- no answer of n -/
inductive BadA (n : Int) (H : Hp) : V → Prop
  | non : BadA n H .non
  | bl (b : Bool) : BadA n H (.bl b)
  | str (s : Str) : BadA n H (.str s)
  | int (i : Int) : BadA n H (.int i)
  | lst {a : Addr} {xs : List V} (e : H a = some (.lst xs)) : BadA n H (.ref a)
  | dct {a : Addr} {kvs : List (Key × V)} (e : H a = some (.dK kvs)) : BadA n H (.ref a)
  | len {a : Addr} {xs : List V} (e : H a = some (.tup xs)) (h : xs.length ≠ 2) : BadA n H (.ref a)
  | one {a : Addr} {x y : V} (e : H a = some (.tup [x, y])) (o : Odd H x) : BadA n H (.ref a)
  | two {a : Addr} {i : Int} {y : V} (e : H a = some (.tup [.int i, y])) (o : Odd H y) : BadA n H (.ref a)
  | pair {a : Addr} {i j : Int} (e : H a = some (.tup [.int i, .int j])) (b1 : Bt 60000000 i) (b2 : Bt 60000000 j) (h : min i j < 0 ∨ i * i ≠ n * j * j + 1) : BadA n H (.ref a)
theorem BadA.same {n : Int} {H H' : Hp} {v : V} (s : Same H H') : BadA n H v → BadA n H' v
  | .non => .non
  | .bl b => .bl b
  | .str x => .str x
  | .int i => .int i
  | .lst e => .lst (s _ _ e)
  | .dct e => .dct (s _ _ e)
  | .len e h => .len (s _ _ e) h
  | .one e o => .one (s _ _ e) (o.same s)
  | .two e o => .two (s _ _ e) (o.same s)
  | .pair e b1 b2 h => .pair (s _ _ e) b1 b2 h
/-! ### promises -/
def spWhole2 : Sp := fun vs H Q _ => ∃ v, vs = [v] ∧ ((∃ i : Int, v = .int i ∧ Q (.bl true) H) ∨ (Odd H v ∧ Q (.bl false) H))
def spCheckX (K : PySem.W.Frag) : Sp := fun vs H Q E => ∃ v, vs = [v] ∧ ((∃ n : Int, v = .int n ∧ 2 ≤ n ∧ n ≤ 1000000 ∧ Q .non H) ∨ (BadN H v ∧ E (.ref (ca K "BadNumber")) none H))
def spRootX (K : PySem.W.Frag) : Sp := fun vs H Q E => ∃ n : Int, vs = [.int n] ∧ 2 ≤ n ∧ n ≤ 1000000 ∧ (sqB n = false → Q .non H) ∧ (sqB n = true → E (.ref (ca K "IsSquare")) none H)
def spAnsX (K : PySem.W.Frag) : Sp := fun vs H Q E => ∃ (n : Int) (v : V), vs = [.int n, v] ∧ 1 ≤ n ∧ n ≤ 1000000 ∧ ((BadA n H v ∧ E (.ref (ca K "BadAnswer")) none H) ∨ (∃ a, v = .ref a ∧ H a = some (.tup [.int 1, .int 0]) ∧ Q .non H))
def spNumX (K : PySem.W.Frag) : Sp := fun vs H Q E => ∃ v, vs = [v] ∧ BadN H v ∧ E (.ref (ca K "BadNumber")) none H
/-- a number, or a square, is refused -/
def NS (K : PySem.W.Frag) (H : Hp) (E : XK) (v : V) : Prop := (BadN H v ∧ E (.ref (ca K "BadNumber")) none H) ∨ (∃ n : Int, v = .int n ∧ 2 ≤ n ∧ n ≤ 1000000 ∧ sqB n = true ∧ E (.ref (ca K "IsSquare")) none H)
def spChainX (K : PySem.W.Frag) : Sp := fun vs H Q E => ∃ v, vs = [v] ∧ NS K H E v
def spByX (K : PySem.W.Frag) : Sp := fun vs H Q E => ∃ v c, vs = [v, c] ∧ (NS K H E v ∨ (∃ n : Int, v = .int n ∧ 2 ≤ n ∧ n ≤ 1000000 ∧ sqB n = false ∧ BadC H c ∧ E (.ref (ca K "BadCount")) none H))
def spCountX (K : PySem.W.Frag) : Sp := fun vs H Q E => ∃ v c, vs = [v, c] ∧ (NS K H E v ∨ (∃ n : Int, v = .int n ∧ 2 ≤ n ∧ n ≤ 1000000 ∧ sqB n = false ∧ BadA n H c ∧ E (.ref (ca K "BadAnswer")) none H))
def spTogX (K : PySem.W.Frag) : Sp := fun vs H Q E => ∃ v c d, vs = [v, c, d] ∧ ((BadN H v ∧ E (.ref (ca K "BadNumber")) none H) ∨
  (∃ n : Int, v = .int n ∧ 2 ≤ n ∧ n ≤ 1000000 ∧ E (.ref (ca K "BadAnswer")) none H ∧ (BadA n H c ∨ (∃ a, c = .ref a ∧ H a = some (.tup [.int 1, .int 0]) ∧ BadA n H d))))
section
variable {P : Program} {w : World} {K : PySem.W.Frag} {mg : Str → Option Value} {base : Heap} (T : Txt K mg)
include T
theorem c_is_whole2 : C8.Cal P w K mg base 1 "is_whole" spWhole2 [] := by
  obtain ⟨f, fd, F, df⟩ := T.d_is_whole
  refine C8.cal0 F (F.fn.binds df fun _ _ _ _ _ _ us hl => match us, hl with | [_], _ => rfl) .nil sc_is_whole (fun vs H Q E h => ?_) (fun cdv A outer s H vs Q E hr h => ?_)
  · obtain ⟨n, rfl, _⟩ := h
    rfl
  · obtain ⟨v, rfl, h⟩ := h
    refine ⟨_, (pss_one (ps_ret (pe_and (pe_callB call_isi (by rfl) T.n_isinstance (by decide +kernel) (pa_cons (pv 0) (pa_cons (pe_bltn (by rfl) T.n_int (by decide +kernel) (v := .ty "int") rfl) pa_nil))) (pe_one (pe_not (pe_callB call_isi (by rfl) T.n_isinstance (by decide +kernel) (pa_cons (pv 0) (pa_cons (pe_bltn (by rfl) T.n_bool (by decide +kernel) (v := .ty "bool") rfl) pa_nil)))))))), ?_⟩
    rcases h with ⟨n, rfl, hQ⟩ | ⟨o, hQ⟩
    · refine ⟨_, rfl, _, _, _, _, true, rfl, .ty _, .base (.int _), kit_ty (by decide +kernel), _, rfl, iteT ?_⟩
      exact ⟨_, rfl, _, _, _, _, false, rfl, .ty _, .base (.int _), kit_ty (by decide +kernel), _, rfl, hQ⟩
    · cases o with
      | non => exact ⟨_, rfl, _, _, _, _, false, rfl, .ty _, .base .non, kit_ty (by decide +kernel), _, rfl, iteF hQ⟩
      | bl b =>
        refine ⟨_, rfl, _, _, _, _, true, rfl, .ty _, .base (.bl _), kit_ty (by decide +kernel), _, rfl, iteT ?_⟩
        exact ⟨_, rfl, _, _, _, _, true, rfl, .ty _, .base (.bl _), kit_ty (by decide +kernel), _, rfl, hQ⟩
      | str x => exact ⟨_, rfl, _, _, _, _, false, rfl, .ty _, .base (.str _), kit_ty (by decide +kernel), _, rfl, iteF hQ⟩
      | lst e => exact ⟨_, rfl, _, _, _, _, false, rfl, .ty _, .base (.lst e), kit_ty (by decide +kernel), _, rfl, iteF hQ⟩
      | tup e => exact ⟨_, rfl, _, _, _, _, false, rfl, .ty _, .base (.tup e), kit_ty (by decide +kernel), _, rfl, iteF hQ⟩
      | dct e => exact ⟨_, rfl, _, _, _, _, false, rfl, .ty _, .base (.dK e), kit_ty (by decide +kernel), _, rfl, iteF hQ⟩
theorem cX_check_number : CalX P w K mg base 2 "check_number" (spCheckX K) := by
  obtain ⟨f, fd, F, df⟩ := T.d_check_number
  have c_is_whole : C8.Cal P w K mg base 1 "is_whole" spWhole2 [] := c_is_whole2 T
  refine calX F (F.fn.binds df fun _ _ _ _ _ _ us hl => match us, hl with | [_], _ => rfl) sc_check_number (fun vs H Q E h => ?_) (fun cdv A outer s H vs Q E hr h => ?_)
  · obtain ⟨n, rfl, _⟩ := h
    rfl
  · obtain ⟨v, rfl, h⟩ := h
    refine ⟨_, (pss_one (ps_if (PW.pt (pw_or (pt_not (pt_val (C8.pe_c c_is_whole hr (by decide) (by rfl) (pa_cons (pv 0) pa_nil)))) (pw_or1 (pt_not (pt_chain op_le op_le pe_int (pv 0) (C8.pe_gc (by rfl) T.g_GREATEST))))))
  (pss_one (L2N.ps_raise rfl (L2N.takes_of rfl rfl rfl rfl) (L2N.pmk_own PySem.F.excBase_ValueError T.x_BadNumber.ex (glX T.g_BadNumber) T.x_BadNumber.kp (raises_own T.x_BadNumber.bs T.x_BadNumber.ty) rfl)))
  pss_nil)), ?_⟩
    rcases h with ⟨n, rfl, h2, hl, hQ⟩ | ⟨hb | ⟨n, rfl, hb⟩, hE⟩
    · exact ⟨_, rfl, _, rfl, .inl ⟨n, rfl, _, rfl, iteF ⟨_, rfl, _, _, rfl, rfl, _, rfl, iteD h2 ⟨_, _, rfl, rfl, _, rfl, iteNS hl hQ⟩⟩⟩⟩
    · exact ⟨_, rfl, _, rfl, .inr ⟨hb, _, rfl, iteT hE⟩⟩
    · refine ⟨_, rfl, _, rfl, .inl ⟨n, rfl, _, rfl, iteF ⟨_, rfl, _, _, rfl, rfl, _, rfl, ?_⟩⟩⟩
      by_cases h2 : 2 ≤ n
      · exact iteD h2 ⟨_, _, rfl, rfl, _, rfl, iteNF (fun z => hb ⟨h2, z⟩) hE⟩
      · exact iteDF h2 ⟨_, rfl, iteT hE⟩
theorem cX_check_root : CalX P w K mg base 2 "check_root" (spRootX K) := by
  obtain ⟨f, fd, F, df⟩ := T.d_check_root
  have c_root_of : C8.Cal P w K mg base 1 "root_of" spRoot [] := c_root_of T
  refine calX F (F.fn.binds df fun _ _ _ _ _ _ us hl => match us, hl with | [_], _ => rfl) sc_check_root (fun vs H Q E h => ?_) (fun cdv A outer s H vs Q E hr h => ?_)
  · obtain ⟨n, rfl, _⟩ := h
    rfl
  · obtain ⟨n, rfl, h2, hl, hQ, hE⟩ := h
    obtain ⟨r1, r2⟩ := isq_1000 h2 hl
    refine ⟨_, (pss_one (ps_if (pt_cmpR op_eq (pe_op op_mul (C8.pe_c c_root_of hr (by decide) (by rfl) (pa_cons (pv 0) pa_nil)) (C8.pe_c c_root_of hr (by decide) (by rfl) (pa_cons (pv 0) pa_nil))) (pv 0) (nomark _))
  (pss_one (L2N.ps_raise rfl (L2N.takes_of rfl rfl rfl rfl) (L2N.pmk_own PySem.F.excBase_ValueError T.x_IsSquare.ex (glX T.g_IsSquare) T.x_IsSquare.kp (raises_own T.x_IsSquare.bs T.x_IsSquare.ty) rfl)))
  pss_nil)), ?_⟩
    refine ⟨_, rfl, n, rfl, by omega, by omega, _, rfl, n, rfl, by omega, by omega, _, _, rfl, rfl, .inl ⟨by omega, by omega⟩, _, rfl, rfl, _, rfl, ?_⟩
    dsimp only
    rw [decV]
    cases es : sqB n with
    | true => exact iteD (of_decide_eq_true es) (hE es)
    | false => exact iteDF (of_decide_eq_false es) (hQ es)
theorem cX_check_answer : CalX P w K mg base 2 "check_answer" (spAnsX K) := by
  obtain ⟨f, fd, F, df⟩ := T.d_check_answer
  have c_is_whole : C8.Cal P w K mg base 1 "is_whole" spWhole2 [] := c_is_whole2 T
  refine calX F (F.fn.binds df fun _ _ _ _ _ _ us hl => match us, hl with | [_, _], _ => rfl) sc_check_answer (fun vs H Q E h => ?_) (fun cdv A outer s H vs Q E hr h => ?_)
  · obtain ⟨n, v, rfl, _⟩ := h
    rfl
  · obtain ⟨n, v, rfl, n1, nl, h⟩ := h
    refine ⟨_, (pss_cons (ps_if (PW.pt (pw_or (pt_not (pt_val (pe_callB call_isi (by rfl) T.n_isinstance (by decide +kernel) (pa_cons (pv 1) (pa_cons (pe_bltn (by rfl) T.n_tuple (by decide +kernel) (v := .ty "tuple") rfl) pa_nil))))) (pw_or (pt_cmpR op_ne (pe_callB call_len_seq (by rfl) T.n_len PySem.boot_len (pa_cons (pv 1) pa_nil)) pe_int (nomark _)) (pw_or (pt_not (pt_val (C8.pe_c c_is_whole hr (by decide) (by rfl) (pa_cons (pe_ix ix_tup (pv 1) pe_int (fun _ _ => rfl)) pa_nil)))) (pw_or1 (pt_not (pt_val (C8.pe_c c_is_whole hr (by decide) (by rfl) (pa_cons (pe_ix ix_tup (pv 1) pe_int (fun _ _ => rfl)) pa_nil)))))))))
  (pss_one (L2N.ps_raise rfl (L2N.takes_of rfl rfl rfl rfl) (L2N.pmk_own PySem.F.excBase_ValueError T.x_BadAnswer.ex (glX T.g_BadAnswer) T.x_BadAnswer.kp (raises_own T.x_BadAnswer.bs T.x_BadAnswer.ty) rfl)))
  pss_nil)
 (pss_one (ps_if (PW.pt (pw_or (pt_cmpR op_lt (pe_callB (call_minT rfl hr.units) (by rfl) T.n_min (by decide +kernel) (pa_cons (pv 1) pa_nil)) pe_int (nomark _)) (pw_or1 (pt_cmpR op_ne (pe_op op_mulB (pe_ix ix_tup (pv 1) pe_int (fun _ _ => rfl)) (pe_ix ix_tup (pv 1) pe_int (fun _ _ => rfl))) (pe_op op_add (pe_op op_mulB (pe_op op_mul (pv 0) (pe_ix ix_tup (pv 1) pe_int (fun _ _ => rfl))) (pe_ix ix_tup (pv 1) pe_int (fun _ _ => rfl))) pe_int) (nomark _)))))
  (pss_one (L2N.ps_raise rfl (L2N.takes_of rfl rfl rfl rfl) (L2N.pmk_own PySem.F.excBase_ValueError T.x_BadAnswer.ex (glX T.g_BadAnswer) T.x_BadAnswer.kp (raises_own T.x_BadAnswer.bs T.x_BadAnswer.ty) rfl)))
  pss_nil))), ?_⟩
    have one : ∀ (p : Addr) (i j : Int), H p = some (.tup [.int i, .int j]) → Bt 60000000 i → Bt 60000000 j → True := fun _ _ _ _ _ _ => trivial
    rcases h with ⟨hb, hE⟩ | ⟨p, rfl, hp, hQ⟩
    · cases hb with
      | non => exact ⟨_, rfl, _, _, _, _, false, rfl, .ty _, .base .non, kit_ty (by decide +kernel), _, rfl, iteT hE⟩
      | bl b => exact ⟨_, rfl, _, _, _, _, false, rfl, .ty _, .base (.bl _), kit_ty (by decide +kernel), _, rfl, iteT hE⟩
      | str b => exact ⟨_, rfl, _, _, _, _, false, rfl, .ty _, .base (.str _), kit_ty (by decide +kernel), _, rfl, iteT hE⟩
      | int b => exact ⟨_, rfl, _, _, _, _, false, rfl, .ty _, .base (.int _), kit_ty (by decide +kernel), _, rfl, iteT hE⟩
      | lst e => exact ⟨_, rfl, _, _, _, _, false, rfl, .ty _, .base (.lst e), kit_ty (by decide +kernel), _, rfl, iteT hE⟩
      | dct e => exact ⟨_, rfl, _, _, _, _, false, rfl, .ty _, .base (.dK e), kit_ty (by decide +kernel), _, rfl, iteT hE⟩
      | @len p xs hp hl =>
        refine ⟨_, rfl, _, _, _, _, true, rfl, .ty _, .base (.tup hp), kit_ty (by decide +kernel), _, rfl, iteF ?_⟩
        refine ⟨_, rfl, p, _, rfl, .inr (SqT.at hp), rfl, _, rfl, ?_⟩
        dsimp only
        rw [decV, decide_eq_false (fun z => hl (by omega))]
        exact iteT hE
      | @one p x y hp o =>
        refine ⟨_, rfl, _, _, _, _, true, rfl, .ty _, .base (.tup hp), kit_ty (by decide +kernel), _, rfl, iteF ?_⟩
        refine ⟨_, rfl, p, _, rfl, .inr (SqT.at hp), rfl, _, rfl, iteF ?_⟩
        exact ⟨_, rfl, p, _, 0, _, rfl, rfl, SqT.at hp, rfl, _, rfl, .inr ⟨o, _, rfl, iteT hE⟩⟩
      | @two p i y hp o =>
        refine ⟨_, rfl, _, _, _, _, true, rfl, .ty _, .base (.tup hp), kit_ty (by decide +kernel), _, rfl, iteF ?_⟩
        refine ⟨_, rfl, p, _, rfl, .inr (SqT.at hp), rfl, _, rfl, iteF ?_⟩
        refine ⟨_, rfl, p, _, 0, _, rfl, rfl, SqT.at hp, rfl, _, rfl, .inl ⟨i, rfl, _, rfl, iteF ?_⟩⟩
        exact ⟨_, rfl, p, _, 1, _, rfl, rfl, SqT.at hp, rfl, _, rfl, .inr ⟨o, _, rfl, iteT hE⟩⟩
      | @pair p i j hp b1 b2 hb =>
        refine ⟨_, rfl, _, _, _, _, true, rfl, .ty _, .base (.tup hp), kit_ty (by decide +kernel), _, rfl, iteF ?_⟩
        refine ⟨_, rfl, p, _, rfl, .inr (SqT.at hp), rfl, _, rfl, iteF ?_⟩
        refine ⟨_, rfl, p, _, 0, _, rfl, rfl, SqT.at hp, rfl, _, rfl, .inl ⟨i, rfl, _, rfl, iteF ?_⟩⟩
        refine ⟨_, rfl, p, _, 1, _, rfl, rfl, SqT.at hp, rfl, _, rfl, .inl ⟨j, rfl, _, rfl, iteF ?_⟩⟩
        refine ⟨_, rfl, p, i, [j], rfl, SqT.at hp, _, _, rfl, rfl, _, rfl, ?_⟩
        by_cases hm : min i j < 0
        · exact iteD hm hE
        · refine iteDF hm ?_
          refine ⟨_, rfl, p, _, 0, _, rfl, rfl, SqT.at hp, rfl, _, rfl, p, _, 0, _, rfl, rfl, SqT.at hp, rfl, _, _, rfl, rfl, ⟨_, _, b1, b1, by decide⟩, ?_⟩
          refine ⟨_, rfl, _, rfl, p, _, 1, _, rfl, rfl, SqT.at hp, rfl, _, _, rfl, rfl, .inl ⟨by omega, by omega⟩, _, rfl, p, _, 1, _, rfl, rfl, SqT.at hp, rfl, _, _, rfl, rfl, ⟨_, _, (bt20 ⟨n1, nl⟩).mul b2, b2, by decide⟩, _, _, rfl, rfl, rfl, _, rfl, ?_⟩
          dsimp only
          rw [decV, decide_eq_false (hb.elim (fun z => absurd z hm) id)]
          exact iteT hE
    · refine ⟨_, rfl, _, _, _, _, true, rfl, .ty _, .base (.tup hp), kit_ty (by decide +kernel), _, rfl, iteF ?_⟩
      refine ⟨_, rfl, p, _, rfl, .inr (SqT.at hp), rfl, _, rfl, iteF ?_⟩
      refine ⟨_, rfl, p, _, 0, _, rfl, rfl, SqT.at hp, rfl, _, rfl, .inl ⟨1, rfl, _, rfl, iteF ?_⟩⟩
      refine ⟨_, rfl, p, _, 1, _, rfl, rfl, SqT.at hp, rfl, _, rfl, .inl ⟨0, rfl, _, rfl, iteF ?_⟩⟩
      refine ⟨_, rfl, p, 1, [0], rfl, SqT.at hp, _, _, rfl, rfl, _, rfl, iteDF (by decide) ?_⟩
      have b1 : Bt 30 1 := (by decide : (1 : Int).natAbs < 2 ^ 30)
      have b0 : Bt 30 0 := (by decide : (0 : Int).natAbs < 2 ^ 30)
      refine ⟨_, rfl, p, _, 0, _, rfl, rfl, SqT.at hp, rfl, _, rfl, p, _, 0, _, rfl, rfl, SqT.at hp, rfl, _, _, rfl, rfl, ⟨_, _, b1, b1, by decide⟩, ?_⟩
      refine ⟨_, rfl, _, rfl, p, _, 1, _, rfl, rfl, SqT.at hp, rfl, _, _, rfl, rfl, .inl ⟨by omega, by omega⟩, _, rfl, p, _, 1, _, rfl, rfl, SqT.at hp, rfl, _, _, rfl, rfl, ⟨_, _, (bt20 ⟨n1, nl⟩).mul b0, b0, by decide⟩, _, _, rfl, rfl, rfl, _, rfl, ?_⟩
      dsimp only
      rw [decV, decide_eq_true (show (1 : Int) * 1 = n * 0 * 0 + 1 by simp)]
      exact iteF hQ
theorem cX_told : CalX P w K mg base 3 "told" (spNumX K) := by
  obtain ⟨f, fd, F, df⟩ := T.d_told
  have cX_check_number : CalX P w K mg base 2 "check_number" (spCheckX K) := cX_check_number T
  refine calX F (F.fn.binds df fun _ _ _ _ _ _ us hl => match us, hl with | [_], _ => rfl) sc_told (fun vs H Q E h => ?_) (fun cdv A outer s H vs Q E hr h => ?_)
  · obtain ⟨n, rfl, _⟩ := h
    rfl
  · obtain ⟨v, rfl, hb, hE⟩ := h
    exact ⟨_, (pss_cons (ps_expr (pe_cX cX_check_number (L2N.takes_of rfl rfl rfl rfl) hr (by decide) (by rfl) (pa_cons (pv 0) pa_nil)))
 pss_dead), ⟨_, rfl, _, rfl, .inr ⟨hb, hE⟩⟩⟩
theorem cX_less : CalX P w K mg base 3 "less" (spNumX K) := by
  obtain ⟨f, fd, F, df⟩ := T.d_less
  have cX_check_number : CalX P w K mg base 2 "check_number" (spCheckX K) := cX_check_number T
  refine calX F (F.fn.binds df fun _ _ _ _ _ _ us hl => match us, hl with | [_], _ => rfl) sc_less (fun vs H Q E h => ?_) (fun cdv A outer s H vs Q E hr h => ?_)
  · obtain ⟨n, rfl, _⟩ := h
    rfl
  · obtain ⟨v, rfl, hb, hE⟩ := h
    exact ⟨_, (pss_cons (ps_expr (pe_cX cX_check_number (L2N.takes_of rfl rfl rfl rfl) hr (by decide) (by rfl) (pa_cons (pv 0) pa_nil)))
 pss_dead), ⟨_, rfl, _, rfl, .inr ⟨hb, hE⟩⟩⟩
theorem cX_chain : CalX P w K mg base 3 "chain" (spChainX K) := by
  obtain ⟨f, fd, F, df⟩ := T.d_chain
  have cX_check_number : CalX P w K mg base 2 "check_number" (spCheckX K) := cX_check_number T
  have cX_check_root : CalX P w K mg base 2 "check_root" (spRootX K) := cX_check_root T
  refine calX F (F.fn.binds df fun _ _ _ _ _ _ us hl => match us, hl with | [_], _ => rfl) sc_chain (fun vs H Q E h => ?_) (fun cdv A outer s H vs Q E hr h => ?_)
  · obtain ⟨n, rfl, _⟩ := h
    rfl
  · obtain ⟨v, rfl, h⟩ := h
    refine ⟨_, (pss_cons (ps_expr (pe_cX cX_check_number (L2N.takes_of rfl rfl rfl rfl) hr (by decide) (by rfl) (pa_cons (pv 0) pa_nil)))
 (pss_cons (ps_expr (pe_cX cX_check_root (L2N.takes_of rfl rfl rfl rfl) hr (by decide) (by rfl) (pa_cons (pv 0) pa_nil)))
 pss_dead)), ?_⟩
    rcases h with ⟨hb, hE⟩ | ⟨n, rfl, h2, hl, es, hE⟩
    · exact ⟨_, rfl, _, rfl, .inr ⟨hb, hE⟩⟩
    · exact ⟨_, rfl, _, rfl, .inl ⟨n, rfl, h2, hl, _, rfl, n, rfl, h2, hl, fun z => absurd z (by rw [es]; decide), fun _ => hE⟩⟩
theorem cX_answer_by : CalX P w K mg base 3 "answer_by" (spByX K) := by
  obtain ⟨f, fd, F, df⟩ := T.d_answer_by
  have c_is_whole : C8.Cal P w K mg base 1 "is_whole" spWhole2 [] := c_is_whole2 T
  have cX_check_number : CalX P w K mg base 2 "check_number" (spCheckX K) := cX_check_number T
  have cX_check_root : CalX P w K mg base 2 "check_root" (spRootX K) := cX_check_root T
  refine calX F (F.fn.binds df fun _ _ _ _ _ _ us hl => match us, hl with | [_, _], _ => rfl) sc_answer_by (fun vs H Q E h => ?_) (fun cdv A outer s H vs Q E hr h => ?_)
  · obtain ⟨v, c, rfl, _⟩ := h
    rfl
  · obtain ⟨v, c, rfl, h⟩ := h
    refine ⟨_, (pss_cons (ps_expr (pe_cX cX_check_number (L2N.takes_of rfl rfl rfl rfl) hr (by decide) (by rfl) (pa_cons (pv 0) pa_nil)))
 (pss_cons (ps_expr (pe_cX cX_check_root (L2N.takes_of rfl rfl rfl rfl) hr (by decide) (by rfl) (pa_cons (pv 0) pa_nil)))
 (pss_cons (ps_if (PW.pt (pw_or (pt_not (pt_val (C8.pe_c c_is_whole hr (by decide) (by rfl) (pa_cons (pv 1) pa_nil)))) (pw_or1 (pt_not (pt_chain op_le op_le pe_int (pv 1) (C8.pe_gc (by rfl) T.g_MOST))))))
  (pss_one (L2N.ps_raise rfl (L2N.takes_of rfl rfl rfl rfl) (L2N.pmk_own PySem.F.excBase_ValueError T.x_BadCount.ex (glX T.g_BadCount) T.x_BadCount.kp (raises_own T.x_BadCount.bs T.x_BadCount.ty) rfl)))
  pss_nil)
 pss_dead))), ?_⟩
    rcases h with (⟨hb, hE⟩ | ⟨n, rfl, h2, hl, es, hE⟩) | ⟨n, rfl, h2, hl, es, hb, hE⟩
    · exact ⟨_, rfl, _, rfl, .inr ⟨hb, hE⟩⟩
    · exact ⟨_, rfl, _, rfl, .inl ⟨n, rfl, h2, hl, _, rfl, n, rfl, h2, hl, fun z => absurd z (by rw [es]; decide), fun _ => hE⟩⟩
    · refine ⟨_, rfl, _, rfl, .inl ⟨n, rfl, h2, hl, _, rfl, n, rfl, h2, hl, fun _ => ?_, fun z => absurd z (by rw [es]; decide)⟩⟩
      rcases hb with hb | ⟨i, rfl, hb⟩
      · exact ⟨_, rfl, _, rfl, .inr ⟨hb, _, rfl, iteT hE⟩⟩
      · refine ⟨_, rfl, _, rfl, .inl ⟨i, rfl, _, rfl, iteF ⟨_, rfl, _, _, rfl, rfl, _, rfl, ?_⟩⟩⟩
        by_cases h0 : 0 ≤ i
        · exact iteD h0 ⟨_, _, rfl, rfl, _, rfl, iteNF (fun z => hb ⟨h0, z⟩) hE⟩
        · exact iteDF h0 ⟨_, rfl, iteT hE⟩
theorem cX_count_of : CalX P w K mg base 3 "count_of" (spCountX K) := by
  obtain ⟨f, fd, F, df⟩ := T.d_count_of
  have cX_check_number : CalX P w K mg base 2 "check_number" (spCheckX K) := cX_check_number T
  have cX_check_root : CalX P w K mg base 2 "check_root" (spRootX K) := cX_check_root T
  have cX_check_answer : CalX P w K mg base 2 "check_answer" (spAnsX K) := cX_check_answer T
  refine calX F (F.fn.binds df fun _ _ _ _ _ _ us hl => match us, hl with | [_, _], _ => rfl) sc_count_of (fun vs H Q E h => ?_) (fun cdv A outer s H vs Q E hr h => ?_)
  · obtain ⟨v, c, rfl, _⟩ := h
    rfl
  · obtain ⟨v, c, rfl, h⟩ := h
    refine ⟨_, (pss_cons (ps_expr (pe_cX cX_check_number (L2N.takes_of rfl rfl rfl rfl) hr (by decide) (by rfl) (pa_cons (pv 0) pa_nil)))
 (pss_cons (ps_expr (pe_cX cX_check_root (L2N.takes_of rfl rfl rfl rfl) hr (by decide) (by rfl) (pa_cons (pv 0) pa_nil)))
 (pss_cons (ps_expr (pe_cX cX_check_answer (L2N.takes_of rfl rfl rfl rfl) hr (by decide) (by rfl) (pa_cons (pv 0) (pa_cons (pv 1) pa_nil))))
 pss_dead))), ?_⟩
    rcases h with (⟨hb, hE⟩ | ⟨n, rfl, h2, hl, es, hE⟩) | ⟨n, rfl, h2, hl, es, hb, hE⟩
    · exact ⟨_, rfl, _, rfl, .inr ⟨hb, hE⟩⟩
    · exact ⟨_, rfl, _, rfl, .inl ⟨n, rfl, h2, hl, _, rfl, n, rfl, h2, hl, fun z => absurd z (by rw [es]; decide), fun _ => hE⟩⟩
    · refine ⟨_, rfl, _, rfl, .inl ⟨n, rfl, h2, hl, _, rfl, n, rfl, h2, hl, fun _ => ?_, fun z => absurd z (by rw [es]; decide)⟩⟩
      exact ⟨_, rfl, _, rfl, n, _, rfl, by omega, hl, .inl ⟨hb, hE⟩⟩
theorem cX_together : CalX P w K mg base 3 "together" (spTogX K) := by
  obtain ⟨f, fd, F, df⟩ := T.d_together
  have cX_check_number : CalX P w K mg base 2 "check_number" (spCheckX K) := cX_check_number T
  have cX_check_answer : CalX P w K mg base 2 "check_answer" (spAnsX K) := cX_check_answer T
  refine calX F (F.fn.binds df fun _ _ _ _ _ _ us hl => match us, hl with | [_, _, _], _ => rfl) sc_together (fun vs H Q E h => ?_) (fun cdv A outer s H vs Q E hr h => ?_)
  · obtain ⟨v, c, d, rfl, _⟩ := h
    rfl
  · obtain ⟨v, c, d, rfl, h⟩ := h
    refine ⟨_, (pss_cons (ps_expr (pe_cX cX_check_number (L2N.takes_of rfl rfl rfl rfl) hr (by decide) (by rfl) (pa_cons (pv 0) pa_nil)))
 (pss_cons (ps_expr (pe_cX cX_check_answer (L2N.takes_of rfl rfl rfl rfl) hr (by decide) (by rfl) (pa_cons (pv 0) (pa_cons (pv 1) pa_nil))))
 (pss_cons (ps_expr (pe_cX cX_check_answer (L2N.takes_of rfl rfl rfl rfl) hr (by decide) (by rfl) (pa_cons (pv 0) (pa_cons (pv 2) pa_nil))))
 pss_dead))), ?_⟩
    rcases h with ⟨hb, hE⟩ | ⟨n, rfl, h2, hl, hE, hb | ⟨a, rfl, ha, hb⟩⟩
    · exact ⟨_, rfl, _, rfl, .inr ⟨hb, hE⟩⟩
    · refine ⟨_, rfl, _, rfl, .inl ⟨n, rfl, h2, hl, ?_⟩⟩
      exact ⟨_, rfl, _, rfl, n, _, rfl, by omega, hl, .inl ⟨hb, hE⟩⟩
    · refine ⟨_, rfl, _, rfl, .inl ⟨n, rfl, h2, hl, ?_⟩⟩
      refine ⟨_, rfl, _, rfl, n, _, rfl, by omega, hl, .inr ⟨a, rfl, ha, ?_⟩⟩
      exact ⟨_, rfl, _, rfl, n, _, rfl, by omega, hl, .inl ⟨hb, hE⟩⟩
end
end OA
set_option Elab.async false
set_option linter.all false
set_option maxRecDepth 100000
set_option maxHeartbeats 4000000
/-! What the law asks of what is refused. -/
namespace OA
open PySem PySem.Spec PyProof.Rows L2
theorem hot_of {A : Around} {a : Addr} {oe : Obj} {c : Value} {d : Option Addr} (hz : L2N.Zn c d oe) (hf : ∃ vs, oe.data = .fields vs) : L2H.Hot1 (A.mark (some (.ref a))) (a, oe) :=
  ⟨rfl, let ⟨vs, e⟩ := hf; ⟨vs, e, hz.2.2 vs e⟩⟩
theorem zn_of {oe : Obj} {c : Value} {d : Option Addr} (hd : d = none) (hz : L2N.Zn c d oe) : L2N.Zn c none oe := by
  subst hd
  exact hz
theorem room_mark {k : Nat} {A : Around} {h : Option Value} (r : Room k A) : L2H.RoomH k (A.mark h) := ⟨r.dp, r.un⟩
theorem takesN0 {X : Cx} : L2N.Takes X (fun _ _ _ _ => False) := fun _ _ x => by
  obtain ⟨_, _, _, _, _, _, _, _, _, _, _, _, _, _, _, _, z⟩ := x
  exact z.elim
/-! ### promises -/
def spKinds (K : PySem.W.Frag) (a : Addr) (c : Value) : Sp := fun vs H Q _ => ∃ D, vs = [.ref a] ∧ D ∈ xNames ∧ c = .ref (ca K D) ∧ ∀ H' l, Same H H' → H' l = some (.lst ((kinds D).map V.bl)) → Q (.ref l) H'
def spAsk (K : PySem.W.Frag) (R : V → V → Hp → Str → Prop) : Sp := fun vs H Q E => ∃ one other D, vs = [one, other] ∧ R one other H D ∧ ∀ H', Same H H' → E (.ref (ca K D)) none H'
def RN : V → V → Hp → Str → Prop := fun one other H D => ∃ d : Nat, one = .int d ∧ d < 6 ∧ BadN H other ∧ D = "BadNumber"
def RS : V → V → Hp → Str → Prop := fun one other H D => ∃ (d : Nat) (n : Int), one = .int d ∧ d < 3 ∧ other = .int n ∧ 2 ≤ n ∧ n ≤ 1000000 ∧ sqB n = true ∧ D = "IsSquare"
def RC : V → V → Hp → Str → Prop := fun one other H D => ∃ n : Int, one = .int n ∧ 2 ≤ n ∧ n ≤ 1000000 ∧ sqB n = false ∧ BadC H other ∧ D = "BadCount"
def RA : V → V → Hp → Str → Prop := fun one other H D => ∃ (n : Int) (d : Nat) (p : Addr) (v : V), one = .int n ∧ other = .ref p ∧ H p = some (.tup [.int d, v]) ∧ d < 3 ∧ 2 ≤ n ∧ n ≤ 1000000 ∧ (d = 0 → sqB n = false) ∧ BadA n H v ∧ D = "BadAnswer"
def Asks (mg : Str → Option Value) (f : Addr) (one other : V) (H : Hp) (D : Str) : Prop :=
  (mg "_law_with_number" = some (.ref f) ∧ RN one other H D) ∨ (mg "_law_with_square" = some (.ref f) ∧ RS one other H D) ∨ (mg "_law_with_count" = some (.ref f) ∧ RC one other H D) ∨ (mg "_law_with_answer" = some (.ref f) ∧ RA one other H D)
def spTold5 (mg : Str → Option Value) : Sp := fun vs H Q _ => ∃ f one other D, vs = [.ref f, one, other] ∧ Asks mg f one other H D ∧ ∀ H' l, Same H H' → H' l = some (.lst ((kinds D).map V.bl)) → Q (.ref l) H'
theorem Asks.mem {mg : Str → Option Value} {f : Addr} {one other : V} {H : Hp} {D : Str} (h : Asks mg f one other H D) : D ∈ xNames := by
  rcases h with ⟨_, _, _, _, _, rfl⟩ | ⟨_, _, _, _, _, _, _, _, _, rfl⟩ | ⟨_, _, _, _, _, _, _, rfl⟩ | ⟨_, _, _, _, _, _, _, _, _, _, _, _, _, rfl⟩
  · exact List.mem_cons_self
  · exact List.mem_cons_of_mem _ List.mem_cons_self
  · exact List.mem_cons_of_mem _ (List.mem_cons_of_mem _ (List.mem_cons_of_mem _ List.mem_cons_self))
  · exact List.mem_cons_of_mem _ (List.mem_cons_of_mem _ List.mem_cons_self)
theorem no_int {a b : Int} (h : a ≠ b) : ¬ V.int a = V.int b := fun z => h (V.int.inj z)
section
variable {P : Program} {w : World} {K : PySem.W.Frag} {mg : Str → Option Value} {base : Heap} (T : Txt K mg)
include T
theorem exf {D : Str} (h : D ∈ xNames) : ExF K D := by
  simp only [xNames, List.mem_cons, List.not_mem_nil, or_false] at h
  rcases h with rfl | rfl | rfl | rfl
  · exact T.x_BadNumber
  · exact T.x_IsSquare
  · exact T.x_BadAnswer
  · exact T.x_BadCount
theorem fn_kinds {f : Addr} {fd : FuncData} (F : C8.Fun K "_law_kinds" "_law_kinds" s__law_kinds f fd) : FnP P w K mg base 1 f fd ["_law_error"] (spKinds K) := by
  refine fnP_of F sc__law_kinds (fun a c vs H Q E h => ?_) (fun cdv p c A outer s H vs Q E hot hz h => ?_)
  · obtain ⟨D, rfl, _⟩ := h
    rfl
  · obtain ⟨D, rfl, hD, rfl, hQ⟩ := h
    have X := exf T hD
    have hC := X.cc
    have hf : ∃ vs, p.2.data = .fields vs := let ⟨_, vs, e, _⟩ := hot; ⟨vs, e⟩
    have hp : p ∈ (cxP P w K mg base N__law_kinds "_law_kinds" s__law_kinds f cdv A outer s H E p).pn := List.mem_cons_self
    refine ⟨_, (pss_cons (ps_set (i := 1) sc__law_kinds.nd rfl (.inl rfl) (pe_lst (pa_cons (pe_callB (call_isP hC hz.1 hz.2.1 hf hp) (by rfl) T.n_isinstance (by decide +kernel) (pa_cons (pv 0) (pa_cons (C8.pe_gc (by rfl) T.g_BadNumber) pa_nil))) (pa_cons (pe_callB (call_isP hC hz.1 hz.2.1 hf hp) (by rfl) T.n_isinstance (by decide +kernel) (pa_cons (pv 0) (pa_cons (C8.pe_gc (by rfl) T.g_IsSquare) pa_nil))) (pa_cons (pe_callB (call_isP hC hz.1 hz.2.1 hf hp) (by rfl) T.n_isinstance (by decide +kernel) (pa_cons (pv 0) (pa_cons (C8.pe_gc (by rfl) T.g_BadAnswer) pa_nil))) pa_nil)))))
 (pss_one (ps_ret (pe_op op_cat (pv 1) (pe_lst (pa_cons (pe_callB (call_isP hC hz.1 hz.2.1 hf hp) (by rfl) T.n_isinstance (by decide +kernel) (pa_cons (pv 0) (pa_cons (C8.pe_gc (by rfl) T.g_BadCount) pa_nil))) (pa_cons (pe_callB (call_isP hC hz.1 hz.2.1 hf hp) (by rfl) T.n_isinstance (by decide +kernel) (pa_cons (pv 0) (pa_cons (pe_bltn (by rfl) T.n_ValueError (by decide +kernel) (v := .ty "ValueError") rfl) pa_nil))) pa_nil))))))), ?_⟩
    have cls : ∀ (c : Str) (u : Value), RelV (.ref (ca K c)) u → u = .ref (ca K c) := fun _ _ r => r
    refine ⟨_, rfl, _, _, _, rfl, cls _, X.k0, _, rfl, _, _, _, rfl, cls _, X.k1, _, rfl, _, _, _, rfl, cls _, X.k2, by show 3 ≤ sizeLine; decide, fun l nl => ?_⟩
    refine ⟨_, rfl, _, rfl, _, _, _, rfl, cls _, X.k3, _, rfl, _, _, _, rfl, (fun _ r => r), X.kv, by show 2 ≤ sizeLine; decide, fun m nm => ?_⟩
    refine ⟨l, m, _, _, rfl, rfl, same_upd nm _ _ upd_same, upd_same, by show 3 + 2 ≤ sizeLine; decide, fun r nr => ?_⟩
    exact hQ _ r ((same_up2 (same_upd nl) nm).trans (same_upd nr)) upd_same
theorem cX__law_with_number : CalX P w K mg base 4 "_law_with_number" (spAsk K RN) := by
  obtain ⟨f, fd, F, df⟩ := T.d__law_with_number
  have cX_told : CalX P w K mg base 3 "told" (spNumX K) := cX_told T
  have cX_less : CalX P w K mg base 3 "less" (spNumX K) := cX_less T
  have cX_chain : CalX P w K mg base 3 "chain" (spChainX K) := cX_chain T
  have cX_answer_by : CalX P w K mg base 3 "answer_by" (spByX K) := cX_answer_by T
  have cX_count_of : CalX P w K mg base 3 "count_of" (spCountX K) := cX_count_of T
  have cX_together : CalX P w K mg base 3 "together" (spTogX K) := cX_together T
  refine calX F (F.fn.binds df fun _ _ _ _ _ _ us hl => match us, hl with | [_, _], _ => rfl) sc__law_with_number (fun vs H Q E h => ?_) (fun cdv A outer s H vs Q E hr h => ?_)
  · obtain ⟨_, _, _, rfl, _⟩ := h
    rfl
  · obtain ⟨_, v, _, rfl, ⟨d, rfl, hd, hb, rfl⟩, hE⟩ := h
    replace hE := hE H (Same.refl H)
    refine ⟨_, (pss_cons (ps_if (pt_cmpR op_lt (pv 0) pe_int (nomark _))
  (pss_one (ps_ret (pe_ifExp (pt_cmpR op_eq (pv 0) pe_int (nomark _)) (pe_cX cX_told (L2N.takes_of rfl rfl rfl rfl) hr (by decide) (by rfl) (pa_cons (pv 1) pa_nil)) (pe_ifExp (pt_cmpR op_eq (pv 0) pe_int (nomark _)) (pe_cX cX_less (L2N.takes_of rfl rfl rfl rfl) hr (by decide) (by rfl) (pa_cons (pv 1) pa_nil)) (pe_cX cX_chain (L2N.takes_of rfl rfl rfl rfl) hr (by decide) (by rfl) (pa_cons (pv 1) pa_nil))))))
  pss_nil)
 (pss_cons (ps_if (pt_cmpR op_lt (pv 0) pe_int (nomark _))
  (pss_one (ps_ret (pe_ifExp (pt_cmpR op_eq (pv 0) pe_int (nomark _)) (pe_cX cX_answer_by (L2N.takes_of rfl rfl rfl rfl) hr (by decide) (by rfl) (pa_cons (pv 1) (pa_cons (pe_un un_neg pe_int) pa_nil))) (pe_cX cX_count_of (L2N.takes_of rfl rfl rfl rfl) hr (by decide) (by rfl) (pa_cons (pv 1) (pa_cons pe_non pa_nil))))))
  pss_nil)
 (pss_one (ps_ret (pe_cX cX_together (L2N.takes_of rfl rfl rfl rfl) hr (by decide) (by rfl) (pa_cons (pv 1) (pa_cons pe_non (pa_cons pe_non pa_nil)))))))), ?_⟩
    obtain rfl | rfl | rfl | rfl | rfl | rfl : d = 0 ∨ d = 1 ∨ d = 2 ∨ d = 3 ∨ d = 4 ∨ d = 5 := by omega
    · refine ⟨_, rfl, _, _, rfl, rfl, _, rfl, iteD (by decide) ⟨_, rfl, rfl, _, rfl, iteD rfl ?_⟩⟩
      exact ⟨_, rfl, _, rfl, hb, hE⟩
    · refine ⟨_, rfl, _, _, rfl, rfl, _, rfl, iteD (by decide) ⟨_, rfl, rfl, _, rfl, iteDF (no_int (by decide)) ⟨_, rfl, rfl, _, rfl, iteD rfl ?_⟩⟩⟩
      exact ⟨_, rfl, _, rfl, hb, hE⟩
    · refine ⟨_, rfl, _, _, rfl, rfl, _, rfl, iteD (by decide) ⟨_, rfl, rfl, _, rfl, iteDF (no_int (by decide)) ⟨_, rfl, rfl, _, rfl, iteDF (no_int (by decide)) ?_⟩⟩⟩
      exact ⟨_, rfl, _, rfl, .inl ⟨hb, hE⟩⟩
    · refine ⟨_, rfl, _, _, rfl, rfl, _, rfl, iteDF (by decide) ⟨_, rfl, _, _, rfl, rfl, _, rfl, iteD (by decide) ⟨_, rfl, rfl, _, rfl, iteD rfl ?_⟩⟩⟩
      exact ⟨_, rfl, 1, rfl, _, _, rfl, .inl (.inl ⟨hb, hE⟩)⟩
    · refine ⟨_, rfl, _, _, rfl, rfl, _, rfl, iteDF (by decide) ⟨_, rfl, _, _, rfl, rfl, _, rfl, iteD (by decide) ⟨_, rfl, rfl, _, rfl, iteDF (no_int (by decide)) ?_⟩⟩⟩
      exact ⟨_, rfl, _, _, rfl, .inl (.inl ⟨hb, hE⟩)⟩
    · refine ⟨_, rfl, _, _, rfl, rfl, _, rfl, iteDF (by decide) ⟨_, rfl, _, _, rfl, rfl, _, rfl, iteDF (by decide) ?_⟩⟩
      exact ⟨_, rfl, _, _, _, rfl, .inl ⟨hb, hE⟩⟩
theorem cX__law_with_square : CalX P w K mg base 4 "_law_with_square" (spAsk K RS) := by
  obtain ⟨f, fd, F, df⟩ := T.d__law_with_square
  have cX_chain : CalX P w K mg base 3 "chain" (spChainX K) := cX_chain T
  have cX_answer_by : CalX P w K mg base 3 "answer_by" (spByX K) := cX_answer_by T
  have cX_count_of : CalX P w K mg base 3 "count_of" (spCountX K) := cX_count_of T
  refine calX F (F.fn.binds df fun _ _ _ _ _ _ us hl => match us, hl with | [_, _], _ => rfl) sc__law_with_square (fun vs H Q E h => ?_) (fun cdv A outer s H vs Q E hr h => ?_)
  · obtain ⟨_, _, _, rfl, _⟩ := h
    rfl
  · obtain ⟨_, _, _, rfl, ⟨d, n, rfl, hd, rfl, h2, hl, es, rfl⟩, hE⟩ := h
    replace hE := hE H (Same.refl H)
    have ns : NS K H E (.int n) := .inr ⟨n, rfl, h2, hl, es, hE⟩
    refine ⟨_, (pss_one (ps_ret (pe_ifExp (pt_cmpR op_eq (pv 0) pe_int (nomark _)) (pe_cX cX_chain (L2N.takes_of rfl rfl rfl rfl) hr (by decide) (by rfl) (pa_cons (pv 1) pa_nil)) (pe_ifExp (pt_cmpR op_eq (pv 0) pe_int (nomark _)) (pe_cX cX_answer_by (L2N.takes_of rfl rfl rfl rfl) hr (by decide) (by rfl) (pa_cons (pv 1) (pa_cons (pe_un un_neg pe_int) pa_nil))) (pe_cX cX_count_of (L2N.takes_of rfl rfl rfl rfl) hr (by decide) (by rfl) (pa_cons (pv 1) (pa_cons pe_non pa_nil))))))), ?_⟩
    obtain rfl | rfl | rfl : d = 0 ∨ d = 1 ∨ d = 2 := by omega
    · exact ⟨_, rfl, rfl, _, rfl, iteD rfl ⟨_, rfl, _, rfl, ns⟩⟩
    · exact ⟨_, rfl, rfl, _, rfl, iteDF (no_int (by decide)) ⟨_, rfl, rfl, _, rfl, iteD rfl ⟨_, rfl, 1, rfl, _, _, rfl, .inl ns⟩⟩⟩
    · exact ⟨_, rfl, rfl, _, rfl, iteDF (no_int (by decide)) ⟨_, rfl, rfl, _, rfl, iteDF (no_int (by decide)) ⟨_, rfl, _, _, rfl, .inl ns⟩⟩⟩
theorem cX__law_with_count : CalX P w K mg base 4 "_law_with_count" (spAsk K RC) := by
  obtain ⟨f, fd, F, df⟩ := T.d__law_with_count
  have cX_answer_by : CalX P w K mg base 3 "answer_by" (spByX K) := cX_answer_by T
  refine calX F (F.fn.binds df fun _ _ _ _ _ _ us hl => match us, hl with | [_, _], _ => rfl) sc__law_with_count (fun vs H Q E h => ?_) (fun cdv A outer s H vs Q E hr h => ?_)
  · obtain ⟨_, _, _, rfl, _⟩ := h
    rfl
  · obtain ⟨_, c, _, rfl, ⟨n, rfl, h2, hl, es, hb, rfl⟩, hE⟩ := h
    replace hE := hE H (Same.refl H)
    refine ⟨_, (pss_one (ps_ret (pe_cX cX_answer_by (L2N.takes_of rfl rfl rfl rfl) hr (by decide) (by rfl) (pa_cons (pv 0) (pa_cons (pv 1) pa_nil))))), ?_⟩
    exact ⟨_, rfl, _, rfl, _, _, rfl, .inr ⟨n, rfl, h2, hl, es, hb, hE⟩⟩
theorem cX__law_with_answer : CalX P w K mg base 4 "_law_with_answer" (spAsk K RA) := by
  obtain ⟨f, fd, F, df⟩ := T.d__law_with_answer
  have cX_count_of : CalX P w K mg base 3 "count_of" (spCountX K) := cX_count_of T
  have cX_together : CalX P w K mg base 3 "together" (spTogX K) := cX_together T
  refine calX F (F.fn.binds df fun _ _ _ _ _ _ us hl => match us, hl with | [_, _], _ => rfl) sc__law_with_answer (fun vs H Q E h => ?_) (fun cdv A outer s H vs Q E hr h => ?_)
  · obtain ⟨_, _, _, rfl, _⟩ := h
    rfl
  · obtain ⟨_, _, _, rfl, ⟨n, d, p, v, rfl, rfl, hp, hd, h2, hl, h0, hb, rfl⟩, hE⟩ := h
    refine ⟨_, (pss_cons (ps_if (pt_cmpR op_eq (pe_ix ix_tup (pv 1) pe_int (fun _ _ => rfl)) pe_int (nomark _))
  (pss_one (ps_ret (pe_cX cX_count_of (L2N.takes_of rfl rfl rfl rfl) hr (by decide) (by rfl) (pa_cons (pv 0) (pa_cons (pe_ix ix_tup (pv 1) pe_int (fun _ _ => rfl)) pa_nil)))))
  pss_nil)
 (pss_one (ps_ret (pe_ifExp (pt_cmpR op_eq (pe_ix ix_tup (pv 1) pe_int (fun _ _ => rfl)) pe_int (nomark _)) (pe_cX cX_together (L2N.takes_of rfl rfl rfl rfl) hr (by decide) (by rfl) (pa_cons (pv 0) (pa_cons (pe_ix ix_tup (pv 1) pe_int (fun _ _ => rfl)) (pa_cons (pe_tup (pa_cons pe_int (pa_cons pe_int pa_nil))) pa_nil)))) (pe_cX cX_together (L2N.takes_of rfl rfl rfl rfl) hr (by decide) (by rfl) (pa_cons (pv 0) (pa_cons (pe_tup (pa_cons pe_int (pa_cons pe_int pa_nil))) (pa_cons (pe_ix ix_tup (pv 1) pe_int (fun _ _ => rfl)) pa_nil)))))))), ?_⟩
    refine ⟨_, rfl, p, _, 0, _, rfl, rfl, SqT.at hp, rfl, rfl, _, rfl, ?_⟩
    obtain rfl | rfl | rfl : d = 0 ∨ d = 1 ∨ d = 2 := by omega
    · refine iteD rfl ?_
      exact ⟨_, rfl, _, rfl, p, _, 1, _, rfl, rfl, SqT.at hp, rfl, _, _, rfl, .inr ⟨n, rfl, h2, hl, h0 rfl, hb, hE H (Same.refl H)⟩⟩
    · refine iteDF (no_int (by decide)) ?_
      refine ⟨_, rfl, p, _, 0, _, rfl, rfl, SqT.at hp, rfl, rfl, _, rfl, iteD rfl ?_⟩
      refine ⟨_, rfl, _, rfl, p, _, 1, _, rfl, rfl, SqT.at hp, rfl, by show 2 ≤ sizeLine; decide, fun t nt => ?_⟩
      have st := same_upd nt (o := .tup [.int 1, .int 0])
      exact ⟨_, _, _, rfl, .inr ⟨n, rfl, h2, hl, hE _ st, .inl (hb.same st)⟩⟩
    · refine iteDF (no_int (by decide)) ?_
      refine ⟨_, rfl, p, _, 0, _, rfl, rfl, SqT.at hp, rfl, rfl, _, rfl, iteDF (no_int (by decide)) ?_⟩
      refine ⟨_, rfl, by show 2 ≤ sizeLine; decide, fun t nt => ?_⟩
      have st := same_upd nt (o := .tup [.int 1, .int 0])
      refine ⟨_, rfl, p, _, 1, _, rfl, rfl, SqT.at (st _ _ hp), rfl, ?_⟩
      exact ⟨_, _, _, rfl, .inr ⟨n, rfl, h2, hl, hE _ st, .inr ⟨t, rfl, upd_same, hb.same st⟩⟩⟩
theorem c__law_told : C8.Cal P w K mg base 5 "_law_told" (spTold5 mg) [] := by
  obtain ⟨f, fd, F, df⟩ := T.d__law_told
  obtain ⟨f1, fd1, ps1, F1, m1, k1, b1⟩ := (cX__law_with_number (P := P) (w := w) (base := base) T).ex
  obtain ⟨f2, fd2, ps2, F2, m2, k2, b2⟩ := (cX__law_with_square (P := P) (w := w) (base := base) T).ex
  obtain ⟨f3, fd3, ps3, F3, m3, k3, b3⟩ := (cX__law_with_count (P := P) (w := w) (base := base) T).ex
  obtain ⟨f4, fd4, ps4, F4, m4, k4, b4⟩ := (cX__law_with_answer (P := P) (w := w) (base := base) T).ex
  obtain ⟨fK, fdK, DK, dfK⟩ := T.d__law_kinds
  have FK : FnP P w K mg base 1 fK fdK ["_law_error"] (spKinds K) := fn_kinds T DK.fn
  have mK := DK.mgf
  have kK := DK.kp
  have bK : Binds K fdK ["_law_error"] [] := DK.fn.binds dfK fun _ _ _ _ _ _ us hl => match us, hl with | [_], _ => rfl
  refine C8.cal0 F (F.fn.binds df fun _ _ _ _ _ _ us hl => match us, hl with | [_, _, _], _ => rfl) .nil sc__law_told (fun vs H Q E h => ?_) (fun cdv A outer s H vs Q E hr h => ?_)
  · obtain ⟨_, _, _, _, rfl, _⟩ := h
    rfl
  · obtain ⟨fa, one, other, D, rfl, hA, hQ⟩ := h
    have X := exf T hA.mem
    have hD := hA.mem
    refine ⟨_, (pss_cons (L2N.ps_try_as (i := 3) rfl rfl sc__law_told.nd rfl rfl ⟨rfl, by decide, .inl (glX T.g_ApartError)⟩ takesN0 (fun W pn xe tk _ => (pss_one (ps_expr (pe_or2 (pe_callLS F1 (hr.mono (by decide)) (i := 0) rfl (.inl rfl) k1 b1 (fun σ => L2N.passAt tk σ) (pa_cons (pv 1) (pa_cons (pv 2) pa_nil))) (pe_or2 (pe_callLS F2 (hr.mono (by decide)) (i := 0) rfl (.inl rfl) k2 b2 (fun σ => L2N.passAt tk σ) (pa_cons (pv 1) (pa_cons (pv 2) pa_nil))) (pe_or2 (pe_callLS F3 (hr.mono (by decide)) (i := 0) rfl (.inl rfl) k3 b3 (fun σ => L2N.passAt tk σ) (pa_cons (pv 1) (pa_cons (pv 2) pa_nil))) (pe_callLS F4 (hr.mono (by decide)) (i := 0) rfl (.inl rfl) k4 b4 (fun σ => L2N.passAt tk σ) (pa_cons (pv 1) (pa_cons (pv 2) pa_nil))))))))) (fun a oe cls d pn hz hf => pss_when fun hd => pss_one (ps_ret (pe_callP (a := a) (oe := oe) FK (room_mark (hr.mono (by decide))) (hot_of hz hf) (zn_of hd hz) List.mem_cons_self (by rfl) mK kK bK (pa_cons (pv 3) pa_nil)))))
 (pss_one (ps_ret (pe_lst pa_nil)))), ?_⟩
    rcases hA with ⟨e, R⟩ | ⟨e, R⟩ | ⟨e, R⟩ | ⟨e, R⟩
    · obtain rfl : fa = f1 := by
        rw [m1] at e
        cases e
        rfl
      exact .inl ⟨rfl, _, rfl, _, rfl, one, other, D, rfl, R, fun H' s' => ⟨true, X.at', fun _ a ha => ⟨rfl, _, rfl, D, rfl, hD, rfl, fun H2 l s2 el => hQ _ l (s'.trans s2) el⟩, fun z => nomatch z⟩⟩
    · obtain rfl : fa = f2 := by
        rw [m2] at e
        cases e
        rfl
      exact .inr (.inl ⟨rfl, _, rfl, _, rfl, one, other, D, rfl, R, fun H' s' => ⟨true, X.at', fun _ a ha => ⟨rfl, _, rfl, D, rfl, hD, rfl, fun H2 l s2 el => hQ _ l (s'.trans s2) el⟩, fun z => nomatch z⟩⟩)
    · obtain rfl : fa = f3 := by
        rw [m3] at e
        cases e
        rfl
      exact .inr (.inr (.inl ⟨rfl, _, rfl, _, rfl, one, other, D, rfl, R, fun H' s' => ⟨true, X.at', fun _ a ha => ⟨rfl, _, rfl, D, rfl, hD, rfl, fun H2 l s2 el => hQ _ l (s'.trans s2) el⟩, fun z => nomatch z⟩⟩))
    · obtain rfl : fa = f4 := by
        rw [m4] at e
        cases e
        rfl
      exact .inr (.inr (.inr ⟨rfl, _, rfl, _, rfl, one, other, D, rfl, R, fun H' s' => ⟨true, X.at', fun _ a ha => ⟨rfl, _, rfl, D, rfl, hD, rfl, fun H2 l s2 el => hQ _ l (s'.trans s2) el⟩, fun z => nomatch z⟩⟩))
end
end OA
set_option Elab.async false
set_option linter.all false
set_option maxRecDepth 100000
set_option maxHeartbeats 4000000
/-! What are no answers, at three doors. -/
namespace OA
open PySem PySem.Spec PyProof.Rows L2
section
variable {X : Cx} {K : PySem.W.Frag}
theorem op_eqDB (hK : X.K = K) (hu : X.A.units + 64 < cLine) : OpR X (compareOp .Eq) (rEqD K) := by
  subst hK
  exact op_eqD hu
theorem op_neDB (hK : X.K = K) (hu : X.A.units + 64 < cLine) : OpR X (compareOp .NotEq) (rNeD K) := by
  subst hK
  exact op_neD hu
theorem ix_listB (hK : X.K = K) : IxR X (rIxL K) := by
  subst hK
  exact ix_list
theorem call_isiB (hK : X.K = K) : CallR X (.builtin "isinstance") (rIsi K) := by
  subst hK
  exact call_isi
end
/-! ### data -/
def flat : V → Bool
  | .non => true
  | .bl _ => true
  | .int _ => true
  | .str s => PyData.canLay0 (.str s)
  | _ => false
def dat : V → PyData
  | .bl b => .bool b
  | .int i => .int i
  | .str s => .str s
  | _ => .none
def flats (xs : List V) : Bool := xs.all flat
theorem dp_flats {K : PySem.W.Frag} {H : Hp} : ∀ xs : List V, flats xs = true → DpAll K H xs (xs.map dat)
  | [], _ => .nil
  | v :: r, h => by
    have h2 : (flat v && flats r) = true := h
    rw [Bool.and_eq_true] at h2
    refine .cons ?_ (dp_flats r h2.2)
    cases v with
    | non => exact .non
    | bl b => exact .bl b
    | int i => exact .int i
    | str s => exact .str s
    | byt b => exact absurd (show false = true from h2.1) (by decide)
    | flt b => exact absurd (show false = true from h2.1) (by decide)
    | ref a => exact absurd (show false = true from h2.1) (by decide)
    | ty n => exact absurd (show false = true from h2.1) (by decide)
theorem lay_dat : ∀ xs : List V, flats xs = true → PyData.canLayAll0 (xs.map dat) = true
  | [], _ => rfl
  | v :: r, h => by
    have h2 : (flat v && flats r) = true := h
    rw [Bool.and_eq_true] at h2
    rw [List.map_cons, PyData.canLayAll0, lay_dat r h2.2, Bool.and_true]
    cases v with
    | str s => exact h2.1
    | _ => rfl
theorem depth_dat : ∀ xs : List V, PyData.depthAll (xs.map dat) = 0
  | [] => rfl
  | v :: r => by
    rw [List.map_cons, PyData.depthAll, depth_dat r]
    cases v <;> rfl
theorem sh_dat {xs : List V} (h : flats xs = true) : SeqAt.shaped (.tuple (xs.map dat)) = true := by
  unfold SeqAt.shaped
  rw [PyData.canLay0, lay_dat xs h, PyData.depth, depth_dat]
  rfl
/-- a thing that is put where an answer is due: not one of them is an answer -/
inductive Thing (n : Int) (H : Hp) : V → Prop
  | non : Thing n H .non
  | str (s : Str) : Thing n H (.str s)
  | int (i : Int) : Thing n H (.int i)
  | lst {a : Addr} {xs : List V} (e : H a = some (.lst xs)) : Thing n H (.ref a)
  | dct {a : Addr} {kvs : List (Key × V)} (e : H a = some (.dK kvs)) : Thing n H (.ref a)
  | tup {a : Addr} {xs : List V} (e : H a = some (.tup xs)) (f : flats xs = true) (b : BadA n H (.ref a)) : Thing n H (.ref a)
theorem Thing.same {n : Int} {H H' : Hp} {v : V} (s : Same H H') : Thing n H v → Thing n H' v
  | .non => .non
  | .str x => .str x
  | .int i => .int i
  | .lst e => .lst (s _ _ e)
  | .dct e => .dct (s _ _ e)
  | .tup e f b => .tup (s _ _ e) f (b.same s)
theorem Thing.bad {n : Int} {H : Hp} {v : V} : Thing n H v → BadA n H v
  | .non => .non
  | .str x => .str x
  | .int i => .int i
  | .lst e => .lst e
  | .dct e => .dct e
  | .tup _ _ b => b
def Things (n : Int) (H : Hp) (vs : List V) : Prop := ∀ v ∈ vs, Thing n H v
theorem Things.same {n : Int} {H H' : Hp} {vs : List V} (h : Things n H vs) (s : Same H H') : Things n H' vs := fun v hv => (h v hv).same s
theorem Things.nil {n : Int} {H : Hp} : Things n H [] := fun _ z => nomatch z
theorem Things.cat {n : Int} {H : Hp} {vs us : List V} (h : Things n H vs) (g : Things n H us) : Things n H (vs ++ us) := fun v hv => (List.mem_append.mp hv).elim (h v) (g v)
theorem Things.snoc {n : Int} {H : Hp} {vs : List V} {v : V} (h : Things n H vs) (t : Thing n H v) : Things n H (vs ++ [v]) := h.cat fun u hu => by
  rw [List.mem_singleton] at hu
  rw [hu]
  exact t
theorem Odd.move {H : Hp} {D : Addr} {us ws : List V} (hD : H D = some (.lst us)) {v : V} : Odd H v → Odd (upd H D (.lst ws)) v
  | .non => .non
  | .bl b => .bl b
  | .str x => .str x
  | @Odd.lst _ a xs e => by
    by_cases z : a = D
    · subst z
      exact .lst upd_same
    · exact .lst (by rw [upd_ne z]; exact e)
  | .tup e => .tup (by rw [upd_ne (fun z => by rw [z, hD] at e; cases e)]; exact e)
  | .dct e => .dct (by rw [upd_ne (fun z => by rw [z, hD] at e; cases e)]; exact e)
theorem BadA.move {n : Int} {H : Hp} {D : Addr} {us ws : List V} (hD : H D = some (.lst us)) {v : V} : BadA n H v → BadA n (upd H D (.lst ws)) v
  | .non => .non
  | .bl b => .bl b
  | .str x => .str x
  | .int i => .int i
  | @BadA.lst _ _ a xs e => by
    by_cases z : a = D
    · subst z
      exact .lst upd_same
    · exact .lst (by rw [upd_ne z]; exact e)
  | .dct e => .dct (by rw [upd_ne (fun z => by rw [z, hD] at e; cases e)]; exact e)
  | .len e h => .len (by rw [upd_ne (fun z => by rw [z, hD] at e; cases e)]; exact e) h
  | .one e o => .one (by rw [upd_ne (fun z => by rw [z, hD] at e; cases e)]; exact e) (o.move hD)
  | .two e o => .two (by rw [upd_ne (fun z => by rw [z, hD] at e; cases e)]; exact e) (o.move hD)
  | .pair e b1 b2 h => .pair (by rw [upd_ne (fun z => by rw [z, hD] at e; cases e)]; exact e) b1 b2 h
theorem Thing.move {n : Int} {H : Hp} {D : Addr} {us ws : List V} (hD : H D = some (.lst us)) {v : V} : Thing n H v → Thing n (upd H D (.lst ws)) v
  | .non => .non
  | .str x => .str x
  | .int i => .int i
  | @Thing.lst _ _ a xs e => by
    by_cases z : a = D
    · subst z
      exact .lst upd_same
    · exact .lst (by rw [upd_ne z]; exact e)
  | .dct e => .dct (by rw [upd_ne (fun z => by rw [z, hD] at e; cases e)]; exact e)
  | .tup e f b => .tup (by rw [upd_ne (fun z => by rw [z, hD] at e; cases e)]; exact e) f (b.move hD)
theorem Things.move {n : Int} {H : Hp} {D : Addr} {us ws vs : List V} (h : Things n H vs) (hD : H D = some (.lst us)) : Things n (upd H D (.lst ws)) vs := fun v hv => (h v hv).move hD
/-! ### no answers -/
theorem nm_eq {n a b : Int} (h : a * a - n * b * b = 1) : a * a = n * (b * b) + 1 := by
  have : n * b * b = n * (b * b) := by grind
  omega
theorem bad_swap {n a b : Int} (hn : 2 ≤ n) (h1 : 1 ≤ b) (h2 : 2 ≤ a) (h : a * a - n * b * b = 1) : b * b ≠ n * a * a + 1 := fun z => by
  have e := nm_eq h
  have e2 : n * a * a = n * (a * a) := by grind
  have m1 := Int.mul_le_mul_of_nonneg_right hn (sqnn a)
  have m2 := Int.mul_le_mul_of_nonneg_right hn (sqnn b)
  have m3 := sqnn a
  have m4 := sqnn b
  omega
theorem bad_up {n a b : Int} (h2 : 2 ≤ a) (h : a * a - n * b * b = 1) : (a + 1) * (a + 1) ≠ n * b * b + 1 := fun z => by
  have e : (a + 1) * (a + 1) = a * a + 2 * a + 1 := by grind
  omega
theorem bad_far {n a b f : Int} (hn : 2 ≤ n) (h1 : 1 ≤ b) (hf : 0 ≤ f) (h : a * a - n * b * b = 1) : a * a ≠ n * (b + 1 + f) * (b + 1 + f) + 1 := fun z => by
  have e := nm_eq h
  have e2 : n * (b + 1 + f) * (b + 1 + f) = n * ((b + 1 + f) * (b + 1 + f)) := by grind
  have m1 := sqlt (show 0 ≤ b by omega) (show b < b + 1 + f by omega)
  have m2 := Int.mul_lt_mul_of_pos_left m1 (show 0 < n by omega)
  omega
theorem Big.le {n : Int} {c d W : Nat} (B : Big n d W) (h : c ≤ d) : Big n c W := ⟨B.a, B.l, by
  have m := Nat.mul_le_mul_right W (show 2 * c + 2 ≤ 2 * d + 2 by omega)
  have s := B.s
  omega⟩
theorem ans_lst (n r : Int) : ans n r 1 = lst n r := by
  show put n (1, 0) (lst n r) = lst n r
  unfold put
  simp
def spAnsRight (K : PySem.W.Frag) : Sp := fun vs H Q _ => ∃ (n far : Int) (d : Addr), vs = [.int n, .ref d, .int far] ∧ Num n ∧ sqB n = false ∧ 0 ≤ far ∧ Bt 100 far ∧ H d = some (.lst ((kinds "BadAnswer").map V.bl)) ∧ ∀ H', Same H H' → Q (.bl true) H'
section
variable {P : Program} {w : World} {K : PySem.W.Frag} {mg : Str → Option Value} {base : Heap} (T : Txt K mg)
include T
theorem c__law_answers_right : C8.Cal P w K mg base 6 "_law_answers_right" (spAnsRight K) [] := by
  obtain ⟨f, fd, F, df⟩ := T.d__law_answers_right
  have c__law_least : C8.Cal P w K mg base 4 "_law_least" (spAnswerOf K) [] := c__law_least T
  have c__law_told : C8.Cal P w K mg base 5 "_law_told" (spTold5 mg) [] := c__law_told T
  have c_count_of : C8.Cal P w K mg base 5 "count_of" spCountOf [] := c_count_of T
  obtain ⟨fA, _, DA, _⟩ := T.d__law_with_answer
  have mA := DA.mgf
  have g__law_with_answer : ∃ u, mg "_law_with_answer" = some u ∧ RelV (.ref fA) u := ⟨_, mA, rfl⟩
  refine C8.cal0 F (F.fn.binds df fun _ _ _ _ _ _ us hl => match us, hl with | [_, _, _], _ => rfl) .nil sc__law_answers_right (fun vs H Q E h => ?_) (fun cdv A outer s H vs Q E hr h => ?_)
  · obtain ⟨_, _, _, rfl, _⟩ := h
    rfl
  · obtain ⟨n, far, d, rfl, N, es, f0, fb, hd, hQ⟩ := h
    have n2 := N.two
    have nl := N.le
    obtain ⟨b1, b2⟩ := lst_bt N.nsq N.r1000 (R := 1000) N.r1000 (by decide)
    rw [box_1000] at b1 b2
    obtain ⟨g1, g2⟩ := lst_pos N.nsq N.r1000
    have nm := lst_norm N.nsq N.r1000
    refine ⟨_, (pss_cons (ps_asg (C8.pe_c c__law_least hr (by decide) (by rfl) (pa_cons (pv 0) pa_nil)) (pg_tup (by rfl) (pgs_cons (pg_name (i := 3) sc__law_answers_right.nd rfl (.inr rfl)) (pgs_cons (pg_name (i := 4) sc__law_answers_right.nd rfl (.inr rfl)) pgs_nil))))
 (pss_cons (ps_set (i := 5) sc__law_answers_right.nd rfl (.inl rfl) (pe_lst (pa_cons pe_non (pa_cons (pe_tup pa_nil) (pa_cons (pe_tup (pa_cons pe_int pa_nil)) (pa_cons (pe_tup (pa_cons pe_int (pa_cons pe_int (pa_cons pe_int pa_nil)))) (pa_cons (pe_lst (pa_cons pe_int (pa_cons pe_int pa_nil))) (pa_cons pe_str (pa_cons pe_int (pa_cons pe_dnewK (pa_cons (pe_tup (pa_cons pe_bl (pa_cons pe_int pa_nil))) (pa_cons (pe_tup (pa_cons pe_int (pa_cons pe_bl pa_nil))) (pa_cons (pe_tup (pa_cons pe_str (pa_cons pe_int pa_nil))) (pa_cons (pe_tup (pa_cons pe_int (pa_cons pe_non pa_nil))) (pa_cons (pe_tup (pa_cons pe_int (pa_cons pe_int pa_nil))) (pa_cons (pe_tup (pa_cons (pe_un un_neg pe_int) (pa_cons pe_int pa_nil))) pa_nil))))))))))))))))
 (pss_cons (ps_set (i := 5) sc__law_answers_right.nd rfl (.inl rfl) (pe_op op_cat (pv 5) (pe_lst (pa_cons (pe_tup (pa_cons (pv 3) (pa_cons (pe_un un_neg (pv 4)) pa_nil))) (pa_cons (pe_tup (pa_cons (pe_un un_neg (pv 3)) (pa_cons (pv 4) pa_nil))) (pa_cons (pe_tup (pa_cons (pv 4) (pa_cons (pv 3) pa_nil))) (pa_cons (pe_tup (pa_cons (pe_op op_add (pv 3) pe_int) (pa_cons (pv 4) pa_nil))) (pa_cons (pe_tup (pa_cons (pv 3) (pa_cons (pe_op op_add (pe_op op_add (pv 4) pe_int) (pv 2)) pa_nil))) pa_nil))))))))
 (pss_cons (ps_set (i := 5) sc__law_answers_right.nd rfl (.inl rfl) (pe_op op_cat (pv 5) (pe_lst (pa_cons (pe_tup (pa_cons pe_int (pa_cons pe_int pa_nil))) (pa_cons (pe_tup (pa_cons (pe_op op_add pe_int (pv 2)) (pa_cons pe_int pa_nil))) pa_nil)))))
 (pss_cons (ps_setLc (i := 5) (own := [("_law_pair", 7)]) (by rfl) sc__law_answers_right.nd rfl rfl (sw_true rfl rfl rfl (by decide +kernel)) (pi_list (pv 5)) (blkOk_by (N := N__law_answers_right) (sc := C8.fnScope s__law_answers_right) (by decide +kernel)) (fun _ _ _ _ _ => (pg_name (i := 7) sc__law_answers_right.nd rfl (.inl rfl))) (fun _ _ _ _ _ => (pts_one (PW.pt (pw_or (pt_not (pt_val (pe_callB (call_isiB (K := K) rfl) (by rfl) T.n_isinstance (by decide +kernel) (pa_cons (pv 7) (pa_cons (pe_bltn (by rfl) T.n_tuple (by decide +kernel) (v := .ty "tuple") rfl) pa_nil))))) (pw_or1 (pt_cmpR (op_neDB (K := K) rfl hr.units) (pv 7) (pe_tup (pa_cons (pv 3) (pa_cons (pv 4) pa_nil))) (nomark _))))))) (fun _ _ _ _ _ => (pv 7)))
 (pss_cons (ps_for PassesOwn.never rfl (pi_range1 (by rfl) T.n_range (pa_cons pe_int pa_nil)) (pg_name (i := 6) sc__law_answers_right.nd rfl (.inr rfl))
  (pss_one (ps_if (pt_not (pt_val (pe_callB (cr_all rfl) (by rfl) T.n_all (by decide +kernel) (pa_cons (pe_lc (own := [("_law_pair", 7)]) rfl sc__law_answers_right.nd (pi_list (pv 5)) (blkOk_by (N := N__law_answers_right) (sc := C8.fnScope s__law_answers_right) (by decide +kernel)) (fun _ _ _ _ _ => (pg_name (i := 7) sc__law_answers_right.nd rfl (.inl rfl))) (fun _ _ _ _ _ => pts_nil) (fun _ _ _ _ _ => (pe_cmpR (op_eqDB (K := K) rfl hr.units) (C8.pe_c c__law_told hr (by decide) (by rfl) (pa_cons (C8.pe_gc (by rfl) g__law_with_answer) (pa_cons (pv 0) (pa_cons (pe_tup (pa_cons (pv 6) (pa_cons (pv 7) pa_nil))) pa_nil)))) (pv 1) (nomark _)))) pa_nil))))
  (pss_one (ps_ret pe_bl))
  pss_nil)))
 (pss_one (ps_ret (pe_and (pe_cmpR op_eq (C8.pe_c c_count_of hr (by decide) (by rfl) (pa_cons (pv 0) (pa_cons (pe_tup (pa_cons (pv 3) (pa_cons (pv 4) pa_nil))) pa_nil))) pe_int (nomark _)) (pe_one (pe_cmpR op_eq (C8.pe_c c_count_of hr (by decide) (by rfl) (pa_cons (pv 0) (pa_cons (pe_tup (pa_cons pe_int (pa_cons pe_int pa_nil))) pa_nil))) pe_int (nomark _)))))))))))), ?_⟩
    refine ⟨_, rfl, n, rfl, N, fun H1 q s1 eq => ⟨q, _, rfl, SqT.at eq, rfl, _, _, rfl, _, _, rfl, rfl, ?_⟩⟩
    have th : Things n H1 [] := Things.nil
    have tot := s1
    replace th := th.snoc .non
    refine ⟨by show 0 ≤ sizeLine; decide, fun p0 np0 => ?_⟩
    have ep0 : (upd H1 p0 (.tup [])) p0 = some (.tup []) := upd_same
    have sp0 : Same H1 (upd H1 p0 (.tup [])) := same_upd np0
    replace th := th.same sp0
    replace tot := tot.trans sp0
    generalize upd H1 p0 (.tup []) = H31 at ep0 sp0 th tot
    clear sp0
    replace th := th.snoc (.tup ep0 rfl (.len ep0 (by decide)))
    refine ⟨by show 1 ≤ sizeLine; decide, fun p1 np1 => ?_⟩
    have ep1 : (upd H31 p1 (.tup [.int 1])) p1 = some (.tup [.int 1]) := upd_same
    have sp1 : Same H31 (upd H31 p1 (.tup [.int 1])) := same_upd np1
    replace th := th.same sp1
    replace tot := tot.trans sp1
    generalize upd H31 p1 (.tup [.int 1]) = H32 at ep1 sp1 th tot
    clear sp1
    replace th := th.snoc (.tup ep1 rfl (.len ep1 (by decide)))
    refine ⟨by show 3 ≤ sizeLine; decide, fun p2 np2 => ?_⟩
    have ep2 : (upd H32 p2 (.tup [.int 1, .int 0, .int 0])) p2 = some (.tup [.int 1, .int 0, .int 0]) := upd_same
    have sp2 : Same H32 (upd H32 p2 (.tup [.int 1, .int 0, .int 0])) := same_upd np2
    replace th := th.same sp2
    replace tot := tot.trans sp2
    generalize upd H32 p2 (.tup [.int 1, .int 0, .int 0]) = H33 at ep2 sp2 th tot
    clear sp2
    replace th := th.snoc (.tup ep2 rfl (.len ep2 (by decide)))
    refine ⟨by show 2 ≤ sizeLine; decide, fun p3 np3 => ?_⟩
    have ep3 : (upd H33 p3 (.lst [.int 1, .int 0])) p3 = some (.lst [.int 1, .int 0]) := upd_same
    have sp3 : Same H33 (upd H33 p3 (.lst [.int 1, .int 0])) := same_upd np3
    replace th := th.same sp3
    replace tot := tot.trans sp3
    generalize upd H33 p3 (.lst [.int 1, .int 0]) = H34 at ep3 sp3 th tot
    clear sp3
    replace th := th.snoc (.lst ep3)
    replace th := (th.snoc (.str "10")).snoc (.int 5)
    refine fun p4 np4 => ?_
    have ep4 : (upd H34 p4 (.dK [])) p4 = some (.dK []) := upd_same
    have sp4 : Same H34 (upd H34 p4 (.dK [])) := same_upd np4
    replace th := th.same sp4
    replace tot := tot.trans sp4
    generalize upd H34 p4 (.dK []) = H35 at ep4 sp4 th tot
    clear sp4
    replace th := th.snoc (.dct ep4)
    refine ⟨by show 2 ≤ sizeLine; decide, fun p5 np5 => ?_⟩
    have ep5 : (upd H35 p5 (.tup [.bl true, .int 0])) p5 = some (.tup [.bl true, .int 0]) := upd_same
    have sp5 : Same H35 (upd H35 p5 (.tup [.bl true, .int 0])) := same_upd np5
    replace th := th.same sp5
    replace tot := tot.trans sp5
    generalize upd H35 p5 (.tup [.bl true, .int 0]) = H36 at ep5 sp5 th tot
    clear sp5
    replace th := th.snoc (.tup ep5 rfl (.one ep5 (.bl _)))
    refine ⟨by show 2 ≤ sizeLine; decide, fun p6 np6 => ?_⟩
    have ep6 : (upd H36 p6 (.tup [.int 1, .bl false])) p6 = some (.tup [.int 1, .bl false]) := upd_same
    have sp6 : Same H36 (upd H36 p6 (.tup [.int 1, .bl false])) := same_upd np6
    replace th := th.same sp6
    replace tot := tot.trans sp6
    generalize upd H36 p6 (.tup [.int 1, .bl false]) = H37 at ep6 sp6 th tot
    clear sp6
    replace th := th.snoc (.tup ep6 rfl (.two ep6 (.bl _)))
    refine ⟨by show 2 ≤ sizeLine; decide, fun p7 np7 => ?_⟩
    have ep7 : (upd H37 p7 (.tup [.str "1", .int 0])) p7 = some (.tup [.str "1", .int 0]) := upd_same
    have sp7 : Same H37 (upd H37 p7 (.tup [.str "1", .int 0])) := same_upd np7
    replace th := th.same sp7
    replace tot := tot.trans sp7
    generalize upd H37 p7 (.tup [.str "1", .int 0]) = H38 at ep7 sp7 th tot
    clear sp7
    replace th := th.snoc (.tup ep7 (by decide +kernel) (.one ep7 (.str _)))
    refine ⟨by show 2 ≤ sizeLine; decide, fun p8 np8 => ?_⟩
    have ep8 : (upd H38 p8 (.tup [.int 1, .non])) p8 = some (.tup [.int 1, .non]) := upd_same
    have sp8 : Same H38 (upd H38 p8 (.tup [.int 1, .non])) := same_upd np8
    replace th := th.same sp8
    replace tot := tot.trans sp8
    generalize upd H38 p8 (.tup [.int 1, .non]) = H39 at ep8 sp8 th tot
    clear sp8
    replace th := th.snoc (.tup ep8 rfl (.two ep8 .non))
    refine ⟨by show 2 ≤ sizeLine; decide, fun p9 np9 => ?_⟩
    have ep9 : (upd H39 p9 (.tup [.int 0, .int 0])) p9 = some (.tup [.int 0, .int 0]) := upd_same
    have sp9 : Same H39 (upd H39 p9 (.tup [.int 0, .int 0])) := same_upd np9
    replace th := th.same sp9
    replace tot := tot.trans sp9
    generalize upd H39 p9 (.tup [.int 0, .int 0]) = H40 at ep9 sp9 th tot
    clear sp9
    replace th := th.snoc (.tup ep9 rfl (.pair ep9 (bt_small (by decide) (by decide) (by decide)) (bt_small (by decide) (by decide) (by decide)) (.inr (by simp))))
    refine ⟨1, rfl, by show 2 ≤ sizeLine; decide, fun p10 np10 => ?_⟩
    have ep10 : (upd H40 p10 (.tup [.int (-1), .int 0])) p10 = some (.tup [.int (-1), .int 0]) := upd_same
    have sp10 : Same H40 (upd H40 p10 (.tup [.int (-1), .int 0])) := same_upd np10
    replace th := th.same sp10
    replace tot := tot.trans sp10
    generalize upd H40 p10 (.tup [.int (-1), .int 0]) = H41 at ep10 sp10 th tot
    clear sp10
    replace th := th.snoc (.tup ep10 rfl (.pair ep10 (bt_small (by decide) (by decide) (by decide)) (bt_small (by decide) (by decide) (by decide)) (.inl (by decide))))
    refine ⟨by show 14 ≤ sizeLine; decide, fun m1 nm1 => ?_⟩
    have em1 : (upd H41 m1 (.lst [.non, .ref p0, .ref p1, .ref p2, .ref p3, .str "10", .int 5, .ref p4, .ref p5, .ref p6, .ref p7, .ref p8, .ref p9, .ref p10])) m1 = some (.lst [.non, .ref p0, .ref p1, .ref p2, .ref p3, .str "10", .int 5, .ref p4, .ref p5, .ref p6, .ref p7, .ref p8, .ref p9, .ref p10]) := upd_same
    have sm1 : Same H41 (upd H41 m1 (.lst [.non, .ref p0, .ref p1, .ref p2, .ref p3, .str "10", .int 5, .ref p4, .ref p5, .ref p6, .ref p7, .ref p8, .ref p9, .ref p10])) := same_upd nm1
    replace th := th.same sm1
    replace tot := tot.trans sm1
    generalize upd H41 m1 (.lst [.non, .ref p0, .ref p1, .ref p2, .ref p3, .str "10", .int 5, .ref p4, .ref p5, .ref p6, .ref p7, .ref p8, .ref p9, .ref p10]) = H42 at em1 sm1 th tot
    clear sm1
    have old : Things n H42 [.non, .ref p0, .ref p1, .ref p2, .ref p3, .str "10", .int 5, .ref p4, .ref p5, .ref p6, .ref p7, .ref p8, .ref p9, .ref p10] := th
    have el := em1
    clear th em1
    have th : Things n H42 [] := Things.nil
    refine ⟨_, rfl, _, rfl, _, rfl, _, rfl, by show 2 ≤ sizeLine; decide, fun q0 nq0 => ?_⟩
    have eq0 : (upd H42 q0 (.tup [.int (lst n (isq n)).1, .int (-(lst n (isq n)).2)])) q0 = some (.tup [.int (lst n (isq n)).1, .int (-(lst n (isq n)).2)]) := upd_same
    have sq0 : Same H42 (upd H42 q0 (.tup [.int (lst n (isq n)).1, .int (-(lst n (isq n)).2)])) := same_upd nq0
    replace th := th.same sq0
    replace tot := tot.trans sq0
    replace old := old.same sq0
    replace el := sq0 _ _ el
    generalize upd H42 q0 (.tup [.int (lst n (isq n)).1, .int (-(lst n (isq n)).2)]) = H43 at eq0 sq0 th tot old el
    clear sq0
    replace th := th.snoc (.tup eq0 rfl (.pair eq0 (b1.mono (by decide)) (b2.neg.mono (by decide)) (.inl (by omega))))
    refine ⟨_, rfl, _, rfl, _, rfl, by show 2 ≤ sizeLine; decide, fun q1 nq1 => ?_⟩
    have eq1 : (upd H43 q1 (.tup [.int (-(lst n (isq n)).1), .int (lst n (isq n)).2])) q1 = some (.tup [.int (-(lst n (isq n)).1), .int (lst n (isq n)).2]) := upd_same
    have sq1 : Same H43 (upd H43 q1 (.tup [.int (-(lst n (isq n)).1), .int (lst n (isq n)).2])) := same_upd nq1
    replace th := th.same sq1
    replace tot := tot.trans sq1
    replace old := old.same sq1
    replace el := sq1 _ _ el
    generalize upd H43 q1 (.tup [.int (-(lst n (isq n)).1), .int (lst n (isq n)).2]) = H44 at eq1 sq1 th tot old el
    clear sq1
    replace th := th.snoc (.tup eq1 rfl (.pair eq1 (b1.neg.mono (by decide)) (b2.mono (by decide)) (.inl (by omega))))
    refine ⟨_, rfl, _, rfl, by show 2 ≤ sizeLine; decide, fun q2 nq2 => ?_⟩
    have eq2 : (upd H44 q2 (.tup [.int (lst n (isq n)).2, .int (lst n (isq n)).1])) q2 = some (.tup [.int (lst n (isq n)).2, .int (lst n (isq n)).1]) := upd_same
    have sq2 : Same H44 (upd H44 q2 (.tup [.int (lst n (isq n)).2, .int (lst n (isq n)).1])) := same_upd nq2
    replace th := th.same sq2
    replace tot := tot.trans sq2
    replace old := old.same sq2
    replace el := sq2 _ _ el
    generalize upd H44 q2 (.tup [.int (lst n (isq n)).2, .int (lst n (isq n)).1]) = H45 at eq2 sq2 th tot old el
    clear sq2
    replace th := th.snoc (.tup eq2 rfl (.pair eq2 (b2.mono (by decide)) (b1.mono (by decide)) (.inr (bad_swap n2 g2 g1 nm))))
    refine ⟨_, rfl, _, _, rfl, rfl, _, rfl, by show 2 ≤ sizeLine; decide, fun q3 nq3 => ?_⟩
    have eq3 : (upd H45 q3 (.tup [.int ((lst n (isq n)).1 + 1), .int (lst n (isq n)).2])) q3 = some (.tup [.int ((lst n (isq n)).1 + 1), .int (lst n (isq n)).2]) := upd_same
    have sq3 : Same H45 (upd H45 q3 (.tup [.int ((lst n (isq n)).1 + 1), .int (lst n (isq n)).2])) := same_upd nq3
    replace th := th.same sq3
    replace tot := tot.trans sq3
    replace old := old.same sq3
    replace el := sq3 _ _ el
    generalize upd H45 q3 (.tup [.int ((lst n (isq n)).1 + 1), .int (lst n (isq n)).2]) = H46 at eq3 sq3 th tot old el
    clear sq3
    replace th := th.snoc (.tup eq3 rfl (.pair eq3 ((b1.add (Bt.mono (A := 1) (by decide : (1 : Int).natAbs < 2 ^ 1) (by decide))).mono (by decide)) (b2.mono (by decide)) (.inr (bad_up g1 nm))))
    refine ⟨_, rfl, _, rfl, _, _, rfl, rfl, _, rfl, _, _, rfl, rfl, by show 2 ≤ sizeLine; decide, fun q4 nq4 => ?_⟩
    have eq4 : (upd H46 q4 (.tup [.int (lst n (isq n)).1, .int ((lst n (isq n)).2 + 1 + far)])) q4 = some (.tup [.int (lst n (isq n)).1, .int ((lst n (isq n)).2 + 1 + far)]) := upd_same
    have sq4 : Same H46 (upd H46 q4 (.tup [.int (lst n (isq n)).1, .int ((lst n (isq n)).2 + 1 + far)])) := same_upd nq4
    replace th := th.same sq4
    replace tot := tot.trans sq4
    replace old := old.same sq4
    replace el := sq4 _ _ el
    generalize upd H46 q4 (.tup [.int (lst n (isq n)).1, .int ((lst n (isq n)).2 + 1 + far)]) = H47 at eq4 sq4 th tot old el
    clear sq4
    replace th := th.snoc (.tup eq4 rfl (.pair eq4 (b1.mono (by decide)) (((b2.add (Bt.mono (A := 1) (by decide : (1 : Int).natAbs < 2 ^ 1) (by decide))).add (fb.mono (by decide))).mono (by decide)) (.inr (bad_far n2 g2 f0 nm))))
    refine ⟨by show 5 ≤ sizeLine; decide, fun m2 nm2 => ?_⟩
    have em2 : (upd H47 m2 (.lst [.ref q0, .ref q1, .ref q2, .ref q3, .ref q4])) m2 = some (.lst [.ref q0, .ref q1, .ref q2, .ref q3, .ref q4]) := upd_same
    have sm2 : Same H47 (upd H47 m2 (.lst [.ref q0, .ref q1, .ref q2, .ref q3, .ref q4])) := same_upd nm2
    replace th := th.same sm2
    replace tot := tot.trans sm2
    replace old := old.same sm2
    replace el := sm2 _ _ el
    generalize upd H47 m2 (.lst [.ref q0, .ref q1, .ref q2, .ref q3, .ref q4]) = H48 at em2 sm2 th tot old el
    clear sm2
    replace old := old.cat th
    refine ⟨m1, m2, _, _, rfl, rfl, el, em2, by show 14 + 5 ≤ sizeLine; decide, fun c1 nc1 => ?_⟩
    have ec : (upd H48 c1 (.lst ([.non, .ref p0, .ref p1, .ref p2, .ref p3, .str "10", .int 5, .ref p4, .ref p5, .ref p6, .ref p7, .ref p8, .ref p9, .ref p10] ++ [.ref q0, .ref q1, .ref q2, .ref q3, .ref q4]))) c1 = some (.lst ([.non, .ref p0, .ref p1, .ref p2, .ref p3, .str "10", .int 5, .ref p4, .ref p5, .ref p6, .ref p7, .ref p8, .ref p9, .ref p10] ++ [.ref q0, .ref q1, .ref q2, .ref q3, .ref q4])) := upd_same
    have sc : Same H48 (upd H48 c1 (.lst ([.non, .ref p0, .ref p1, .ref p2, .ref p3, .str "10", .int 5, .ref p4, .ref p5, .ref p6, .ref p7, .ref p8, .ref p9, .ref p10] ++ [.ref q0, .ref q1, .ref q2, .ref q3, .ref q4]))) := same_upd nc1
    replace tot := tot.trans sc
    replace old := old.same sc
    clear el
    generalize upd H48 c1 (.lst ([.non, .ref p0, .ref p1, .ref p2, .ref p3, .str "10", .int 5, .ref p4, .ref p5, .ref p6, .ref p7, .ref p8, .ref p9, .ref p10] ++ [.ref q0, .ref q1, .ref q2, .ref q3, .ref q4])) = H49 at ec sc tot old
    have el := ec
    clear ec sc th
    have th : Things n H49 [] := Things.nil
    refine ⟨_, rfl, by show 2 ≤ sizeLine; decide, fun r0 nr0 => ?_⟩
    have er0 : (upd H49 r0 (.tup [.int 1, .int 1])) r0 = some (.tup [.int 1, .int 1]) := upd_same
    have sr0 : Same H49 (upd H49 r0 (.tup [.int 1, .int 1])) := same_upd nr0
    replace th := th.same sr0
    replace tot := tot.trans sr0
    replace old := old.same sr0
    replace el := sr0 _ _ el
    generalize upd H49 r0 (.tup [.int 1, .int 1]) = H50 at er0 sr0 th tot old el
    clear sr0
    replace th := th.snoc (.tup er0 rfl (.pair er0 (bt_small (by decide) (by decide) (by decide)) (bt_small (by decide) (by decide) (by decide)) (.inr (by omega))))
    refine ⟨_, rfl, _, _, rfl, rfl, by show 2 ≤ sizeLine; decide, fun r1 nr1 => ?_⟩
    have er1 : (upd H50 r1 (.tup [.int (2 + far), .int 0])) r1 = some (.tup [.int (2 + far), .int 0]) := upd_same
    have sr1 : Same H50 (upd H50 r1 (.tup [.int (2 + far), .int 0])) := same_upd nr1
    replace th := th.same sr1
    replace tot := tot.trans sr1
    replace old := old.same sr1
    replace el := sr1 _ _ el
    generalize upd H50 r1 (.tup [.int (2 + far), .int 0]) = H51 at er1 sr1 th tot old el
    clear sr1
    replace th := th.snoc (.tup er1 rfl (.pair er1 (((Bt.mono (A := 2) (by decide : (2 : Int).natAbs < 2 ^ 2) (by decide) : Bt 100 2).add fb).mono (by decide)) (bt_small (by decide) (by decide) (by decide)) (.inr (by have := sqle (show (0 : Int) ≤ 2 by decide) (show 2 ≤ 2 + far by omega); simp; omega))))
    refine ⟨by show 2 ≤ sizeLine; decide, fun m3 nm3 => ?_⟩
    have em3 : (upd H51 m3 (.lst [.ref r0, .ref r1])) m3 = some (.lst [.ref r0, .ref r1]) := upd_same
    have sm3 : Same H51 (upd H51 m3 (.lst [.ref r0, .ref r1])) := same_upd nm3
    replace th := th.same sm3
    replace tot := tot.trans sm3
    replace old := old.same sm3
    replace el := sm3 _ _ el
    generalize upd H51 m3 (.lst [.ref r0, .ref r1]) = H52 at em3 sm3 th tot old el
    clear sm3
    replace old := old.cat th
    refine ⟨c1, m3, _, _, rfl, rfl, el, em3, by show 19 + 2 ≤ sizeLine; decide, fun c2 nc2 => ?_⟩
    have ec : (upd H52 c2 (.lst (([.non, .ref p0, .ref p1, .ref p2, .ref p3, .str "10", .int 5, .ref p4, .ref p5, .ref p6, .ref p7, .ref p8, .ref p9, .ref p10] ++ [.ref q0, .ref q1, .ref q2, .ref q3, .ref q4]) ++ [.ref r0, .ref r1]))) c2 = some (.lst (([.non, .ref p0, .ref p1, .ref p2, .ref p3, .str "10", .int 5, .ref p4, .ref p5, .ref p6, .ref p7, .ref p8, .ref p9, .ref p10] ++ [.ref q0, .ref q1, .ref q2, .ref q3, .ref q4]) ++ [.ref r0, .ref r1])) := upd_same
    have sc : Same H52 (upd H52 c2 (.lst (([.non, .ref p0, .ref p1, .ref p2, .ref p3, .str "10", .int 5, .ref p4, .ref p5, .ref p6, .ref p7, .ref p8, .ref p9, .ref p10] ++ [.ref q0, .ref q1, .ref q2, .ref q3, .ref q4]) ++ [.ref r0, .ref r1]))) := same_upd nc2
    replace tot := tot.trans sc
    replace old := old.same sc
    clear el
    generalize upd H52 c2 (.lst (([.non, .ref p0, .ref p1, .ref p2, .ref p3, .str "10", .int 5, .ref p4, .ref p5, .ref p6, .ref p7, .ref p8, .ref p9, .ref p10] ++ [.ref q0, .ref q1, .ref q2, .ref q3, .ref q4]) ++ [.ref r0, .ref r1])) = H53 at ec sc tot old
    have el := ec
    clear ec sc th
    have th : Things n H53 [] := Things.nil
    -- those that are kept
    refine ⟨_, rfl, c2, rfl, ⟨_, SqL.at el⟩, fun D nD => ?_⟩
    refine lc_list (fun i H' => Same H53 H' ∧ ∃ us, H' D = some (.lst us) ∧ us.length ≤ i ∧ Things n H' us) ⟨same_upd nD, [], upd_same, Nat.le_refl _, Things.nil⟩ (fun i H' _ h => SqL.at (h.1 _ _ el)) (fun i v H' hv h => ?_) (fun H' h => ?_)
    · obtain ⟨sD, us, hD, hu, hth⟩ := h
      have hi : i < 21 := (List.getElem?_eq_some_iff.mp hv).1
      have tv := (old v (List.mem_of_getElem? hv)).same sD
      have keep : ∀ H2 : Hp, Same H' H2 → ∃ acc, H2 D = some (.lst acc) ∧ acc.length < sizeLine ∧ (Same H53 (upd H2 D (.lst (acc ++ [v]))) ∧ ∃ us, (upd H2 D (.lst (acc ++ [v]))) D = some (.lst us) ∧ us.length ≤ i + 1 ∧ Things n (upd H2 D (.lst (acc ++ [v]))) us) := fun H2 s2 => by
        refine ⟨us, s2 _ _ hD, line_of (by omega), fun b z e => ?_, us ++ [v], upd_same, by rw [List.length_append]; exact Nat.succ_le_succ hu, ?_⟩
        · rw [upd_ne (ne_of_none e nD)]
          exact s2 _ _ (sD _ _ e)
        · exact ((hth.same s2).snoc (tv.same s2)).move (s2 _ _ hD)
      have drop : ∀ H2 : Hp, Same H' H2 → (Same H53 H2 ∧ ∃ us, H2 D = some (.lst us) ∧ us.length ≤ i + 1 ∧ Things n H2 us) := fun H2 s2 => ⟨sD.trans s2, us, s2 _ _ hD, by omega, hth.same s2⟩
      refine ⟨rfl, ?_⟩
      cases tv with
      | non => exact ⟨_, rfl, _, _, _, _, false, rfl, .ty _, .base .non, kit_ty (by decide +kernel), _, rfl, iteT (iteT ⟨_, rfl, keep _ (Same.refl _)⟩)⟩
      | str x => exact ⟨_, rfl, _, _, _, _, false, rfl, .ty _, .base (.str _), kit_ty (by decide +kernel), _, rfl, iteT (iteT ⟨_, rfl, keep _ (Same.refl _)⟩)⟩
      | int x => exact ⟨_, rfl, _, _, _, _, false, rfl, .ty _, .base (.int _), kit_ty (by decide +kernel), _, rfl, iteT (iteT ⟨_, rfl, keep _ (Same.refl _)⟩)⟩
      | lst e => exact ⟨_, rfl, _, _, _, _, false, rfl, .ty _, .base (.lst e), kit_ty (by decide +kernel), _, rfl, iteT (iteT ⟨_, rfl, keep _ (Same.refl _)⟩)⟩
      | dct e => exact ⟨_, rfl, _, _, _, _, false, rfl, .ty _, .base (.dK e), kit_ty (by decide +kernel), _, rfl, iteT (iteT ⟨_, rfl, keep _ (Same.refl _)⟩)⟩
      | @tup b xs e f bad =>
        refine ⟨_, rfl, _, _, _, _, true, rfl, .ty _, .base (.tup e), kit_ty (by decide +kernel), _, rfl, iteF ?_⟩
        refine ⟨_, rfl, _, rfl, _, rfl, by show 2 ≤ sizeLine; decide, fun t nt => ?_⟩
        have st := same_upd nt (o := .tup [.int (lst n (isq n)).1, .int (lst n (isq n)).2])
        refine ⟨_, _, .tup (SqT.at (st _ _ e)) (dp_flats xs f), dp_pair (SqT.at upd_same), sh_dat f, sh_pair _, _, rfl, ite2 (fun _ => ⟨_, rfl, keep _ st⟩) (fun _ => drop _ st)⟩
    · obtain ⟨sD, us, hD, hu, hth⟩ := h
      have hu21 : us.length ≤ 21 := hu
      replace tot := tot.trans sD
      have hdd := tot _ _ hd
      clear old el
      refine ⟨3, rfl, by decide, by decide, for_range (n := 3) (fun i σ H2 => ∃ y, σ = [some (.int n), some (.ref d), some (.int far), some (.int (lst n (isq n)).1), some (.int (lst n (isq n)).2), some (.ref D), y, none] ∧ Same H' H2) ⟨none, rfl, Same.refl _⟩ (fun i σ H2 hi h => ?_) (fun σ H2 h => ?_)⟩
      · obtain ⟨y, rfl, s2⟩ := h
        rw [Int.zero_add]
        refine ⟨_, rfl, D, rfl, ⟨_, SqL.at (s2 _ _ hD)⟩, fun D2 nD2 => ?_⟩
        refine lc_list (xs := us) (fun j H3 => Same H2 H3 ∧ H3 D2 = some (.lst ((List.replicate j true).map V.bl))) ⟨same_upd nD2, upd_same⟩ (fun j H3 _ h => SqL.at (h.1 _ _ (s2 _ _ hD))) (fun j v H3 hv h => ?_) (fun H3 h => ?_)
        · obtain ⟨s3, hD2⟩ := h
          have hj := (List.getElem?_eq_some_iff.mp hv).1
          have bad := (hth v (List.mem_of_getElem? hv)).bad.same (s2.trans s3)
          refine ⟨rfl, ?_⟩
          refine ⟨_, rfl, _, rfl, _, rfl, by show 2 ≤ sizeLine; decide, fun t nt => ?_⟩
          have st := same_upd nt (o := .tup [.int (i : Nat), v])
          refine ⟨fA, _, _, "BadAnswer", rfl, .inr (.inr (.inr ⟨mA, n, i, t, v, rfl, rfl, upd_same, hi, n2, nl, fun _ => es, bad.same st, rfl⟩)), fun H4 l s4 el4 => ?_⟩
          have due := ((s2.trans s3).trans (st.trans s4)) _ _ hdd
          refine ⟨_, rfl, _, _, dp_bls (SqL.at el4), dp_bls (SqL.at due), sh_bls _, sh_bls _, ?_⟩
          rw [eqv_blist, decide_eq_true rfl]
          refine ⟨_, s4 _ _ (st _ _ hD2), ?_, fun b z e => ?_, ?_⟩
          · rw [List.length_map, List.length_replicate]
            exact line_of (by omega)
          · rw [upd_ne (ne_of_none e nD2)]
            exact s4 _ _ (st _ _ (s3 _ _ e))
          · rw [upd_same, List.replicate_succ', List.map_append]
            rfl
        · obtain ⟨s3, hD2⟩ := h
          refine ⟨D2, _, rfl, SqL.at hD2, ?_⟩
          rw [all_true]
          exact ⟨_, rfl, iteF ⟨_, rfl, s2.trans s3⟩⟩
      · obtain ⟨y, rfl, s2⟩ := h
        refine ⟨_, rfl, _, rfl, _, rfl, by show 2 ≤ sizeLine; decide, fun t nt => ?_⟩
        refine ⟨n, 1, _, t, rfl, N, (big_of N).le (by decide), by rw [ans_lst]; exact upd_same, fun H5 s5 => ?_⟩
        refine ⟨rfl, _, rfl, iteD rfl ?_⟩
        refine ⟨_, rfl, by show 2 ≤ sizeLine; decide, fun t2 nt2 => ?_⟩
        refine ⟨n, 0, _, t2, rfl, N, (big_of N).le (by decide), upd_same, fun H6 s6 => ?_⟩
        refine ⟨rfl, ?_⟩
        exact hQ _ ((((tot.trans s2).trans (same_upd nt)).trans s5).trans ((same_upd nt2).trans s6))
end
end OA
set_option Elab.async false
set_option linter.all false
set_option maxRecDepth 100000
set_option maxHeartbeats 4000000
namespace OA
open PySem PySem.Spec PyProof.Rows L2
def spLaw (K : PySem.W.Frag) : Sp := fun vs H Q _ => ∃ (a : Addr) (ns : List Int), vs = [.ref a] ∧ SqL K H a (ns.map V.int) ∧ ns.length ≤ 63 ∧ (∀ z ∈ ns, Bt 1050000 z) ∧ ∀ H', Q (.bl true) H'
/-- the lists of kinds that are due, to the i-th -/
def Dues (H : Hp) (o : Addr) (i : Nat) : Prop := ∃ vs, H o = some (.lst vs) ∧ vs.length = i ∧ ∀ j, j < i → ∃ p, vs[j]? = some (.ref p) ∧ p ≠ o ∧ H p = some (.lst ((kinds (xNames.getD j "")).map V.bl))
theorem Dues.same {H H' : Hp} {o : Addr} {i : Nat} (h : Dues H o i) (s : Same H H') : Dues H' o i := let ⟨vs, e, l, g⟩ := h; ⟨vs, s _ _ e, l, fun j hj => let ⟨p, a, n, b⟩ := g j hj; ⟨p, a, n, s _ _ b⟩⟩
theorem Dues.get {H : Hp} {o : Addr} {i : Nat} (h : Dues H o i) (j : Nat) (hj : j < i) (c : Str) (hc : xNames.getD j "" = c) : ∃ vs p, H o = some (.lst vs) ∧ atI vs (j : Int) = some (.ref p) ∧ H p = some (.lst ((kinds c).map V.bl)) := by
  obtain ⟨vs, e, _, g⟩ := h
  obtain ⟨p, a, _, b⟩ := g j hj
  subst hc
  exact ⟨vs, p, e, atI_nat a, b⟩
def Bns (H : Hp) (vs : List V) : Prop := ∀ v ∈ vs, BadN H v
def Bcs (H : Hp) (vs : List V) : Prop := ∀ v ∈ vs, BadC H v
theorem all_cons {p : V → Prop} {v : V} {vs : List V} (h : p v) (g : ∀ u ∈ vs, p u) : ∀ u ∈ v :: vs, p u := fun u hu => (List.mem_cons.mp hu).elim (fun z => by rw [z]; exact h) (g u)
theorem all_nil {p : V → Prop} : ∀ u ∈ ([] : List V), p u := fun _ z => nomatch z
theorem isq_sq {r : Int} (h : 0 ≤ r) : isq (r * r) = r := by
  have e : (r + 1) * (r + 1) = r * r + 2 * r + 1 := by grind
  exact Root.isq ⟨h, Int.le_refl _, by omega⟩
theorem sqB_sq {r : Int} (h : 0 ≤ r) : sqB (r * r) = true := by
  unfold sqB
  rw [isq_sq h]
  exact decide_eq_true rfl
theorem some_is : sqB 4 = true ∧ sqB 1000000 = true ∧ isq 1000000 = 1000 ∧ sqB 2 = false ∧ lst 2 (isq 2) = (3, 2) := by decide +kernel
theorem far_bt {f : Int} (h0 : 0 ≤ f) (h : f < 10 ^ 30) : Bt 100 f := by
  have e : ((2 ^ 100 : Nat) : Int) = 1267650600228229401496703205376 := by decide
  have e2 : (10 : Int) ^ 30 = 1000000000000000000000000000000 := by decide
  unfold Bt
  omega
section
variable {P : Program} {w : World} {K : PySem.W.Frag} {mg : Str → Option Value} {base : Heap} (T : Txt K mg)
include T
theorem ok_law {f : Addr} {fd : FuncData} (F : C8.Fun K "law" "law" s_law f fd) : FnOk P w K mg base C8.CX0 9 f fd ["_law_script"] (spLaw K) := by
  have c__law_value : C8.Cal P w K mg base 2 "_law_value" spValue [] := c__law_value T
  have c__law_cell_at : C8.Cal P w K mg base 1 "_law_cell_at" (spCell K) [] := c__law_cell_at T
  have c__law_numbers : C8.Cal P w K mg base 3 "_law_numbers" (spNumbers K) [] := c__law_numbers T
  have c__law_is_square : C8.Cal P w K mg base 2 "_law_is_square" spIsSq [] := c__law_is_square T
  have c__law_told : C8.Cal P w K mg base 5 "_law_told" (spTold5 mg) [] := c__law_told T
  have c__law_answers_right : C8.Cal P w K mg base 6 "_law_answers_right" (spAnsRight K) [] := c__law_answers_right T
  have c_told : C8.Cal P w K mg base 5 "told" (spTold K) [] := c_told T
  have c_less : C8.Cal P w K mg base 4 "less" (spLess K) [] := c_less T
  have c_answer_by : C8.Cal P w K mg base 5 "answer_by" spAnswerBy [] := c_answer_by T
  obtain ⟨f1, _, D1, _⟩ := T.d__law_with_number
  have g__law_with_number : ∃ u, mg "_law_with_number" = some u ∧ RelV (.ref f1) u := ⟨_, D1.mgf, rfl⟩
  obtain ⟨f2, _, D2, _⟩ := T.d__law_with_square
  have g__law_with_square : ∃ u, mg "_law_with_square" = some u ∧ RelV (.ref f2) u := ⟨_, D2.mgf, rfl⟩
  obtain ⟨f3, _, D3, _⟩ := T.d__law_with_count
  have g__law_with_count : ∃ u, mg "_law_with_count" = some u ∧ RelV (.ref f3) u := ⟨_, D3.mgf, rfl⟩
  obtain ⟨f4, _, D4, _⟩ := T.d__law_with_answer
  have g__law_with_answer : ∃ u, mg "_law_with_answer" = some u ∧ RelV (.ref f4) u := ⟨_, D4.mgf, rfl⟩
  refine C8.fn0 F sc_law (fun vs H Q E h => ?_) (fun cdv A outer s H vs Q E hr h => ?_)
  · obtain ⟨a, ns, rfl, _⟩ := h
    rfl
  · obtain ⟨a, ns, rfl, hS, hlen, hb, hQ⟩ := h
    refine ⟨_, (pss_cons (ps_set (i := 1) sc_law.nd rfl (.inl rfl) (C8.pe_c c__law_value hr (by decide) (by rfl) (pa_cons (C8.pe_c c__law_cell_at hr (by decide) (by rfl) (pa_cons (pv 0) (pa_cons pe_int pa_nil))) (pa_cons pe_int (pa_cons (pe_op op_pow pe_int pe_int) pa_nil)))))
 (pss_cons (ps_set (i := 2) sc_law.nd rfl (.inr rfl) (pe_lst pa_nil))
 (pss_cons (ps_for PassesOwn.never rfl (pi_range1 (by rfl) T.n_range (pa_cons pe_int pa_nil)) (pg_name (i := 3) sc_law.nd rfl (.inl rfl))
  (pss_one (ps_expr (pe_bm PySem.F.plainAttrs_list PySem.F.slot_list_append PySem.F.type_list_append mt_append (pv 2) (pa_cons (pe_lst (pa_cons (pe_cmpR op_eq (pv 3) pe_int (nomark _)) (pa_cons (pe_cmpR op_eq (pv 3) pe_int (nomark _)) (pa_cons (pe_cmpR op_eq (pv 3) pe_int (nomark _)) (pa_cons (pe_cmpR op_eq (pv 3) pe_int (nomark _)) (pa_cons pe_bl pa_nil)))))) pa_nil)))))
 (pss_cons (ps_set (i := 4) sc_law.nd rfl (.inl rfl) (pe_lst (pa_cons pe_non (pa_cons pe_str (pa_cons pe_bl (pa_cons pe_bl (pa_cons (pe_lst (pa_cons pe_int pa_nil)) (pa_cons (pe_tup (pa_cons pe_int pa_nil)) (pa_cons pe_dnewK (pa_cons pe_int (pa_cons pe_int (pa_cons (pe_un un_neg pe_int) (pa_cons (pe_op op_sub (pe_un un_neg pe_int) (pv 1)) (pa_cons pe_int (pa_cons (pe_op op_add pe_int (pv 1)) pa_nil)))))))))))))))
 (pss_cons (ps_for PassesOwn.never rfl (pi_range1 (by rfl) T.n_range (pa_cons pe_int pa_nil)) (pg_name (i := 5) sc_law.nd rfl (.inr rfl))
  (pss_one (ps_if (pt_not (pt_val (pe_callB (cr_all rfl) (by rfl) T.n_all (by decide +kernel) (pa_cons (pe_lc (own := [("_law_thing", 9)]) rfl sc_law.nd (pi_list (pv 4)) (blkOk_by (N := N_law) (sc := C8.fnScope s_law) (by decide +kernel)) (fun _ _ _ _ _ => (pg_name (i := 9) sc_law.nd rfl (.inl rfl))) (fun _ _ _ _ _ => pts_nil) (fun _ _ _ _ _ => (pe_cmpR (op_eqDB (K := K) rfl hr.units) (C8.pe_c c__law_told hr (by decide) (by rfl) (pa_cons (C8.pe_gc (by rfl) g__law_with_number) (pa_cons (pv 5) (pa_cons (pv 9) pa_nil)))) (pe_ix (ix_listB (K := K) rfl) (pv 2) pe_int (fun _ _ => rfl)) (nomark _)))) pa_nil))))
  (pss_one (ps_ret pe_bl))
  pss_nil)))
 (pss_cons (ps_set (i := 6) sc_law.nd rfl (.inl rfl) (pe_lst (pa_cons pe_int (pa_cons pe_int (pa_cons (pe_op op_mul (pe_op op_add pe_int (pe_op op_mod (pv 1) pe_int)) (pe_op op_add pe_int (pe_op op_mod (pv 1) pe_int))) pa_nil)))))
 (pss_cons (ps_for PassesOwn.never rfl (pi_range1 (by rfl) T.n_range (pa_cons pe_int pa_nil)) (pg_name (i := 5) sc_law.nd rfl (.inr rfl))
  (pss_one (ps_if (pt_not (pt_val (pe_callB (cr_all rfl) (by rfl) T.n_all (by decide +kernel) (pa_cons (pe_lc (own := [("_law_thing", 9)]) rfl sc_law.nd (pi_list (pv 6)) (blkOk_by (N := N_law) (sc := C8.fnScope s_law) (by decide +kernel)) (fun _ _ _ _ _ => (pg_name (i := 9) sc_law.nd rfl (.inl rfl))) (fun _ _ _ _ _ => pts_nil) (fun _ _ _ _ _ => (pe_cmpR (op_eqDB (K := K) rfl hr.units) (C8.pe_c c__law_told hr (by decide) (by rfl) (pa_cons (C8.pe_gc (by rfl) g__law_with_square) (pa_cons (pv 5) (pa_cons (pv 9) pa_nil)))) (pe_ix (ix_listB (K := K) rfl) (pv 2) pe_int (fun _ _ => rfl)) (nomark _)))) pa_nil))))
  (pss_one (ps_ret pe_bl))
  pss_nil)))
 (pss_cons (ps_for PassesOwn.never rfl (pi_list (C8.pe_c c__law_numbers hr (by decide) (by rfl) (pa_cons (pv 0) pa_nil))) (pg_name (i := 7) sc_law.nd rfl (.inl rfl))
  (pss_one (ps_if (pt_not (pt_val (C8.pe_c c__law_is_square hr (by decide) (by rfl) (pa_cons (pv 7) pa_nil))))
  (pss_cons (ps_for PassesOwn.never rfl (pi_tup (pe_tup (pa_cons pe_non (pa_cons pe_str (pa_cons pe_bl (pa_cons (pe_lst (pa_cons pe_int pa_nil)) (pa_cons (pe_tup (pa_cons pe_int pa_nil)) (pa_cons (pe_un un_neg pe_int) (pa_cons (pe_op op_sub (pe_un un_neg pe_int) (pv 1)) (pa_cons pe_int (pa_cons (pe_op op_add pe_int (pv 1)) pa_nil))))))))))) (pg_name (i := 8) sc_law.nd rfl (.inl rfl))
  (pss_one (ps_if (pt_cmpR (op_neD hr.units) (C8.pe_c c__law_told hr (by decide) (by rfl) (pa_cons (C8.pe_gc (by rfl) g__law_with_count) (pa_cons (pv 7) (pa_cons (pv 8) pa_nil)))) (pe_ix ix_list (pv 2) pe_int (fun _ _ => rfl)) (nomark _))
  (pss_one (ps_ret pe_bl))
  pss_nil)))
 (pss_one (ps_if (pt_not (pt_val (C8.pe_c c__law_answers_right hr (by decide) (by rfl) (pa_cons (pv 7) (pa_cons (pe_ix ix_list (pv 2) pe_int (fun _ _ => rfl)) (pa_cons (pv 1) pa_nil))))))
  (pss_one (ps_ret pe_bl))
  pss_nil)))
  (pss_one (ps_if (pt_cmpR (op_neD hr.units) (C8.pe_c c__law_told hr (by decide) (by rfl) (pa_cons (C8.pe_gc (by rfl) g__law_with_answer) (pa_cons (pv 7) (pa_cons (pe_tup (pa_cons pe_int (pa_cons (pe_tup (pa_cons pe_int (pa_cons pe_int pa_nil))) pa_nil))) pa_nil)))) (pe_ix ix_list (pv 2) pe_int (fun _ _ => rfl)) (nomark _))
  (pss_one (ps_ret pe_bl))
  pss_nil)))))
 (pss_one (ps_ret (pe_and (pe_cmpR op_eq (pe_fld (C8.pe_c c_told hr (by decide) (by rfl) (pa_cons pe_int pa_nil)) rfl) pe_int (nomark _)) (pe_and (pe_cmpR op_eq (pe_fld (C8.pe_c c_less hr (by decide) (by rfl) (pa_cons pe_int pa_nil)) rfl) pe_int (nomark _)) (pe_one (pe_cmpR (op_eqD hr.units) (C8.pe_c c_answer_by hr (by decide) (by rfl) (pa_cons pe_int (pa_cons pe_int pa_nil))) (pe_tup (pa_cons pe_int (pa_cons pe_int pa_nil))) (nomark _))))))))))))))), ?_⟩
    have b0 : Bt 1050000 (ns.getD 0 0) := by
      cases ns with
      | nil => show (0 : Int).natAbs < 2 ^ 1050000; exact Nat.two_pow_pos _
      | cons x r => exact hb x List.mem_cons_self
    refine ⟨_, rfl, a, ns, 0, rfl, hS, _, _, rfl, rfl, ⟨by decide, by decide, by decide⟩, _, _, _, rfl, b0, by decide, by decide, by decide, fun H1 far s1 f0 f1 => ?_⟩
    have fb : Bt 100 far := far_bt f0 f1
    clear f1
    refine ⟨Nat.zero_le _, fun o no => ?_⟩
    have eo : (upd H1 o (.lst [])) o = some (.lst []) := upd_same
    have so : Same H1 (upd H1 o (.lst [])) := same_upd no
    have tot := s1.trans so
    generalize upd H1 o (.lst []) = H2 at eo tot
    clear so
    refine ⟨4, rfl, by decide, by decide, for_range (n := 4) (fun i σ H' => ∃ y, σ = [some (.ref a), some (.int far), some (.ref o), y, none, none, none, none, none, none] ∧ Same H H' ∧ Dues H' o i) ⟨none, rfl, tot, [], eo, rfl, fun j hj => absurd hj (Nat.not_lt_zero j)⟩ (fun i σ H' hi h => ?_) (fun σ H' h => ?_)⟩
    · obtain ⟨y, rfl, sH, vs, ho, hl, hj⟩ := h
      rw [Int.zero_add]
      refine ⟨.ref o, rfl, .inl ⟨rfl, _, SqL.at ho⟩, _, rfl, rfl, _, rfl, rfl, _, rfl, rfl, _, rfl, rfl, by show 5 ≤ sizeLine; decide, fun p np => ?_⟩
      have ec : ([.bl (decide (V.int ((i : Nat) : Int) = V.int 0)), .bl (decide (V.int ((i : Nat) : Int) = V.int 1)), .bl (decide (V.int ((i : Nat) : Int) = V.int 2)), .bl (decide (V.int ((i : Nat) : Int) = V.int 3)), .bl true] : List V) = (kinds (xNames.getD i "")).map V.bl := by
        obtain rfl | rfl | rfl | rfl : i = 0 ∨ i = 1 ∨ i = 2 ∨ i = 3 := by omega
        · decide +kernel
        · decide +kernel
        · decide +kernel
        · decide +kernel
      have npo : p ≠ o := fun z => by rw [z, ho] at np; cases np
      refine ⟨o, _, _, rfl, rfl, same_upd np _ _ ho, line_of (by omega), _, rfl, fun b z e => ?_, vs ++ [.ref p], upd_same, by rw [List.length_append, hl]; rfl, fun j hj2 => ?_⟩
      · rw [upd_ne (ne_of_none (s1 _ _ e) no)]
        exact same_upd np _ _ (sH _ _ e)
      · by_cases hji : j < i
        · obtain ⟨q, e1, e2, e3⟩ := hj j hji
          exact ⟨q, by rw [List.getElem?_append_left (by omega)]; exact e1, e2, by rw [upd_ne e2]; exact same_upd np _ _ e3⟩
        · obtain rfl : j = i := by omega
          exact ⟨p, by rw [List.getElem?_append_right (by omega), hl, Nat.sub_self]; rfl, npo, by rw [upd_ne npo, upd_same]; exact congrArg some (congrArg HO.lst ec)⟩
    obtain ⟨y, rfl, tot, dues⟩ := h
    clear eo
    refine ⟨by show 1 ≤ sizeLine; decide, fun u1 nu1 => ?_⟩
    have eu1 : (upd H' u1 (.lst [.int 2])) u1 = some (.lst [.int 2]) := upd_same
    have su1 : Same H' (upd H' u1 (.lst [.int 2])) := same_upd nu1
    replace tot := tot.trans su1
    replace dues := dues.same su1
    generalize upd H' u1 (.lst [.int 2]) = H61 at eu1 su1 tot dues 
    clear su1
    refine ⟨by show 1 ≤ sizeLine; decide, fun u2 nu2 => ?_⟩
    have eu2 : (upd H61 u2 (.tup [.int 2])) u2 = some (.tup [.int 2]) := upd_same
    have su2 : Same H61 (upd H61 u2 (.tup [.int 2])) := same_upd nu2
    replace tot := tot.trans su2
    replace dues := dues.same su2
    replace eu1 := su2 _ _ eu1
    generalize upd H61 u2 (.tup [.int 2]) = H62 at eu2 su2 tot dues eu1
    clear su2
    refine fun u3 nu3 => ?_
    have eu3 : (upd H62 u3 (.dK [])) u3 = some (.dK []) := upd_same
    have su3 : Same H62 (upd H62 u3 (.dK [])) := same_upd nu3
    replace tot := tot.trans su3
    replace dues := dues.same su3
    replace eu1 := su3 _ _ eu1
    replace eu2 := su3 _ _ eu2
    generalize upd H62 u3 (.dK []) = H63 at eu3 su3 tot dues eu1 eu2
    clear su3
    refine ⟨1, rfl, 2, rfl, _, rfl, _, _, rfl, rfl, _, rfl, _, _, rfl, rfl, by show 13 ≤ sizeLine; decide, fun u4 nu4 => ?_⟩
    have eu4 : (upd H63 u4 (.lst [.non, .str "2", .bl true, .bl false, .ref u1, .ref u2, .ref u3, .int 1, .int 0, .int (-1), .int (-2 - far), .int 1000001, .int (1000001 + far)])) u4 = some (.lst [.non, .str "2", .bl true, .bl false, .ref u1, .ref u2, .ref u3, .int 1, .int 0, .int (-1), .int (-2 - far), .int 1000001, .int (1000001 + far)]) := upd_same
    have su4 : Same H63 (upd H63 u4 (.lst [.non, .str "2", .bl true, .bl false, .ref u1, .ref u2, .ref u3, .int 1, .int 0, .int (-1), .int (-2 - far), .int 1000001, .int (1000001 + far)])) := same_upd nu4
    replace tot := tot.trans su4
    replace dues := dues.same su4
    replace eu1 := su4 _ _ eu1
    replace eu2 := su4 _ _ eu2
    replace eu3 := su4 _ _ eu3
    generalize upd H63 u4 (.lst [.non, .str "2", .bl true, .bl false, .ref u1, .ref u2, .ref u3, .int 1, .int 0, .int (-1), .int (-2 - far), .int 1000001, .int (1000001 + far)]) = H64 at eu4 su4 tot dues eu1 eu2 eu3
    clear su4
    have bads : Bns H64 [.non, .str "2", .bl true, .bl false, .ref u1, .ref u2, .ref u3, .int 1, .int 0, .int (-1), .int (-2 - far), .int 1000001, .int (1000001 + far)] := all_cons (.inl .non) <| all_cons (.inl (.str _)) <| all_cons (.inl (.bl _)) <| all_cons (.inl (.bl _)) <| all_cons (.inl (.lst eu1)) <| all_cons (.inl (.tup eu2)) <| all_cons (.inl (.dct eu3)) <|
      all_cons (.inr ⟨_, rfl, by omega⟩) <| all_cons (.inr ⟨_, rfl, by omega⟩) <| all_cons (.inr ⟨_, rfl, by omega⟩) <| all_cons (.inr ⟨_, rfl, by omega⟩) <| all_cons (.inr ⟨_, rfl, by omega⟩) <| all_cons (.inr ⟨_, rfl, by omega⟩) all_nil
    clear eu1 eu2 eu3
    refine ⟨6, rfl, by decide, by decide, for_range (n := 6) (fun i σ H2 => ∃ z, σ = [some (.ref a), some (.int far), some (.ref o), y, some (.ref u4), z, none, none, none, none] ∧ Same H64 H2) ⟨_, rfl, Same.refl _⟩ (fun i σ H2 hi h => ?_) (fun σ H2 h => ?_)⟩
    · obtain ⟨z0, rfl, s2⟩ := h
      rw [Int.zero_add]
      refine ⟨_, rfl, u4, rfl, ⟨_, SqL.at (s2 _ _ eu4)⟩, fun E2 nE2 => ?_⟩
      refine lc_list (fun j H3 => Same H2 H3 ∧ H3 E2 = some (.lst ((List.replicate j true).map V.bl))) ⟨same_upd nE2, upd_same⟩ (fun j H3 _ h => SqL.at (h.1 _ _ (s2 _ _ eu4))) (fun j v H3 hv h => ?_) (fun H3 h => ?_)
      · obtain ⟨s3, hD2⟩ := h
        have hj : j < 13 := (List.getElem?_eq_some_iff.mp hv).1
        have bad := bads v (List.mem_of_getElem? hv)
        refine ⟨rfl, ?_⟩
        refine ⟨_, rfl, _, rfl, f1, _, _, "BadNumber", rfl, .inl ⟨D1.mgf, i, rfl, hi, bad.same (s2.trans s3), rfl⟩, fun H4 l s4 el4 => ?_⟩
        obtain ⟨ds, q, eo, eq, eb⟩ := (dues.same ((s2.trans s3).trans s4)).get 0 (by decide) "BadNumber" rfl
        refine ⟨_, rfl, o, _, _, _, rfl, rfl, SqL.at eo, eq, ?_⟩
        refine ⟨_, _, dp_bls (SqL.at el4), dp_bls (SqL.at eb), sh_bls _, sh_bls _, ?_⟩
        rw [eqv_blist, decide_eq_true rfl]
        refine ⟨_, s4 _ _ hD2, ?_, fun b z e => ?_, ?_⟩
        · rw [List.length_map, List.length_replicate]
          exact line_of (by omega)
        · rw [upd_ne (ne_of_none e nE2)]
          exact s4 _ _ (s3 _ _ e)
        · rw [upd_same, List.replicate_succ', List.map_append]
          rfl
      · obtain ⟨s3, hD2⟩ := h
        refine ⟨E2, _, rfl, SqL.at hD2, ?_⟩
        rw [all_true]
        exact ⟨_, rfl, iteF ⟨_, rfl, s2.trans s3⟩⟩
    obtain ⟨y6, rfl, s2⟩ := h
    replace tot := tot.trans s2
    replace dues := dues.same s2
    clear s2 bads eu4
    have fm := Int.emod_nonneg far (show (998 : Int) ≠ 0 by decide)
    have fm2 := Int.emod_lt_of_pos far (show (0 : Int) < 998 by decide)
    have q1 := sqle (show (0 : Int) ≤ 2 by decide) (show 2 ≤ 2 + far % 998 by omega)
    have q2 := sqle (show 0 ≤ 2 + far % 998 by omega) (show 2 + far % 998 ≤ 1000 by omega)
    refine ⟨_, rfl, _, _, rfl, rfl, (by show (0 : Int) < 998; decide), _, _, rfl, rfl, _, rfl, _, _, rfl, rfl, (by show (0 : Int) < 998; decide), _, _, rfl, rfl, _, _, rfl, rfl, .inl ⟨by omega, by omega⟩, by show 3 ≤ sizeLine; decide, fun v4 nv4 => ?_⟩
    have ev4 : (upd H2 v4 (.lst [.int 4, .int 1000000, .int ((2 + far % 998) * (2 + far % 998))])) v4 = some (.lst [.int 4, .int 1000000, .int ((2 + far % 998) * (2 + far % 998))]) := upd_same
    have sv4 : Same H2 (upd H2 v4 (.lst [.int 4, .int 1000000, .int ((2 + far % 998) * (2 + far % 998))])) := same_upd nv4
    replace tot := tot.trans sv4
    replace dues := dues.same sv4
    generalize upd H2 v4 (.lst [.int 4, .int 1000000, .int ((2 + far % 998) * (2 + far % 998))]) = H65 at ev4 sv4 tot dues 
    clear sv4
    have bads : ∀ v ∈ ([.int 4, .int 1000000, .int ((2 + far % 998) * (2 + far % 998))] : List V), ∃ m : Int, v = .int m ∧ 2 ≤ m ∧ m ≤ 1000000 ∧ sqB m = true := all_cons ⟨_, rfl, by decide, by decide, some_is.1⟩ <| all_cons ⟨_, rfl, by decide, by decide, some_is.2.1⟩ <| all_cons ⟨_, rfl, by omega, by omega, sqB_sq (by omega)⟩ all_nil
    refine ⟨3, rfl, by decide, by decide, for_range (n := 3) (fun i σ H2 => ∃ z, σ = [some (.ref a), some (.int far), some (.ref o), y, some (.ref u4), z, some (.ref v4), none, none, none] ∧ Same H65 H2) ⟨_, rfl, Same.refl _⟩ (fun i σ H2 hi h => ?_) (fun σ H2 h => ?_)⟩
    · obtain ⟨z0, rfl, s2⟩ := h
      rw [Int.zero_add]
      refine ⟨_, rfl, v4, rfl, ⟨_, SqL.at (s2 _ _ ev4)⟩, fun E2 nE2 => ?_⟩
      refine lc_list (fun j H3 => Same H2 H3 ∧ H3 E2 = some (.lst ((List.replicate j true).map V.bl))) ⟨same_upd nE2, upd_same⟩ (fun j H3 _ h => SqL.at (h.1 _ _ (s2 _ _ ev4))) (fun j v H3 hv h => ?_) (fun H3 h => ?_)
      · obtain ⟨s3, hD2⟩ := h
        have hj : j < 3 := (List.getElem?_eq_some_iff.mp hv).1
        have bad := bads v (List.mem_of_getElem? hv)
        refine ⟨rfl, ?_⟩
        obtain ⟨m, rfl, m2, ml, ms⟩ := bad
        refine ⟨_, rfl, _, rfl, f2, _, _, "IsSquare", rfl, .inr (.inl ⟨D2.mgf, i, m, rfl, hi, rfl, m2, ml, ms, rfl⟩), fun H4 l s4 el4 => ?_⟩
        obtain ⟨ds, q, eo, eq, eb⟩ := (dues.same ((s2.trans s3).trans s4)).get 1 (by decide) "IsSquare" rfl
        refine ⟨_, rfl, o, _, _, _, rfl, rfl, SqL.at eo, eq, ?_⟩
        refine ⟨_, _, dp_bls (SqL.at el4), dp_bls (SqL.at eb), sh_bls _, sh_bls _, ?_⟩
        rw [eqv_blist, decide_eq_true rfl]
        refine ⟨_, s4 _ _ hD2, ?_, fun b z e => ?_, ?_⟩
        · rw [List.length_map, List.length_replicate]
          exact line_of (by omega)
        · rw [upd_ne (ne_of_none e nE2)]
          exact s4 _ _ (s3 _ _ e)
        · rw [upd_same, List.replicate_succ', List.map_append]
          rfl
      · obtain ⟨s3, hD2⟩ := h
        refine ⟨E2, _, rfl, SqL.at hD2, ?_⟩
        rw [all_true]
        exact ⟨_, rfl, iteF ⟨_, rfl, s2.trans s3⟩⟩
    obtain ⟨y3, rfl, s2⟩ := h
    replace tot := tot.trans s2
    replace dues := dues.same s2
    clear s2 bads ev4
    refine ⟨_, rfl, a, ns, rfl, tot.seq hS, hlen, hb, fun H3 l xs s3 el hxs hy hx64 => ⟨l, rfl, ⟨_, SqL.at el⟩, for_list (xs := xs.map V.int) (fun i σ H' => ∃ z z7 z8, σ = [some (.ref a), some (.int far), some (.ref o), y, some (.ref u4), z, some (.ref v4), z7, z8, none] ∧ Same H3 H') ⟨_, none, none, rfl, Same.refl _⟩ (fun i σ H' _ h => ?_) (fun i x σ H' hx h => ?_) (fun σ H' h => ?_)⟩⟩
    · obtain ⟨_, _, _, _, sH⟩ := h
      exact sH.seq (SqL.at el)
    · obtain ⟨z, z7, z8, rfl, sH⟩ := h
      have hi : i < xs.length := by
        have := (List.getElem?_eq_some_iff.mp hx).1
        simpa using this
      have ex : x = .int xs[i] := by
        rw [List.getElem?_map, List.getElem?_eq_getElem hi] at hx
        exact (Option.some.inj hx).symm
      subst ex
      obtain ⟨n2, nl⟩ := hxs _ (List.getElem_mem hi)
      generalize xs[i] = n at n2 nl
      replace dues := dues.same (s3.trans sH)
      have tot := sH
      refine ⟨_, rfl, n, rfl, by omega, by omega, _, rfl, ?_⟩
      cases es : sqB n with
      | true =>
        refine iteF ?_
        refine ⟨_, rfl, by show 2 ≤ sizeLine; decide, fun w1 nw1 => ?_⟩
        have ew1 : (upd H' w1 (.tup [.int 1, .int 1])) w1 = some (.tup [.int 1, .int 1]) := upd_same
        have sw1 : Same H' (upd H' w1 (.tup [.int 1, .int 1])) := same_upd nw1
        replace tot := tot.trans sw1
        replace dues := dues.same sw1
        generalize upd H' w1 (.tup [.int 1, .int 1]) = H66 at ew1 sw1 tot dues 
        clear sw1
        refine ⟨by show 2 ≤ sizeLine; decide, fun w2 nw2 => ?_⟩
        have ew2 : (upd H66 w2 (.tup [.int 1, .ref w1])) w2 = some (.tup [.int 1, .ref w1]) := upd_same
        have sw2 : Same H66 (upd H66 w2 (.tup [.int 1, .ref w1])) := same_upd nw2
        replace tot := tot.trans sw2
        replace dues := dues.same sw2
        replace ew1 := sw2 _ _ ew1
        generalize upd H66 w2 (.tup [.int 1, .ref w1]) = H67 at ew2 sw2 tot dues ew1
        clear sw2
        refine ⟨f4, .int n, .ref w2, "BadAnswer", rfl, .inr (.inr (.inr ⟨D4.mgf, n, 1, w2, .ref w1, rfl, rfl, ew2, by decide, n2, nl, fun z => absurd z (by decide), .pair ew1 (bt_small (by decide) (by decide) (by decide)) (bt_small (by decide) (by decide) (by decide)) (.inr (by omega)), rfl⟩)), fun H4 l s4 el4 => ?_⟩
        obtain ⟨ds, q, eo, eq, eb⟩ := (dues.same s4).get 2 (by decide) "BadAnswer" rfl
        refine ⟨_, rfl, o, _, _, _, rfl, rfl, SqL.at eo, eq, ?_⟩
        refine ⟨_, _, dp_bls (SqL.at el4), dp_bls (SqL.at eb), sh_bls _, sh_bls _, _, rfl, ?_⟩
        rw [eqv_blist, decide_eq_true rfl]
        exact iteF ⟨_, _, _, rfl, tot.trans s4⟩
      | false =>
        have N := sq_num n2 nl es
        refine iteT ?_
        refine ⟨by show 1 ≤ sizeLine; decide, fun x1 nx1 => ?_⟩
        have ex1 : (upd H' x1 (.lst [.int 0])) x1 = some (.lst [.int 0]) := upd_same
        have sx1 : Same H' (upd H' x1 (.lst [.int 0])) := same_upd nx1
        replace tot := tot.trans sx1
        replace dues := dues.same sx1
        generalize upd H' x1 (.lst [.int 0]) = H68 at ex1 sx1 tot dues 
        clear sx1
        refine ⟨by show 1 ≤ sizeLine; decide, fun x2 nx2 => ?_⟩
        have ex2 : (upd H68 x2 (.tup [.int 0])) x2 = some (.tup [.int 0]) := upd_same
        have sx2 : Same H68 (upd H68 x2 (.tup [.int 0])) := same_upd nx2
        replace tot := tot.trans sx2
        replace dues := dues.same sx2
        replace ex1 := sx2 _ _ ex1
        generalize upd H68 x2 (.tup [.int 0]) = H69 at ex2 sx2 tot dues ex1
        clear sx2
        refine ⟨1, rfl, 1, rfl, _, rfl, _, _, rfl, rfl, _, rfl, _, _, rfl, rfl, by show 9 ≤ sizeLine; decide, fun x3 nx3 => ?_⟩
        have ex3 : (upd H69 x3 (.tup [.non, .str "0", .bl true, .ref x1, .ref x2, .int (-1), .int (-1 - far), .int 101, .int (101 + far)])) x3 = some (.tup [.non, .str "0", .bl true, .ref x1, .ref x2, .int (-1), .int (-1 - far), .int 101, .int (101 + far)]) := upd_same
        have sx3 : Same H69 (upd H69 x3 (.tup [.non, .str "0", .bl true, .ref x1, .ref x2, .int (-1), .int (-1 - far), .int 101, .int (101 + far)])) := same_upd nx3
        replace tot := tot.trans sx3
        replace dues := dues.same sx3
        replace ex1 := sx3 _ _ ex1
        replace ex2 := sx3 _ _ ex2
        generalize upd H69 x3 (.tup [.non, .str "0", .bl true, .ref x1, .ref x2, .int (-1), .int (-1 - far), .int 101, .int (101 + far)]) = H70 at ex3 sx3 tot dues ex1 ex2
        clear sx3
        have bads : Bcs H70 [.non, .str "0", .bl true, .ref x1, .ref x2, .int (-1), .int (-1 - far), .int 101, .int (101 + far)] := all_cons (.inl .non) <| all_cons (.inl (.str _)) <| all_cons (.inl (.bl _)) <| all_cons (.inl (.lst ex1)) <| all_cons (.inl (.tup ex2)) <|
          all_cons (.inr ⟨_, rfl, by omega⟩) <| all_cons (.inr ⟨_, rfl, by omega⟩) <| all_cons (.inr ⟨_, rfl, by omega⟩) <| all_cons (.inr ⟨_, rfl, by omega⟩) all_nil
        refine ⟨x3, rfl, ⟨_, SqT.at ex3⟩, for_tup (xs := [.non, .str "0", .bl true, .ref x1, .ref x2, .int (-1), .int (-1 - far), .int 101, .int (101 + far)]) (fun j σ H5 => ∃ z8, σ = [some (.ref a), some (.int far), some (.ref o), y, some (.ref u4), z, some (.ref v4), some (.int n), z8, none] ∧ Same H70 H5) ⟨_, rfl, Same.refl _⟩ (fun j σ H5 _ h => ?_) (fun j v σ H5 hv h => ?_) (fun σ H5 h => ?_)⟩
        · obtain ⟨_, _, s5⟩ := h
          exact SqT.at (s5 _ _ ex3)
        · obtain ⟨z9, rfl, s5⟩ := h
          have bad := (bads v (List.mem_of_getElem? hv)).same s5
          refine ⟨_, rfl, _, rfl, f3, _, _, "BadCount", rfl, .inr (.inr (.inl ⟨D3.mgf, n, rfl, n2, nl, es, bad, rfl⟩)), fun H6 l s6 el6 => ?_⟩
          obtain ⟨ds, q, eo, eq, eb⟩ := (dues.same (s5.trans s6)).get 3 (by decide) "BadCount" rfl
          refine ⟨_, rfl, o, _, _, _, rfl, rfl, SqL.at eo, eq, ?_⟩
          refine ⟨_, _, dp_bls (SqL.at el6), dp_bls (SqL.at eb), sh_bls _, sh_bls _, _, rfl, ?_⟩
          rw [eqv_blist, decide_eq_true rfl]
          exact iteF ⟨_, rfl, s5.trans s6⟩
        · obtain ⟨z9, rfl, s5⟩ := h
          obtain ⟨ds, q, eo, eq, eb⟩ := (dues.same s5).get 2 (by decide) "BadAnswer" rfl
          refine ⟨_, rfl, _, rfl, o, _, _, _, rfl, rfl, SqL.at eo, eq, _, rfl, n, far, q, rfl, N, es, f0, fb, eb, fun H6 s6 => ?_⟩
          exact ⟨_, rfl, iteF ⟨_, _, _, rfl, (tot.trans s5).trans s6⟩⟩
    · obtain ⟨z, z7, z8, rfl, sH⟩ := h
      refine ⟨2, rfl, by decide, by decide, fun H4 v s4 hv => ?_⟩
      obtain ⟨p, dx, rfl, hp⟩ := hv.2 some_is.2.2.2.1
      rw [some_is.2.2.2.2] at hp
      refine ⟨p, _, dx, _, _, rfl, hp, T.c_Least, T.a_Least_one, rfl, rfl, _, rfl, iteD rfl ?_⟩
      refine ⟨1000000, rfl, by decide, by decide, fun H5 v s5 hv => ?_⟩
      obtain ⟨p, dx, rfl, hp⟩ := hv.1 some_is.2.1
      rw [some_is.2.2.1] at hp
      refine ⟨p, _, dx, _, _, rfl, hp, T.c_Square, T.a_Square_root, rfl, rfl, _, rfl, iteD rfl ?_⟩
      have N9 : Num 999999 := num_lit
      refine ⟨999999, 0, _, rfl, N9, by decide, (big_of N9).le (by decide), fun H6 q s6 eq => ?_⟩
      refine ⟨by show 2 ≤ sizeLine; decide, fun t nt => ?_⟩
      refine ⟨_, _, dp_pair (SqT.at (same_upd nt _ _ eq)), dp_pair (SqT.at upd_same), sh_pair _, sh_pair _, ?_⟩
      rw [eqv_pair]
      exact hQ _
end
end OA
set_option Elab.async false
set_option linter.all false
set_option maxRecDepth 100000
set_option maxHeartbeats 0
/-! The head, and the end. -/
namespace OA
open PySem PySem.Spec PyProof.Rows L2
def dd (at_ : Str × Option Str) (name qual : Str) (s : Stmt) : He.DefD := ⟨at_, name, qual, C8.fnArgs s, C8.fnBody s, C8.fnScope s, [], []⟩
def kB (K : PySem.W.Frag) (a b : Str) (r : Bool) : Bool := decide (PySem.W.kitOne K (.ref (ca K a)) (.ref (ca K b)) = some r)
def iB (K : PySem.W.Frag) (a : Str) : Bool :=
  He.eqO (PySem.W.findIn K (.ref (ca K a)) "__class__") (some (some (.builtin "object.__class__"))) && (He.eqO (PySem.W.specialIn K (.builtin "object.__class__") "__get__") (some (some (.builtin "getset_descriptor.__get__"))) &&
    (decide (PySem.W.takesIn K (.builtin "object.__class__") = some true) && decide (PySem.W.mroIn K (ca K a) (.type "object") = some true)))
theorem ins_of {K : PySem.W.Frag} {a : Str} (h : iB K a = true) : InsF K (ca K a) := by
  obtain ⟨h1, h⟩ := He.ba h
  obtain ⟨h2, h⟩ := He.ba h
  obtain ⟨h3, h4⟩ := He.ba h
  exact ⟨He.eqO_ok h1, He.eqO_ok h2, of_decide_eq_true h3, of_decide_eq_true h4⟩
def fnL : List He.DefD := [
  dd ("is_whole", none) "is_whole" "is_whole" s_is_whole,
  dd ("check_number", none) "check_number" "check_number" s_check_number,
  dd ("root_of", none) "root_of" "root_of" s_root_of,
  dd ("check_root", none) "check_root" "check_root" s_check_root,
  dd ("parts_of", none) "parts_of" "parts_of" s_parts_of,
  dd ("chain", none) "chain" "chain" s_chain,
  dd ("least_of", none) "least_of" "least_of" s_least_of,
  dd ("put", none) "put" "put" s_put,
  dd ("answer_of", none) "answer_of" "answer_of" s_answer_of,
  dd ("check_answer", none) "check_answer" "check_answer" s_check_answer,
  dd ("answer_by", none) "answer_by" "answer_by" s_answer_by,
  dd ("count_of", none) "count_of" "count_of" s_count_of,
  dd ("together", none) "together" "together" s_together,
  dd ("is_square", none) "is_square" "is_square" s_is_square,
  dd ("Square", some "__init__") "__init__" "Square.__init__" s_Square_init,
  dd ("Square", some "shows") "shows" "Square.shows" s_Square_shows,
  dd ("Least", some "__init__") "__init__" "Least.__init__" s_Least_init,
  dd ("Least", some "shows") "shows" "Least.shows" s_Least_shows,
  dd ("Other", some "__init__") "__init__" "Other.__init__" s_Other_init,
  dd ("Other", some "shows") "shows" "Other.shows" s_Other_shows,
  dd ("Barred", some "__init__") "__init__" "Barred.__init__" s_Barred_init,
  dd ("Barred", some "shows") "shows" "Barred.shows" s_Barred_shows,
  dd ("told", none) "told" "told" s_told,
  dd ("less", none) "less" "less" s_less,
  dd ("_law_cell_at", none) "_law_cell_at" "_law_cell_at" s__law_cell_at,
  dd ("_law_draw", none) "_law_draw" "_law_draw" s__law_draw,
  dd ("_law_value", none) "_law_value" "_law_value" s__law_value,
  dd ("_law_root", none) "_law_root" "_law_root" s__law_root,
  dd ("_law_is_square", none) "_law_is_square" "_law_is_square" s__law_is_square,
  dd ("_law_numbers", none) "_law_numbers" "_law_numbers" s__law_numbers,
  dd ("_law_parts", none) "_law_parts" "_law_parts" s__law_parts,
  dd ("_law_put", none) "_law_put" "_law_put" s__law_put,
  dd ("_law_first", none) "_law_first" "_law_first" s__law_first,
  dd ("_law_least", none) "_law_least" "_law_least" s__law_least,
  dd ("_law_kinds", none) "_law_kinds" "_law_kinds" s__law_kinds,
  dd ("_law_with_number", none) "_law_with_number" "_law_with_number" s__law_with_number,
  dd ("_law_with_square", none) "_law_with_square" "_law_with_square" s__law_with_square,
  dd ("_law_with_count", none) "_law_with_count" "_law_with_count" s__law_with_count,
  dd ("_law_with_answer", none) "_law_with_answer" "_law_with_answer" s__law_with_answer,
  dd ("_law_told", none) "_law_told" "_law_told" s__law_told,
  dd ("_law_answers_right", none) "_law_answers_right" "_law_answers_right" s__law_answers_right,
  dd ("law", none) "law" "law" s_law]
def faL : List He.Fa := [
  .glo "is_whole",
  .glo "check_number",
  .glo "root_of",
  .glo "check_root",
  .glo "parts_of",
  .glo "chain",
  .glo "least_of",
  .glo "put",
  .glo "answer_of",
  .glo "check_answer",
  .glo "answer_by",
  .glo "count_of",
  .glo "together",
  .glo "is_square",
  .glo "told",
  .glo "less",
  .glo "_law_cell_at",
  .glo "_law_draw",
  .glo "_law_value",
  .glo "_law_root",
  .glo "_law_is_square",
  .glo "_law_numbers",
  .glo "_law_parts",
  .glo "_law_put",
  .glo "_law_first",
  .glo "_law_least",
  .glo "_law_kinds",
  .glo "_law_with_number",
  .glo "_law_with_square",
  .glo "_law_with_count",
  .glo "_law_with_answer",
  .glo "_law_told",
  .glo "_law_answers_right",
  .glo "law",
  .glo "ApartError",
  .glo "BadNumber",
  .glo "IsSquare",
  .glo "BadAnswer",
  .glo "BadCount",
  .glo "Answer",
  .glo "Square",
  .glo "Least",
  .glo "Other",
  .glo "Barred",
  .int "GREATEST" 1000000,
  .int "MOST" 100,
  .free "ValueError",
  .free "all",
  .free "bool",
  .free "int",
  .free "isinstance",
  .free "len",
  .free "min",
  .free "range",
  .free "tuple",
  .mkr "Square",
  .cls "Square",
  .noat "Square" "root",
  .meth "Square" "shows",
  .mkr "Least",
  .cls "Least",
  .noat "Least" "one",
  .noat "Least" "other",
  .meth "Least" "shows",
  .mkr "Other",
  .cls "Other",
  .noat "Other" "one",
  .noat "Other" "other",
  .meth "Other" "shows",
  .mkr "Barred",
  .cls "Barred",
  .noat "Barred" "one",
  .noat "Barred" "other",
  .meth "Barred" "shows"]
def exL (K : PySem.W.Frag) : List Bool := [
  iB K "Square",
  iB K "Least",
  iB K "Other",
  iB K "Barred",
  kB K "Square" "Answer" true,
  kB K "Square" "Square" true,
  kB K "Square" "Least" false,
  kB K "Square" "Other" false,
  kB K "Square" "Barred" false,
  kB K "Least" "Answer" true,
  kB K "Least" "Square" false,
  kB K "Least" "Least" true,
  kB K "Least" "Other" false,
  kB K "Least" "Barred" false,
  kB K "Other" "Answer" true,
  kB K "Other" "Square" false,
  kB K "Other" "Least" false,
  kB K "Other" "Other" true,
  kB K "Other" "Barred" false,
  kB K "Barred" "Answer" true,
  kB K "Barred" "Square" false,
  kB K "Barred" "Least" false,
  kB K "Barred" "Other" false,
  kB K "Barred" "Barred" true,
  exfB K "BadNumber",
  exfB K "IsSquare",
  exfB K "BadAnswer",
  exfB K "BadCount"]
def exB (K : PySem.W.Frag) : Bool := (exL K).all id
theorem ex_at {K : PySem.W.Frag} (h : exB K = true) (i : Nat) {b : Bool} (hi : (exL K)[i]? = some b) : b = true := List.all_eq_true.mp h b (List.mem_of_getElem? hi)
/-- the addresses that are looked at -/
def asX (g : Addr → Option Obj) (n : Nat) : List Addr := (He.asD g n ++ [cStatics, sysModules]).eraseDups
def obsX (g : Addr → Option Obj) : He.AlD × Bool := (fun K => (He.obsD faL fnL K, exB K)) (He.frG g (asX g 4))
def hk : PySem.W.Hook where
  α := He.AlD × Bool
  obs := fun s => obsX s.heap.get?
  val := fun _ => (He.valD fnL, true)
  says := fun _ h => ∃ K : PySem.W.Frag, K.In h ∧ He.SaysD faL fnL K ∧ exB K = true
  of := fun _ _ e => ⟨_, He.frG_in, congrArg Prod.fst e, congrArg Prod.snd e⟩
  keeps := fun _ _ _ ⟨K, hK, c, e⟩ k => ⟨K, PySem.W.Frag.In.keeps hK k, c, e⟩
def ob (s : PySem.W.SharedT) : He.AlD × Bool := obsX (HandSHeadRun.getT s)
theorem ob_eq (s : PySem.W.SharedT) : ob s = hk.obs s.abs := by
  have e : HandSHeadRun.getT s = s.abs.heap.get? := funext (HandSHeadRun.getT_eq s)
  unfold ob
  rw [e]
  rfl
section
variable {K : PySem.W.Frag} {h : Heap} {mg : Str → Option Value} (X : K.In h) (G : h.Ns mainGlobals mg) (c : He.SaysD faL fnL K)
include c
theorem fun_of {at_ : Str × Option Str} {name qual : Str} {s : Stmt} (i : Nat) (hi : fnL[i]? = some (dd at_ name qual s)) : ∃ fd, C8.Fun K name qual s (He.fAd K at_) fd ∧ fd.defaults = .none ∧ PySem.W.keepIn K (.ref (He.fAd K at_)) = true := by
  obtain ⟨fd, F⟩ := c.def_ i hi
  obtain ⟨oc, od, dV, kV, doc, pm, an, cdv, ct, osl, e, lk, cd, dv, _⟩ := F.ex
  refine ⟨fd, ⟨oc, od, dV, kV, doc, pm, an, cdv, ct, osl, e, lk, cd⟩, ?_, F.kp⟩
  rcases dv with ⟨_, z⟩ | ⟨z, _⟩
  · rw [e]
    exact z
  · exact absurd rfl z
include X G
theorem def_of {x : Str} {s : Stmt} (i j : Nat) (hi : fnL[i]? = some (dd (x, none) x x s)) (hj : faL[j]? = some (.glo x)) (hx : x = x) : ∃ f fd, C8.Def K mg x s f fd ∧ fd.defaults = .none := by
  obtain ⟨fd, F, df, kp⟩ := fun_of c i hi
  exact ⟨_, fd, ⟨F, He.glo_ok X G (c.fact j hj), kp⟩, df⟩
theorem mak_of {x : Str} {q : Str} {s : Stmt} (i j k : Nat) (hi : fnL[i]? = some (dd (x, some "__init__") "__init__" q s)) (hj : faL[j]? = some (.mkr x)) (hk : faL[k]? = some (.glo x)) :
    ∃ f fd, Mk K (ca K x) f ∧ mg x = some (.ref (ca K x)) ∧ C8.Fun K "__init__" q s f fd ∧ fd.defaults = .none := by
  obtain ⟨fd, F, df, kp⟩ := fun_of c i hi
  exact ⟨_, fd, He.mkr_ok (c.fact j hj), He.glo_ok X G (c.fact k hk), F, df⟩
omit X G
theorem met_of {x m q : Str} {s : Stmt} (i j : Nat) (hi : fnL[i]? = some (dd (x, some m) m q s)) (hj : faL[j]? = some (.meth x m)) (hx : x = x) :
    ∃ f fd, Meth K (ca K x) m f ∧ C8.Fun K m q s f fd ∧ fd.defaults = .none := by
  obtain ⟨fd, F, df, kp⟩ := fun_of c i hi
  exact ⟨_, fd, He.meth_ok (c.fact j hj), F, df⟩
include X G
theorem txt_of (e : exB K = true) : Txt K mg where
  d_is_whole := def_of X G c 0 0 rfl rfl rfl
  d_check_number := def_of X G c 1 1 rfl rfl rfl
  d_root_of := def_of X G c 2 2 rfl rfl rfl
  d_check_root := def_of X G c 3 3 rfl rfl rfl
  d_parts_of := def_of X G c 4 4 rfl rfl rfl
  d_chain := def_of X G c 5 5 rfl rfl rfl
  d_least_of := def_of X G c 6 6 rfl rfl rfl
  d_put := def_of X G c 7 7 rfl rfl rfl
  d_answer_of := def_of X G c 8 8 rfl rfl rfl
  d_check_answer := def_of X G c 9 9 rfl rfl rfl
  d_answer_by := def_of X G c 10 10 rfl rfl rfl
  d_count_of := def_of X G c 11 11 rfl rfl rfl
  d_together := def_of X G c 12 12 rfl rfl rfl
  d_is_square := def_of X G c 13 13 rfl rfl rfl
  d_told := def_of X G c 22 14 rfl rfl rfl
  d_less := def_of X G c 23 15 rfl rfl rfl
  d__law_cell_at := def_of X G c 24 16 rfl rfl rfl
  d__law_draw := def_of X G c 25 17 rfl rfl rfl
  d__law_value := def_of X G c 26 18 rfl rfl rfl
  d__law_root := def_of X G c 27 19 rfl rfl rfl
  d__law_is_square := def_of X G c 28 20 rfl rfl rfl
  d__law_numbers := def_of X G c 29 21 rfl rfl rfl
  d__law_parts := def_of X G c 30 22 rfl rfl rfl
  d__law_put := def_of X G c 31 23 rfl rfl rfl
  d__law_first := def_of X G c 32 24 rfl rfl rfl
  d__law_least := def_of X G c 33 25 rfl rfl rfl
  d__law_kinds := def_of X G c 34 26 rfl rfl rfl
  d__law_with_number := def_of X G c 35 27 rfl rfl rfl
  d__law_with_square := def_of X G c 36 28 rfl rfl rfl
  d__law_with_count := def_of X G c 37 29 rfl rfl rfl
  d__law_with_answer := def_of X G c 38 30 rfl rfl rfl
  d__law_told := def_of X G c 39 31 rfl rfl rfl
  d__law_answers_right := def_of X G c 40 32 rfl rfl rfl
  d_law := def_of X G c 41 33 rfl rfl rfl
  g_ApartError := ⟨_, He.glo_ok X G (c.fact 34 (f := .glo "ApartError") rfl), rfl⟩
  g_BadNumber := ⟨_, He.glo_ok X G (c.fact 35 (f := .glo "BadNumber") rfl), rfl⟩
  g_IsSquare := ⟨_, He.glo_ok X G (c.fact 36 (f := .glo "IsSquare") rfl), rfl⟩
  g_BadAnswer := ⟨_, He.glo_ok X G (c.fact 37 (f := .glo "BadAnswer") rfl), rfl⟩
  g_BadCount := ⟨_, He.glo_ok X G (c.fact 38 (f := .glo "BadCount") rfl), rfl⟩
  g_Answer := ⟨_, He.glo_ok X G (c.fact 39 (f := .glo "Answer") rfl), rfl⟩
  g_Square := ⟨_, He.glo_ok X G (c.fact 40 (f := .glo "Square") rfl), rfl⟩
  g_Least := ⟨_, He.glo_ok X G (c.fact 41 (f := .glo "Least") rfl), rfl⟩
  g_Other := ⟨_, He.glo_ok X G (c.fact 42 (f := .glo "Other") rfl), rfl⟩
  g_Barred := ⟨_, He.glo_ok X G (c.fact 43 (f := .glo "Barred") rfl), rfl⟩
  g_GREATEST := (He.int_ok X G (c.fact 44 (f := .int "GREATEST" 1000000) rfl)).elim fun t e => ⟨_, e, t, rfl⟩
  g_MOST := (He.int_ok X G (c.fact 45 (f := .int "MOST" 100) rfl)).elim fun t e => ⟨_, e, t, rfl⟩
  n_ValueError := He.free_ok X G (c.fact 46 (f := .free "ValueError") rfl)
  n_all := He.free_ok X G (c.fact 47 (f := .free "all") rfl)
  n_bool := He.free_ok X G (c.fact 48 (f := .free "bool") rfl)
  n_int := He.free_ok X G (c.fact 49 (f := .free "int") rfl)
  n_isinstance := He.free_ok X G (c.fact 50 (f := .free "isinstance") rfl)
  n_len := He.free_ok X G (c.fact 51 (f := .free "len") rfl)
  n_min := He.free_ok X G (c.fact 52 (f := .free "min") rfl)
  n_range := He.free_ok X G (c.fact 53 (f := .free "range") rfl)
  n_tuple := He.free_ok X G (c.fact 54 (f := .free "tuple") rfl)
  m_Square := mak_of X G c 14 55 40 rfl rfl rfl
  c_Square := He.cls_ok (c.fact 56 (f := .cls "Square") rfl)
  a_Square_root := He.noat_ok (c.fact 57 (f := .noat "Square" "root") rfl)
  i_Square := ins_of (ex_at e 0 rfl)
  t_Square_shows := met_of c 15 58 rfl rfl rfl
  m_Least := mak_of X G c 16 59 41 rfl rfl rfl
  c_Least := He.cls_ok (c.fact 60 (f := .cls "Least") rfl)
  a_Least_one := He.noat_ok (c.fact 61 (f := .noat "Least" "one") rfl)
  a_Least_other := He.noat_ok (c.fact 62 (f := .noat "Least" "other") rfl)
  i_Least := ins_of (ex_at e 1 rfl)
  t_Least_shows := met_of c 17 63 rfl rfl rfl
  m_Other := mak_of X G c 18 64 42 rfl rfl rfl
  c_Other := He.cls_ok (c.fact 65 (f := .cls "Other") rfl)
  a_Other_one := He.noat_ok (c.fact 66 (f := .noat "Other" "one") rfl)
  a_Other_other := He.noat_ok (c.fact 67 (f := .noat "Other" "other") rfl)
  i_Other := ins_of (ex_at e 2 rfl)
  t_Other_shows := met_of c 19 68 rfl rfl rfl
  m_Barred := mak_of X G c 20 69 43 rfl rfl rfl
  c_Barred := He.cls_ok (c.fact 70 (f := .cls "Barred") rfl)
  a_Barred_one := He.noat_ok (c.fact 71 (f := .noat "Barred" "one") rfl)
  a_Barred_other := He.noat_ok (c.fact 72 (f := .noat "Barred" "other") rfl)
  i_Barred := ins_of (ex_at e 3 rfl)
  t_Barred_shows := met_of c 21 73 rfl rfl rfl
  k_Square_Answer := of_decide_eq_true (ex_at e 4 rfl)
  k_Square_Square := of_decide_eq_true (ex_at e 5 rfl)
  k_Square_Least := of_decide_eq_true (ex_at e 6 rfl)
  k_Square_Other := of_decide_eq_true (ex_at e 7 rfl)
  k_Square_Barred := of_decide_eq_true (ex_at e 8 rfl)
  k_Least_Answer := of_decide_eq_true (ex_at e 9 rfl)
  k_Least_Square := of_decide_eq_true (ex_at e 10 rfl)
  k_Least_Least := of_decide_eq_true (ex_at e 11 rfl)
  k_Least_Other := of_decide_eq_true (ex_at e 12 rfl)
  k_Least_Barred := of_decide_eq_true (ex_at e 13 rfl)
  k_Other_Answer := of_decide_eq_true (ex_at e 14 rfl)
  k_Other_Square := of_decide_eq_true (ex_at e 15 rfl)
  k_Other_Least := of_decide_eq_true (ex_at e 16 rfl)
  k_Other_Other := of_decide_eq_true (ex_at e 17 rfl)
  k_Other_Barred := of_decide_eq_true (ex_at e 18 rfl)
  k_Barred_Answer := of_decide_eq_true (ex_at e 19 rfl)
  k_Barred_Square := of_decide_eq_true (ex_at e 20 rfl)
  k_Barred_Least := of_decide_eq_true (ex_at e 21 rfl)
  k_Barred_Other := of_decide_eq_true (ex_at e 22 rfl)
  k_Barred_Barred := of_decide_eq_true (ex_at e 23 rfl)
  x_BadNumber := exf_of (ex_at e 24 rfl)
  x_IsSquare := exf_of (ex_at e 25 rfl)
  x_BadAnswer := exf_of (ex_at e 26 rfl)
  x_BadCount := exf_of (ex_at e 27 rfl)
end
theorem run (w : World) : HandSHeadRun.RunEq (PySem.W.OpenLaw.row PySem.Challenge.rw_oneapart_k05_refused) (PySem.W.view (PySem.W.OpenLaw.row PySem.Challenge.rw_oneapart_k05_refused).prog [51]) hk ob 4000 ((["ApartError", "BadNumber", "IsSquare", "BadAnswer", "BadCount", "GREATEST", "is_whole", "check_number", "root_of", "check_root", "parts_of", "chain", "least_of", "put", "answer_of", "MOST", "check_answer", "answer_by", "count_of", "together", "Answer", "is_square", "Square", "Least", "Other", "Barred", "told", "less", "_law_cell_at", "_law_draw"] : List PySem.Str) ++ (["_law_value", "_law_root", "_law_is_square", "_law_numbers", "_law_parts", "_law_put", "_law_first", "_law_least", "_law_kinds", "_law_with_number", "_law_with_square", "_law_with_count", "_law_with_answer", "_law_told", "_law_answers_right"] : List PySem.Str)) w := by
  intro os
  kernel_rfl
end OA
open PySem PySem.W PySem.Calls PyProof.Rows
theorem PySem.Challenge.cw_oneapart_k05_refused_holds : PySem.Challenge.rw_oneapart_k05_refused.Holds := by
  w_on; o_law
  refine HandSHeadRun.head_any (r := OpenLaw.row PySem.Challenge.rw_oneapart_k05_refused) (q := view (OpenLaw.row PySem.Challenge.rw_oneapart_k05_refused).prog [51]) (H := OA.hk) (ob := OA.ob) (M := 4000) (loose := (["ApartError", "BadNumber", "IsSquare", "BadAnswer", "BadCount", "GREATEST", "is_whole", "check_number", "root_of", "check_root", "parts_of", "chain", "least_of", "put", "answer_of", "MOST", "check_answer", "answer_by", "count_of", "together", "Answer", "is_square", "Square", "Least", "Other", "Barred", "told", "less", "_law_cell_at", "_law_draw"] : List PySem.Str) ++ (["_law_value", "_law_root", "_law_is_square", "_law_numbers", "_law_parts", "_law_put", "_law_first", "_law_least", "_law_kinds", "_law_with_number", "_law_with_square", "_law_with_count", "_law_with_answer", "_law_told", "_law_answers_right"] : List PySem.Str)) (d := HandSHeadRun.topDef (OpenLaw.row PySem.Challenge.rw_oneapart_k05_refused).prog 51) (kwd := []) OA.ob_eq
    (by kernel_rfl) (fun s => by kernel_rfl) OA.run (by kernel_rfl) (by kernel_rfl) (by kernel_rfl) (by rfl) (by first | assumption | decide +kernel) (by decide +kernel) ⟨rfl, rfl, rfl, rfl, rfl, by decide +kernel⟩ ?hw ?hc
  case hw => w_witness2
  case hc =>
    refine LamX.walk_ofTsE (l := PySem.Challenge.rw_oneapart_k05_refused) (n := 63) (k := 9) (x := "_law_script") (CX := fun _ => C8.CX0) rfl (by decide) (by kernel_rfl) ⟨rfl, by decide, by decide⟩ ?F (fun _ _ _ _ _ z => z)
    intro w mg fa h Y G hmg0
    obtain ⟨K, KX, c, e⟩ := Y
    have hmg : mg ("law" : PySem.Str) = some (.ref fa) := by
      have e : (HandSHeadRun.topDef (OpenLaw.row PySem.Challenge.rw_oneapart_k05_refused).prog 51).name = ("law" : PySem.Str) := by kernel_rfl
      rw [← e]
      exact hmg0
    have T := OA.txt_of KX G c e
    obtain ⟨f, fd, F, df⟩ := T.d_law
    have ef := hmg.symm.trans F.mgf
    cases ef
    refine ⟨K, KX, fd, [], OA.spLaw K, (fun _ z => nomatch z), (fun _ z => nomatch z), (fun _ z => nomatch z), ?_, ?_, ?_⟩
    · intro s u
      obtain ⟨oc, od, dV, kV, doc, pm, an, cdv, ct, osl, e1, lk, cd⟩ := F.fn.ex
      have e2 : dV = .none := by
        rw [e1] at df
        exact df
      rw [e1, e2]
      exact BindsTo.of_eq rfl
    · intro H a ns hl hb _ hS
      exact ⟨a, ns, rfl, hS, hl, fun z hz => OA.bt_bits (hb z hz), fun _ => rfl⟩
    · intro base hK hG _
      exact OA.ok_law T F.fn
