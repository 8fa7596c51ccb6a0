import PyProof.Rows.All
import Wide.All
import OpenK.AllK
import Wide.FinOn
import PySem.Challenge.RW_og0066_01
open PySem PySem.W PyProof.Rows
set_option Elab.async false
set_option compiler.extract_closed false
namespace Mine
set_option maxRecDepth 100000 in
set_option maxHeartbeats 0 in
open_top hd for PySem.Challenge.rw_og0066_01
end Mine
section
set_option maxRecDepth 100000
namespace Mine
open PySem PyProof.Rows
open PySem.Builtin.Int (intBits)

theorem natAbs_cast_of_nonneg {a : Int} (h : 0 ≤ a) : (a.natAbs : Int) = a := Int.natAbs_of_nonneg h

/-- what the text's `-(abs(top) // abs(bottom))` and `abs(top) // abs(bottom)` make -/
theorem tdiv_neg_way {x y : Int} (h : (decide (x < 0) != decide (y < 0)) = true) :
    -(Int.fdiv (if x < 0 then -x else x) (if y < 0 then -y else y)) = Int.tdiv x y := by
  have nn : ∀ a b : Int, 0 ≤ a → 0 ≤ b → Int.fdiv a b = Int.tdiv a b := fun a b ha hb => by
    rw [Int.fdiv_eq_ediv_of_nonneg a hb, Int.tdiv_eq_ediv_of_nonneg ha]
  by_cases hx : x < 0
  · by_cases hy : y < 0
    · simp [hx, hy] at h
    · rw [if_pos hx, if_neg hy, nn _ _ (by omega) (by omega), Int.neg_tdiv, Int.neg_neg]
  · by_cases hy : y < 0
    · rw [if_neg hx, if_pos hy, nn _ _ (by omega) (by omega), Int.tdiv_neg, Int.neg_neg]
    · simp [hx, hy] at h
theorem tdiv_pos_way {x y : Int} (h : (decide (x < 0) != decide (y < 0)) = false) :
    Int.fdiv (if x < 0 then -x else x) (if y < 0 then -y else y) = Int.tdiv x y := by
  have nn : ∀ a b : Int, 0 ≤ a → 0 ≤ b → Int.fdiv a b = Int.tdiv a b := fun a b ha hb => by
    rw [Int.fdiv_eq_ediv_of_nonneg a hb, Int.tdiv_eq_ediv_of_nonneg ha]
  by_cases hx : x < 0
  · by_cases hy : y < 0
    · rw [if_pos hx, if_pos hy, nn _ _ (by omega) (by omega), Int.neg_tdiv, Int.tdiv_neg, Int.neg_neg]
    · simp [hx, hy] at h
  · by_cases hy : y < 0
    · simp [hx, hy] at h
    · rw [if_neg hx, if_neg hy, nn _ _ (by omega) (by omega)]

theorem log2_of_bits {a : Int} {m n : Nat} (h : intBits a ≤ m) (hm : m ≤ n) (hn : 0 < n) : a.natAbs.log2 < n := by
  rcases Nat.eq_zero_or_pos a.natAbs with h0 | hp
  · rw [h0]; simpa using hn
  · exact (Nat.log2_lt (Nat.ne_of_gt hp)).mpr (lt_pow_of_bits h hm)
theorem abs_ne {y : Int} (h : y ≠ 0) : (if y < 0 then -y else y) ≠ 0 := by split <;> omega
theorem bits_abs {y : Int} {n : Nat} (h : intBits y ≤ n) : intBits (if y < 0 then -y else y) ≤ n := by
  split
  · exact bits_neg h
  · exact h
theorem bits_tdiv {x y : Int} {n : Nat} (h : intBits x ≤ n) : intBits (Int.tdiv x y) ≤ n := by
  refine bits_of_natAbs_le ?_ h
  rw [Int.natAbs_tdiv]
  exact Nat.div_le_self _ _


/-- what decimal(u, s) hands back: the same worth, places between 0 and max s 0 -/
structure Dec (u s u' s' : Int) : Prop where
  lo : 0 ≤ s'
  hi : s' ≤ max s 0
  eq : u' * 10 ^ (max s 0 - s').toNat = u * 10 ^ (max (-s) 0).toNat
theorem Dec.neg {u s : Int} (h : s < 0) : Dec u s (u * 10 ^ (-s).toNat) 0 where
  lo := Int.le_refl _
  hi := by omega
  eq := by
    rw [show max s 0 - 0 = 0 by omega, show max (-s) 0 = -s by omega]
    simp
theorem Dec.pos {u s u' s' : Int} (h : ¬ s < 0) (h0 : 0 ≤ s') (h1 : s' ≤ s) (e : u' * 10 ^ (s - s').toNat = u) : Dec u s u' s' where
  lo := h0
  hi := by omega
  eq := by
    rw [show max s 0 - s' = s - s' by omega, show max (-s) 0 = 0 by omega, e]
    simp
/-- one turn of decimal's loop -/
theorem Dec.turn {u s v k : Int} (hk : k > 0) (hks : k ≤ s) (e : v * 10 ^ (s - k).toNat = u) (hv : Int.fmod v 10 = 0) :
    (Int.fdiv v 10) * 10 ^ (s - (k - 1)).toNat = u := by
  have f := fdiv_fmod_facts v 10
  have f1 := f.1
  rw [show (s - (k - 1)).toNat = (s - k).toNat + 1 by omega, Int.pow_succ, Int.mul_comm (10 ^ (s - k).toNat) 10, ← Int.mul_assoc, show Int.fdiv v 10 * 10 = v by omega]
  exact e
theorem bits_pow10 {n : Int} (h : n ≤ 400) : intBits ((10 : Int) ^ n.toNat) ≤ 1601 := by
  refine Nat.le_trans (intBits_pow_le (m := 4) (intBits_le_iff.mpr (by decide)) n.toNat) ?_
  omega
theorem bits_pow10a {n : Int} (h : n ≤ 20) : intBits ((10 : Int) ^ n.toNat) ≤ 81 := by
  refine Nat.le_trans (intBits_pow_le (m := 4) (intBits_le_iff.mpr (by decide)) n.toNat) ?_
  omega
theorem bits_pow10b {n : Int} (h : n ≤ 60) : intBits ((10 : Int) ^ n.toNat) ≤ 241 := by
  refine Nat.le_trans (intBits_pow_le (m := 4) (intBits_le_iff.mpr (by decide)) n.toNat) ?_
  omega
theorem pow10_pos (n : Nat) : (0 : Int) < 10 ^ n := Int.pow_pos (by decide)
theorem Dec.bits {u s u' s' : Int} (D : Dec u s u' s') {n : Nat} (h : intBits u ≤ n) (hs : -400 ≤ s) : intBits u' ≤ n + 1601 := by
  have h1 : intBits (u' * 10 ^ (max s 0 - s').toNat) ≤ n + 1601 := by
    rw [D.eq]
    exact bits_mul h (bits_pow10 (by omega))
  refine bits_of_natAbs_le ?_ h1
  rw [Int.natAbs_mul]
  refine Nat.le_mul_of_pos_right _ ?_
  have := pow10_pos (max s 0 - s').toNat
  omega
theorem Dec.bits_pos {u s u' s' : Int} (D : Dec u s u' s') {n : Nat} (h : intBits u ≤ n) (hs : 0 ≤ s) : intBits u' ≤ n := by
  have h1 : intBits (u' * 10 ^ (max s 0 - s').toNat) ≤ n := by
    rw [D.eq, show max (-s) 0 = 0 by omega]
    simpa using h
  refine bits_of_natAbs_le ?_ h1
  rw [Int.natAbs_mul]
  refine Nat.le_mul_of_pos_right _ ?_
  have := pow10_pos (max s 0 - s').toNat
  omega
theorem pow10_ne (n : Nat) : (10 : Int) ^ n ≠ 0 := Int.ne_of_gt (pow10_pos n)
/-- how many units of a scale a decimal has, cut toward 0 -/
def unitsAt (u k g : Int) : Int := if k ≤ g then u * 10 ^ (g - k).toNat else Int.tdiv u (10 ^ (k - g).toNat)
theorem unitsAt_ge {u k g : Int} (h : g ≥ k) : u * 10 ^ (g - k).toNat = unitsAt u k g := by
  unfold unitsAt
  rw [if_pos h]
theorem unitsAt_lt {u k g : Int} (h : ¬ g ≥ k) : Int.tdiv u (10 ^ (k - g).toNat) = unitsAt u k g := by
  unfold unitsAt
  rw [if_neg h]
/-- the law's quotient of two magnitudes, cut or rounded half up -/
def lcN (n d : Nat) (r : Bool) : Nat := if r = true ∧ d ≤ 2 * (n - n / d * d) then n / d + 1 else n / d
def lc (x y : Int) (r : Bool) : Int := if (decide (x < 0) != decide (y < 0)) = true then -(lcN x.natAbs y.natAbs r : Nat) else (lcN x.natAbs y.natAbs r : Nat)
theorem ite_abs (x : Int) : (if x < 0 then -x else x) = (x.natAbs : Int) := by split <;> omega
theorem fdiv_abs (x y : Int) : Int.fdiv (if x < 0 then -x else x) (if y < 0 then -y else y) = ((x.natAbs / y.natAbs : Nat) : Int) := by
  rw [ite_abs, ite_abs, Int.fdiv_eq_ediv_of_nonneg _ (Int.natCast_nonneg _)]
  rfl
theorem lcN_up {n d : Nat} (h : d ≤ 2 * (n - n / d * d)) : lcN n d true = n / d + 1 := if_pos ⟨rfl, h⟩
theorem lcN_dn {n d : Nat} {r : Bool} (h : r = true → ¬ d ≤ 2 * (n - n / d * d)) : lcN n d r = n / d := if_neg fun q => h q.1 q.2
theorem half_iff (x y : Int) : 2 * ((if x < 0 then -x else x) - Int.fdiv (if x < 0 then -x else x) (if y < 0 then -y else y) * (if y < 0 then -y else y)) ≥ (if y < 0 then -y else y) ↔
    y.natAbs ≤ 2 * (x.natAbs - x.natAbs / y.natAbs * y.natAbs) := by
  rw [fdiv_abs, ite_abs, ite_abs]
  have h := Nat.div_mul_le_self x.natAbs y.natAbs
  rw [← Int.natCast_mul]
  generalize x.natAbs / y.natAbs * y.natAbs = z at h
  omega
theorem lc_cases {x y v : Int} {r : Bool} (hm : v = (lcN x.natAbs y.natAbs r : Nat)) :
    ((decide (x < 0) != decide (y < 0)) = true → -v = lc x y r) ∧ ((decide (x < 0) != decide (y < 0)) = false → v = lc x y r) := by
  subst hm
  unfold lc
  constructor
  · intro h; rw [if_pos h]
  · intro h; rw [if_neg (by rw [h]; exact Bool.false_ne_true)]
theorem lc_up {x y : Int} (h : 2 * ((if x < 0 then -x else x) - Int.fdiv (if x < 0 then -x else x) (if y < 0 then -y else y) * (if y < 0 then -y else y)) ≥ (if y < 0 then -y else y)) :
    Int.fdiv (if x < 0 then -x else x) (if y < 0 then -y else y) + 1 = (lcN x.natAbs y.natAbs true : Nat) := by
  rw [lcN_up ((half_iff x y).mp h), fdiv_abs]
  rfl
theorem lc_dn {x y : Int} {r : Bool} (h : r = true → ¬ 2 * ((if x < 0 then -x else x) - Int.fdiv (if x < 0 then -x else x) (if y < 0 then -y else y) * (if y < 0 then -y else y)) ≥ (if y < 0 then -y else y)) :
    Int.fdiv (if x < 0 then -x else x) (if y < 0 then -y else y) = (lcN x.natAbs y.natAbs r : Nat) := by
  rw [lcN_dn fun hr => mt (half_iff x y).mpr (h hr), fdiv_abs]
theorem bits_lc {x y : Int} {r : Bool} {m : Nat} (h : intBits x ≤ m) : intBits (lc x y r) ≤ m + 1 := by
  have h1 : lcN x.natAbs y.natAbs r ≤ x.natAbs + 1 := by
    unfold lcN
    have := Nat.div_le_self x.natAbs y.natAbs
    split <;> omega
  have h2 : (lc x y r).natAbs ≤ x.natAbs + 1 := by
    unfold lc
    split <;> omega
  refine intBits_le_iff.mpr ?_
  have h3 := lt_pow_of_bits h (Nat.le_refl m)
  rw [Nat.pow_succ]
  have := Nat.two_pow_pos m
  omega
/-- what _law_kept answers -/
def kept (u k n g : Int) (b r : Bool) : Option Int :=
  if 10 ^ n.toNat ≤ ((lc (u * 10 ^ (max 0 g).toNat) (10 ^ (k + max 0 (-g)).toNat) r).natAbs : Int) then none
  else some (if b = true then lc (u * 10 ^ (max 0 g).toNat) (10 ^ (k + max 0 (-g)).toNat) r else ((lc (u * 10 ^ (max 0 g).toNat) (10 ^ (k + max 0 (-g)).toNat) r).natAbs : Int))
/-- what _law_due answers -/
def due (t0 t1 b0 b1 n g : Int) (sg : Bool) (rn rg : Int) (rs r : Bool) : Option Int × Option Int :=
  if b0 = 0 then (none, none)
  else if 10 ^ n.toNat ≤ ((lc (t0 * 10 ^ b1.toNat * 10 ^ (max 0 g).toNat) (b0 * 10 ^ t1.toNat * 10 ^ (max 0 (-g)).toNat) r).natAbs : Int) then (none, none)
  else (some (if sg = true then lc (t0 * 10 ^ b1.toNat * 10 ^ (max 0 g).toNat) (b0 * 10 ^ t1.toNat * 10 ^ (max 0 (-g)).toNat) r else ((lc (t0 * 10 ^ b1.toNat * 10 ^ (max 0 g).toNat) (b0 * 10 ^ t1.toNat * 10 ^ (max 0 (-g)).toNat) r).natAbs : Int)),
    kept (t0 * 10 ^ (max 0 g + b1).toNat - lc (t0 * 10 ^ b1.toNat * 10 ^ (max 0 g).toNat) (b0 * 10 ^ t1.toNat * 10 ^ (max 0 (-g)).toNat) false * 10 ^ (max 0 (-g)).toNat * b0 * 10 ^ t1.toNat) (t1 + max 0 g + b1) rn rg rs false)
theorem fmod_lo0 (a : Int) {b : Int} (h : 0 < b) : 0 ≤ a.fmod b := ((fdiv_fmod_facts a b).2.2.1 h).1
theorem fmod_hi0 (a : Int) {b : Int} (h : 0 < b) : a.fmod b < b := ((fdiv_fmod_facts a b).2.2.1 h).2
theorem mx (a b : Int) : (if b > a then b else a) = max a b := by split <;> omega
theorem kept_none {u k n g : Int} {b r : Bool} (h : (if lc (u * 10 ^ (if g > 0 then g else 0).toNat) (10 ^ (k + if -g > 0 then -g else 0).toNat) r < 0 then -lc (u * 10 ^ (if g > 0 then g else 0).toNat) (10 ^ (k + if -g > 0 then -g else 0).toNat) r else lc (u * 10 ^ (if g > 0 then g else 0).toNat) (10 ^ (k + if -g > 0 then -g else 0).toNat) r) ≥ 10 ^ n.toNat) : kept u k n g b r = none := by
  rw [mx, mx, ite_abs] at h
  exact if_pos h
theorem kept_true {u k n g : Int} {r : Bool} (h : ¬ (if lc (u * 10 ^ (if g > 0 then g else 0).toNat) (10 ^ (k + if -g > 0 then -g else 0).toNat) r < 0 then -lc (u * 10 ^ (if g > 0 then g else 0).toNat) (10 ^ (k + if -g > 0 then -g else 0).toNat) r else lc (u * 10 ^ (if g > 0 then g else 0).toNat) (10 ^ (k + if -g > 0 then -g else 0).toNat) r) ≥ 10 ^ n.toNat) : kept u k n g true r = some (lc (u * 10 ^ (if g > 0 then g else 0).toNat) (10 ^ (k + if -g > 0 then -g else 0).toNat) r) := by
  rw [mx, mx, ite_abs] at h
  rw [mx, mx]
  exact (if_neg h).trans rfl
theorem kept_false {u k n g : Int} {r : Bool} (h : ¬ (if lc (u * 10 ^ (if g > 0 then g else 0).toNat) (10 ^ (k + if -g > 0 then -g else 0).toNat) r < 0 then -lc (u * 10 ^ (if g > 0 then g else 0).toNat) (10 ^ (k + if -g > 0 then -g else 0).toNat) r else lc (u * 10 ^ (if g > 0 then g else 0).toNat) (10 ^ (k + if -g > 0 then -g else 0).toNat) r) ≥ 10 ^ n.toNat) : kept u k n g false r = some (if lc (u * 10 ^ (if g > 0 then g else 0).toNat) (10 ^ (k + if -g > 0 then -g else 0).toNat) r < 0 then -lc (u * 10 ^ (if g > 0 then g else 0).toNat) (10 ^ (k + if -g > 0 then -g else 0).toNat) r else lc (u * 10 ^ (if g > 0 then g else 0).toNat) (10 ^ (k + if -g > 0 then -g else 0).toNat) r) := by
  rw [mx, mx, ite_abs] at h
  rw [mx, mx, ite_abs]
  exact (if_neg h).trans rfl
theorem due0 {t0 t1 b0 b1 n g rn rg : Int} {sg rs r : Bool} (h : b0 = 0) : due t0 t1 b0 b1 n g sg rn rg rs r = (none, none) := if_pos h
theorem due1 {t0 t1 b0 b1 n g rn rg : Int} {sg rs r : Bool} (h : b0 ≠ 0) (hg : (if lc (t0 * 10 ^ b1.toNat * 10 ^ (if g > 0 then g else 0).toNat) (b0 * 10 ^ t1.toNat * 10 ^ (if -g > 0 then -g else 0).toNat) r < 0 then -lc (t0 * 10 ^ b1.toNat * 10 ^ (if g > 0 then g else 0).toNat) (b0 * 10 ^ t1.toNat * 10 ^ (if -g > 0 then -g else 0).toNat) r else lc (t0 * 10 ^ b1.toNat * 10 ^ (if g > 0 then g else 0).toNat) (b0 * 10 ^ t1.toNat * 10 ^ (if -g > 0 then -g else 0).toNat) r) ≥ 10 ^ n.toNat) : due t0 t1 b0 b1 n g sg rn rg rs r = (none, none) := by
  rw [mx, mx, ite_abs] at hg
  exact (if_neg h).trans (if_pos hg)
theorem due2t {t0 t1 b0 b1 n g rn rg : Int} {rs r : Bool} {o : Option Int} (h : b0 ≠ 0) (hg : ¬ (if lc (t0 * 10 ^ b1.toNat * 10 ^ (if g > 0 then g else 0).toNat) (b0 * 10 ^ t1.toNat * 10 ^ (if -g > 0 then -g else 0).toNat) r < 0 then -lc (t0 * 10 ^ b1.toNat * 10 ^ (if g > 0 then g else 0).toNat) (b0 * 10 ^ t1.toNat * 10 ^ (if -g > 0 then -g else 0).toNat) r else lc (t0 * 10 ^ b1.toNat * 10 ^ (if g > 0 then g else 0).toNat) (b0 * 10 ^ t1.toNat * 10 ^ (if -g > 0 then -g else 0).toNat) r) ≥ 10 ^ n.toNat) (hk : kept (t0 * 10 ^ ((if g > 0 then g else 0) + b1).toNat - lc (t0 * 10 ^ b1.toNat * 10 ^ (if g > 0 then g else 0).toNat) (b0 * 10 ^ t1.toNat * 10 ^ (if -g > 0 then -g else 0).toNat) false * 10 ^ (if -g > 0 then -g else 0).toNat * b0 * 10 ^ t1.toNat) (t1 + (if g > 0 then g else 0) + b1) rn rg rs false = o) : due t0 t1 b0 b1 n g true rn rg rs r = (some (lc (t0 * 10 ^ b1.toNat * 10 ^ (if g > 0 then g else 0).toNat) (b0 * 10 ^ t1.toNat * 10 ^ (if -g > 0 then -g else 0).toNat) r), o) := by
  rw [mx, mx, ite_abs] at hg
  rw [mx, mx] at hk ⊢
  rw [← hk]
  exact (if_neg h).trans ((if_neg hg).trans rfl)
theorem due2f {t0 t1 b0 b1 n g rn rg : Int} {rs r : Bool} {o : Option Int} (h : b0 ≠ 0) (hg : ¬ (if lc (t0 * 10 ^ b1.toNat * 10 ^ (if g > 0 then g else 0).toNat) (b0 * 10 ^ t1.toNat * 10 ^ (if -g > 0 then -g else 0).toNat) r < 0 then -lc (t0 * 10 ^ b1.toNat * 10 ^ (if g > 0 then g else 0).toNat) (b0 * 10 ^ t1.toNat * 10 ^ (if -g > 0 then -g else 0).toNat) r else lc (t0 * 10 ^ b1.toNat * 10 ^ (if g > 0 then g else 0).toNat) (b0 * 10 ^ t1.toNat * 10 ^ (if -g > 0 then -g else 0).toNat) r) ≥ 10 ^ n.toNat) (hk : kept (t0 * 10 ^ ((if g > 0 then g else 0) + b1).toNat - lc (t0 * 10 ^ b1.toNat * 10 ^ (if g > 0 then g else 0).toNat) (b0 * 10 ^ t1.toNat * 10 ^ (if -g > 0 then -g else 0).toNat) false * 10 ^ (if -g > 0 then -g else 0).toNat * b0 * 10 ^ t1.toNat) (t1 + (if g > 0 then g else 0) + b1) rn rg rs false = o) : due t0 t1 b0 b1 n g false rn rg rs r = (some (if lc (t0 * 10 ^ b1.toNat * 10 ^ (if g > 0 then g else 0).toNat) (b0 * 10 ^ t1.toNat * 10 ^ (if -g > 0 then -g else 0).toNat) r < 0 then -lc (t0 * 10 ^ b1.toNat * 10 ^ (if g > 0 then g else 0).toNat) (b0 * 10 ^ t1.toNat * 10 ^ (if -g > 0 then -g else 0).toNat) r else lc (t0 * 10 ^ b1.toNat * 10 ^ (if g > 0 then g else 0).toNat) (b0 * 10 ^ t1.toNat * 10 ^ (if -g > 0 then -g else 0).toNat) r), o) := by
  rw [mx, mx, ite_abs] at hg
  rw [mx, mx] at hk ⊢
  rw [ite_abs, ← hk]
  exact (if_neg h).trans ((if_neg hg).trans rfl)
open PySem.W in
theorem allLt_mem {d : Addr} : ∀ {l : List (Addr × Obj)}, AllLt d l → ∀ p ∈ l, p.1 < d
  | [], _ => fun _ h => nomatch h
  | _ :: _, h => fun _ hp => by
    rcases List.mem_cons.mp hp with rfl | hp
    · exact h.1
    · exact allLt_mem h.2 _ hp
theorem news_sub {h₀ h : Heap} {L : Addr} {news news' : List (Addr × Obj)} (N : News h₀ L h news') (hs : ∀ p ∈ news, p ∈ news') : News h₀ L h news := fun p hp => N p (hs p hp)
theorem sub_skip {q : Addr × Obj} {l l' : List (Addr × Obj)} (h : ∀ p ∈ l, p ∈ l') : ∀ p ∈ l, p ∈ q :: l' := fun p hp => .tail _ (h p hp)
theorem sub_keep {q : Addr × Obj} {l l' : List (Addr × Obj)} (h : ∀ p ∈ l, p ∈ l') : ∀ p ∈ q :: l, p ∈ q :: l' := fun p hp => by
  rcases List.mem_cons.mp hp with rfl | hp
  · exact .head _
  · exact .tail _ (h p hp)
theorem sub_refl {l : List (Addr × Obj)} : ∀ p ∈ l, p ∈ l := fun _ h => h
open PySem.W in
theorem fdiv_W {prog : Program} {w : World} {A : Around} {E : Value → Shared → Prop} {s : Shared} {a b : Int} {t u : Tok} {n : Nat} {Q : Value → Shared → Prop} (hb : b ≠ 0) (hs : intBits b ≤ n) (hn : n ≤ 9000)
    (h : Q (.int (a.fdiv b) s.toks) { s with toks := s.toks + 1 }) : wpAny (model prog w) A (binaryOp .FloorDiv (.int a t) (.int b u)) Q E s :=
  floordiv_int hb h (Or.inl (PyProof.noPylong_of_log2 (log2_of_bits hs hn (by decide))))
theorem ne_all {d : Addr} {l : List (Addr × Obj)} (h : ∀ p ∈ l, p.1 < d) : ∀ p ∈ l, p.1 ≠ d := fun p hp => Nat.ne_of_lt (h p hp)
section
open PySem.W
theorem callAt {M : Model} {A : Around} {Q E : Value → Shared → Prop} {s : Shared} {f : Addr} {args : List Value} (n : Addr) (h : f = n) (k : wpAny M A (call (.ref n) args) Q E s) : wpAny M A (call (.ref f) args) Q E s := h ▸ k
end
section
open PySem.W PyProof.Rows PySem
def TupAt (base : Heap) (news : List (Addr × Obj)) (S : Addr) (xs : Array Value) : Prop :=
  IsTup base S xs ∨ ∃ c : Nat, (S, ({ cls := .type "tuple", data := .seq xs c } : Obj)) ∈ news
theorem TupAt.base {base : Heap} {news : List (Addr × Obj)} {S : Addr} {xs : Array Value} (h : IsTup base S xs) : TupAt base news S xs := .inl h
theorem TupAt.mem {base : Heap} {news : List (Addr × Obj)} {S : Addr} {xs : Array Value} {c : Nat} (h : (S, ({ cls := .type "tuple", data := .seq xs c } : Obj)) ∈ news) : TupAt base news S xs := .inr ⟨c, h⟩
theorem TupAt.mono {base : Heap} {news news' : List (Addr × Obj)} {S : Addr} {xs : Array Value} (h : TupAt base news S xs) (hs : ∀ p ∈ news, p ∈ news') : TupAt base news' S xs :=
  h.elim .inl fun ⟨c, hc⟩ => .inr ⟨c, hs _ hc⟩
theorem TupAt.get {A : Around} {outer : List Env} {base h₀ h : Heap} {L : Addr} {m : Str → Option Value} {news news' : List (Addr × Obj)} {S : Addr} {xs : Array Value} (F : Fr h₀ L h m) (N : News h₀ L h news') (B : Below A base outer h₀) (T : TupAt base news S xs) (hs : ∀ p ∈ news, p ∈ news') : IsTup h S xs :=
  T.elim (fun t => F.tup (t.keeps B.stays)) fun ⟨_, hc⟩ => N.isTup (hs _ hc)
end
section
open PySem.W PySem
theorem letAQE {α : Type} {M : Model} {A : Around} {x : Sem α} {Q : α → Shared → Prop} {E : Value → Shared → Prop} {s : Shared} (h : let A' := A; let Q' := Q; let E' := E; wpAny M A' x Q' E' s) : wpAny M A x Q E s := h
theorem letQE {α : Type} {M : Model} {A : Around} {x : Sem α} {Q : α → Shared → Prop} {E : Value → Shared → Prop} {s : Shared} (h : let Q' := Q; let E' := E; wpAny M A x Q' E' s) : wpAny M A x Q E s := h
end
section
open PySem.W PySem PyProof.Rows
variable {M : Model} {A : Around} {E : Value → Shared → Prop} {s : Shared} {h₀ : Heap} {L a : Addr} {m : Str → Option Value} {news : List (Addr × Obj)} {x : Str} {v : Value} {cn : Str} {cs : Scope} {ccd : Value} {cl : List (Str × Addr)} {Q : Unit → Shared → Prop}
theorem storeX_M (F : Fr h₀ L s.heap m) (N : News h₀ L s.heap news)
    (h : let m' := (fun y => if y = x then some v else m y); ∀ h', Fr h₀ L h' m' → News h₀ L h' news → Q () { s with heap := h', toks := s.toks + 1 })
    (hk : cs.kind = .function := by rfl) (hx : (envX cn cs L a ccd cl).kindOf x = some .local := by rfl) : wpAny M A (storeName (envX cn cs L a ccd cl) x v) Q E s :=
  storeX_L F N h hk hx
theorem letFr {h : Heap} {P : Prop} (F : Fr h₀ L h m) (k : let m' := m; Fr h₀ L h m' → P) : P := k F
end
theorem and_r {p q r : Prop} (k : q → r) : p ∧ q → r := fun h => k h.2
theorem gt_pick {a b x : Nat} {p : Prop} (h : x < a ∧ p) (k : x < a ∧ p → b < a) : a ≠ b := Nat.ne_of_gt (k h)
theorem lt_pick {a b x : Nat} {p : Prop} (h : x < b ∧ p) (k : x < b ∧ p → a < b) : a ≠ b := Nat.ne_of_lt (k h)
def Boxed (P : Prop) : Prop := P
theorem Boxed.out {P : Prop} (h : Boxed P) : P := h
theorem Boxed.eq {P : Prop} (h : P) : Boxed P = True := eq_true h
end Mine

end
section
set_option maxRecDepth 100000
namespace Mine
open PySem PyProof.Rows
open PySem.Builtin.Int (intBits)
theorem p10 {a b : Int} (ha : 0 ≤ a) (hb : 0 ≤ b) : (10 : Int) ^ (a + b).toNat = 10 ^ a.toNat * 10 ^ b.toNat := by
  rw [Int.toNat_add ha hb, Int.pow_add]
theorem lcN_scale {n d k : Nat} {r : Bool} (hk : 0 < k) : lcN (n * k) (d * k) r = lcN n d r := by
  unfold lcN
  rw [Nat.mul_div_mul_right _ _ hk]
  have e : n * k - n / d * (d * k) = (n - n / d * d) * k := by
    rw [Nat.sub_mul, Nat.mul_assoc]
  rw [e, show 2 * ((n - n / d * d) * k) = (2 * (n - n / d * d)) * k by rw [Nat.mul_assoc]]
  have : (d * k ≤ 2 * (n - n / d * d) * k) ↔ d ≤ 2 * (n - n / d * d) := ⟨fun h => Nat.le_of_mul_le_mul_right h hk, fun h => Nat.mul_le_mul_right k h⟩
  simp only [this]
theorem neg_mul_pos {x k : Int} (hk : 0 < k) : (x * k < 0) ↔ x < 0 := by
  constructor
  · intro h
    apply Int.not_le.mp
    intro h0
    have := Int.mul_nonneg h0 (Int.le_of_lt hk)
    omega
  · intro h
    exact Int.mul_neg_of_neg_of_pos h hk
theorem lc_scale {x y k : Int} {r : Bool} (hk : 0 < k) : lc (x * k) (y * k) r = lc x y r := by
  unfold lc
  simp only [neg_mul_pos hk, Int.natAbs_mul]
  rw [lcN_scale (by omega)]
theorem lcN_div {n d m : Nat} {r : Bool} (hd : 0 < d) (hm : 0 < m) : lcN (n / d) (2 * m) r = lcN n (d * (2 * m)) r := by
  unfold lcN
  rw [Nat.div_div_eq_div_mul]
  have e1 : n / d - n / (d * (2 * m)) * (2 * m) = n / d % (2 * m) := by
    have := Nat.div_add_mod (n / d) (2 * m)
    rw [Nat.div_div_eq_div_mul] at this
    rw [Nat.mul_comm] at this
    omega
  have e2 : n - n / (d * (2 * m)) * (d * (2 * m)) = n % (d * (2 * m)) := by
    have := Nat.div_add_mod n (d * (2 * m))
    rw [Nat.mul_comm] at this
    omega
  rw [e1, e2, Nat.mod_mul (x := n) (a := d) (b := 2 * m)]
  have hlt := Nat.mod_lt n hd
  generalize n / d % (2 * m) = a
  generalize n % d = b at hlt
  have : (2 * m ≤ 2 * a) ↔ d * (2 * m) ≤ 2 * (b + d * a) := by
    constructor
    · intro h
      have h' : m ≤ a := by omega
      have := Nat.mul_le_mul_left d h'
      rw [Nat.mul_left_comm d 2 m]
      omega
    · intro h
      apply Nat.not_lt.mp
      intro h'
      have h'' : a + 1 ≤ m := by omega
      have := Nat.mul_le_mul_left d h''
      rw [Nat.mul_add, Nat.mul_one] at this
      rw [Nat.mul_left_comm d 2 m] at h
      omega
  simp only [this]
theorem lcN_zero {d : Nat} {r : Bool} (hd : 0 < d) : lcN 0 d r = 0 := by
  unfold lcN
  rw [if_neg (by intro h; have := h.2; simp at this; omega)]
  exact Nat.zero_div d
theorem tdiv_neg_iff {N D : Int} (h : Int.tdiv N D ≠ 0) : (decide (Int.tdiv N D < 0)) = (decide (N < 0) != decide (D < 0)) := by
  have hD : D ≠ 0 := by rintro rfl; simp at h
  by_cases hN : N < 0
  · by_cases hd : D < 0
    · have := Int.tdiv_nonneg_of_nonpos_of_nonpos (Int.le_of_lt hN) (Int.le_of_lt hd)
      simp [hN, hd]; exact this
    · have h2 : 0 ≤ Int.tdiv (-N) D := Int.tdiv_nonneg (by omega) (by omega)
      rw [Int.neg_tdiv] at h2
      simp [hN, hd]; omega
  · by_cases hd : D < 0
    · have h2 : 0 ≤ Int.tdiv N (-D) := Int.tdiv_nonneg (by omega) (by omega)
      rw [Int.tdiv_neg] at h2
      simp [hN, hd]; omega
    · have h2 : 0 ≤ Int.tdiv N D := Int.tdiv_nonneg (by omega) (by omega)
      simp [hN, hd]; exact h2
theorem lc_tdiv {N D : Int} {m : Int} {r : Bool} (hD : D ≠ 0) (hm : 0 < m) : lc (Int.tdiv N D) (2 * m) r = lc N (D * (2 * m)) r := by
  have hmag : lcN (Int.tdiv N D).natAbs (2 * m).natAbs r = lcN N.natAbs (D * (2 * m)).natAbs r := by
    rw [Int.natAbs_tdiv, Int.natAbs_mul, Int.natAbs_mul, Int.natAbs_mul, show Int.natAbs 2 = 2 from rfl]
    exact lcN_div (n := N.natAbs) (d := D.natAbs) (m := m.natAbs) (Int.natAbs_pos.mpr hD) (Int.natAbs_pos.mpr (by omega))
  by_cases h : Int.tdiv N D = 0
  · have z : lcN (Int.tdiv N D).natAbs (2 * m).natAbs r = 0 := by rw [h]; exact lcN_zero (by omega)
    unfold lc
    rw [← hmag, z]
    simp
  · have e := tdiv_neg_iff h
    unfold lc
    rw [hmag, e, show decide (2 * m < 0) = false by simp; omega, show decide (D * (2 * m) < 0) = decide (D < 0) by simp only [neg_mul_pos (show 0 < 2 * m by omega)]]
    simp
theorem lc_tdiv10 {N D : Int} {j : Int} {r : Bool} (hD : D ≠ 0) (hj : 1 ≤ j) : lc (Int.tdiv N D) (10 ^ j.toNat) r = lc N (D * 10 ^ j.toNat) r := by
  have e : (10 : Int) ^ j.toNat = 2 * (5 * 10 ^ (j - 1).toNat) := by
    rw [show j.toNat = (j - 1).toNat + 1 by omega, Int.pow_succ]
    omega
  rw [e]
  exact lc_tdiv hD (by have := pow10_pos (j - 1).toNat; omega)
theorem lc_eq_tdiv {X M : Int} (hM : 0 < M) : lc X M false = Int.tdiv X M := by
  unfold lc lcN
  rw [if_neg (by simp : ¬ (false = true ∧ _))]
  have h : decide (M < 0) = false := by simp; omega
  rw [h]
  by_cases hx : X < 0
  · rw [if_pos (by simp [hx])]
    have : Int.tdiv X M = -(Int.tdiv (-X) M) := by rw [Int.neg_tdiv]; omega
    rw [this, Int.tdiv_eq_ediv_of_nonneg (by omega)]
    have e1 : ((X.natAbs : Nat) : Int) = -X := by omega
    have e2 : ((M.natAbs : Nat) : Int) = M := by omega
    rw [Int.natCast_ediv, e1, e2]
  · rw [if_neg (by simp [hx]), Int.tdiv_eq_ediv_of_nonneg (by omega)]
    have e1 : ((X.natAbs : Nat) : Int) = X := by omega
    have e2 : ((M.natAbs : Nat) : Int) = M := by omega
    rw [Int.natCast_ediv, e1, e2]
theorem lcCore {t0 t1 b0 b1 q s g : Int} {r : Bool} (D : Dec (Int.tdiv (t0 * 10 ^ (30 + b1).toNat) (b0 * 10 ^ t1.toNat)) 30 q s) (hb : b0 ≠ 0) (_t1a : 0 ≤ t1) (b1a : 0 ≤ b1) (g0 : -10 ≤ g) (g1 : g ≤ 10) :
    lc (q * 10 ^ (max 0 g).toNat) (10 ^ (s + max 0 (-g)).toNat) r = lc (t0 * 10 ^ b1.toNat * 10 ^ (max 0 g).toNat) (b0 * 10 ^ t1.toNat * 10 ^ (max 0 (-g)).toNat) r := by
  have lo := D.lo
  have hi : s ≤ 30 := by have := D.hi; omega
  have eq := D.eq
  rw [show max (30 : Int) 0 - s = 30 - s by omega, show max (-30 : Int) 0 = 0 by omega] at eq
  simp only [Int.toNat_zero, Int.pow_zero, Int.mul_one] at eq
  generalize hG : max 0 g = G
  generalize hH : max 0 (-g) = H
  have G0 : 0 ≤ G := by omega
  have G1 : G ≤ 10 := by omega
  have H0 : 0 ≤ H := by omega
  rw [← lc_scale (k := 10 ^ (30 - s).toNat) (pow10_pos _)]
  rw [show q * 10 ^ G.toNat * 10 ^ (30 - s).toNat = (q * 10 ^ (30 - s).toNat) * 10 ^ G.toNat by rw [Int.mul_assoc, Int.mul_comm (10 ^ G.toNat), ← Int.mul_assoc], eq, ← p10 (by omega) (by omega), show s + H + (30 - s) = (30 + H - G) + G by omega, p10 (by omega) G0,
    lc_scale (pow10_pos _), lc_tdiv10 (Int.mul_ne_zero hb (pow10_ne _)) (by omega), ← lc_scale (x := t0 * 10 ^ b1.toNat * 10 ^ G.toNat) (k := 10 ^ (30 - G).toNat) (pow10_pos _)]
  congr 1
  · rw [Int.mul_assoc, ← p10 G0 (by omega), show G + (30 - G) = 30 by omega, Int.mul_assoc, ← p10 b1a (by omega), Int.add_comm b1]
  · rw [Int.mul_assoc, Int.mul_assoc, Int.mul_assoc, ← p10 H0 (by omega), show H + (30 - G) = 30 + H - G by omega]
theorem lawA {t0 t1 b0 b1 q s n g rn rg : Int} {sg rs r : Bool} (D : Dec (Int.tdiv (t0 * 10 ^ (30 + b1).toNat) (b0 * 10 ^ t1.toNat)) 30 q s) (hb : b0 ≠ 0) (t1a : 0 ≤ t1) (_t1b : t1 ≤ 10) (b1a : 0 ≤ b1) (_b1b : b1 ≤ 10) (g0 : -10 ≤ g) (g1 : g ≤ 10) :
    kept q s n g sg r = (due t0 t1 b0 b1 n g sg rn rg rs r).1 := by
  unfold kept due
  rw [lcCore D hb t1a b1a g0 g1, if_neg hb]
  split <;> rfl
theorem unitsAt_eq {q s g : Int} (hs : 0 ≤ s) : unitsAt q s g = lc (q * 10 ^ (max 0 g).toNat) (10 ^ (s + max 0 (-g)).toNat) false := by
  rw [lc_eq_tdiv (pow10_pos _)]
  unfold unitsAt
  split
  · rename_i h
    rw [show max 0 g = (g - s) + s by omega, show s + max 0 (-g) = s by omega, p10 (by omega) hs, ← Int.mul_assoc]
    exact (Int.mul_tdiv_cancel _ (pow10_ne _)).symm
  · rename_i h
    by_cases hg : 0 ≤ g
    · rw [show max 0 g = g by omega, show s + max 0 (-g) = (s - g) + g by omega, p10 (by omega) hg, Int.mul_tdiv_mul_of_pos_left _ _ (pow10_pos _)]
    · rw [show max 0 g = 0 by omega, show s + max 0 (-g) = s - g by omega]
      simp
theorem kept_scale {l x left S rn rg : Int} {rs r : Bool} (hx : 0 ≤ x) (hS : x ≤ S) (e : l * 10 ^ (S - x).toNat = left) : kept l x rn rg rs r = kept left S rn rg rs r := by
  have : lc (l * 10 ^ (max 0 rg).toNat) (10 ^ (x + max 0 (-rg)).toNat) r = lc (left * 10 ^ (max 0 rg).toNat) (10 ^ (S + max 0 (-rg)).toNat) r := by
    rw [← e, ← lc_scale (k := 10 ^ (S - x).toNat) (pow10_pos _)]
    congr 1
    · rw [Int.mul_assoc, Int.mul_comm (10 ^ _), ← Int.mul_assoc]
    · rw [← p10 (by omega) (by omega), show x + max 0 (-rg) + (S - x) = S + max 0 (-rg) by omega]
  unfold kept
  rw [this]
theorem max_nn {m : Int} (h : 0 ≤ m) : max m 0 = m := Int.max_eq_left h
theorem max_np {m : Int} (h : 0 ≤ m) : max (-m) 0 = 0 := Int.max_eq_right (Int.neg_nonpos_of_nonneg h)
theorem lawB_end {t0 t1 b0 b1 g rn rg c z p y l x cut : Int} {rs : Bool} (t1a : 0 ≤ t1) (b1a : 0 ≤ b1)
    (z0 : 0 ≤ z) (z1 : z ≤ max g 0) (eC : c * 10 ^ (max g 0 - z).toNat = cut * 10 ^ (max (-g) 0).toNat)
    (y0 : 0 ≤ y) (y1 : y ≤ max (z + b1) 0) (eP : p * 10 ^ (max (z + b1) 0 - y).toNat = c * b0 * 10 ^ (max (-(z + b1)) 0).toNat)
    (x0 : 0 ≤ x) (x1 : x ≤ max (max t1 y) 0) (eM : l * 10 ^ (max (max t1 y) 0 - x).toNat = (t0 * 10 ^ (max t1 y - t1).toNat - p * 10 ^ (max t1 y - y).toNat) * 10 ^ (max (-(max t1 y)) 0).toNat) :
    kept l x rn rg rs false = kept (t0 * 10 ^ (max 0 g + b1).toNat - cut * 10 ^ (max 0 (-g)).toNat * b0 * 10 ^ t1.toNat) (t1 + max 0 g + b1) rn rg rs false := by
  rw [Int.max_comm g 0] at z1 eC
  rw [Int.max_comm (-g) 0] at eC
  have zb : 0 ≤ z + b1 := Int.add_nonneg z0 b1a
  rw [max_nn zb] at y1 eP
  rw [max_np zb] at eP
  have tm : t1 ≤ max t1 y := Int.le_max_left ..
  have ym : y ≤ max t1 y := Int.le_max_right ..
  have mU : max t1 y ≤ t1 + max 0 g + b1 := Int.max_le.mpr ⟨Int.le_trans (Int.le_add_of_nonneg_right (Int.le_max_left 0 g)) (Int.le_add_of_nonneg_right b1a), Int.le_trans y1 (Int.add_le_add_right (Int.le_trans z1 (Int.le_add_of_nonneg_left t1a)) b1)⟩
  have m0 : 0 ≤ max t1 y := Int.le_trans t1a tm
  rw [max_nn m0] at x1 eM
  rw [max_np m0] at eM
  simp only [Int.toNat_zero, Int.pow_zero, Int.mul_one] at eP eM
  generalize max 0 g = G at z1 eC mU ⊢
  generalize max 0 (-g) = H at eC ⊢
  generalize max t1 y = m at tm ym mU x1 eM m0
  refine kept_scale x0 (Int.le_trans x1 mU) ?_
  have e1 : t1 + G + b1 - x = (m - x) + (t1 + G + b1 - m) := by clear eC eP eM; omega
  have e2 : m - t1 + (t1 + G + b1 - m) = G + b1 := by clear eC eP eM; omega
  have e3 : m - y + (t1 + G + b1 - m) = (z + b1 - y) + ((G - z) + t1) := by clear eC eP eM; omega
  have u0 := Int.sub_nonneg_of_le mU
  rw [e1, p10 (Int.sub_nonneg_of_le x1) u0, ← Int.mul_assoc, eM, Int.sub_mul]
  congr 1
  · rw [Int.mul_assoc, ← p10 (Int.sub_nonneg_of_le tm) u0, e2]
  · rw [Int.mul_assoc, ← p10 (Int.sub_nonneg_of_le ym) u0, e3, p10 (Int.sub_nonneg_of_le y1) (Int.add_nonneg (Int.sub_nonneg_of_le z1) t1a), ← Int.mul_assoc, eP, p10 (Int.sub_nonneg_of_le z1) t1a, Int.mul_assoc c b0, Int.mul_comm b0, ← Int.mul_assoc, ← Int.mul_assoc, eC]
    rw [Int.mul_assoc (cut * 10 ^ H.toNat) _ b0, Int.mul_comm _ b0, ← Int.mul_assoc]
theorem lawB {t0 t1 b0 b1 q s n g rn rg c z p y l x U : Int} {sg rs r : Bool} {o : Option Int} (D : Dec (Int.tdiv (t0 * 10 ^ (30 + b1).toNat) (b0 * 10 ^ t1.toNat)) 30 q s) (hb : b0 ≠ 0) (t1a : 0 ≤ t1) (_t1b : t1 ≤ 10) (b1a : 0 ≤ b1) (_b1b : b1 ≤ 10) (g0 : -10 ≤ g) (g1 : g ≤ 10)
    (_rg0 : -10 ≤ rg) (_rg1 : rg ≤ 10)
    (C : Dec (unitsAt q s g) g c z) (P : Dec (c * b0) (z + b1) p y) (M : Dec (t0 * 10 ^ (max t1 y - t1).toNat - p * 10 ^ (max t1 y - y).toNat) (max t1 y) l x)
    (h : due t0 t1 b0 b1 n g sg rn rg rs r = (some U, o)) : kept l x rn rg rs false = o := by
  have hs := D.lo
  unfold due at h
  rw [if_neg hb] at h
  split at h
  · cases h
  · have h2 := (Prod.mk.inj h).2
    rw [← h2, ← lcCore (r := false) D hb t1a b1a g0 g1, ← unitsAt_eq hs]
    clear h h2 hs D hb g0 g1 _t1b _b1b
    obtain ⟨z0, z1, eC⟩ := C
    obtain ⟨y0, y1, eP⟩ := P
    obtain ⟨x0, x1, eM⟩ := M
    generalize unitsAt q s g = cut at eC ⊢
    exact lawB_end t1a b1a z0 z1 eC y0 y1 eP x0 x1 eM
end Mine

end
section
set_option maxRecDepth 100000
namespace Mine
open PySem PyProof.Rows
open PySem.Builtin.Int (intBits)
theorem quot_facts {t0 t1 b0 b1 q s : Int} (D : Dec (Int.tdiv (t0 * 10 ^ (30 + b1).toNat) (b0 * 10 ^ t1.toNat)) 30 q s) (h0 : intBits t0 ≤ 30) (h1 : 0 ≤ b1) (h2 : b1 ≤ 10) : intBits q ≤ 300 ∧ 0 ≤ s ∧ s ≤ 30 := by
  refine ⟨?_, D.lo, by have := D.hi; omega⟩
  refine Nat.le_trans (D.bits_pos (bits_tdiv (bits_mul h0 (bits_pow10b (by omega)))) (by decide)) (by decide)
theorem Dec.bits_small {u s u' s' : Int} (D : Dec u s u' s') {n : Nat} (h : intBits u ≤ n) (hs : -20 ≤ s) : intBits u' ≤ n + 81 := by
  have h1 : intBits (u' * 10 ^ (max s 0 - s').toNat) ≤ n + 81 := by
    rw [D.eq]
    exact bits_mul h (bits_pow10a (by omega))
  refine bits_of_natAbs_le ?_ h1
  rw [Int.natAbs_mul]
  refine Nat.le_mul_of_pos_right _ ?_
  have := pow10_pos (max s 0 - s').toNat
  omega
theorem cut_facts {q s g c z : Int} (D : Dec (unitsAt q s g) g c z) (h0 : intBits q ≤ 300) (hs : 0 ≤ s) (h1 : -10 ≤ g) (h2 : g ≤ 10) : intBits c ≤ 500 ∧ 0 ≤ z ∧ z ≤ 10 := by
  refine ⟨?_, D.lo, by have := D.hi; omega⟩
  have h3 : intBits (unitsAt q s g) ≤ 381 := by
    unfold unitsAt
    split
    · exact bits_mul h0 (bits_pow10a (by omega))
    · exact Nat.le_trans (bits_tdiv h0) (by decide)
  exact Nat.le_trans (D.bits_small h3 (by omega)) (by decide)
theorem prod_facts {c z b0 b1 p y : Int} (D : Dec (c * b0) (z + b1) p y) (h0 : intBits c ≤ 500) (h1 : intBits b0 ≤ 30) (z0 : 0 ≤ z) (z1 : z ≤ 10) (h2 : 0 ≤ b1) (h3 : b1 ≤ 10) : intBits p ≤ 530 ∧ 0 ≤ y ∧ y ≤ 20 := by
  refine ⟨?_, D.lo, by have := D.hi; omega⟩
  exact D.bits_pos (bits_mul h0 h1) (by omega)
theorem minus_facts {t0 t1 p y l x : Int} (D : Dec (t0 * 10 ^ (max t1 y - t1).toNat - p * 10 ^ (max t1 y - y).toNat) (max t1 y) l x) (h0 : intBits t0 ≤ 30) (h1 : intBits p ≤ 530) (z0 : 0 ≤ t1) (z1 : t1 ≤ 10) (h2 : 0 ≤ y) (h3 : y ≤ 20) : intBits l ≤ 2000 ∧ 0 ≤ x ∧ x ≤ 20 := by
  refine ⟨?_, D.lo, by have := D.hi; omega⟩
  have e1 : intBits (t0 * 10 ^ (max t1 y - t1).toNat) ≤ 611 := Nat.le_trans (bits_mul h0 (bits_pow10a (by omega))) (by decide)
  have e2 : intBits (p * 10 ^ (max t1 y - y).toNat) ≤ 611 := Nat.le_trans (bits_mul h1 (bits_pow10a (by omega))) (by decide)
  refine Nat.le_trans (D.bits_pos (n := 612) ?_ (by omega)) (by decide)
  refine intBits_le_iff.mpr ?_
  have f1 := lt_pow_of_bits e1 (Nat.le_refl _)
  have f2 := lt_pow_of_bits e2 (Nat.le_refl _)
  rw [Nat.pow_succ]
  omega
theorem lawA0 {t0 t1 b0 b1 q s n g rn rg : Int} {sg rs r : Bool} {o : Option Int} {o' : Option Int} (h : due t0 t1 b0 b1 n g sg rn rg rs r = (o, o')) (D : Dec (Int.tdiv (t0 * 10 ^ (30 + b1).toNat) (b0 * 10 ^ t1.toNat)) 30 q s) (hb : b0 ≠ 0) (t1a : 0 ≤ t1) (t1b : t1 ≤ 10) (b1a : 0 ≤ b1) (b1b : b1 ≤ 10) (g0 : -10 ≤ g) (g1 : g ≤ 10) :
    kept q s n g sg r = o := (lawA D hb t1a t1b b1a b1b g0 g1).trans (by rw [h])
theorem lawB0 {t0 t1 b0 b1 q s n g rn rg c z p y l x U : Int} {sg rs r : Bool} {o : Option Int} (h : due t0 t1 b0 b1 n g sg rn rg rs r = (some U, o)) (D : Dec (Int.tdiv (t0 * 10 ^ (30 + b1).toNat) (b0 * 10 ^ t1.toNat)) 30 q s) (hb : b0 ≠ 0) (t1a : 0 ≤ t1) (t1b : t1 ≤ 10) (b1a : 0 ≤ b1) (b1b : b1 ≤ 10) (g0 : -10 ≤ g) (g1 : g ≤ 10)
    (rg0 : -10 ≤ rg) (rg1 : rg ≤ 10)
    (C : Dec (unitsAt q s g) g c z) (P : Dec (c * b0) (z + b1) p y) (M : Dec (t0 * 10 ^ (max t1 y - t1).toNat - p * 10 ^ (max t1 y - y).toNat) (max t1 y) l x) :
    kept l x rn rg rs false = o := lawB D hb t1a t1b b1a b1b g0 g1 rg0 rg1 C P M h
theorem v_of {vs : Array Value} {q q' : Str} {t : Tok} (h : vs[1]? = some (.str q t)) (e : q = q') : vs[1]? = some (.str q' t) := e ▸ h
end Mine

end
section
set_option maxRecDepth 100000
set_option maxHeartbeats 4000000
namespace Mine
section
open PySem.Calls
variable {prog : Program} {w : World} {A : Around} {E : Value → Shared → Prop} {R : Result → Shared → Prop} {h : Heap} {g : Array GenState} {d : Drawn} {t : Nat} {os : OsState}
variable {nm q : Str} {C N : Addr} {bs bm bmB : List Value} {hdct : Bool} {sn : List Str} {sub : List Value} {ab : Bool} {col : Option Bool} {dd : Option Addr} {k0 k1 k2 k3 k5 : Option Value} {B newId initId : String}

/-- the class's line of ancestors holds B, and neither AttributeError nor NameError -/
structure LineOk (B : String) (bm : List Value) : Prop where
  hasB : bm.contains (.type B) = true
  noAttr : bm.contains (.type "AttributeError") = false
  noName : bm.contains (.type "NameError") = false

theorem x_check_new (F : ExcBaseFacts B newId initId bmB) (T : LineOk B bm) {rest : List Value} {Q : Unit → Shared → Prop} (hC : h.get? C = some (excClassObj nm q C N bs bm hdct sn sub ab col dd k0 k1 k2 k3 k5 newId))
    (hq : Q () ⟨h, g, d, t, os⟩) : wpAny (model prog w) A (checkBuiltinCall newId ⟨.ref C :: rest, []⟩) Q E ⟨h, g, d, t, os⟩ := by
  have hcont : (Value.ref C :: bm).contains (.type B) = true := by rw [List.contains_cons, T.hasB, Bool.or_true]
  have hstar := F.noStar
  simp only [checkBuiltinCall, F.newKind, F.newSplit, F.newRow]
  repeat (first | refine wpAny_loadPart_at hC ?_ | (refine wpAny_isSubtype_exc hC ?_; rw [hcont]) | refine wpAny_staticBase_exc hC ?_ | refine wpAny_madeBy_exc hC ?_ | simp only [bne_self_eq_false, Bool.false_eq_true, if_false] | wp_step)
  exact hq

theorem x_new (F : ExcBaseFacts B newId initId bmB) (T : LineOk B bm) {rest : List Value} (hC : h.get? C = some (excClassObj nm q C N bs bm hdct sn sub ab col dd k0 k1 k2 k3 k5 newId))
    (hq : R (.ok (.ret (.ref (h.objs.size + 1)))) ⟨(h.push { cls := .type "tuple", data := .seq rest.toArray }).push
      { cls := .ref C, data := .fields #[.ref h.objs.size, .none, .none, .none, .bool false, .none] }, g, d, t, os⟩) (hrest : rest.length ≤ sizeLine) :
    codeAny (model prog w) A (.builtin newId ⟨.ref C :: rest, []⟩) R ⟨h, g, d, t, os⟩ := by
  have hends := F.ends
  have hcB : (Value.ref C :: bm).contains (.type B) = true := by rw [List.contains_cons, T.hasB, Bool.or_true]
  have hcA : (Value.ref C :: bm).contains (.type "AttributeError") = false := by rw [List.contains_cons, T.noAttr]; rfl
  have hcN : (Value.ref C :: bm).contains (.type "NameError") = false := by rw [List.contains_cons, T.noName]; rfl
  refine codeAny_builtinAt F.entry ?_
  unfold Builtin.«BaseException.__new__»
  refine PySem.wpAt_bind ?_
  show PySem.wpAt _ _ _ (stack >>= _) _ _ _
  refine PySem.wpAt_bind (PySem.wpAt_stack fun p below => PySem.wpAt_of_wpAny ?_)
  wp_walk
  refine PySem.wpAt_of_wpAny ?_
  rw [F.owner]
  repeat (first | with_reducible refine wpAny_madeHere_exc F.canon hC ?_ | with_reducible refine wpAny_loadPart_at hC ?_ | (with_reducible refine wpAny_isSubtype_exc hC ?_; first | rw [hcB] | rw [hcA] | rw [hcN]) | wp_step)
  show R _ _
  rw [Heap.size_push]
  exact hq

theorem x_check_init (F : ExcBaseFacts B newId initId bmB) (T : LineOk B bm) {e : Addr} {oe : Obj} {rest : List Value} {Q : Unit → Shared → Prop}
    (hC : h.get? C = some (excClassObj nm q C N bs bm hdct sn sub ab col dd k0 k1 k2 k3 k5 newId)) (he : h.get? e = some oe) (hcls : oe.cls = .ref C) (hq : Q () ⟨h, g, d, t, os⟩) :
    wpAny (model prog w) A (checkBuiltinCall initId ⟨.ref e :: rest, []⟩) Q E ⟨h, g, d, t, os⟩ := by
  have hcB : (Value.ref C :: bm).contains (.type B) = true := by rw [List.contains_cons, T.hasB, Bool.or_true]
  have hshort := F.noStar
  simp only [checkBuiltinCall, F.initKind, F.initSplit, F.initRow]
  repeat (first | (with_reducible refine wpAny_loadPart_at he ?_; rw [hcls]) | with_reducible refine wpAny_loadPart_at hC ?_ | (with_reducible refine wpAny_isSubtype_exc hC ?_; rw [hcB]) | wp_step)
  refine wpAny_onRaise ?_
  rw [show ∀ (a b : String) (n : Nat), Bind.check ⟨.positional, "*", B, .self, [⟨"args", .varPos, false⟩]⟩ a b n (List.map (fun x => x.fst) ({ pos := Value.ref e :: rest } : Args).kw) = pure () from
    fun a b n => check_star_args _ _ _ _ _ _]
  exact wpAny_pure hq

/-- Exception.__init__(e, ..): the exception's args are a new tuple -/
theorem x_init (F : ExcBaseFacts B newId initId bmB) (T : LineOk B bm) {e t0 : Addr} {rest : List Value} {Q : Value → Shared → Prop}
    (hC : h.get? C = some (excClassObj nm q C N bs bm hdct sn sub ab col dd k0 k1 k2 k3 k5 newId))
    (he : h.get? e = some { cls := .ref C, data := .fields #[.ref t0, .none, .none, .none, .bool false, .none] }) (hrest : rest.length ≤ sizeLine)
    (hq : Q .none ⟨(h.push { cls := .type "tuple", data := .seq rest.toArray }).update e (Obj.mapFields fun x => x.setIfInBounds 0 (Value.ref h.objs.size)), g, d, t, os⟩) :
    wpAny (model prog w) A (call (.builtin initId) (.ref e :: rest)) Q E ⟨h, g, d, t, os⟩ := by
  refine wpAny_call (codeAny_call_builtin F.init.plain F.initEntry (x_check_init F T hC he rfl ?_))
  wp_walk
  exact hq

/-- type.__call__ of an exception class whose __init__ is found along its line: the def fI -/
theorem x_type_call (F : ExcBaseFacts B newId initId bmB) (T : LineOk B bm) {K : Frag} (X : K.In h) {rest : List Value} {fI : Addr} {Q : Fin → Shared → Prop}
    (hC : h.get? C = some (excClassObj nm q C N bs bm hdct sn sub ab col dd k0 k1 k2 k3 k5 newId)) (hi : findIn K (.ref C) "__init__" = some (some (.ref fI))) (hf : isFn K (.ref fI) = true) (hrest : rest.length ≤ sizeLine)
    (hq : wpAny (model prog w) A (call (.ref fI) (.ref (h.objs.size + 1) :: rest)) (fun r s' => r = .none ∧ Q (.done (.ret (.ref (h.objs.size + 1)))) s') E
      ⟨(h.push { cls := .type "tuple", data := .seq rest.toArray }).push { cls := .ref C, data := .fields #[.ref h.objs.size, .none, .none, .none, .bool false, .none] }, g, d, t, os⟩) :
    wpAny (model prog w) A (Builtin.«type.__call__» ⟨.ref C :: rest, []⟩) Q E ⟨h, g, d, t, os⟩ := by
  repeat (first | with_reducible refine wpAny_loadPart_at hC ?_ | with_reducible refine wpAny_madeBy_exc hC ?_ | wp_step)
  refine codeAny_call_builtin_code (Code.quiet_builtin _ F.quiet) (x_check_new F T hC ?_)
  refine x_new F T hC ?_ hrest
  show wpAny _ _ _ _ _ _
  have hC₁ := Heap.get?_push_of_some { cls := .ref C, data := .fields #[.ref h.objs.size, .none, .none, .none, .bool false, .none] }
    (Heap.get?_push_of_some { cls := .type "tuple", data := .seq rest.toArray } hC)
  have X₁ : K.In ((h.push { cls := .type "tuple", data := .seq rest.toArray }).push { cls := .ref C, data := .fields #[.ref h.objs.size, .none, .none, .none, .bool false, .none] }) :=
    X.keeps fun b o z => Heap.get?_push_of_some _ (Heap.get?_push_of_some _ z)
  have hget : ((h.push { cls := .type "tuple", data := .seq rest.toArray }).push
      { cls := .ref C, data := .fields #[.ref h.objs.size, .none, .none, .none, .bool false, .none] }).get? (h.objs.size + 1) = some
      { cls := .ref C, data := .fields #[.ref h.objs.size, .none, .none, .none, .bool false, .none] } := by heap_get
  have hcC : (Value.ref C :: bm).contains (.ref C) = true := by simp
  unfold isInstance
  repeat (first | with_reducible refine wpAny_loadPart_at hget ?_ | (with_reducible refine wpAny_isSubtype_exc hC₁ ?_; rw [hcC]) | wp_step)
  show wpAny _ _ (typeLookup (.ref C) _) _ _ _
  refine (looks_findIn X₁ hi).here ?_
  refine wpAny_holding (wpAny_bind ((bind_fn X₁ _ (beq_iff_eq.mp hf)).here ?_))
  refine wpAny_bind (wpAny_mono hq (fun r s' hr => ?_) fun _ _ x => x)
  obtain ⟨rfl, hQ⟩ := hr
  wp_walk
  exact hQ

theorem x_call (F : ExcBaseFacts B newId initId bmB) (T : LineOk B bm) {K : Frag} (X : K.In h) {rest : List Value} {fI : Addr} {Q : Value → Shared → Prop}
    (hC : h.get? C = some (excClassObj nm q C N bs bm hdct sn sub ab col dd k0 k1 k2 k3 k5 newId)) (hi : findIn K (.ref C) "__init__" = some (some (.ref fI))) (hf : isFn K (.ref fI) = true) (hrest : rest.length ≤ sizeLine)
    (hq : wpAny (model prog w) (A.under (.builtin "type.__call__" ⟨.ref C :: rest, []⟩)) (call (.ref fI) (.ref (h.objs.size + 1) :: rest)) (fun r s' => r = .none ∧ Q (.ref (h.objs.size + 1)) s') E
      ⟨(h.push { cls := .type "tuple", data := .seq rest.toArray }).push { cls := .ref C, data := .fields #[.ref h.objs.size, .none, .none, .none, .bool false, .none] }, g, d, t, os⟩) :
    wpAny (model prog w) A (call (.ref C) rest) Q E ⟨h, g, d, t, os⟩ := by
  have f1 := tc_lookup
  have f2 := tc_bind (.ref C)
  have hT : (⟨h, g, d, t, os⟩ : Shared).TypeIs (.ref C) "type" := ⟨_, hC, rfl⟩
  refine wpAny_call (codeAny_of_tree ?_)
  show wpAny _ _ (callAny (.ref C) _) _ _ _
  repeat (any_goals (first | assumption | with_reducible refine wpAny_loadPart_at hC ?_ | wp_step))
  refine ⟨rfl, ?_⟩
  exact codeAny_call_builtin_at (Code.quiet_builtin _ (by decide +kernel)) entry_typeCall (wpAny_check_type_call_sub hC (x_type_call F T X hC hi hf hrest hq))
end
section
variable {prog : Program} {w : World} {A : Around} {E : Value → Shared → Prop} {s : Shared} {K : Frag}
/-- Exception.__init__, the name read off the built-in class -/
theorem x_getInit {expr : Bool} {Q : Value → Shared → Prop} (X : K.In s.heap)
    (e : findCls K (.type "Exception") (.type "type") "__init__" = some (.val (.builtin "Exception.__init__")))
    (h : ∀ u, Q (.builtin "Exception.__init__") { s with toks := u }) : wpAny (model prog w) A (getAttr (.type "Exception") "__init__" expr) Q E s := by
  have ht : typeOf (.type "Exception") = pure (.type "type") := kitMeta_of (by decide +kernel)
  have hs : Manifest.isStub "Exception" = false := by decide +kernel
  have hstub : opaqueClassAbove (.type "Exception") = pure none := by unfold opaqueClassAbove; dsimp only; rw [hs]; rfl
  have L0 : Looks (model prog w) s.heap (typeOf (.type "Exception")) (.type "type") := Looks.of_pure ht
  have LO : Looks (model prog w) s.heap (opaqueClassAbove (.type "Exception")) none := Looks.of_pure hstub
  have hg : findIn K (.type "type") "__getattribute__" = some (some (.builtin "type.__getattribute__")) := type_tga
  refine cls_open X LO L0 hg (looks_hook X (r := none) (by rfl)) (by show subIn K _ _ = _; rfl) e ?_
  exact wpAny_pure (by show wpAny _ _ (handedOut _) _ _ _; rw [handedOut_of (by decide)]; exact wpAny_pure (h _))
theorem x_methInit {pl : Sem Bool} {Q : Value × List Value → Shared → Prop} (X : K.In s.heap)
    (e : findCls K (.type "Exception") (.type "type") "__init__" = some (.val (.builtin "Exception.__init__")))
    (h : ∀ u, Q (.builtin "Exception.__init__", []) { s with toks := u }) : wpAny (model prog w) A (getMethod (.type "Exception") "__init__" pl) Q E s := by
  have ht : typeOf (.type "Exception") = pure (.type "type") := kitMeta_of (by decide +kernel)
  have hg : findIn K (.type "type") "__getattribute__" = some (some (.builtin "type.__getattribute__")) := type_tga
  have LS : Looks (model prog w) s.heap (specialOf (.type "Exception") "__getattribute__") (some (.builtin "type.__getattribute__")) := (Looks.of_pure ht).andThen (looks_findIn X hg)
  unfold getMethod
  refine wpAny_bind (LS.here ?_)
  dsimp only
  rw [if_pos canon_tga]
  exact wpAny_bind (x_getInit X e fun u => wpAny_pure (h u))
end
end Mine
end
section
set_option maxRecDepth 100000
set_option maxHeartbeats 4000000
namespace Mine
section
open PySem.Calls
variable {prog : Program} {w : World} {A : Around} {E : Value → Shared → Prop} {R : Result → Shared → Prop} {s : Shared} {K : Frag} {x C L : Addr} {h₀ : Heap} {m : Str → Option Value}
/-- object.__setattr__ on an object whose class has exceptions' built-in line behind it -/
structure LineK (K : Frag) (C : Addr) (cd : ClassData) : Prop where
  cls : clsIn K C = some cd
  pass : ∀ v, refuseLoop v "__setattr__" cd.mro = pure ()
  obj : cd.mro.contains (.type "object") = true
  some_ : cd.mro.isEmpty = false
open Builtin.ObjectAttr in
theorem x_open {cd : ClassData} {ox : Obj} {od : Option Obj} {name : Str} {tk : Tok} {v : Value} (P : LineK K C cd) (X : K.In s.heap) (I : InstAt s.heap x ox C od) (ht : findIn K (.ref C) name = some none)
    (h : wpAny (model prog w) A.in1 (storeInOwnDict (.ref x) (.ref C) (.str name tk) name v false)
      (fun fin s' => match fin with | .done f => R (.ok f) s' | .again c' => c'.quiet = true ∧ codeAny (model prog w) A c' R s') (fun e s' => R (.error e) s') s) :
    codeAny (model prog w) A (.call (.builtin "object.__setattr__") ⟨[.ref x, .str name tk, v], []⟩) R s := by
  have SF := PySem.F.store_object
  have sub : Looks (model prog w) s.heap (isInstance (.ref x) (.type "object")) true := I.type.andThen (looks_mroIn X (by unfold mroIn; rw [P.cls, Option.bind_some, if_neg (by rw [P.some_]; decide), P.obj]))
  refine codeAny_call_builtin SF.slot.plain SF.entry (@check_slot (model prog w) _ _ s "object.__setattr__" "object" "__setattr__" (.ref x) [.str name tk, v] [] _ SF.kind SF.split sub (SF.args (.ref x) (.str name tk) v) ?_)
  have hm : Looks (model prog w) s.heap (mroOf (.ref C)) cd.mro := (looks_clsIn X P.cls).andThen .now
  have L3 : Looks (model prog w) s.heap (storeTaker? none) none := .now
  rw [osa_eq, refuse_eq]
  refine wpAny_bind (wpAny_bind (I.type.here (wpAny_bind (hm.here ?_))))
  rw [P.pass]
  exact wpAny_pure (wpAny_bind (I.type.here (wpAny_bind ((looks_findIn X ht).here (wpAny_bind (L3.here h))))))

/-- the first attribute stored on an object whose dict is not made yet -/
theorem x_first {vs : Array Value} {name : Str} {tk : Tok} {v : Value} {post : List (Addr × Obj)} (F : Fr h₀ L s.heap m) (N : News h₀ L s.heap ((x, { cls := .ref C, data := .fields vs }) :: post)) (X : K.In s.heap)
    {cd : ClassData} (P : LineK K C cd) (ht : findIn K (.ref C) name = some none) (hd' : cd.hasDict = true) (h2 : ∀ p ∈ post, p.1 ≠ x)
    (h : ∀ d k h', Fr h₀ L h' m → News h₀ L h' ((d, dictOf [⟨PyData.keyHash w.params name, .str name k, v⟩] 1) :: (x, { cls := .ref C, dict := some d, data := .fields vs }) :: post) → (∀ p ∈ post, p.1 < d) → x < d → R (.ok (.ret .none)) { s with heap := h', toks := s.toks + 1 }) :
    codeAny (model prog w) A (.call (.builtin "object.__setattr__") ⟨[.ref x, .str name tk, v], []⟩) R s := by
  have hx := (N _ (.head _)).1
  have I : InstAt s.heap x ({ cls := .ref C, data := .fields vs } : Obj) C none := ⟨hx, rfl, rfl, trivial⟩
  refine x_open P X I ht ?_
  refine wpAny_bind (wpAny_pure (wpAny_bind (wpAny_bind (wpAny_loadPart hx (wpAny_bind ((looks_clsIn X P.cls).here ?_))))))
  rw [hd']
  show wpAny _ _ (do
    let d ← alloc { cls := Value.type "dict", data := Data.dict #[] }
    update x fun o => { o with dict := some d }
    dictMade (.ref C) x d) _ _ s
  have F1 := F.push { cls := Value.type "dict", data := Data.dict #[] }
  have N1 : News h₀ L (s.heap.push { cls := Value.type "dict", data := Data.dict #[] }) ([(s.heap.objs.size, ({ cls := Value.type "dict", data := Data.dict #[] } : Obj))] ++ (x, { cls := .ref C, data := .fields vs }) :: post) := News.push F N _
  have hlt : ∀ p ∈ (x, ({ cls := .ref C, data := .fields vs } : Obj)) :: post, p.1 < s.heap.objs.size := fun p q => Heap.lt_size (N p q).1
  obtain ⟨F2, N2⟩ := news_upd (f := fun o => { o with dict := some s.heap.objs.size }) F1 N1 (fun p q => by
    rcases List.mem_singleton.mp q with rfl
    exact Nat.ne_of_gt (hlt _ (.head _))) h2 (rfl : _ = ({ cls := .ref C, dict := some s.heap.objs.size, data := .fields vs } : Obj)) rfl
  have hx1 : (s.heap.push { cls := Value.type "dict", data := Data.dict #[] }).get? x = some { cls := .ref C, data := .fields vs } := (N1 (x, _) (by simp)).1
  refine wpAny_bind (wpAny_alloc (wpAny_bind (wpAny_update hx1 (wpAny_pure (a := some s.heap.objs.size) ?_))))
  obtain ⟨F3, N3⟩ := news_upd (pre := []) (f := Obj.putName name (PyData.keyHash w.params name) (.str name s.toks) v) (o' := dictOf [⟨PyData.keyHash w.params name, .str name s.toks, v⟩] 1) F2 N2 (fun p q => nomatch q) (fun p q => by
    rcases List.mem_cons.mp q with rfl | q
    · exact Nat.ne_of_lt (hlt (x, { cls := .ref C, data := .fields vs }) (.head _))
    · exact Nat.ne_of_lt (hlt p (.tail _ q))) rfl rfl
  have D := (N2 (s.heap.objs.size, _) (.head _)).1
  have D' := (N3 (s.heap.objs.size, _) (.head _)).1
  show wpAny _ _ (Builtin.ObjectAttr.storeInDict s.heap.objs.size (Value.str name tk) name v) _ _ _
  refine wpAny_bind (wpAny_pure (wpAny_bind ?_))
  unfold nsSet
  refine wpAny_bind (wpAny_bind (wpAny_askSetting (wpAny_pure (wpAny_bind (wpAny_mkText (wpAny_bind (wpAny_loadPart D ?_)))))))
  dsimp only
  rw [aRefKeyMayBeTheName_at, show ((!(#[] : Array DictEntry).any fun x => x.key.isStr name) && (#[] : Array DictEntry).any fun x => x.refKey) = false from by simp]
  refine wpAny_updatePart D ?_
  refine wpAny_bind (wpAny_lookBehind D' (pastItsLine_dict (by rw [sizeLine_eq]; exact Nat.le_of_ble_eq_true rfl)) ?_)
  exact wpAny_pure (h _ _ _ F3 N3 (fun p q => hlt p (.tail _ q)) (hlt (x, { cls := .ref C, data := .fields vs }) (.head _)))
theorem x_setFirst {vs : Array Value} {name : Str} {v : Value} {post : List (Addr × Obj)} {Q : Unit → Shared → Prop} (F : Fr h₀ L s.heap m) (X₀ : K.In h₀) (N : News h₀ L s.heap ((x, { cls := .ref C, data := .fields vs }) :: post))
    (hs : findIn K (.ref C) "__setattr__" = some (some (.builtin "object.__setattr__"))) {cd : ClassData} (P : LineK K C cd) (ht : findIn K (.ref C) name = some none) (hd' : cd.hasDict = true) (h2 : ∀ p ∈ post, p.1 ≠ x)
    (h : ∀ d k h', Fr h₀ L h' m → News h₀ L h' ((d, dictOf [⟨PyData.keyHash w.params name, .str name k, v⟩] 1) :: (x, { cls := .ref C, dict := some d, data := .fields vs }) :: post) → (∀ p ∈ post, p.1 < d) → @LT.lt Nat _ x d → Q () { s with heap := h', toks := s.toks + 2 }) :
    wpAny (model prog w) A (setAttr (.ref x) name v) Q E s :=
  set_plain (X₀.keeps F.keep) (ox := { cls := .ref C, data := .fields vs }) (od := none) ⟨(N _ (.head _)).1, rfl, rfl, trivial⟩ hs (x_first (s := { s with toks := s.toks + 1 }) F N (X₀.keeps F.keep) P ht hd' h2 fun d k h' F' N' l1 l2 => h d k h' F' N' l1 l2)

/-- a second attribute, under another name -/
theorem x_second {vs : Array Value} {name n0 : Str} {tk k0 : Tok} {v v0 : Value} {hsh : Int} {d : Addr} {post : List (Addr × Obj)} (F : Fr h₀ L s.heap m) (N : News h₀ L s.heap ((d, dictOf [⟨hsh, .str n0 k0, v0⟩] 1) :: (x, { cls := .ref C, dict := some d, data := .fields vs }) :: post)) (X : K.In s.heap)
    {cd : ClassData} (P : LineK K C cd) (ht : findIn K (.ref C) name = some none) (hd' : cd.hasDict = true) (hne : (n0 == name) = false) (h1 : ∀ p ∈ (x, ({ cls := .ref C, dict := some d, data := .fields vs } : Obj)) :: post, p.1 ≠ d)
    (h : ∀ dd h', Fr h₀ L h' m → News h₀ L h' ((d, dd) :: (x, { cls := .ref C, dict := some d, data := .fields vs }) :: post) → R (.ok (.ret .none)) { s with heap := h', toks := s.toks + 1 }) :
    codeAny (model prog w) A (.call (.builtin "object.__setattr__") ⟨[.ref x, .str name tk, v], []⟩) R s := by
  have hx := (N _ (.tail _ (.head _))).1
  have D := (N _ (.head _)).1
  have I : InstAt s.heap x ({ cls := .ref C, dict := some d, data := .fields vs } : Obj) C (some (dictOf [⟨hsh, .str n0 k0, v0⟩] 1)) := ⟨hx, rfl, rfl, D⟩
  refine x_open P X I ht ?_
  refine wpAny_bind (wpAny_pure (wpAny_bind (wpAny_bind (wpAny_loadPart hx (wpAny_bind ((looks_clsIn X P.cls).here ?_))))))
  rw [hd']
  refine wpAny_pure (a := some d) ?_
  obtain ⟨F3, N3⟩ := news_upd (pre := []) (f := Obj.putName name (PyData.keyHash w.params name) (.str name s.toks) v) (o' := dictOf [⟨hsh, .str n0 k0, v0⟩, ⟨PyData.keyHash w.params name, .str name s.toks, v⟩] 2) F N (fun p q => nomatch q) h1
    (by rw [putName_dict]; simp [putL, putN, Value.isStr, hne]) rfl
  have D' := (N3 _ (.head _)).1
  refine wpAny_bind (wpAny_pure (wpAny_bind ?_))
  unfold nsSet
  refine wpAny_bind (wpAny_bind (wpAny_askSetting (wpAny_pure (wpAny_bind (wpAny_mkText (wpAny_bind (wpAny_loadPart D ?_)))))))
  dsimp only
  rw [aRefKeyMayBeTheName_at, show ((!(#[⟨hsh, .str n0 k0, v0⟩] : Array DictEntry).any fun x => x.key.isStr name) && (#[⟨hsh, .str n0 k0, v0⟩] : Array DictEntry).any fun x => x.refKey) = false from Bool.and_eq_false_iff.mpr (.inr (by simp [DictEntry.refKey]))]
  refine wpAny_updatePart D ?_
  refine wpAny_bind (wpAny_lookBehind D' (pastItsLine_dict (by rw [sizeLine_eq]; exact Nat.le_of_ble_eq_true rfl)) ?_)
  exact wpAny_pure (h _ _ F3 N3)
theorem x_setSecond {vs : Array Value} {name n0 : Str} {k0 : Tok} {v v0 : Value} {hsh : Int} {d : Addr} {post : List (Addr × Obj)} {Q : Unit → Shared → Prop} (F : Fr h₀ L s.heap m) (X₀ : K.In h₀) (N : News h₀ L s.heap ((d, dictOf [⟨hsh, .str n0 k0, v0⟩] 1) :: (x, { cls := .ref C, dict := some d, data := .fields vs }) :: post))
    (hs : findIn K (.ref C) "__setattr__" = some (some (.builtin "object.__setattr__"))) {cd : ClassData} (P : LineK K C cd) (ht : findIn K (.ref C) name = some none) (hd' : cd.hasDict = true) (hne : (n0 == name) = false) (h1 : ∀ p ∈ (x, ({ cls := .ref C, dict := some d, data := .fields vs } : Obj)) :: post, p.1 ≠ d)
    (h : ∀ dd h', Fr h₀ L h' m → News h₀ L h' ((d, dd) :: (x, { cls := .ref C, dict := some d, data := .fields vs }) :: post) → Q () { s with heap := h', toks := s.toks + 2 }) :
    wpAny (model prog w) A (setAttr (.ref x) name v) Q E s :=
  set_plain (X₀.keeps F.keep) (ox := { cls := .ref C, dict := some d, data := .fields vs }) (od := some (dictOf [⟨hsh, .str n0 k0, v0⟩] 1)) ⟨(N _ (.tail _ (.head _))).1, rfl, rfl, (N _ (.head _)).1⟩ hs
    (x_second (s := { s with toks := s.toks + 1 }) F N (X₀.keeps F.keep) P ht hd' hne h1 fun dd h' F' N' => h dd h' F' N')

/-- Exception.__init__ of an exception on the ledger -/
theorem x_initK {B newId initId : String} {bmB : List Value} (FB : ExcBaseFacts B newId initId bmB) {nm q : Str} {N' : Addr} {bs bm : List Value} {hdct : Bool} {sn : List Str} {sub : List Value} {ab : Bool} {col : Option Bool} {dd : Option Addr} {k0 k1 k2 k3 k5 : Option Value}
    {e t0 : Addr} {rest : List Value} {post : List (Addr × Obj)} {Q : Value → Shared → Prop} (F : Fr h₀ L s.heap m) (X₀ : K.In h₀) (N : News h₀ L s.heap ((e, { cls := .ref C, data := .fields #[.ref t0, .none, .none, .none, .bool false, .none] }) :: post))
    (hC : K.lookup C = some (excClassObj nm q C N' bs bm hdct sn sub ab col dd k0 k1 k2 k3 k5 newId)) (T : LineOk B bm) (hrest : rest.length ≤ sizeLine) (h2 : ∀ p ∈ post, p.1 ≠ e)
    (h : ∀ t1 h', Fr h₀ L h' m → News h₀ L h' ((e, { cls := .ref C, data := .fields #[.ref t1, .none, .none, .none, .bool false, .none] }) :: (t1, { cls := .type "tuple", data := .seq rest.toArray }) :: post) → (∀ p ∈ post, p.1 < t1) → @LT.lt Nat _ e t1 → Q .none { s with heap := h' }) :
    wpAny (model prog w) A (call (.builtin initId) (.ref e :: rest)) Q E s := by
  have hlt : ∀ p ∈ (e, ({ cls := .ref C, data := .fields #[.ref t0, .none, .none, .none, .bool false, .none] } : Obj)) :: post, p.1 < s.heap.objs.size := fun p q => Heap.lt_size (N p q).1
  have hC' := (X₀.keeps F.keep) _ _ hC
  have he := (N _ (.head _)).1
  have F1 := F.push { cls := .type "tuple", data := .seq rest.toArray }
  have N1 : News h₀ L (s.heap.push { cls := .type "tuple", data := .seq rest.toArray }) ([(s.heap.objs.size, ({ cls := .type "tuple", data := .seq rest.toArray } : Obj))] ++ (e, { cls := .ref C, data := .fields #[.ref t0, .none, .none, .none, .bool false, .none] }) :: post) := News.push F N _
  obtain ⟨F2, N2⟩ := news_upd (f := Obj.mapFields fun x => x.setIfInBounds 0 (Value.ref s.heap.objs.size)) F1 N1 (fun p q => by
    rcases List.mem_singleton.mp q with rfl
    exact Nat.ne_of_gt (hlt _ (.head _))) h2 (rfl : _ = ({ cls := .ref C, data := .fields #[.ref s.heap.objs.size, .none, .none, .none, .bool false, .none] } : Obj)) rfl
  obtain ⟨hp, g, d, tk, os⟩ := s
  refine x_init FB T hC' he hrest ?_
  refine h hp.objs.size _ F2 (fun p hp' => N2 p ?_) (fun p q => hlt p (.tail _ q)) (hlt _ (.head _))
  rcases List.mem_cons.mp hp' with rfl | hp'
  · exact .tail _ (.head _)
  · rcases List.mem_cons.mp hp' with rfl | hp'
    · exact .head _
    · exact .tail _ (.tail _ hp')
end
end Mine
end
section
set_option maxRecDepth 100000
set_option maxHeartbeats 4000000
namespace Mine
section
open PySem.Calls PySem.Spec
variable {M : Model} {A : Around} {E : Value → Shared → Prop} {env : Env}
variable {nm q : Str} {C N : Addr} {bs bm : List Value} {hdct : Bool} {sn : List Str} {sub : List Value} {ab : Bool} {col : Option Bool} {dd : Option Addr} {k0 k1 k2 k3 k5 : Option Value} {newId : String}

/-- what a raise asks of the value at hand: an object of the class C, an exception without a traceback -/
def XMade (C : Addr) (nm q : Str) (N : Addr) (bs bm : List Value) (hdct : Bool) (sn : List Str) (sub : List Value) (ab : Bool) (col : Option Bool) (dd : Option Addr) (k0 k1 k2 k3 k5 : Option Value) (newId : String) (E : Value → Shared → Prop) (v : Value) (s₁ : Shared) : Prop :=
  ∃ e t d, v = .ref e ∧ s₁.heap.get? C = some (excClassObj nm q C N bs bm hdct sn sub ab col dd k0 k1 k2 k3 k5 newId) ∧
    s₁.heap.get? e = some { cls := .ref C, dict := d, data := .fields #[.ref t, .none, .none, .none, .bool false, .none] } ∧ E (.ref e) s₁

theorem x_raiseStmt {s : Shared} {x : Sem Value} {Q : Flow → Shared → Prop} (hbase : bm.contains (.type "BaseException") = true) (hh : A.handled = none)
    (h : wpAny M A x (XMade C nm q N bs bm hdct sn sub ab col dd k0 k1 k2 k3 k5 newId E) E s) :
    wpAny M A (raiseStmt env (some x) none) Q E s := by
  have hcB : (Value.ref C :: bm).contains (.type "BaseException") = true := by rw [List.contains_cons, hbase, Bool.or_true]
  unfold raiseStmt
  refine wpAny_bind (wpAny_mono h (fun v s₁ h₁ => ?_) fun _ _ x => x)
  obtain ⟨e, t, d, rfl, hC, he, hE⟩ := h₁
  obtain ⟨hp, g, d, tk, os⟩ := s₁
  repeat (first | with_reducible refine wpAny_loadPart_at he ?_ | with_reducible refine wpAny_loadPart_at hC ?_ | (with_reducible refine wpAny_isSubtype_exc hC ?_; rw [hcB]) | wp_step)
  exact wpAny_raiseNew_none hh hE

theorem x_Raise {s : Shared} {x : Expr} {pos : Pos} {Q : Flow → Shared → Prop} (hbase : bm.contains (.type "BaseException") = true) (hh : A.handled = none)
    (h : wpAny M A (eval x env) (XMade C nm q N bs bm hdct sn sub ab col dd k0 k1 k2 k3 k5 newId E) E s) :
    wpAny M A (exec (.Raise (some x) none pos) env) Q E s := by
  rw [arm_exec_Raise]
  exact wpAny_bind (wpAny_standAt (x_raiseStmt hbase hh (wpAny_bind (wpAny_mono h (fun v s₁ hv => wpAny_bind (wpAny_standAt (wpAny_pure hv))) fun _ _ x => x))))
end

section
variable {M : Model} {A : Around} {E : Value → Shared → Prop} {s' : Shared} {base g h : Heap} {outer : List Env} {L a e t : Addr} {m : Str → Option Value} {name : Str} {scope : Scope} {cd : Value} {Q : Unit → Shared → Prop} {news : List (Addr × Obj)}
theorem funFrames_any {B : Heap} : ∀ {l : List Env}, h.FunFrames base l → (∀ env ∈ l, ∀ a, env.frame = some a → B.get? a = none) → h.FunFrames B l
  | [], _, _ => trivial
  | env :: _, ⟨hk, ⟨L, o, hf, _, ho, hd⟩, hr⟩, hin => ⟨hk, ⟨L, o, hf, hin env (.head _) L hf, ho, hd⟩, funFrames_any hr fun e he => hin e (.tail _ he)⟩

/-- an own exception leaves the frame that raised it -/
theorem leave_raiseX {cls : Value} {vs : List Value} {oe : Obj} {fs : Array Value} (K : Below A base outer g) (F : Fr g L h m) (N : News g L h news) (F' : Fr g L s'.heap m)
    (hk : ∀ b o, b ≠ L → h.get? b = some o → s'.heap.get? b = some o) (hne : h.get? e = none) (he : s'.heap.get? e = some oe) (hcl : oe.cls = cls) (hfs : oe.data = .fields fs) (h1 : fs[1]? = some .none) (h0 : fs[0]? = some (.ref t))
    (hnt : h.get? t = none) (ht : s'.heap.TupAt t vs)
    (hQ : ∀ h' : Heap, RaisedS base g outer e cls t vs news h' → RaisedK base outer e cls t vs news h' → g.UpToSlots h' → Q () { s' with heap := h' }) (hsk : scope.kind = .function := by rfl) :
    wpAny M (A.deeper (envOf name scope L a cd)) (leaving (envOf name scope L a cd) (.ref e)) Q E s' := by
  have K' := K.push (name := name) (a := a) (cd := cd) F hsk
  have K'' := K.push (name := name) (a := a) (cd := cd) F' hsk
  have hin : ∀ env ∈ (envOf name scope L a cd :: outer), ∀ b, env.frame = some b → b ∈ (envOf name scope L a cd :: outer).filterMap (·.frame) := fun env he b hb => List.mem_filterMap.mpr ⟨env, he, hb⟩
  have hLin : L ∈ (envOf name scope L a cd :: outer).filterMap (·.frame) := hin _ (.head _) L rfl
  have st : base.StaysIn (hideAll h ((envOf name scope L a cd :: outer).filterMap (·.frame))) := fun b o q => hideAll_get _ (K'.stays b o q) fun hm => by
    rw [(K'.frames.mem hm).1] at q; cases q
  have sg : ∀ b o, g.get? b = some o → b ∉ outer.filterMap (·.frame) → (hideAll h ((envOf name scope L a cd :: outer).filterMap (·.frame))).get? b = some o := fun b o q nm => hideAll_get _ (F.keep b o q) fun hm => by
    rcases kts_mem hm with z | z
    · rw [z, kts_self F] at q
      cases q
    · exact nm z
  have hl : ∀ q ∈ news, (hideAll h ((envOf name scope L a cd :: outer).filterMap (·.frame))).get? q.1 = some q.2 ∧ g.get? q.1 = none ∧ base.get? q.1 = none := fun q hq => by
    refine ⟨hideAll_get _ (N q hq).1 fun hm => ?_, (N q hq).2.2, fresh_of_stays K.stays (N q hq).2.2⟩
    obtain ⟨env, he, hf⟩ := List.mem_filterMap.mp hm
    rcases List.mem_cons.mp he with rfl | he
    · exact (N q hq).2.1 (Option.some.inj hf).symm
    · obtain ⟨o, ho, _⟩ := (K.frames.mem (List.mem_filterMap.mpr ⟨env, he, hf⟩)).2
      rw [(N q hq).2.2] at ho; cases ho
  have hkB : (hideAll h ((envOf name scope L a cd :: outer).filterMap (·.frame))).StaysIn s'.heap := fun b o q => by
    have q' := of_hideAll _ q
    refine hk b o (fun z => ?_) q'
    rw [z, hideAll_none _ hLin] at q
    cases q
  have freshB : ∀ b, h.get? b = none → (hideAll h ((envOf name scope L a cd :: outer).filterMap (·.frame))).get? b = none := fun b hb => by
    cases q : (hideAll h ((envOf name scope L a cd :: outer).filterMap (·.frame))).get? b with
    | none => rfl
    | some o => rw [of_hideAll _ q] at hb; cases hb
  subst hcl
  refine wpAny_leaving_firstW (a0 := .ref t) K'.stack (funFrames_any K''.frames fun env he b hb => hideAll_none _ (hin env he b hb)) rfl he hkB (freshB e hne) hfs h1 h0 fun h' hL => ?_
  obtain ⟨k1, ⟨_, _, k2⟩, k3, k4⟩ := hL
  have R : RaisedS base g outer e oe.cls t vs news h' := ⟨⟨_, st, sg, hl, ⟨k1, freshB e hne, k2, k3⟩, freshB t hnt⟩, ht.of_slots k4⟩
  exact hQ h' R R.toK ((Heap.UpToSlots.of_keeps F'.keep).trans k4)
end
end Mine
end
section
set_option maxRecDepth 100000
set_option maxHeartbeats 4000000
namespace Mine
section
variable {prog : Program} {w : World} {A₀ A : Around} {s : Shared} {base h₀ g₀ : Heap} {env : Env} {outer : List Env} {L : Addr} {m : Str → Option Value} {news : List (Addr × Obj)} {K : Frag} {p : Program} {loose : List Str} {mean : ExcName → Option Value} {mg mb : Str → Option Value}
    {R : Result → Shared → Prop} {name qual : Str} {params : Arguments} {body : List Stmt} {scope : Scope} {dV kV doc pm cdv ct oc : Value} {an od : Option Addr} {osl : Array (Option Value)} {f : Addr} {args : Args} {binds : List (Str × Value)}
theorem memX {b : Addr} (hf : env.frame = some L) (hm : b ∈ (env :: outer).filterMap (·.frame)) : b = L ∨ b ∈ outer.filterMap (·.frame) := by
  obtain ⟨env', he, hf'⟩ := List.mem_filterMap.mp hm
  rcases List.mem_cons.mp he with rfl | he
  · rw [hf] at hf'; exact .inl (Option.some.inj hf').symm
  · exact .inr (List.mem_filterMap.mpr ⟨env', he, hf'⟩)
theorem enterX (B : Below A₀ base outer h₀) (F : Fr h₀ L s.heap m) (N : News h₀ L s.heap news) (hA : A.frames = some (env :: outer)) (hf : env.frame = some L) (hke : env.scope.kind = .function) :
    ∃ oL es ep, (hideAll s.heap (news.map (·.1))).get? L = some oL ∧ oL.data = .dict es ep ∧ (∀ h', h'.get? L = some oL → Heap.Ns h' L m) ∧ (∀ (sl : Array (Option Value)) h', h'.get? L = some { oL with slots := sl } → Heap.Ns h' L m) ∧
      h₀.StaysIn (hideAll s.heap (news.map (·.1))) ∧ Below A base (env :: outer) (hideAll s.heap (news.map (·.1))) := by
  obtain ⟨_, BG, st, _⟩ := groundX (R := fun _ _ => True) B F N hA hf hke
  obtain ⟨oL, es, ep, hL, hLd, hLk, hLf⟩ := F.ns
  have nL : L ∉ news.map (·.1) := fun q => by
    obtain ⟨p, hp, e⟩ := List.mem_map.mp q
    exact (N p hp).2.1 e
  have hLg := hideAll_get (news.map (·.1)) hL nL
  exact ⟨oL, es, ep, hLg, hLd, fun h' e => ⟨oL, es, ep, e, hLd, hLk, hLf⟩, fun sl h' e => ⟨_, es, ep, e, hLd, hLk, hLf⟩, st, BG⟩
theorem backS0 {oL : Obj} {g : Heap} {v : Value} {s' : Shared} (F : Fr h₀ L s.heap m) (hf : env.frame = some L) (hLg : g.get? L = some oL) (hNs : ∀ (sl : Array (Option Value)) h', h'.get? L = some { oL with slots := sl } → Heap.Ns h' L m) (st : h₀.StaysIn g)
    (hl : LeaveS0 ([env].filterMap (·.frame)) h₀ L m g R v s') : R (.ok (.ret v)) s' := by
  obtain ⟨g', L', m', news', T', F', N', k⟩ := hl
  have nL₀ : h₀.get? L = none := kts_self F
  obtain ⟨sl, hs⟩ := T'.up hLg
  refine k ⟨hNs sl _ (F'.keep _ _ hs), fun b o e => F'.keep b o (T'.other b o (st b o e) (fun q => by
    rcases memX hf q with z | z
    · rw [z, nL₀] at e
      cases e
    · simp at z)), F.above⟩ fun p hp => ⟨(N' p hp).1, fun q => ?_, ?_⟩
  · have := (N' p hp).2.2; rw [q, hs] at this; cases this
  · cases q : h₀.get? p.1 with
    | none => rfl
    | some o =>
      obtain ⟨sl', hs'⟩ := T'.up (st _ _ q)
      have := (N' p hp).2.2
      rw [hs'] at this
      cases this
theorem backS {oL : Obj} {g : Heap} {v : Value} {s' : Shared} (B : Below A₀ base outer h₀) (F : Fr h₀ L s.heap m) (XB : K.In base) (TB : Top p loose mean mg mb base) (D : KtsDicts (outer.filterMap (·.frame)) h₀)
    (T0 : KtsTurn (outer.filterMap (·.frame)) g₀ h₀) (hf : env.frame = some L) (hLg : g.get? L = some oL) (hN : ∀ h', h'.get? L = some oL → Heap.Ns h' L m) (hNs : ∀ (sl : Array (Option Value)) h', h'.get? L = some { oL with slots := sl } → Heap.Ns h' L m) (st : h₀.StaysIn g)
    (hl : LeaveS ((env :: outer).filterMap (·.frame)) A₀ base outer K p loose mean mg mb g₀ h₀ L m g R v s') : R (.ok (.ret v)) s' := by
  have nL₀ : h₀.get? L = none := kts_self F
  rcases hl with ⟨L', m', news', F', N', k⟩ | ⟨g', L', m', news', T', F', N', k⟩
  · refine k ⟨hN _ (F'.keep _ _ hLg), fun b o e => F'.keep b o (st b o e), F.above⟩ fun p hp => ⟨(N' p hp).1, fun q => ?_, ?_⟩
    · have := (N' p hp).2.2; rw [q, hLg] at this; cases this
    · cases q : h₀.get? p.1 with
      | none => rfl
      | some o => have := (N' p hp).2.2; rw [st _ _ q] at this; cases this
  obtain ⟨sl, hs⟩ := T'.up hLg
  obtain ⟨T₁, S₁⟩ := kts_turn_at (h := s'.heap) (fs := outer.filterMap (·.frame)) (g := h₀)
    (fun b hb => by
      obtain ⟨_, o, ho', _⟩ := B.frames.mem hb
      exact ⟨o, ho'⟩)
    (fun b o e nmem => F'.keep b o (T'.other b o (st b o e) (fun q => by
      rcases memX hf q with z | z
      · rw [z, nL₀] at e
        cases e
      · exact nmem z)))
    (fun b o e hm => by
      obtain ⟨sl', hs'⟩ := T'.up (st b o e)
      exact ⟨sl', F'.keep _ _ hs'⟩)
  have B₃ : Below A₀ base outer (ktsHeap s'.heap (outer.filterMap (·.frame)) h₀) := ⟨B.stack, fun b o e => T₁.other b o (B.stays b o e) (fun hm => by
    rw [(B.frames.mem hm).1] at e
    cases e), B.frames.of_keeps fun b o e _ => by
    obtain ⟨sl', hs'⟩ := T₁.up e
    exact ⟨_, hs', rfl⟩⟩
  refine k _ (T0.trans T₁) ⟨hNs sl _ (F'.keep _ _ hs), S₁, by rw [T₁.size]; exact F.above⟩ (fun p hp => ⟨(N' p hp).1, fun q => ?_, ?_⟩) B₃ (XB.keeps B₃.stays) (TB.keeps B₃.stays) (D.turn T₁)
  · have := (N' p hp).2.2; rw [q, hs] at this; cases this
  · refine T₁.none_ _ ?_
    cases q : h₀.get? p.1 with
    | none => rfl
    | some o =>
      obtain ⟨sl', hs'⟩ := T'.up (st _ _ q)
      have := (N' p hp).2.2
      rw [hs'] at this
      cases this
/-- a def without cells, entered from a frame of any kind, whose frames a caught exception may turn -/
theorem code_defXS (B : Below A₀ base outer h₀) (F : Fr h₀ L s.heap m) (X₀ : K.In h₀) (N : News h₀ L s.heap news) (T : Top p loose mean mg mb h₀) (XB : K.In base) (TB : Top p loose mean mg mb base) (D : KtsDicts (outer.filterMap (·.frame)) h₀)
    (T0 : KtsTurn (outer.filterMap (·.frame)) g₀ h₀) (hA : A.frames = some (env :: outer)) (hf : env.frame = some L) (hke : env.scope.kind = .function)
    (ho : K.lookup f = some ⟨oc, od, .func (fnOf name qual params body scope dV kV doc pm an cdv ct), osl⟩) (hcd : codeIn K cdv qual = true) (hroom : A.depth < recursionLimit)
    (hbind : BindsTo s (fnOf name qual params body scope dV kV doc pm an cdv ct) args binds) (hloc : ∀ y ∈ binds, scope.names.lookup y.1 = some .local)
    (h : ∀ g L' h₁, Fr h₀ L g m → Fr g L' h₁ (fun y => binds.reverse.lookup y) → News g L' h₁ news → Below A base (env :: outer) g → K.In g → Top p loose mean mg mb g → KtsDicts ((env :: outer).filterMap (·.frame)) g →
      wpAny (model prog w) (A.deeper (envOf qual scope L' f cdv)) (execs body (envOf qual scope L' f cdv))
        (fun fl s' => LeaveS ((env :: outer).filterMap (·.frame)) A₀ base outer K p loose mean mg mb g₀ h₀ L m g R (match fl with | .ret v => v | _ => .none) s')
        (fun e s' => wpAny (model prog w) (A.deeper (envOf qual scope L' f cdv)) (leaving (envOf qual scope L' f cdv) e) (fun _ s'' => R (.error e) s'') (fun e' s'' => R (.error e') s'') s')
        { s with heap := h₁, toks := s.toks + binds.length })
    (hco : scope.isCoroutine = false) (hgen : scope.isGenerator = false) (hk : scope.kind = .function)
    (hcell : ∀ x ∈ scope.names, x.2 ≠ .cell) : codeAny (model prog w) A (.call (.ref f) args) R s := by
  have X := X₀.keeps F.keep
  refine codeAny_call_def (fd := fnOf name qual params body scope dV kV doc pm an cdv ct) (body := body) (binds := binds) hroom (X _ _ ho) rfl (T.nolimit.keeps F.keep) (codeRec_of X hcd) rfl hbind hcell hloc (fun h₁ hns hk₁ => ?_) hco hgen hk
  obtain ⟨oL, es, ep, hLg, hLd, hN, hNs, st, B₂⟩ := enterX B F N hA hf hke
  refine wpAny_mono (h _ s.heap.objs.size h₁ ⟨hN _ hLg, st, F.above⟩ ⟨hns, fun b o e => hk₁ b o (of_hideAll _ e), Nat.le_of_eq (hideAll_size _ _)⟩
    (fun p hp => ⟨hk₁ _ _ (N p hp).1, Nat.ne_of_lt (Heap.lt_size (N p hp).1), hideAll_none _ (List.mem_map_of_mem hp)⟩) B₂ (X₀.keeps st) (T.keeps st) (fun b hb => by
      rcases memX hf hb with rfl | hb
      · exact ⟨oL, es, ep, hLg, hLd⟩
      · obtain ⟨o, es', n', ho', hd'⟩ := D b hb
        exact ⟨o, es', n', st b o ho', hd'⟩)) (fun fl s' hl => backS B F XB TB D T0 hf hLg hN hNs st hl) fun _ _ y => y
/-- a def with cells, entered from the outermost frame, whose frame a caught exception may turn -/
theorem code_defCS0 (B : Below A₀ base [] h₀) (F : Fr h₀ L s.heap m) (X₀ : K.In h₀) (N : News h₀ L s.heap news) (T : Top p loose mean mg mb h₀) (hA : A.frames = some [env]) (hf : env.frame = some L) (hke : env.scope.kind = .function)
    (ho : K.lookup f = some ⟨oc, od, .func (fnOf name qual params body scope dV kV doc pm an cdv ct), osl⟩) (hcd : codeIn K cdv qual = true) (hroom : A.depth < recursionLimit)
    (hbind : BindsTo s (fnOf name qual params body scope dV kV doc pm an cdv ct) args binds) (hkind : (binds.all fun y => scope.names.lookup y.1 == some .local || scope.names.lookup y.1 == some .cell) = true)
    (hnd : ((cellsFrom 0 scope.names []).map (·.1)).Nodup)
    (h : ∀ g L' h₁ tk cells, Fr h₀ L g m → Fr g L' h₁ (bindL (envOfC qual scope L' f cdv).kindOf binds fun _ => none) → News g L' h₁ (cells ++ news) →
      CellsAre (bindC (envOfC qual scope L' f cdv).kindOf binds fun _ => none) (cellsFrom (L' + 1) scope.names []) cells → Below A base [env] g → K.In g → Top p loose mean mg mb g → (∀ p ∈ news, p.1 < L') → KtsDicts ([env].filterMap (·.frame)) g →
      wpAny (model prog w) (A.deeper (envOfC qual scope L' f cdv)) (execs body (envOfC qual scope L' f cdv))
        (fun fl s' => LeaveS0 ([env].filterMap (·.frame)) h₀ L m g R (match fl with | .ret v => v | _ => .none) s')
        (fun e s' => wpAny (model prog w) (A.deeper (envOfC qual scope L' f cdv)) (leaving (envOfC qual scope L' f cdv) e) (fun _ s'' => R (.error e) s'') (fun e' s'' => R (.error e') s'') s')
        { s with heap := h₁, toks := tk })
    (hco : scope.isCoroutine = false) (hgen : scope.isGenerator = false) (hk : scope.kind = .function) : codeAny (model prog w) A (.call (.ref f) args) R s := by
  have X := X₀.keeps F.keep
  obtain ⟨oL, es, ep, hLg, hLd, hN, hNs, st, B₂⟩ := enterX B F N hA hf hke
  refine codeAny_call_function hroom (X _ _ ho) rfl hco hgen rfl (codeRec_of X hcd) (hbind _ _ _ _ ?_)
  refine wpAny_newFunctionEnv_cells hk (kindsX hkind _) fun env' he s' x => ?_
  subst he
  refine ⟨(T.nolimit.keeps F.keep).keeps x.toInCall.keep, codeAny_func ?_⟩
  obtain ⟨h₁, tk, rfl, _⟩ := x.done
  have hk₁ := x.toInCall.keep
  obtain ⟨cells, NC, Y⟩ := Cl.news (h₀ := s.heap) (Nat.le_refl _) fun n c hm => ⟨x.cell n c (lookup_of_mem_nodup (cellsFrom_names scope.names 0 (s.heap.objs.size + 1) [] [] rfl ▸ hnd) hm), x.above n c hm⟩
  refine wpAny_mono (h _ s.heap.objs.size h₁ tk cells ⟨hN _ hLg, st, F.above⟩ ⟨x.toInCall.ns, fun b o e => hk₁ b o (of_hideAll _ e), Nat.le_of_eq (hideAll_size _ _)⟩ (fun p hp => ?_) Y B₂ (X₀.keeps st) (T.keeps st) (fun p hp => Heap.lt_size (N p hp).1) (fun b hb => by
      rcases memX hf hb with rfl | z
      · exact ⟨oL, es, ep, hLg, hLd⟩
      · simp at z)) (fun fl s' hl => backS0 F hf hLg hNs st hl) fun _ _ y => y
  rcases List.mem_append.mp hp with hp | hp
  · refine ⟨(NC p hp).1, (NC p hp).2.1, ?_⟩
    cases q : (hideAll s.heap (news.map (·.1))).get? p.1 with
    | none => rfl
    | some o => have := of_hideAll _ q; rw [(NC p hp).2.2] at this; cases this
  · exact ⟨hk₁ _ _ (N p hp).1, Nat.ne_of_lt (Heap.lt_size (N p hp).1), hideAll_none _ (List.mem_map_of_mem hp)⟩
end
end Mine
end
open PySem PySem.W PyProof.Rows
open PySem.Builtin.Int (intBits)
set_option Elab.async false
set_option maxRecDepth 100000
set_option pp.maxSteps 4000
set_option pp.deepTerms.threshold 6
namespace Mine
set_option compiler.extract_closed false
set_option hygiene false
local macro_rules | `(tactic| walk_at "p6") => `(tactic| ((case B | F | X | N | T => k_asm); (case hk => first | exact rfl | assumption); (case hdp => ktr_room); (case hun => ktr_units)))
local macro_rules | `(tactic| walk_at "om") => `(tactic| first | assumption | exact Int.le_trans (by assumption) (by decide) | (refine Int.le_trans ?_ (by assumption); decide) | omega)
local macro_rules | `(tactic| walk_at "tt") => `(tactic| first | with_reducible assumption | exact TupAt.mono (by with_reducible assumption) (by (repeat' (first | exact sub_refl | refine sub_skip ?_))) | exact TupAt.base (by with_reducible assumption) | exact TupAt.mem (by k_mem))
local macro_rules | `(tactic| walk_at "bm") => `(tactic| exact Nat.le_trans (by bits_by_make) (by decide))
local macro_rules | `(tactic| walk_at "tl") => `(tactic| ((try dsimp only); (try k_fold)))
local macro_rules | `(tactic| walk_at "vo") => `(tactic| first | with_reducible assumption | exact v_of (by with_reducible assumption) (by kernel_rfl))
local macro_rules | `(tactic| walk_at "e1") => `(tactic| ((case z9kA | z9kF | z9kK => exact rfl); (case z9k1 | z9k2 | z9k3 | z9k4 | z9k5 => k_asm); (case z9k6 => k_mem); (case z9k7 => first | exact codeRec_news (by k_asm) (by k_mem) (by with_reducible assumption) (by with_reducible assumption) | exact codeRec_news (by k_asm) (by k_mem) (by with_reducible assumption) (v_of (by with_reducible assumption) (by kernel_rfl))); (case z9k8 => ktr_room)))
local macro_rules | `(tactic| walk_at "e2") => `(tactic| ((case z9c5 => decide); (case z9kB => exact locs rfl); (case z9c2 | z9c3 | z9c4 => exact rfl)))
local macro_rules | `(tactic| bits_by_make) => `(tactic| first
  | with_reducible assumption
  | ((with_reducible apply bits_lc); bits_by_make)
  | ((with_reducible refine bits_pow10a ?_); omega)
  | ((with_reducible refine bits_pow10b ?_); omega)
  | ((with_reducible refine bits_pow10 ?_); first | omega | l_bnd)
  | ((with_reducible apply bits_abs); bits_by_make)
  | ((with_reducible apply bits_tdiv); bits_by_make))
local macro_rules | `(tactic| walk_at "binaryOp FloorDiv int int") => `(tactic| (k_here; (with_reducible refine' fdiv_W ?z9kbe ?z9kbp ?z9kbq ?_); (case z9kbe => first | assumption | (apply abs_ne; assumption) | omega); (case z9kbp => bits_by_make); (case z9kbq => decide)))
local macro_rules | `(tactic| walk_at "binaryOp Pow int int") => `(tactic| (k_here; (with_reducible refine' pow_int_small ?z9kb1 ?z9kb2 ?z9kb3 ?_); (case z9kb1 | z9kb2 => first | omega | l_bnd); (case z9kb3 => decide)))
local macro_rules | `(tactic| ktr_room) => `(tactic| ((dsimp +zetaDelta only); ktr_room))
local macro_rules | `(tactic| ktr_units) => `(tactic| ((dsimp +zetaDelta only); ktr_units))
local macro_rules | `(tactic| kn_enter) => `(tactic| (refine' code_nest ?z9k1 ?z9k2 ?z9k3 ?z9k4 ?z9k5 ?z9kA ?z9kF ?z9kK ?z9k6 ?z9k7 ?z9k8 ?z9k9 ?z9kB ?_ ?z9c2 ?z9c3 ?z9c4 ?z9c5; walk_at "e1"; (case z9k9 => exact BindsTo.of_eq rfl); walk_at "e2"; k_whole; intro _ _ _ _ _ _ B' _ _; (try dsimp only); (try k_lift B'); (try k_fold)))
local macro_rules | `(tactic| kla_enter) => `(tactic| (refine' kla_code ?z9k1 ?z9k2 ?z9k3 ?z9k4 ?z9k5 ?z9kA ?z9kF ?z9kK ?z9k6 ?z9k7 ?z9k8 ?z9k9 ?z9kB ?_ ?z9c2 ?z9c3 ?z9c4 ?z9c5; walk_at "e1"; (case z9k9 => exact rfl); walk_at "e2"; k_whole; intro _ _ _ _ _ _ B' _ _; (try dsimp only); (try k_lift B'); (try k_fold)))
local macro_rules | `(tactic| cell_enter) => `(tactic| first | (refine' code_def ?z9k1 ?z9k2 ?z9k3 ?z9k4 ?z9k5 ?z9kA ?z9kF ?z9kK ?z9k6 ?z9k7 ?z9k8 ?z9k9 ?z9kB ?_ ?z9c2 ?z9c3 ?z9c4 ?z9c5; (case z9k3 => k_asm); (case z9k6 => k_is); (case z9kA | z9kF => exact rfl); (case z9kK => first | assumption | exact rfl); (case z9k1 | z9k2 | z9k4 | z9k5 => k_asm); (case z9k7 => k_is); (case z9k8 => ktr_room); (case z9k9 => first | exact BindsTo.of_eq rfl | exact binds_K (by k_in) rfl (by k_is) rfl rfl rfl); walk_at "e2"; k_whole; intro g' L' h' FG' F' N' B' X' T'; (try dsimp only); (try k_lift B'); (try k_fold)) | (refine' code_defC ?z9k1 ?z9k2 ?z9k3 ?z9k4 ?z9k5 ?z9kA ?z9kF ?z9kK ?z9k6 ?z9k7 ?z9k8 ?z9k9 ?z9kB ?z9kD ?_ ?z9c2 ?z9c3 ?z9c4; (case z9k3 => k_asm); (case z9k6 => k_is); (case z9kA | z9kF => exact rfl); (case z9kK => first | assumption | exact rfl); (case z9k1 | z9k2 | z9k4 | z9k5 => k_asm); (case z9k7 => k_is); (case z9k8 => ktr_room); (case z9k9 => first | exact BindsTo.of_eq rfl | exact binds_K (by k_in) rfl (by k_is) rfl rfl rfl); (case z9kB => exact rfl); (case z9kD => decide +kernel); (case z9c2 | z9c3 | z9c4 => exact rfl); k_whole; intro g' L' h' _ _ FG' F' N' Y' B' X' T' l1; (try k_lt l1); k_cells Y'; (try simp only [List.cons_append, List.nil_append] at N'); (try dsimp only); (try k_lift B'); (try k_fold)))
local macro_rules | `(tactic| walk_at "call ref") => `(tactic| (k_here; k_dflt (refine wpAny_call ?_; cell_enter)))
local macro_rules | `(tactic| walk_at "subscriptTail") => `(tactic| (k_here; (with_reducible show wpAny _ _ (subscriptTail _ _ (Value.ref _) (Value.int _ _)) _ _ _); k_dflt (refine' item_tupleT ?z9t ?z9a ?z9b ?z9c ?z9d ?_; (case z9t => first | exact Fr.tup (by k_asm) (by with_reducible assumption) | exact TupAt.get (by k_asm) (by k_asm) (by k_asm) (by with_reducible assumption) (by (repeat' (first | exact sub_refl | refine sub_skip ?_)))); (case z9a | z9b => decide); (case z9c | z9d => rfl); k_whole)))
local macro_rules | `(tactic| k_mem) => `(tactic| first | with_reducible assumption | ((repeat (first | with_reducible exact List.mem_cons_self | with_reducible refine List.mem_cons_of_mem _ ?_)); done) | ((repeat (with_reducible refine List.mem_cons_of_mem _ ?_)); with_reducible assumption))
local macro_rules | `(tactic| walk_at "eval Name") => `(tactic| (k_here; k_dflt (first
  | (refine' nameX_L ?z9F ?z9v ?_ ?z9a ?z9b; (case z9F => k_asm); (case z9a | z9b | z9v => rfl); k_whole)
  | (refine' nameX_C ?z9N ?z9c ?z9m ?z9d ?_ ?z9a ?z9b; (case z9a | z9b => rfl); (case z9N => k_asm); (case z9c => rfl); (case z9m => k_mem); (case z9d => k_asm); k_whole))))
local macro_rules | `(tactic| walk_at "storeName") => `(tactic| (k_here; k_dflt (refine' storeX_L ?z9F ?z9N ?_ ?z9a ?z9b; (case z9F | z9N => k_asm); (case z9a | z9b => rfl); k_whole; intro _ _ _; (try k_sweep))))
local macro_rules | `(tactic| walk_at "eval BinOp") => `(tactic| (k_here; (try k_fold); refine wpAny_BinOp ?_))
local macro_rules | `(tactic| walk_at "eval Subscript") => `(tactic| (k_here; (try k_fold); refine Subscript_ ?_))
local macro_rules | `(tactic| walk_at "eval Tuple") => `(tactic| (k_here; (try k_fold); refine Tuple_ ?_))
local macro_rules | `(tactic| walk_at "eval Call") => `(tactic| (k_here; (try k_fold); refine Call_ ?_))
local macro_rules | `(tactic| walk_at "execs cons") => `(tactic| (k_here; refine wpAny_execs_cons ?_; k_fold))
local macro_rules | `(tactic| walk_at "execs cons") => `(tactic| (k_here; dsimp only))
local macro_rules | `(tactic| k_all) => `(tactic| first | with_reducible assumption | exact ne_all (by with_reducible assumption))
local macro_rules | `(tactic| k_ne) => `(tactic| ((refine neN ?_); (try dsimp only); first
  | exact Nat.ne_of_gt (by with_reducible assumption)
  | exact Nat.ne_of_lt (by with_reducible assumption)
  | ((first | refine gt_pick (by with_reducible assumption) ?_ | refine lt_pick (by with_reducible assumption) ?_); (repeat (first | with_reducible exact And.left | with_reducible exact id | with_reducible refine and_r ?_)); done)))
theorem fill_all {w : World} {h : Heap} (X : (hd.heap_39 w.params).In h) : PySem.Challenge.rw_og0066_01.foot = 7 → (hd.heap_39 w.params).In h := by
  k_fill
  exact fun _ => X
set_option maxHeartbeats 4000000 in
theorem decimal_use {u k : Int} {t t2 : Tok} {w : World} {p : Program} {loose : List Str} {mean : ExcName → Option Value} {mg mb : Str → Option Value} {news : List (Addr × Obj)}
    {dp un : Nat} {gd : Option (List Code)} {cn : Str} {cs : Scope} {a : Addr} {ccd : Value} {cl : List (Str × Addr)} {outer : List Env} {A₀ : Around} {base h₀ : Heap} {L : Addr} {m : Str → Option Value} {s : Shared} {Q E : Value → Shared → Prop}
    (B : Below A₀ base outer h₀) (F : Fr h₀ L s.heap m) (X : (hd.heap_39 w.params).In h₀) (N : News h₀ L s.heap news) (T : Top p loose mean mg mb h₀) (hk : cs.kind = .function) (hdp : dp + 1 < recursionLimit) (hun : un + 8 < cLine)
    (hk0 : -400 ≤ k) (hk1 : k ≤ 400) (hb : intBits u ≤ 100000)
    (hret : ∀ (D : Addr) (t1 t2 : Tok) (c : Nat) (u' k' : Int) (h' : Heap) (tk' : Nat), Dec u k u' k' → (∀ q ∈ news, q.1 < D) → Fr h₀ L h' m → News h₀ L h' ((D, { cls := .type "tuple", data := .seq #[.int u' t1, .int k' t2] c }) :: news) → Q (.ref D) { s with heap := h', toks := tk' }) :
    wpAny (model PySem.Challenge.rw_og0066_01.row.prog w) (ktrTop dp un gd cn cs L a ccd cl outer) (call (.ref 70) [.int u t, .int k t2]) Q E s := by
  refine Boxed.out ?_
  simp (disch :=
    k_dflt (
      refine wpAny_call ?_
      k_dflt cell_enter
      k_with "exec While BoolOp cons nil" => k_while (fun _ v j => 0 ≤ j ∧ j ≤ k ∧ v * 10 ^ (k - j).toNat = u) (fun _ v j => j.toNat) "units" "scale"
      k_with "state" => exact ⟨by omega, by omega, Dec.turn (by assumption) (by assumption) (by assumption) (by assumption)⟩
      k_steps
      · exact hret _ _ _ _ _ _ _ _ (Dec.neg (by assumption)) (by assumption) (by k_asm) (by k_asm)
      all_goals exact hret _ _ _ _ _ _ _ _ (Dec.pos (by assumption) (by assumption) (by assumption) (by assumption)) (by assumption) (by k_asm) (by k_asm)
    )) only [↓Boxed.eq]
set_option maxHeartbeats 4000000 in
theorem decimal1_use {u : Int} {t : Tok} {w : World} {p : Program} {loose : List Str} {mean : ExcName → Option Value} {mg mb : Str → Option Value} {news : List (Addr × Obj)}
    {dp un : Nat} {gd : Option (List Code)} {cn : Str} {cs : Scope} {a : Addr} {ccd : Value} {cl : List (Str × Addr)} {outer : List Env} {A₀ : Around} {base h₀ : Heap} {L : Addr} {m : Str → Option Value} {s : Shared} {Q E : Value → Shared → Prop}
    (B : Below A₀ base outer h₀) (F : Fr h₀ L s.heap m) (X : (hd.heap_39 w.params).In h₀) (N : News h₀ L s.heap news) (T : Top p loose mean mg mb h₀) (hk : cs.kind = .function) (hdp : dp + 1 < recursionLimit) (hun : un + 8 < cLine)
    (hret : ∀ (D : Addr) (t1 t2 : Tok) (c : Nat) (h' : Heap) (tk' : Nat), (∀ q ∈ news, q.1 < D) → Fr h₀ L h' m → News h₀ L h' ((D, { cls := .type "tuple", data := .seq #[.int u t1, .int 0 t2] c }) :: news) → Q (.ref D) { s with heap := h', toks := tk' }) :
    wpAny (model PySem.Challenge.rw_og0066_01.row.prog w) (ktrTop dp un gd cn cs L a ccd cl outer) (call (.ref 70) [.int u t]) Q E s := by
  refine Boxed.out ?_
  simp (disch :=
    k_dflt (
      refine wpAny_call ?_
      k_dflt cell_enter
      k_with "exec While BoolOp cons nil" => k_while (fun _ v j => j = 0 ∧ v = u) (fun _ v j => j.toNat) "units" "scale"
      k_steps
      all_goals (obtain ⟨rfl, rfl⟩ : _ = (0 : Int) ∧ _ = u := ⟨by assumption, by assumption⟩; exact hret _ _ _ _ _ _ (by assumption) (by k_asm) (by k_asm))
    )) only [↓Boxed.eq]
local macro_rules | `(tactic| walk_at "storeName") => `(tactic| (k_here; k_dflt (refine' storeX_M ?z9F ?z9N ?_ ?z9a ?z9b; (case z9F | z9N => k_asm); (case z9a | z9b => rfl); k_whole; intro _ _ _ _; (try k_sweep))))
set_option maxHeartbeats 4000000 in
theorem cutq_use {w : World} {p : Program} {loose : List Str} {mean : ExcName → Option Value} {mg mb : Str → Option Value} {x y : Int} {t u : Tok} {news : List (Addr × Obj)}
    {dp un : Nat} {gd : Option (List Code)} {cn : Str} {cs : Scope} {a : Addr} {ccd : Value} {cl : List (Str × Addr)} {outer : List Env} {A₀ : Around} {base h₀ : Heap} {L : Addr} {m : Str → Option Value} {s : Shared} {Q E : Value → Shared → Prop}
    (B : Below A₀ base outer h₀) (F : Fr h₀ L s.heap m) (X : (hd.heap_39 w.params).In h₀) (N : News h₀ L s.heap news) (T : Top p loose mean mg mb h₀) (hk : cs.kind = .function) (hdp : dp + 1 < recursionLimit) (hun : un + 8 < cLine)
    (hy : y ≠ 0) (hx : intBits x ≤ 4000) (hb : intBits y ≤ 4000)
    (hret : ∀ (t : Tok) (h' : Heap) (tk' : Nat), Fr h₀ L h' m → News h₀ L h' news → Q (.int (Int.tdiv x y) t) { s with heap := h', toks := tk' }) :
    wpAny (model PySem.Challenge.rw_og0066_01.row.prog w) (ktrTop dp un gd cn cs L a ccd cl outer) (call (.ref 62) [.int x t, .int y u]) Q E s := by
  refine Boxed.out ?_
  simp (disch :=
    k_dflt (
      refine wpAny_call ?_
      k_dflt cell_enter
      refine letAQE ?_
      intro A9 Q9 E9
      k_steps
      · rw [tdiv_neg_way (by assumption)]
        exact hret _ _ _ (by k_asm) (by k_asm)
      · rw [tdiv_pos_way (by assumption)]
        exact hret _ _ _ (by k_asm) (by k_asm)
    )) only [↓Boxed.eq]
local macro_rules | `(tactic| walk_at "call ref") => `(tactic| (k_here; refine callAt 62 rfl ?_; k_dflt (apply cutq_use; walk_at "p6"; (case hy => first | assumption | exact pow10_ne _ | exact Int.mul_ne_zero (by assumption) (pow10_ne _) | omega); (case hx | hb => walk_at "bm"); k_whole); intro _ _ _ _ _; walk_at "tl"))
local macro_rules | `(tactic| walk_at "call ref") => `(tactic| (k_here; refine callAt 70 rfl ?_; k_dflt (apply decimal_use; walk_at "p6"; (case hk0 | hk1 => first | omega | l_bnd); (case hb => walk_at "bm"); k_whole); intro _ _ _ _ _ _ _ _ _ l1 _ _; (try dsimp only); (try k_lt l1); (try k_fold)))
local macro_rules | `(tactic| walk_at "call ref") => `(tactic| (k_here; refine callAt 70 rfl ?_; k_dflt (apply decimal1_use; walk_at "p6"; k_whole); intro _ _ _ _ _ _ l1 _ _; (try dsimp only); (try k_lt l1); (try k_fold)))
set_option maxHeartbeats 4000000 in
theorem minus_use {P R : Addr} {a0 a1 b0 b1 : Int} {ta tb tc td : Tok} {ca cb : Nat} {w : World} {p : Program} {loose : List Str} {mean : ExcName → Option Value} {mg mb : Str → Option Value} {news : List (Addr × Obj)}
    {dp un : Nat} {gd : Option (List Code)} {cn : Str} {cs : Scope} {a : Addr} {ccd : Value} {cl : List (Str × Addr)} {outer : List Env} {A₀ : Around} {base h₀ : Heap} {L : Addr} {m : Str → Option Value} {s : Shared} {Q E : Value → Shared → Prop}
    (B : Below A₀ base outer h₀) (F : Fr h₀ L s.heap m) (X : (hd.heap_39 w.params).In h₀) (N : News h₀ L s.heap news) (T : Top p loose mean mg mb h₀) (hk : cs.kind = .function) (hdp : dp + 3 < recursionLimit) (hun : un + 24 < cLine)
    (hP : (P, ({ cls := .type "tuple", data := .seq #[.int a0 ta, .int a1 tb] ca } : Obj)) ∈ news) (hR : (R, ({ cls := .type "tuple", data := .seq #[.int b0 tc, .int b1 td] cb } : Obj)) ∈ news)
    (ha0 : intBits a0 ≤ 10000) (hb0 : intBits b0 ≤ 10000) (ha : 0 ≤ a1) (ha' : a1 ≤ 100) (hb : 0 ≤ b1) (hb' : b1 ≤ 100)
    (hret : ∀ (D : Addr) (t1 t2 : Tok) (c : Nat) (u' k' : Int) (h' : Heap) (tk' : Nat), Dec (a0 * 10 ^ (max a1 b1 - a1).toNat - b0 * 10 ^ (max a1 b1 - b1).toNat) (max a1 b1) u' k' → (∀ q ∈ news, q.1 < D) → Fr h₀ L h' m → News h₀ L h' ((D, { cls := .type "tuple", data := .seq #[.int u' t1, .int k' t2] c }) :: news) → Q (.ref D) { s with heap := h', toks := tk' }) :
    wpAny (model PySem.Challenge.rw_og0066_01.row.prog w) (ktrTop dp un gd cn cs L a ccd cl outer) (call (.ref 84) [.ref P, .ref R]) Q E s := by
  refine Boxed.out ?_
  simp (disch :=
    k_dflt (
      refine wpAny_call ?_
      k_dflt cell_enter
      refine letAQE ?_
      intro A9 Q9 E9
      k_steps
      rename Dec _ _ _ _ => hD
      rw [mx] at hD
      rename _ ∧ AllLt _ news => hl
      exact hret _ _ _ _ _ _ _ _ hD (allLt_mem hl.2) (by k_asm) (news_sub (by k_asm) (sub_keep (sub_skip sub_refl)))
    )) only [↓Boxed.eq]
set_option maxHeartbeats 4000000 in
theorem product_use {P R : Addr} {a0 a1 b0 b1 : Int} {ta tb tc td : Tok} {ca cb : Nat} {w : World} {p : Program} {loose : List Str} {mean : ExcName → Option Value} {mg mb : Str → Option Value} {news : List (Addr × Obj)}
    {dp un : Nat} {gd : Option (List Code)} {cn : Str} {cs : Scope} {a : Addr} {ccd : Value} {cl : List (Str × Addr)} {outer : List Env} {A₀ : Around} {base h₀ : Heap} {L : Addr} {m : Str → Option Value} {s : Shared} {Q E : Value → Shared → Prop}
    (B : Below A₀ base outer h₀) (F : Fr h₀ L s.heap m) (X : (hd.heap_39 w.params).In h₀) (N : News h₀ L s.heap news) (T : Top p loose mean mg mb h₀) (hk : cs.kind = .function) (hdp : dp + 2 < recursionLimit) (hun : un + 16 < cLine)
    (hP : (P, ({ cls := .type "tuple", data := .seq #[.int a0 ta, .int a1 tb] ca } : Obj)) ∈ news) (hR : (R, ({ cls := .type "tuple", data := .seq #[.int b0 tc, .int b1 td] cb } : Obj)) ∈ news)
    (ha0 : intBits a0 ≤ 10000) (hb0 : intBits b0 ≤ 10000) (ha : 0 ≤ a1) (ha' : a1 ≤ 100) (hb : 0 ≤ b1) (hb' : b1 ≤ 100)
    (hret : ∀ (D : Addr) (t1 t2 : Tok) (c : Nat) (u' k' : Int) (h' : Heap) (tk' : Nat), Dec (a0 * b0) (a1 + b1) u' k' → (∀ q ∈ news, q.1 < D) → Fr h₀ L h' m → News h₀ L h' ((D, { cls := .type "tuple", data := .seq #[.int u' t1, .int k' t2] c }) :: news) → Q (.ref D) { s with heap := h', toks := tk' }) :
    wpAny (model PySem.Challenge.rw_og0066_01.row.prog w) (ktrTop dp un gd cn cs L a ccd cl outer) (call (.ref 113) [.ref P, .ref R]) Q E s := by
  refine Boxed.out ?_
  simp (disch :=
    k_dflt (
      refine wpAny_call ?_
      k_dflt cell_enter
      refine letAQE ?_
      intro A9 Q9 E9
      k_steps
      exact hret _ _ _ _ _ _ _ _ (by assumption) (by first | assumption | exact allLt_mem (by assumption)) (by k_asm) (by k_asm)
    )) only [↓Boxed.eq]
set_option maxHeartbeats 4000000 in
theorem cutat_use {P : Addr} {a0 a1 k : Int} {ta tb tc : Tok} {ca : Nat} {w : World} {p : Program} {loose : List Str} {mean : ExcName → Option Value} {mg mb : Str → Option Value} {news : List (Addr × Obj)}
    {dp un : Nat} {gd : Option (List Code)} {cn : Str} {cs : Scope} {a : Addr} {ccd : Value} {cl : List (Str × Addr)} {outer : List Env} {A₀ : Around} {base h₀ : Heap} {L : Addr} {m : Str → Option Value} {s : Shared} {Q E : Value → Shared → Prop}
    (B : Below A₀ base outer h₀) (F : Fr h₀ L s.heap m) (X : (hd.heap_39 w.params).In h₀) (N : News h₀ L s.heap news) (T : Top p loose mean mg mb h₀) (hk : cs.kind = .function) (hdp : dp + 3 < recursionLimit) (hun : un + 24 < cLine)
    (hP : (P, ({ cls := .type "tuple", data := .seq #[.int a0 ta, .int a1 tb] ca } : Obj)) ∈ news)
    (ha0 : intBits a0 ≤ 4000) (ha : 0 ≤ a1) (ha' : a1 ≤ 100) (hb : -100 ≤ k) (hb' : k ≤ 100)
    (hret : ∀ (D : Addr) (t1 t2 : Tok) (c : Nat) (u' k' : Int) (h' : Heap) (tk' : Nat), Dec (unitsAt a0 a1 k) k u' k' → (∀ q ∈ news, q.1 < D) → Fr h₀ L h' m → News h₀ L h' ((D, { cls := .type "tuple", data := .seq #[.int u' t1, .int k' t2] c }) :: news) → Q (.ref D) { s with heap := h', toks := tk' }) :
    wpAny (model PySem.Challenge.rw_og0066_01.row.prog w) (ktrTop dp un gd cn cs L a ccd cl outer) (call (.ref 106) [.ref P, .int k tc]) Q E s := by
  refine Boxed.out ?_
  simp (disch :=
    k_dflt (
      refine wpAny_call ?_
      k_dflt cell_enter
      refine letAQE ?_
      intro A9 Q9 E9
      k_steps
      · rename Dec _ _ _ _ => hD
        rw [unitsAt_ge (by assumption)] at hD
        exact hret _ _ _ _ _ _ _ _ hD (by first | assumption | exact allLt_mem (by assumption)) (by k_asm) (by k_asm)
      · rename Dec _ _ _ _ => hD
        rw [unitsAt_lt (by assumption)] at hD
        exact hret _ _ _ _ _ _ _ _ hD (by first | assumption | exact allLt_mem (by assumption)) (by k_asm) (by k_asm)
    )) only [↓Boxed.eq]
set_option maxHeartbeats 4000000 in
theorem quotient_use {P R : Addr} {a0 a1 b0 b1 : Int} {ta tb tc td : Tok} {ca cb : Nat} {w : World} {p : Program} {loose : List Str} {mean : ExcName → Option Value} {mg mb : Str → Option Value} {news : List (Addr × Obj)}
    {dp un : Nat} {gd : Option (List Code)} {cn : Str} {cs : Scope} {a : Addr} {ccd : Value} {cl : List (Str × Addr)} {outer : List Env} {A₀ : Around} {base h₀ : Heap} {L : Addr} {m : Str → Option Value} {s : Shared} {Q E : Value → Shared → Prop}
    (B : Below A₀ base outer h₀) (F : Fr h₀ L s.heap m) (X : (hd.heap_39 w.params).In h₀) (N : News h₀ L s.heap news) (T : Top p loose mean mg mb h₀) (hk : cs.kind = .function) (hdp : dp + 2 < recursionLimit) (hun : un + 16 < cLine)
    (hP : (P, ({ cls := .type "tuple", data := .seq #[.int a0 ta, .int a1 tb] ca } : Obj)) ∈ news) (hR : (R, ({ cls := .type "tuple", data := .seq #[.int b0 tc, .int b1 td] cb } : Obj)) ∈ news)
    (h0 : b0 ≠ 0) (ha0 : intBits a0 ≤ 1000) (hb0 : intBits b0 ≤ 1000) (ha : 0 ≤ a1) (ha' : a1 ≤ 100) (hb : 0 ≤ b1) (hb' : b1 ≤ 100)
    (hret : ∀ (D : Addr) (t1 t2 : Tok) (c : Nat) (u' k' : Int) (h' : Heap) (tk' : Nat), Dec (Int.tdiv (a0 * 10 ^ (30 + b1).toNat) (b0 * 10 ^ a1.toNat)) 30 u' k' → (∀ q ∈ news, q.1 < D) → Fr h₀ L h' m → News h₀ L h' ((D, { cls := .type "tuple", data := .seq #[.int u' t1, .int k' t2] c }) :: news) → Q (.ref D) { s with heap := h', toks := tk' }) :
    wpAny (model PySem.Challenge.rw_og0066_01.row.prog w) (ktrTop dp un gd cn cs L a ccd cl outer) (call (.ref 92) [.ref P, .ref R]) Q E s := by
  refine Boxed.out ?_
  simp (disch :=
    k_dflt (
      refine wpAny_call ?_
      k_dflt cell_enter
      refine letAQE ?_
      intro A9 Q9 E9
      k_steps
      · exact absurd (by assumption) h0
      · exact hret _ _ _ _ _ _ _ _ (by assumption) (by first | assumption | exact allLt_mem (by assumption)) (by k_asm) (by k_asm)
    )) only [↓Boxed.eq]
set_option maxHeartbeats 4000000 in
theorem lawcut_use {x y : Int} {r : Bool} {t u : Tok} {w : World} {p : Program} {loose : List Str} {mean : ExcName → Option Value} {mg mb : Str → Option Value} {news : List (Addr × Obj)}
    {dp un : Nat} {gd : Option (List Code)} {cn : Str} {cs : Scope} {a : Addr} {ccd : Value} {cl : List (Str × Addr)} {outer : List Env} {A₀ : Around} {base h₀ : Heap} {L : Addr} {m : Str → Option Value} {s : Shared} {Q E : Value → Shared → Prop}
    (B : Below A₀ base outer h₀) (F : Fr h₀ L s.heap m) (X : (hd.heap_39 w.params).In h₀) (N : News h₀ L s.heap news) (T : Top p loose mean mg mb h₀) (hk : cs.kind = .function) (hdp : dp + 1 < recursionLimit) (hun : un + 8 < cLine)
    (hy : y ≠ 0) (hx : intBits x ≤ 4000) (hb : intBits y ≤ 4000)
    (hret : ∀ (t : Tok) (h' : Heap) (tk' : Nat), Fr h₀ L h' m → News h₀ L h' news → Q (.int (lc x y r) t) { s with heap := h', toks := tk' }) :
    wpAny (model PySem.Challenge.rw_og0066_01.row.prog w) (ktrTop dp un gd cn cs L a ccd cl outer) (call (.ref 142) [.int x t, .int y u, .bool r]) Q E s := by
  refine Boxed.out ?_
  simp (disch :=
    k_dflt (
      refine wpAny_call ?_
      k_dflt cell_enter
      refine letAQE ?_
      intro A9 Q9 E9
      k_steps
      all_goals try subst r
      · rw [(lc_cases (lc_up (by assumption))).1 (by assumption)]; exact hret _ _ _ (by k_asm) (by k_asm)
      · rw [(lc_cases (lc_up (by assumption))).2 (by assumption)]; exact hret _ _ _ (by k_asm) (by k_asm)
      · rw [(lc_cases (lc_dn (r := true) fun _ => by assumption)).1 (by assumption)]; exact hret _ _ _ (by k_asm) (by k_asm)
      · rw [(lc_cases (lc_dn (r := true) fun _ => by assumption)).2 (by assumption)]; exact hret _ _ _ (by k_asm) (by k_asm)
      · rw [(lc_cases (lc_dn (r := false) fun h => Bool.noConfusion h)).1 (by assumption)]; exact hret _ _ _ (by k_asm) (by k_asm)
      · rw [(lc_cases (lc_dn (r := false) fun h => Bool.noConfusion h)).2 (by assumption)]; exact hret _ _ _ (by k_asm) (by k_asm)
    )) only [↓Boxed.eq]
local macro_rules | `(tactic| walk_at "call ref") => `(tactic| (k_here; refine callAt 142 rfl ?_; k_dflt (apply lawcut_use; walk_at "p6"; (case hy => first | assumption | exact pow10_ne _ | exact Int.mul_ne_zero (Int.mul_ne_zero (by assumption) (pow10_ne _)) (pow10_ne _) | omega); (case hx | hb => walk_at "bm"); k_whole); intro _ _ _ _ _; walk_at "tl"))
set_option maxHeartbeats 4000000 in
theorem keptK_use {P S : Addr} {u k n g : Int} {b r : Bool} {ta tb tc td : Tok} {ca : Nat} {w : World} {p : Program} {loose : List Str} {mean : ExcName → Option Value} {mg mb : Str → Option Value} {news : List (Addr × Obj)}
    {dp un : Nat} {gd : Option (List Code)} {cn : Str} {cs : Scope} {a : Addr} {ccd : Value} {cl : List (Str × Addr)} {outer : List Env} {A₀ : Around} {base h₀ : Heap} {L : Addr} {m : Str → Option Value} {s : Shared} {Q E : Value → Shared → Prop}
    (B : Below A₀ base outer h₀) (F : Fr h₀ L s.heap m) (X : (hd.heap_39 w.params).In h₀) (N : News h₀ L s.heap news) (T : Top p loose mean mg mb h₀) (hk : cs.kind = .function) (hdp : dp + 3 < recursionLimit) (hun : un + 24 < cLine)
    (hP : (P, ({ cls := .type "tuple", data := .seq #[.int u ta, .int k tb] ca } : Obj)) ∈ news) (hS : TupAt base news S #[.int n tc, .int g td, .bool b])
    (hu : intBits u ≤ 2000) (hk0 : 0 ≤ k) (hk1 : k ≤ 100) (hn0 : 0 ≤ n) (hn1 : n ≤ 20) (hg0 : -20 ≤ g) (hg1 : g ≤ 20)
    (hret0 : kept u k n g b r = none → ∀ (h' : Heap) (tk' : Nat), Fr h₀ L h' m → News h₀ L h' news → Q .none { s with heap := h', toks := tk' })
    (hret1 : ∀ i, kept u k n g b r = some i → ∀ (t : Tok) (h' : Heap) (tk' : Nat), Fr h₀ L h' m → News h₀ L h' news → Q (.int i t) { s with heap := h', toks := tk' }) :
    wpAny (model PySem.Challenge.rw_og0066_01.row.prog w) (ktrTop dp un gd cn cs L a ccd cl outer) (call (.ref 149) [.ref P, .ref S, .bool r]) Q E s := by
  refine Boxed.out ?_
  simp (disch :=
    k_dflt (
      refine wpAny_call ?_
      k_dflt cell_enter
      refine letAQE ?_
      intro A9 Q9 E9
      k_steps
      · exact hret0 (kept_none (by assumption)) _ _ (by k_asm) (by k_asm)
      · obtain rfl : b = true := by assumption
        exact hret1 _ (kept_true (by assumption)) _ _ _ (by k_asm) (by k_asm)
      · obtain rfl : b = false := by assumption
        exact hret1 _ (kept_false (by assumption)) _ _ _ (by k_asm) (by k_asm)
    )) only [↓Boxed.eq]
local macro_rules | `(tactic| walk_at "call ref") => `(tactic| (k_here; refine callAt 149 rfl ?_; k_dflt (apply keptK_use; walk_at "p6"; (case hP => k_mem); (case hS => walk_at "tt"); (case hu => walk_at "bm"); (case hk0 | hk1 | hn0 | hn1 | hg0 | hg1 => walk_at "om"); k_whole); (intro hKept' h' tk' F' N'; walk_at "tl"); rotate_left; (intro _ hKept' _ h' tk' F' N'; walk_at "tl"); rotate_left))
set_option maxHeartbeats 8000000 in
theorem dueK_use {P R G S : Addr} {t0 t1 b0 b1 n g rn rg : Int} {sg rs r : Bool} {ta tb tc td te tf tg th : Tok} {ca cb : Nat} {w : World} {p : Program} {loose : List Str} {mean : ExcName → Option Value} {mg mb : Str → Option Value} {news : List (Addr × Obj)}
    {dp un : Nat} {gd : Option (List Code)} {cn : Str} {cs : Scope} {a : Addr} {ccd : Value} {cl : List (Str × Addr)} {outer : List Env} {A₀ : Around} {base h₀ : Heap} {L : Addr} {m : Str → Option Value} {s : Shared} {Q E : Value → Shared → Prop}
    (B : Below A₀ base outer h₀) (F : Fr h₀ L s.heap m) (X : (hd.heap_39 w.params).In h₀) (N : News h₀ L s.heap news) (T : Top p loose mean mg mb h₀) (hk : cs.kind = .function) (hdp : dp + 5 < recursionLimit) (hun : un + 40 < cLine)
    (hP : (P, ({ cls := .type "tuple", data := .seq #[.int t0 ta, .int t1 tb] ca } : Obj)) ∈ news) (hR : (R, ({ cls := .type "tuple", data := .seq #[.int b0 tc, .int b1 td] cb } : Obj)) ∈ news) (hG : TupAt base news G #[.int n te, .int g tf, .bool sg]) (hS : TupAt base news S #[.int rn tg, .int rg th, .bool rs])
    (ht0 : intBits t0 ≤ 30) (hb0 : intBits b0 ≤ 30) (ht1 : 0 ≤ t1) (ht1' : t1 ≤ 10) (hb1 : 0 ≤ b1) (hb1' : b1 ≤ 10) (hn0 : 0 ≤ n) (hn1 : n ≤ 20) (hg0 : -10 ≤ g) (hg1 : g ≤ 10) (hrn0 : 0 ≤ rn) (hrn1 : rn ≤ 20) (hrg0 : -10 ≤ rg) (hrg1 : rg ≤ 10)
    (hret0 : due t0 t1 b0 b1 n g sg rn rg rs r = (none, none) → ∀ (D : Addr) ( c : Nat) (h' : Heap) (tk' : Nat), (∀ q ∈ news, q.1 < D) → Fr h₀ L h' m → News h₀ L h' ((D, { cls := .type "tuple", data := .seq #[.none, .none] c }) :: news) → Q (.ref D) { s with heap := h', toks := tk' })
    (hret1 : ∀ U, due t0 t1 b0 b1 n g sg rn rg rs r = (some U, none) → ∀ (D : Addr) (t1'  c : Nat) (h' : Heap) (tk' : Nat), (∀ q ∈ news, q.1 < D) → Fr h₀ L h' m → News h₀ L h' ((D, { cls := .type "tuple", data := .seq #[.int U t1', .none] c }) :: news) → Q (.ref D) { s with heap := h', toks := tk' })
    (hret2 : ∀ U V, due t0 t1 b0 b1 n g sg rn rg rs r = (some U, some V) → ∀ (D : Addr) (t1' t2'  c : Nat) (h' : Heap) (tk' : Nat), (∀ q ∈ news, q.1 < D) → Fr h₀ L h' m → News h₀ L h' ((D, { cls := .type "tuple", data := .seq #[.int U t1', .int V t2'] c }) :: news) → Q (.ref D) { s with heap := h', toks := tk' }) :
    wpAny (model PySem.Challenge.rw_og0066_01.row.prog w) (ktrTop dp un gd cn cs L a ccd cl outer) (call (.ref 156) [.ref P, .ref R, .ref G, .ref S, .bool r]) Q E s := by
  refine Boxed.out ?_
  simp (disch :=
    k_dflt (
      refine wpAny_call ?_
      k_dflt cell_enter
      refine letAQE ?_
      intro A9 Q9 E9
      k_steps
      · exact hret0 (due0 (by assumption)) _ _ _ _ (by first | assumption | exact allLt_mem (by assumption) | (rename _ ∧ _ => hl; first | exact allLt_mem hl.2 | exact allLt_mem hl.2.2 | exact allLt_mem hl.2.2.2 | exact allLt_mem hl.2.2.2.2 | exact allLt_mem hl.2.2.2.2.2 | exact allLt_mem hl.2.2.2.2.2.2)) (by k_asm) (news_sub (by k_asm) (by (refine sub_keep ?_; repeat' (first | exact sub_refl | refine sub_skip ?_))))
      · exact hret0 (due1 (by assumption) (by assumption)) _ _ _ _ (by first | assumption | exact allLt_mem (by assumption) | (rename _ ∧ _ => hl; first | exact allLt_mem hl.2 | exact allLt_mem hl.2.2 | exact allLt_mem hl.2.2.2 | exact allLt_mem hl.2.2.2.2 | exact allLt_mem hl.2.2.2.2.2 | exact allLt_mem hl.2.2.2.2.2.2)) (by k_asm) (news_sub (by k_asm) (by (refine sub_keep ?_; repeat' (first | exact sub_refl | refine sub_skip ?_))))
      · obtain rfl : sg = true := by assumption
        exact hret1 _ (due2t (by assumption) (by assumption) (by assumption)) _ _ _ _ _ (by first | assumption | exact allLt_mem (by assumption) | (rename _ ∧ _ => hl; first | exact allLt_mem hl.2 | exact allLt_mem hl.2.2 | exact allLt_mem hl.2.2.2 | exact allLt_mem hl.2.2.2.2 | exact allLt_mem hl.2.2.2.2.2 | exact allLt_mem hl.2.2.2.2.2.2)) (by k_asm) (news_sub (by k_asm) (by (refine sub_keep ?_; repeat' (first | exact sub_refl | refine sub_skip ?_))))
      · obtain rfl : sg = true := by assumption
        exact hret2 _ _ (due2t (by assumption) (by assumption) (by assumption)) _ _ _ _ _ _ (by first | assumption | exact allLt_mem (by assumption) | (rename _ ∧ _ => hl; first | exact allLt_mem hl.2 | exact allLt_mem hl.2.2 | exact allLt_mem hl.2.2.2 | exact allLt_mem hl.2.2.2.2 | exact allLt_mem hl.2.2.2.2.2 | exact allLt_mem hl.2.2.2.2.2.2)) (by k_asm) (news_sub (by k_asm) (by (refine sub_keep ?_; repeat' (first | exact sub_refl | refine sub_skip ?_))))
      · obtain rfl : sg = false := by assumption
        exact hret1 _ (due2f (by assumption) (by assumption) (by assumption)) _ _ _ _ _ (by first | assumption | exact allLt_mem (by assumption) | (rename _ ∧ _ => hl; first | exact allLt_mem hl.2 | exact allLt_mem hl.2.2 | exact allLt_mem hl.2.2.2 | exact allLt_mem hl.2.2.2.2 | exact allLt_mem hl.2.2.2.2.2 | exact allLt_mem hl.2.2.2.2.2.2)) (by k_asm) (news_sub (by k_asm) (by (refine sub_keep ?_; repeat' (first | exact sub_refl | refine sub_skip ?_))))
      · obtain rfl : sg = false := by assumption
        exact hret2 _ _ (due2f (by assumption) (by assumption) (by assumption)) _ _ _ _ _ _ (by first | assumption | exact allLt_mem (by assumption) | (rename _ ∧ _ => hl; first | exact allLt_mem hl.2 | exact allLt_mem hl.2.2 | exact allLt_mem hl.2.2.2 | exact allLt_mem hl.2.2.2.2 | exact allLt_mem hl.2.2.2.2.2 | exact allLt_mem hl.2.2.2.2.2.2)) (by k_asm) (news_sub (by k_asm) (by (refine sub_keep ?_; repeat' (first | exact sub_refl | refine sub_skip ?_))))
    )) only [↓Boxed.eq]
set_option maxHeartbeats 8000000 in
theorem dueKZ_use {P R G S : Addr} {t0 t1 b1 n g rn rg : Int} {sg rs r : Bool} {ta tb tc td te tf tg th : Tok} {ca cb : Nat} {w : World} {p : Program} {loose : List Str} {mean : ExcName → Option Value} {mg mb : Str → Option Value} {news : List (Addr × Obj)}
    {dp un : Nat} {gd : Option (List Code)} {cn : Str} {cs : Scope} {a : Addr} {ccd : Value} {cl : List (Str × Addr)} {outer : List Env} {A₀ : Around} {base h₀ : Heap} {L : Addr} {m : Str → Option Value} {s : Shared} {Q E : Value → Shared → Prop}
    (B : Below A₀ base outer h₀) (F : Fr h₀ L s.heap m) (X : (hd.heap_39 w.params).In h₀) (N : News h₀ L s.heap news) (T : Top p loose mean mg mb h₀) (hk : cs.kind = .function) (hdp : dp + 5 < recursionLimit) (hun : un + 40 < cLine)
    (hP : (P, ({ cls := .type "tuple", data := .seq #[.int t0 ta, .int t1 tb] ca } : Obj)) ∈ news) (hR : (R, ({ cls := .type "tuple", data := .seq #[.int 0 tc, .int b1 td] cb } : Obj)) ∈ news) (hG : TupAt base news G #[.int n te, .int g tf, .bool sg]) (hS : TupAt base news S #[.int rn tg, .int rg th, .bool rs])
    (ht0 : intBits t0 ≤ 30) (ht1 : 0 ≤ t1) (ht1' : t1 ≤ 10) (hb1 : 0 ≤ b1) (hb1' : b1 ≤ 10) (hn0 : 0 ≤ n) (hn1 : n ≤ 20) (hg0 : -10 ≤ g) (hg1 : g ≤ 10) (hrn0 : 0 ≤ rn) (hrn1 : rn ≤ 20) (hrg0 : -10 ≤ rg) (hrg1 : rg ≤ 10)
    (hret : ∀ (D : Addr) ( c : Nat) (h' : Heap) (tk' : Nat), (∀ q ∈ news, q.1 < D) → Fr h₀ L h' m → News h₀ L h' ((D, { cls := .type "tuple", data := .seq #[.none, .none] c }) :: news) → Q (.ref D) { s with heap := h', toks := tk' }) :
    wpAny (model PySem.Challenge.rw_og0066_01.row.prog w) (ktrTop dp un gd cn cs L a ccd cl outer) (call (.ref 156) [.ref P, .ref R, .ref G, .ref S, .bool r]) Q E s :=
  dueK_use B F X N T hk hdp hun hP hR hG hS ht0 (by decide) ht1 ht1' hb1 hb1' hn0 hn1 hg0 hg1 hrn0 hrn1 hrg0 hrg1 (fun _ => hret) (fun U hU => by rw [due0 rfl] at hU; cases hU) (fun U V hU => by rw [due0 rfl] at hU; cases hU)
set_option maxHeartbeats 4000000 in
theorem take0_use {P : Addr} {M : Int} {tm : Tok} {c : Nat} {w : World} {p : Program} {loose : List Str} {mean : ExcName → Option Value} {mg mb : Str → Option Value} {news : List (Addr × Obj)}
    {dp un : Nat} {gd : Option (List Code)} {cn : Str} {cs : Scope} {a : Addr} {ccd : Value} {cl : List (Str × Addr)} {outer : List Env} {A₀ : Around} {base h₀ : Heap} {L : Addr} {m : Str → Option Value} {s : Shared} {Q E : Value → Shared → Prop}
    (B : Below A₀ base outer h₀) (F : Fr h₀ L s.heap m) (X : (hd.heap_39 w.params).In h₀) (N : News h₀ L s.heap ((P, { cls := .type "list", data := .seq #[] c }) :: news)) (T : Top p loose mean mg mb h₀) (hk : cs.kind = .function) (hdp : dp + 1 < recursionLimit) (hun : un + 8 < cLine)
    (hM : 0 < M) (hoff : ∀ q ∈ news, q.1 ≠ P)
    (hret : ∀ (i : Int) (t : Tok) (vs' : List Value) (ns' : List Int) (c' : Nat) (h' : Heap) (tk' : Nat), 0 ≤ i → i < M → IntsAre vs' ns' → ns'.length ≤ 0 → Fr h₀ L h' m → News h₀ L h' ((P, { cls := .type "list", data := .seq vs'.toArray c' }) :: news) → Q (.int i t) { s with heap := h', toks := tk' }) :
    wpAny (model PySem.Challenge.rw_og0066_01.row.prog w) (ktrTop dp un gd cn cs L a ccd cl outer) (call (.ref 135) [.ref P, .int M tm]) Q E s := by
  refine Boxed.out ?_
  simp (disch :=
    k_dflt (
      refine wpAny_call ?_
      k_dflt cell_enter
      refine letAQE ?_
      intro A9 Q9 E9
      k_steps
      exact hret _ _ [] [] _ _ _ (Int.le_refl _) hM .nil (Nat.le_refl _) (by k_asm) (by k_asm)
    )) only [↓Boxed.eq]
set_option maxHeartbeats 4000000 in
theorem take1_use {P : Addr} {M v : Int} {tv : Tok} {vs : List Value} {ns : List Int} {tm : Tok} {c : Nat} {w : World} {p : Program} {loose : List Str} {mean : ExcName → Option Value} {mg mb : Str → Option Value} {news : List (Addr × Obj)}
    {dp un : Nat} {gd : Option (List Code)} {cn : Str} {cs : Scope} {a : Addr} {ccd : Value} {cl : List (Str × Addr)} {outer : List Env} {A₀ : Around} {base h₀ : Heap} {L : Addr} {m : Str → Option Value} {s : Shared} {Q E : Value → Shared → Prop}
    (B : Below A₀ base outer h₀) (F : Fr h₀ L s.heap m) (X : (hd.heap_39 w.params).In h₀) (N : News h₀ L s.heap ((P, { cls := .type "list", data := .seq (Value.int v tv :: vs).toArray c }) :: news)) (T : Top p loose mean mg mb h₀) (hk : cs.kind = .function) (hdp : dp + 1 < recursionLimit) (hun : un + 8 < cLine)
    (hM : 0 < M) (hM2 : M ≤ 10 ^ 8) (hI : IntsAre vs ns) (hlen : ns.length ≤ 100) (hoff : ∀ q ∈ news, q.1 ≠ P)
    (hret : ∀ (i : Int) (t : Tok) (vs' : List Value) (ns' : List Int) (c' : Nat) (h' : Heap) (tk' : Nat), 0 ≤ i → i < M → IntsAre vs' ns' → ns'.length ≤ ns.length + 1 → Fr h₀ L h' m → News h₀ L h' ((P, { cls := .type "list", data := .seq vs'.toArray c' }) :: news) → Q (.int i t) { s with heap := h', toks := tk' }) :
    wpAny (model PySem.Challenge.rw_og0066_01.row.prog w) (ktrTop dp un gd cn cs L a ccd cl outer) (call (.ref 135) [.ref P, .int M tm]) Q E s := by
  refine Boxed.out ?_
  simp (disch :=
    k_dflt (
      have hI1 : IntsAre (.int v tv :: vs) (v :: ns) := .cons _ _ hI
      refine wpAny_call ?_
      k_dflt cell_enter
      refine letAQE ?_
      intro A9 Q9 E9
      k_steps
      · exact absurd (show ((ns.length + 1 : Nat) : Int) = 0 by assumption) (by omega)
      · rename News _ _ _ ((P, W.listOf _ c) :: news) => NP
        rename Fr _ _ _ _ => FP
        k_dflt (refine' kl_popAt (k := 0) (p := []) (q := vs) FP NP ?f ?k ?c ?U ?z ?_; (case f => decide); (case U => exact Upd.head hoff))
        case k => simp [seqIndex?]
        case c => rfl
        case z => have := hI.length; simp [sizeLine_eq]; omega
        intro h9 F9 N9
        try k_sweep
        k_steps
        exact hret _ _ vs ns (c + 1) _ _ (fmod_lo0 _ hM) (fmod_hi0 _ hM) hI (by omega) (by k_asm) (by k_asm)
      · rename IntsAre _ (List.set _ _ _) => hI2
        exact hret _ _ _ _ _ _ _ (fmod_lo0 _ hM) (fmod_hi0 _ hM) hI2 (by simp) (by k_asm) (by k_asm)
    )) only [↓Boxed.eq]
theorem take_use {P : Addr} {M : Int} {vs : List Value} {ns : List Int} {tm : Tok} {c : Nat} {w : World} {p : Program} {loose : List Str} {mean : ExcName → Option Value} {mg mb : Str → Option Value} {news : List (Addr × Obj)}
    {dp un : Nat} {gd : Option (List Code)} {cn : Str} {cs : Scope} {a : Addr} {ccd : Value} {cl : List (Str × Addr)} {outer : List Env} {A₀ : Around} {base h₀ : Heap} {L : Addr} {m : Str → Option Value} {s : Shared} {Q E : Value → Shared → Prop}
    (B : Below A₀ base outer h₀) (F : Fr h₀ L s.heap m) (X : (hd.heap_39 w.params).In h₀) (N : News h₀ L s.heap ((P, { cls := .type "list", data := .seq vs.toArray c }) :: news)) (T : Top p loose mean mg mb h₀) (hk : cs.kind = .function) (hdp : dp + 1 < recursionLimit) (hun : un + 8 < cLine)
    (hM : 0 < M) (hM2 : M ≤ 10 ^ 8) (hI : IntsAre vs ns) (hlen : ns.length ≤ 100) (hoff : ∀ q ∈ news, q.1 ≠ P)
    (hret : ∀ (i : Int) (t : Tok) (vs' : List Value) (ns' : List Int) (c' : Nat) (h' : Heap) (tk' : Nat), 0 ≤ i → i < M → IntsAre vs' ns' → ns'.length ≤ 100 → Fr h₀ L h' m → News h₀ L h' ((P, { cls := .type "list", data := .seq vs'.toArray c' }) :: news) → Q (.int i t) { s with heap := h', toks := tk' }) :
    wpAny (model PySem.Challenge.rw_og0066_01.row.prog w) (ktrTop dp un gd cn cs L a ccd cl outer) (call (.ref 135) [.ref P, .int M tm]) Q E s := by
  cases hI with
  | nil => exact take0_use B F X N T hk hdp hun hM hoff fun i t vs' ns' c' h' tk' h1 h2 h3 h4 => hret i t vs' ns' c' h' tk' h1 h2 h3 (by omega)
  | cons v tv hI' =>
    rw [List.length_cons] at hlen
    exact take1_use B F X N T hk hdp hun hM hM2 hI' (by omega) hoff fun i t vs' ns' c' h' tk' h1 h2 h3 h4 => hret i t vs' ns' c' h' tk' h1 h2 h3 (by omega)
theorem takeAt_use {P : Addr} {M : Int} {vs : List Value} {ns : List Int} {tm : Tok} {c : Nat} {gf : Obj → List (Addr × Obj)} {w : World} {p : Program} {loose : List Str} {mean : ExcName → Option Value} {mg mb : Str → Option Value} {news : List (Addr × Obj)}
    {dp un : Nat} {gd : Option (List Code)} {cn : Str} {cs : Scope} {a : Addr} {ccd : Value} {cl : List (Str × Addr)} {outer : List Env} {A₀ : Around} {base h₀ : Heap} {L : Addr} {m : Str → Option Value} {s : Shared} {Q E : Value → Shared → Prop}
    (B : Below A₀ base outer h₀) (F : Fr h₀ L s.heap m) (X : (hd.heap_39 w.params).In h₀) (N : News h₀ L s.heap news) (T : Top p loose mean mg mb h₀) (hk : cs.kind = .function) (hdp : dp + 1 < recursionLimit) (hun : un + 8 < cLine)
    (U : UpdF P (W.listOf vs.toArray c) news gf) (hM : 0 < M) (hM2 : M ≤ 10 ^ 8) (hI : IntsAre vs ns) (hlen : ns.length ≤ 100)
    (hret : ∀ (i : Int) (t : Tok) (vs' : List Value) (ns' : List Int) (c' : Nat) (h' : Heap) (tk' : Nat), 0 ≤ i → i < M → IntsAre vs' ns' → ns'.length ≤ 100 → Fr h₀ L h' m → News h₀ L h' (gf (W.listOf vs'.toArray c')) → Q (.int i t) { s with heap := h', toks := tk' }) :
    wpAny (model PySem.Challenge.rw_og0066_01.row.prog w) (ktrTop dp un gd cn cs L a ccd cl outer) (call (.ref 135) [.ref P, .int M tm]) Q E s := by
  obtain ⟨own, rest, rfl, hg, h1, h2⟩ := U.split
  refine take_use (vs := vs) (c := c) (news := own ++ rest) B F X (fun p hp => N p ?_) T hk hdp hun hM hM2 hI hlen (fun q hq => ?_) fun i t vs' ns' c' h' tk' i0 i1 hI' hl' F' N' => ?_
  · rcases List.mem_cons.mp hp with rfl | hp
    · exact List.mem_append_right _ (.head _)
    · exact (List.mem_append.mp hp).elim (fun q => List.mem_append_left _ q) fun q => List.mem_append_right _ (.tail _ q)
  · exact (List.mem_append.mp hq).elim (h1 q) (h2 q)
  · refine hret i t vs' ns' c' h' tk' i0 i1 hI' hl' F' fun p hp => N' p ?_
    rw [hg] at hp
    rcases List.mem_append.mp hp with hp | hp
    · exact .tail _ (List.mem_append_left _ hp)
    · rcases List.mem_cons.mp hp with rfl | hp
      · exact .head _
      · exact .tail _ (List.mem_append_right _ hp)
theorem off_lt {e : Addr} {l : List (Addr × Obj)} (h : ∀ p ∈ l, p.1 < e) : ∀ p ∈ l, p.1 ≠ e := fun p hp => Nat.ne_of_lt (h p hp)
theorem off_gt_cons {e t : Addr} {o : Obj} {l : List (Addr × Obj)} (h0 : @LT.lt Nat _ e t) (h : ∀ p ∈ l, p.1 < e) : ∀ p ∈ (t, o) :: l, p.1 ≠ e := fun p hp => by
  rcases List.mem_cons.mp hp with rfl | hp
  · exact Nat.ne_of_gt h0
  · exact Nat.ne_of_lt (h p hp)
theorem lt_cons {d t : Addr} {o : Obj} {l : List (Addr × Obj)} (h0 : @LT.lt Nat _ t d) (h : ∀ p ∈ l, p.1 < d) : ∀ p ∈ (t, o) :: l, p.1 < d := fun p hp => by
  rcases List.mem_cons.mp hp with rfl | hp
  · exact h0
  · exact h p hp
theorem lineK {w : World} : LineK (hd.heap_39 w.params) 53 { name := "SizeFault", bases := [.ref 40], mro := [.ref 53, .ref 40, .type "Exception", .type "BaseException", .type "object"], ns := 52, qualname := "SizeFault" } where
  cls := by kernel_rfl
  pass := fun v => by rw [refuseLoop_ref, refuseLoop_ref]; exact PySem.F.store_Exception.passes v
  obj := by decide +kernel
  some_ := rfl
set_option maxHeartbeats 4000000 in
theorem init_use {e t0 : Addr} {x : Str} {t : Tok} {w : World} {p : Program} {loose : List Str} {mean : ExcName → Option Value} {mg mb : Str → Option Value} {news : List (Addr × Obj)}
    {dp un : Nat} {gd : Option (List Code)} {cn : Str} {cs : Scope} {a : Addr} {ccd : Value} {cl : List (Str × Addr)} {outer : List Env} {A₀ : Around} {base h₀ : Heap} {L : Addr} {m : Str → Option Value} {s : Shared} {Q E : Value → Shared → Prop}
    (B : Below A₀ base outer h₀) (F : Fr h₀ L s.heap m) (X : (hd.heap_39 w.params).In h₀) (N : News h₀ L s.heap ((e, { cls := .ref 53, data := .fields #[.ref t0, .none, .none, .none, .bool false, .none] }) :: news)) (T : Top p loose mean mg mb h₀) (hk : cs.kind = .function) (hdp : dp + 2 < recursionLimit) (hun : un + 16 < cLine) (hl : ∀ q ∈ news, q.1 < e)
    (hret : ∀ (h' : Heap) (tk' : Nat) (t1 d : Addr) (dd : Obj), Fr h₀ L h' m → News h₀ L h' ((d, dd) :: (e, { cls := .ref 53, dict := some d, data := .fields #[.ref t1, .none, .none, .none, .bool false, .none] }) :: (t1, { cls := .type "tuple", data := .seq #[.str x t] }) :: news) → (∀ q ∈ news, q.1 < t1) → Q .none { s with heap := h', toks := tk' }) :
    wpAny (model PySem.Challenge.rw_og0066_01.row.prog w) (ktrTop dp un gd cn cs L a ccd cl outer) (call (.ref 30) [.ref e, .str x t]) Q E s := by
  refine Boxed.out ?_
  simp (disch :=
    k_dflt (
      refine wpAny_call ?_
      k_dflt cell_enter
      refine letAQE ?_
      intro A9 Q9 E9
      k_steps
      refine x_methInit (by k_in) (by k_is) fun u => ?_
      dsimp only
      k_steps
      k_dflt (refine' x_initK PySem.F.excBase_Exception ?F ?X ?N ?C ?T ?z ?h ?_; (case F => k_asm); (case X => k_asm); (case N => k_asm); (case C => k_is); (case T => exact ⟨by decide +kernel, by decide +kernel, by decide +kernel⟩); (case z => exact Nat.le_of_ble_eq_true rfl); (case h => exact off_lt hl))
      intro t1 h' F' N' l1 l2
      try k_sweep
      k_steps
      k_dflt (refine' x_setFirst ?F ?X ?N ?a lineK ?c rfl ?h ?_; (case F => k_asm); (case X => k_asm); (case N => k_asm); (case a => k_is); (case c => k_is); (case h => exact off_gt_cons l2 hl))
      intro dx kx h'' F'' N'' l3 l4
      try k_sweep
      k_steps
      k_dflt (refine' x_setSecond ?F ?X ?N ?a lineK ?c rfl ?e ?h ?_; (case F => k_asm); (case X => k_asm); (case N => k_asm); (case a => k_is); (case c => k_is); (case e => decide); (case h => exact off_lt (lt_cons l4 l3)))
      intro dd h3 F3 N3
      try k_sweep
      k_steps
      exact hret _ _ _ _ _ (by k_asm) (by k_asm) l1
    )) only [↓Boxed.eq]
theorem under_make {C : Addr} {rest : List Value} {dp un : Nat} {gd : Option (List Code)} {cn : Str} {cs : Scope} {a L : Addr} {ccd : Value} {cl : List (Str × Addr)} {outer : List Env} :
    (ktrTop dp un gd cn cs L a ccd cl outer).under (.builtin "type.__call__" ⟨.ref C :: rest, []⟩) = ktrTop (dp + 1) (un + 1) gd cn cs L a ccd cl outer := by
  have hw : (Code.builtin "type.__call__" ⟨.ref C :: rest, []⟩).weight = 1 := by
    simp only [Code.weight, show (Code.builtin "type.__call__" ⟨.ref C :: rest, []⟩).isGuard = false from (show guardIds.contains "type.__call__" = false by decide +kernel), show (Code.builtin "type.__call__" ⟨.ref C :: rest, []⟩).isCaller = false from rfl, show (Code.builtin "type.__call__" ⟨.ref C :: rest, []⟩).isCreation = true from rfl, show (Code.builtin "type.__call__" ⟨.ref C :: rest, []⟩).frames = 0 from rfl]
    rfl
  have he : (Code.builtin "type.__call__" ⟨.ref C :: rest, []⟩).envs = [] := rfl
  have hg : (Code.builtin "type.__call__" ⟨.ref C :: rest, []⟩).guards = [] := by
    simp only [Code.guards, show (Code.builtin "type.__call__" ⟨.ref C :: rest, []⟩).isGuard = false from (show guardIds.contains "type.__call__" = false by decide +kernel)]
    rfl
  have hu : (Code.builtin "type.__call__" ⟨.ref C :: rest, []⟩).cUnits = 1 := rfl
  unfold Around.under
  rw [hw, he, hg, hu]
  rfl
/-- every object of a heap beside the written ones and the frame's -/
def allOf (h₀ h : Heap) (L : Addr) : List (Addr × Obj) := (List.range h.objs.size).filterMap fun b => match h.get? b with
  | some o => if b = L ∨ (h₀.get? b).isSome = true then none else some (b, o)
  | none => none
theorem allOf_mem {h₀ h : Heap} {L b : Addr} {o : Obj} (hb : h.get? b = some o) (hL : b ≠ L) (h0 : h₀.get? b = none) : (b, o) ∈ allOf h₀ h L := by
  unfold allOf
  refine List.mem_filterMap.mpr ⟨b, List.mem_range.mpr (Heap.lt_size hb), ?_⟩
  rw [hb]
  simp [hL, h0]
theorem allOf_news {h₀ h : Heap} {L : Addr} : News h₀ L h (allOf h₀ h L) := fun p hp => by
  unfold allOf at hp
  obtain ⟨b, _, hb⟩ := List.mem_filterMap.mp hp
  cases q : h.get? b with
  | none => rw [q] at hb; cases hb
  | some o =>
    rw [q] at hb
    dsimp only at hb
    split at hb
    · cases hb
    · rename_i hn
      cases hb
      refine ⟨q, fun z => hn (.inl z), ?_⟩
      cases z : h₀.get? b with
      | none => rfl
      | some o' => exact absurd (.inr (by rw [z]; rfl)) hn
theorem allOf_lt {h₀ h : Heap} {L : Addr} : ∀ p ∈ allOf h₀ h L, p.1 < h.objs.size := fun p hp => Heap.lt_size (allOf_news p hp).1
set_option maxHeartbeats 4000000 in
theorem fault_use {x : Str} {t : Tok} {w : World} {p : Program} {loose : List Str} {mean : ExcName → Option Value} {mg mb : Str → Option Value} {news : List (Addr × Obj)}
    {dp un : Nat} {gd : Option (List Code)} {cn : Str} {cs : Scope} {a : Addr} {ccd : Value} {cl : List (Str × Addr)} {outer : List Env} {A₀ : Around} {base h₀ : Heap} {L : Addr} {m : Str → Option Value} {s : Shared} {Q E : Value → Shared → Prop}
    (B : Below A₀ base outer h₀) (F : Fr h₀ L s.heap m) (X : (hd.heap_39 w.params).In h₀) (N : News h₀ L s.heap news) (T : Top p loose mean mg mb h₀) (hk : cs.kind = .function) (hdp : dp + 4 < recursionLimit) (hun : un + 32 < cLine)
    (hret : ∀ (h' : Heap) (tk' : Nat) (e t1 d : Addr), Fr h₀ L h' m → (∀ b o, b ≠ L → s.heap.get? b = some o → h'.get? b = some o) → s.heap.get? e = none → s.heap.get? t1 = none → h'.get? e = some { cls := .ref 53, dict := some d, data := .fields #[.ref t1, .none, .none, .none, .bool false, .none] } → h'.TupAt t1 [.str x t] → Q (.ref e) { s with heap := h', toks := tk' }) :
    wpAny (model PySem.Challenge.rw_og0066_01.row.prog w) (ktrTop dp un gd cn cs L a ccd cl outer) (call (.ref 53) [.str x t]) Q E s := by
  have hC : (hd.heap_39 w.params).lookup 53 = some (excClassObj "SizeFault" "SizeFault" 53 52 [.ref 40] [.ref 40, .type "Exception", .type "BaseException", .type "object"] true [] [] false none none (some (.ref 44)) none (some (.str "SizeFault" 229)) (some (.str "SizeFault" 237)) (some (.bool true)) "Exception.__new__") := by k_is
  obtain ⟨hp, g, dr, tk, os⟩ := s
  have hlt : ∀ p ∈ allOf h₀ hp L, p.1 < hp.objs.size := allOf_lt
  refine x_call PySem.F.excBase_Exception ⟨by decide +kernel, by decide +kernel, by decide +kernel⟩ (X.keeps F.keep) ((X.keeps F.keep) _ _ hC) (fI := 30) (by k_is) (by k_is) (Nat.le_of_ble_eq_true rfl) ?_
  rw [under_make]
  have F1 : Fr h₀ L (hp.push { cls := .type "tuple", data := .seq [Value.str x t].toArray }) m := F.push _
  have N1 : News h₀ L (hp.push { cls := .type "tuple", data := .seq [Value.str x t].toArray }) ((hp.objs.size, { cls := .type "tuple", data := .seq [Value.str x t].toArray }) :: allOf h₀ hp L) := News.push F allOf_news _
  have N2 := News.push F1 N1 { cls := .ref 53, data := .fields #[.ref hp.objs.size, .none, .none, .none, .bool false, .none] }
  rw [Heap.size_push] at N2
  refine init_use (news := (hp.objs.size, { cls := .type "tuple", data := .seq [Value.str x t].toArray }) :: allOf h₀ hp L) B (F1.push _) X N2 T hk (by omega) (by omega) ?_ ?_
  · intro p hp'
    rcases List.mem_cons.mp hp' with rfl | hp'
    · exact Nat.lt_succ_self _
    · exact Nat.lt_succ_of_lt (hlt p hp')
  · intro h' tk' t1 d dd F' N' l1
    have ht1 := N' _ (.tail _ (.tail _ (.head _)))
    have hold : ∀ b o, b ≠ L → hp.get? b = some o → h'.get? b = some o := fun b o hL hb => by
      cases q : h₀.get? b with
      | none => exact (N' _ (.tail _ (.tail _ (.tail _ (.tail _ (allOf_mem hb hL q)))))).1
      | some o' =>
        have h1 := F.keep _ _ q
        have h2 := F'.keep _ _ q
        dsimp only at h1
        rw [hb] at h1
        cases h1
        exact h2
    refine ⟨rfl, hret h' tk' _ t1 d F' hold (Heap.get?_none_of_le (Nat.le_succ _)) ?_ (N' _ (.tail _ (.head _))).1 ⟨_, _, ht1.1, rfl, rfl⟩⟩
    cases q : hp.get? t1 with
    | none => rfl
    | some o => exact absurd (l1 (t1, o) (.tail _ (allOf_mem q ht1.2.1 ht1.2.2))) (Nat.lt_irrefl _)
section
local macro_rules | `(tactic| walk_at "exec Raise some none") => `(tactic| (k_here; k_dflt (refine x_Raise (C := 53) (nm := "SizeFault") (q := "SizeFault") (N := 52) (bs := [.ref 40]) (bm := [.ref 40, .type "Exception", .type "BaseException", .type "object"]) (hdct := true) (sn := []) (sub := []) (ab := false) (col := none) (dd := none) (k0 := some (.ref 44)) (k1 := none) (k2 := some (.str "SizeFault" 229)) (k3 := some (.str "SizeFault" 237)) (k5 := some (.bool true)) (newId := "Exception.__new__") (by decide +kernel) (by first | rfl | assumption) ?_)))
set_option maxHeartbeats 4000000 in
theorem quotient0_use {P R : Addr} {a0 a1 b1 : Int} {ta tb tc td : Tok} {ca cb : Nat} {w : World} {p : Program} {loose : List Str} {mean : ExcName → Option Value} {mg mb : Str → Option Value} {news : List (Addr × Obj)}
    {dp un : Nat} {gd : Option (List Code)} {cn : Str} {cs : Scope} {a : Addr} {ccd : Value} {cl : List (Str × Addr)} {outer : List Env} {A₀ : Around} {base h₀ : Heap} {L : Addr} {m : Str → Option Value} {s : Shared} {Q E : Value → Shared → Prop}
    (B : Below A₀ base outer h₀) (F : Fr h₀ L s.heap m) (X : (hd.heap_39 w.params).In h₀) (N : News h₀ L s.heap news) (T : Top p loose mean mg mb h₀) (hk : cs.kind = .function) (hdp : dp + 6 < recursionLimit) (hun : un + 48 < cLine)
    (hP : (P, ({ cls := .type "tuple", data := .seq #[.int a0 ta, .int a1 tb] ca } : Obj)) ∈ news) (hR : (R, ({ cls := .type "tuple", data := .seq #[.int 0 tc, .int b1 td] cb } : Obj)) ∈ news)
    (hexc : ∀ (G : Heap) (e t1 : Addr) (x : Str) (t : Tok) (h' : Heap) (tk' : Nat), Fr h₀ L G m → RaisedS base G (envX cn cs L a ccd cl :: outer) e (.ref 53) t1 [.str x t] news h' → RaisedK base (envX cn cs L a ccd cl :: outer) e (.ref 53) t1 [.str x t] news h' → G.UpToSlots h' → E (.ref e) { s with heap := h', toks := tk' }) :
    wpAny (model PySem.Challenge.rw_og0066_01.row.prog w) (ktrTop dp un gd cn cs L a ccd cl outer) (call (.ref 92) [.ref P, .ref R]) Q E s := by
  refine Boxed.out ?_
  simp (disch :=
    k_dflt (
      refine wpAny_call ?_
      k_dflt cell_enter
      refine letAQE ?_
      intro A9 Q9 E9
      k_steps
      have hC : (hd.heap_39 w.params).lookup 53 = some (excClassObj "SizeFault" "SizeFault" 53 52 [.ref 40] [.ref 40, .type "Exception", .type "BaseException", .type "object"] true [] [] false none none (some (.ref 44)) none (some (.str "SizeFault" 229)) (some (.str "SizeFault" 237)) (some (.bool true)) "Exception.__new__") := by k_is
      rename News _ _ _ news => N1
      rename Fr _ _ _ (fun _ => _) => F1
      rename Fr h₀ L _ m => FG
      rename Below _ _ (_ :: _) _ => B1
      rename (hd.heap_39 w.params).In _ => X1
      rename Top _ _ _ _ _ _ => T1
      refine fault_use B1 F1 X1 N1 T1 rfl (by dsimp only; omega) (by dsimp only; omega) ?_
      intro h' tk' e t1 d F' hold hne hnt he ht
      refine ⟨e, t1, some d, rfl, (X1.keeps F'.keep) _ _ hC, he, ?_⟩
      k_unfold
      refine leave_raiseX B1 F1 N1 F' hold hne he rfl rfl rfl rfl hnt ht ?_
      intro h'' R K U
      exact hexc _ _ _ _ _ _ _ FG R K U
    )) only [↓Boxed.eq]
end
section
variable {prog : Program} {w : World} {A : Around} {E : Value → Shared → Prop} {s : Shared} {env : Env}
/-- what an int's own name tells, its sign left open -/
def SignOk (Q : Value → Shared → Prop) (v : Value) (s₂ : Shared) : Prop := ∃ u t, v = .int u t ∧ ∀ v' t' tk, (v' = u ∨ v' = -u) → Q (.int v' t') { s₂ with toks := tk }
theorem SignOk.of {Q : Value → Shared → Prop} {u : Int} {t : Tok} {s₂ : Shared} (h : ∀ v' t' tk, (v' = u ∨ v' = -u) → Q (.int v' t') { s₂ with toks := tk }) : SignOk Q (.int u t) s₂ := ⟨u, t, rfl, h⟩
theorem ifSign {x : Str} {test : Expr} {p1 p2 p3 pos : Pos} {Q : Value → Shared → Prop}
    (h : wpAny (model prog w) A (isTrue test env (eval test env)) (fun _ s₁ => ∀ p, wpAny (model prog w) A (eval (.Name x p) env) (SignOk Q) E s₁) E s) :
    wpAny (model prog w) A (eval (.IfExp test (.UnaryOp .USub (.Name x p1) p2) (.Name x p3) pos) env) Q E s := by
  refine IfExp_ (wpAny_mono h (fun c s₁ h₁ => ?_) fun _ _ x => x)
  cases c
  · refine wpAny_mono (h₁ p3) (fun v s₂ hv => ?_) fun _ _ x => x
    obtain ⟨u, t, rfl, k⟩ := hv
    exact k u t s₂.toks (.inl rfl)
  · refine UnaryOp_ (wpAny_mono (h₁ p1) (fun v s₂ hv => ?_) fun _ _ x => x)
    obtain ⟨u, t, rfl, k⟩ := hv
    exact neg_int (k (-u) _ _ (.inr rfl))
theorem ifAB {test : Expr} {a b : Str} {k1 k2 : Nat} {p1 p2 pos : Pos} {Q : Value → Shared → Prop}
    (h : wpAny (model prog w) A (isTrue test env (eval test env)) (fun _ s₁ => ∀ x t tk, (x = a ∨ x = b) → Q (.str x t) { s₁ with toks := tk }) E s) :
    wpAny (model prog w) A (eval (.IfExp test (.Constant (.str a) k1 p1) (.Constant (.str b) k2 p2) pos) env) Q E s := by
  refine IfExp_ (wpAny_mono h (fun c s₁ h₁ => ?_) fun _ _ x => x)
  cases c
  · exact PySem.Calls.Constant_str (h₁ b _ _ (.inr rfl))
  · exact PySem.Calls.Constant_str (h₁ a _ _ (.inl rfl))
end
theorem pow10_le8 {d : Int} (h : d < 7) : (10 : Int) ^ (1 + d).toNat ≤ 10 ^ 8 := by
  have h1 : (10 : Nat) ^ (1 + d).toNat ≤ 10 ^ 8 := Nat.pow_le_pow_right (by decide) (by omega)
  have h2 : ((10 ^ (1 + d).toNat : Nat) : Int) = (10 : Int) ^ (1 + d).toNat := by simp
  omega
theorem sorts_item {w : World} {A : Around} {E : Value → Shared → Prop} {s : Shared} {h₀ : Heap} {L : Addr} {m : Str → Option Value} {value slice : Expr} {i : Int} {u : Tok} {Q : Value → Shared → Prop} (F : Fr h₀ L s.heap m) (X : (hd.heap_39 w.params).In h₀) (i0 : 0 ≤ i) (i7 : i < 7)
    (h : ∀ S n g b t1 t2, IsTup h₀ S #[.int n t1, .int g t2, .bool b] → 0 ≤ n → n ≤ 20 → -10 ≤ g → g ≤ 10 → Q (.ref S) s)
    (hs : subscripted slice false (.ref 128) (.int i u) = operate [.ref 128, .int i u] (getItem (.ref 128) (.int i u)) := by with_unfolding_all rfl) :
    wpAny (model PySem.Challenge.rw_og0066_01.row.prog w) A (subscriptTail value slice (.ref 128) (.int i u)) Q E s := by
  have hi : i = 0 ∨ i = 1 ∨ i = 2 ∨ i = 3 ∨ i = 4 ∨ i = 5 ∨ i = 6 := by omega
  rcases hi with rfl | rfl | rfl | rfl | rfl | rfl | rfl
  · have hl : (hd.heap_39 w.params).lookup 121 = some { cls := .type "tuple", dict := none, data := .seq [.int 5 346, .int (2) 347, .bool false].toArray 0, slots := #[] } := by k_is
    k_dflt (refine' topTup_K F X ?l ?a ?b ?c ?d ?_ hs; (case l => k_is); (case a => decide); (case b => decide); (case c => rfl); (case d => rfl))
    exact h 121 _ _ _ _ _ (tupK X hl) (by decide) (by decide) (by decide) (by decide)
  · have hl : (hd.heap_39 w.params).lookup 122 = some { cls := .type "tuple", dict := none, data := .seq [.int 4 348, .int (0) 349, .bool true].toArray 0, slots := #[] } := by k_is
    k_dflt (refine' topTup_K F X ?l ?a ?b ?c ?d ?_ hs; (case l => k_is); (case a => decide); (case b => decide); (case c => rfl); (case d => rfl))
    exact h 122 _ _ _ _ _ (tupK X hl) (by decide) (by decide) (by decide) (by decide)
  · have hl : (hd.heap_39 w.params).lookup 123 = some { cls := .type "tuple", dict := none, data := .seq [.int 5 350, .int (3) 351, .bool true].toArray 0, slots := #[] } := by k_is
    k_dflt (refine' topTup_K F X ?l ?a ?b ?c ?d ?_ hs; (case l => k_is); (case a => decide); (case b => decide); (case c => rfl); (case d => rfl))
    exact h 123 _ _ _ _ _ (tupK X hl) (by decide) (by decide) (by decide) (by decide)
  · have hl : (hd.heap_39 w.params).lookup 124 = some { cls := .type "tuple", dict := none, data := .seq [.int 1 352, .int (0) 353, .bool false].toArray 0, slots := #[] } := by k_is
    k_dflt (refine' topTup_K F X ?l ?a ?b ?c ?d ?_ hs; (case l => k_is); (case a => decide); (case b => decide); (case c => rfl); (case d => rfl))
    exact h 124 _ _ _ _ _ (tupK X hl) (by decide) (by decide) (by decide) (by decide)
  · have hl : (hd.heap_39 w.params).lookup 125 = some { cls := .type "tuple", dict := none, data := .seq [.int 6 354, .int (1) 355, .bool true].toArray 0, slots := #[] } := by k_is
    k_dflt (refine' topTup_K F X ?l ?a ?b ?c ?d ?_ hs; (case l => k_is); (case a => decide); (case b => decide); (case c => rfl); (case d => rfl))
    exact h 125 _ _ _ _ _ (tupK X hl) (by decide) (by decide) (by decide) (by decide)
  · have hl : (hd.heap_39 w.params).lookup 126 = some { cls := .type "tuple", dict := none, data := .seq [.int 6 356, .int (4) 357, .bool false].toArray 0, slots := #[] } := by k_is
    k_dflt (refine' topTup_K F X ?l ?a ?b ?c ?d ?_ hs; (case l => k_is); (case a => decide); (case b => decide); (case c => rfl); (case d => rfl))
    exact h 126 _ _ _ _ _ (tupK X hl) (by decide) (by decide) (by decide) (by decide)
  · have hl : (hd.heap_39 w.params).lookup 127 = some { cls := .type "tuple", dict := none, data := .seq [.int 3 358, .int (-2) 360, .bool true].toArray 0, slots := #[] } := by k_is
    k_dflt (refine' topTup_K F X ?l ?a ?b ?c ?d ?_ hs; (case l => k_is); (case a => decide); (case b => decide); (case c => rfl); (case d => rfl))
    exact h 127 _ _ _ _ _ (tupK X hl) (by decide) (by decide) (by decide) (by decide)
theorem sign_bits {u v d : Int} (hv : v = u ∨ v = -u) (h0 : 0 ≤ u) (h1 : u < 10 ^ (1 + d).toNat) (hd : d < 7) : intBits v ≤ 24 := by
  have h2 : (10 : Int) ^ (1 + d).toNat ≤ 10 ^ 7 := by
    have h1 : (10 : Nat) ^ (1 + d).toNat ≤ 10 ^ 7 := Nat.pow_le_pow_right (by decide) (by omega)
    have h2 : ((10 ^ (1 + d).toNat : Nat) : Int) = (10 : Int) ^ (1 + d).toNat := by simp
    omega
  refine intBits_le_iff.mpr ?_
  have e : (2 : Nat) ^ 24 = 16777216 := by decide
  have e2 : (10 : Int) ^ 7 = 10000000 := by decide
  rw [e]
  rw [e2] at h2
  rcases hv with rfl | rfl <;> omega
local macro_rules | `(tactic| walk_at "zz 0") => `(tactic| fail)
local macro_rules | `(tactic| walk_at "call ref") => `(tactic| (k_here; refine callAt 135 rfl ?_; k_dflt (apply takeAt_use; walk_at "p6"; (case U => k_updF); (case hM => first | decide | exact pow10_pos _); (case hM2 => first | decide | exact pow10_le8 (by assumption)); (case hI => first | assumption | l_ints); (case hlen => first | assumption | omega | (simp only [List.length_map, List.length_take]; omega)); k_whole); intro _ _ _ _ _ _ _ _ _ _ _ _ N'; (try dsimp only); (try dsimp only at N'); (try k_fold)))
section
open PyProof.V PySem.Spec
theorem eqv_int (i : Int) : PyData.eqv (.int i) (.int i) = true := by
  simp [PyData.eqv]
theorem rows_AB (i j : Int) : KeqRows [(PyData.str "A", PyData.int i), (PyData.str "B", PyData.int j)] [(PyData.str "A", PyData.int i), (PyData.str "B", PyData.int j)] true := by
  have h := KeqRows.hit (Db := [(PyData.str "A", PyData.int i), (PyData.str "B", PyData.int j)]) (k := PyData.str "A") (v := .int i) (u := .int i) rfl (KeqRows.hit (Db := [(PyData.str "A", PyData.int i), (PyData.str "B", PyData.int j)]) (k := PyData.str "B") (v := .int j) (u := .int j) rfl KeqRows.nil)
  rw [eqv_int, eqv_int] at h
  exact h
theorem heldEq {prog : Program} {w : World} {A : Around} {E : Value → Shared → Prop} {s : Shared} {h₀ : Heap} {L a b : Addr} {oa ob : Obj} {news : List (Addr × Obj)} {ka kb : List (Str × Value)} {Da Db : List (PyData × PyData)} {i j : Int} {Q : Value → Shared → Prop}
    (N : News h₀ L s.heap news) (pa : (a, oa) ∈ news) (pb : (b, ob) ∈ news) (da : oa.IsDictOf (PySem.strKind prog w) ka) (db : ob.IsDictOf (PySem.strKind prog w) kb) (fa : FlatPairs PyData.str ka Da) (fb : FlatPairs PyData.str kb Db)
    (la : (a == sysModules) = false) (lb : (b == sysModules) = false) (eb : Db = [(PyData.str "A", PyData.int i), (PyData.str "B", PyData.int j)]) (ea : Da = [(PyData.str "A", PyData.int i), (PyData.str "B", PyData.int j)]) (hu : A.units < cLine) (h : Q (.bool true) s) :
    wpAny (model prog w) A (compareOp .Eq (.ref a) (.ref b)) Q E s := by
  subst ea eb
  exact keq_tabs (knd := PySem.strKind prog w) (enc := PyData.str) PyProof.V.same_str ⟨la, ka, Heap.dictOf_iff.mpr ⟨oa, (N _ pa).1, da⟩, fa⟩ ⟨lb, kb, Heap.dictOf_iff.mpr ⟨ob, (N _ pb).1, db⟩, fb⟩ rfl hu (rows_AB i j) h
end
theorem four_mem {a b c d : Addr × Obj} {l : List (Addr × Obj)} (hd : d ∈ l) (hc : c ∈ l) (hb : b ∈ l) (ha : a ∈ l) : ∀ p ∈ a :: b :: c :: d :: [], p ∈ l := fun p hp => by
  rcases List.mem_cons.mp hp with rfl | hp
  · exact ha
  rcases List.mem_cons.mp hp with rfl | hp
  · exact hb
  rcases List.mem_cons.mp hp with rfl | hp
  · exact hc
  rcases List.mem_cons.mp hp with rfl | hp
  · exact hd
  cases hp
theorem dec_self {u : Int} : Dec u 0 u 0 := ⟨Int.le_refl _, by decide, rfl⟩
theorem nodupAB {t u : Tok} {v x : Value} : ((strPairs [(.str "A" t, v), (.str "B" u, x)]).map (·.1)).Nodup := by
  show (["A", "B"] : List Str).Nodup
  decide
local macro_rules | `(tactic| walk_at "compareOp Eq ref ref") => `(tactic| (k_here; k_dflt (apply heldEq; (case N => k_asm); (case pa | pb => k_mem); (case da | db | fa | fb | la | lb => with_reducible assumption); (case eb | ea => rfl); (case hu => ktr_units))))
local macro_rules | `(tactic| walk_at "subscriptTail Name Constant ref int") => `(tactic| (k_here; k_dflt (refine' item_tupleT ?z9t ?z9a ?z9b ?z9c ?z9d ?_; (case z9t => first | exact News.isTup (by k_asm) (by k_mem) | exact Fr.tup (by k_asm) (by with_reducible assumption)); (case z9a | z9b => decide); (case z9c | z9d => rfl); k_whole)))
local macro_rules | `(tactic| walk_at "subscriptTail Name") => `(tactic| (k_here; (with_reducible show wpAny _ _ (subscriptTail _ _ (Value.ref _) (Value.str _ _)) _ _ _); k_dflt (refine kda_item (knd := PySem.strKind _ _) (by k_asm) (by k_mem) (by with_reducible assumption) (strKind_is _ _ _ _) (by rfl) ?_)))
local macro_rules | `(tactic| walk_at "callWith ref") => `(tactic| (k_here; k_dflt (refine' callWith_K ?z9k1 ?z9k2 ?_; (case z9k1 => k_asm); (case z9k2 => k_is); k_whole)))
def lastOf : List Stmt → Stmt
  | [x] => x
  | _ :: xs => lastOf xs
  | [] => .Return none ⟨0, 0, 0, 0⟩
def inner : Stmt → List Stmt
  | .For _ _ b _ _ => b
  | .FunctionDef _ _ b _ _ _ _ _ _ _ => b
  | _ => []
def scopeIn : Stmt → Scope
  | .FunctionDef _ _ _ _ _ _ s _ _ _ => s
  | _ => default
def prevOf : List Stmt → Stmt
  | [x, _] => x
  | _ :: xs => prevOf xs
  | [] => default
def askedSt : Stmt := prevOf PySem.Challenge.pw_og0066_01.main.body
def parsIn : Stmt → Arguments
  | .FunctionDef _ p _ _ _ _ _ _ _ _ => p
  | _ => default
def keepSt : Stmt := lastOf ((inner askedSt).take 5)
def callArgs : Stmt → List Expr
  | .Assign _ (.Call _ as _ _) _ => as
  | _ => []
def wordSt : Stmt := lastOf ((inner askedSt).take 7)
def lamPars : Expr → Arguments
  | .Lambda p _ _ _ => p
  | _ => default
def lamBody : Expr → Expr
  | .Lambda _ b _ _ => b
  | _ => default
def lamScope : Expr → Scope
  | .Lambda _ _ s _ => s
  | _ => default
def lamN : Expr := ((callArgs wordSt).drop 1).headD default
def lamS : Expr := ((callArgs wordSt).drop 3).headD default
theorem due_of0 {t0 t1 b0 b1 q s n g rn rg : Int} {sg rs r : Bool} (hk : kept q s n g sg r = none) (D : Dec (Int.tdiv (t0 * 10 ^ (30 + b1).toNat) (b0 * 10 ^ t1.toNat)) 30 q s) (hb : b0 ≠ 0) (t1a : 0 ≤ t1) (t1b : t1 ≤ 10) (b1a : 0 ≤ b1) (b1b : b1 ≤ 10) (g0 : -10 ≤ g) (g1 : g ≤ 10) :
    (due t0 t1 b0 b1 n g sg rn rg rs r).1 = none := (lawA0 (o := (due t0 t1 b0 b1 n g sg rn rg rs r).1) (o' := (due t0 t1 b0 b1 n g sg rn rg rs r).2) rfl D hb t1a t1b b1a b1b g0 g1).symm.trans hk
theorem due_of1 {t0 t1 b0 b1 q s n g rn rg c z p y l x U : Int} {sg rs r : Bool} {o : Option Int} (hk : kept q s n g sg r = some U) (hk2 : kept l x rn rg rs false = o) (D : Dec (Int.tdiv (t0 * 10 ^ (30 + b1).toNat) (b0 * 10 ^ t1.toNat)) 30 q s) (hb : b0 ≠ 0) (t1a : 0 ≤ t1) (t1b : t1 ≤ 10) (b1a : 0 ≤ b1) (b1b : b1 ≤ 10) (g0 : -10 ≤ g) (g1 : g ≤ 10)
    (rg0 : -10 ≤ rg) (rg1 : rg ≤ 10) (C : Dec (unitsAt q s g) g c z) (P : Dec (c * b0) (z + b1) p y) (M : Dec (t0 * 10 ^ (max t1 y - t1).toNat - p * 10 ^ (max t1 y - y).toNat) (max t1 y) l x) :
    due t0 t1 b0 b1 n g sg rn rg rs r = (some U, o) := by
  have h1 : (due t0 t1 b0 b1 n g sg rn rg rs r).1 = some U := (lawA0 (o := (due t0 t1 b0 b1 n g sg rn rg rs r).1) (o' := (due t0 t1 b0 b1 n g sg rn rg rs r).2) rfl D hb t1a t1b b1a b1b g0 g1).symm.trans hk
  have h2 : due t0 t1 b0 b1 n g sg rn rg rs r = (some U, (due t0 t1 b0 b1 n g sg rn rg rs r).2) := Prod.ext h1 rfl
  rw [h2, ← lawB0 h2 D hb t1a t1b b1a b1b g0 g1 rg0 rg1 C P M, hk2]
section
open PySem.W
theorem fnAtL {h₀ h : Heap} {L q c' : Addr} {name qual : Str} {params : Arguments} {body : Expr} {scope : Scope} {cl : List (Str × Addr)} {pm ctv : Value} {news : List (Addr × Obj)} (N : News h₀ L h news) (hm : (q, kla_obj name qual params body scope cl pm c' ctv) ∈ news) : FnAt q h := FnAt.of N hm
theorem fnAtM {h₀ h : Heap} {L q c' : Addr} {name qual : Str} {params : Arguments} {body : List Stmt} {scope : Scope} {cl : List (Str × Addr)} {doc pm ctv : Value} {news : List (Addr × Obj)} (N : News h₀ L h news) (hm : (q, fnMade name qual params body scope cl doc pm c' ctv) ∈ news) : FnAt q h := FnAt.of N hm
end
section
local macro_rules | `(tactic| walk_at "call ref") => `(tactic| (k_here; kn_here; (fail_if_success refine callAt 120 rfl ?_); k_dflt (refine wpAny_call ?_; first | kla_enter | kn_enter)))
local macro_rules | `(tactic| walk_at "call ref") => `(tactic| (k_here; refine callAt 84 rfl ?_; k_dflt (apply minus_use; walk_at "p6"; (case hP | hR => k_mem); (case ha0 | hb0 | ha | ha' | hb | hb' => walk_at "om"); k_whole); intro _ _ _ _ _ _ _ _ hDec' l1 _ _; (try dsimp only); (try k_lt l1); (try (obtain ⟨hq1', hq2', hq3'⟩ := minus_facts hDec' (by assumption) (by assumption) (by omega) (by omega) (by omega) (by omega))); (try k_fold)))
local macro_rules | `(tactic| walk_at "call ref") => `(tactic| (k_here; refine callAt 113 rfl ?_; k_dflt (apply product_use; walk_at "p6"; (case hP | hR => k_mem); (case ha0 | hb0 | ha | ha' | hb | hb' => walk_at "om"); k_whole); intro _ _ _ _ _ _ _ _ hDec' l1 _ _; (try dsimp only); (try k_lt l1); (try (obtain ⟨hq1', hq2', hq3'⟩ := prod_facts hDec' (by assumption) (by assumption) (by omega) (by omega) (by omega) (by omega))); (try k_fold)))
local macro_rules | `(tactic| walk_at "call ref") => `(tactic| (k_here; refine callAt 106 rfl ?_; k_dflt (apply cutat_use; walk_at "p6"; (case hP => k_mem); (case ha0 => walk_at "bm"); (case ha | ha' | hb | hb' => walk_at "om"); k_whole); intro _ _ _ _ _ _ _ _ hDec' l1 _ _; (try dsimp only); (try k_lt l1); (obtain ⟨hq1', hq2', hq3'⟩ := cut_facts hDec' (by assumption) (by omega) (by omega) (by omega)); (try k_fold)))
local macro_rules | `(tactic| walk_at "call ref") => `(tactic| (k_here; refine callAt 92 rfl ?_; k_dflt (apply quotient_use; walk_at "p6"; (case hP | hR => k_mem); (case h0 | ha0 | hb0 | ha | ha' | hb | hb' => walk_at "om"); k_whole); intro _ _ _ _ _ _ _ _ hDec' l1 _ _; (try dsimp only); (try k_lt l1); (obtain ⟨hq1', hq2', hq3'⟩ := quot_facts hDec' (by assumption) (by omega) (by omega)); (try k_fold)))
local macro_rules | `(tactic| walk_at "FnAt") => `(tactic| (k_dflt (first | exact fnAtL (by k_asm) (by k_mem) | exact fnAtM (by k_asm) (by k_mem))))
local macro_rules | `(tactic| walk_at "callWith ref") => `(tactic| (k_here; kn_here; k_dflt (refine' callWith_F ?z9k1 ?_; (case z9k1 => first | exact fnAtL (by k_asm) (by k_mem) | exact fnAtM (by k_asm) (by k_mem)); k_whole)))
set_option rowWalk.seconds 0 in
set_option maxHeartbeats 16000000 in
theorem divA_use {P R SO H SA fn fk fs kn kk ks zS zH ST DN DD DG DI DR DE : Addr} {t0 t1 b0 b1 n g rn rg : Int} {sg rs r : Bool} {ta tb tc td te tf t7 t9 tA tB tA' tB' tr ti tj x1 x2 x3 x4 x5 x6 xn xk xs : Tok} {ca cb : Nat} {oS oH oN oK oC oZS oZH : Obj} {vn vk vs : Array Value} {qn qk qs : Str} {pn pk ps : Arguments} {en es : Expr} {ek : List Stmt} {wn wk ws : Scope} {pm ctn ctk cts dock : Value} {SB : Addr} {w : World} {p : Program} {loose : List Str} {mean : ExcName → Option Value} {mg mb : Str → Option Value} {news : List (Addr × Obj)}
    {dp un : Nat} {gd : Option (List Code)} {cn : Str} {cs : Scope} {a : Addr} {ccd : Value} {cl : List (Str × Addr)} {outer : List Env} {A₀ : Around} {base h₀ : Heap} {L : Addr} {m : Str → Option Value} {s : Shared} {Q E : Value → Shared → Prop}
    (B : Below A₀ base outer h₀) (F : Fr h₀ L s.heap m) (X : (hd.heap_39 w.params).In h₀) (N : News h₀ L s.heap ((H, oH) :: news)) (T : Top p loose mean mg mb h₀) (hk : cs.kind = .function) (hdp : dp + 6 < recursionLimit) (hun : un + 48 < cLine)
    (hST : (ST, ({ cls := .type "tuple", data := .seq #[.str "divide" x1, .ref DN, .ref DD, .ref DG, .ref DR, .ref DE] } : Obj)) ∈ news)
    (hDN : (DN, ({ cls := .type "tuple", data := .seq #[.str "number" x2, .ref P] } : Obj)) ∈ news)
    (hDD : (DD, ({ cls := .type "tuple", data := .seq #[.str "number" x3, .ref R] } : Obj)) ∈ news)
    (hDG : (DG, ({ cls := .type "tuple", data := .seq #[.ref DI, .bool r] } : Obj)) ∈ news)
    (hDI : (DI, ({ cls := .type "tuple", data := .seq #[.str "ref" x4, .str "A" x5] } : Obj)) ∈ news)
    (hDR : (DR, ({ cls := .type "tuple", data := .seq #[.str "ref" x6, .str "A" tr] } : Obj)) ∈ news)
    (hP : (P, ({ cls := .type "tuple", data := .seq #[.int t0 ta, .int t1 tb] ca } : Obj)) ∈ news)
    (hR : (R, ({ cls := .type "tuple", data := .seq #[.int b0 tc, .int b1 td] cb } : Obj)) ∈ news)
    (hfn : (fn, kla_obj (Str.ofString "<lambda>") qn pn en wn [] pm kn ctn) ∈ news)
    (hkn : (kn, oN) ∈ news)
    (hfs : (fs, kla_obj (Str.ofString "<lambda>") qs ps es ws [(Str.ofString "sorts", zS)] pm ks cts) ∈ news)
    (hks : (ks, oC) ∈ news)
    (hfk : (fk, fnMade (Str.ofString "keep") qk pk ek wk [(Str.ofString "sorts", zS), (Str.ofString "held", zH)] dock pm kk ctk) ∈ news)
    (hkk : (kk, oK) ∈ news)
    (hzS : (zS, oZS) ∈ news)
    (hzH : (zH, oZH) ∈ news)
    (hSO : (SO, oS) ∈ news)
    (hne : ∀ p ∈ news, p.1 ≠ H)
    (hG : TupAt base news SA #[.int n te, .int g tf, .bool sg]) (hS : TupAt base news SB #[.int rn ti, .int rg tj, .bool rs])
    (codeHd : CodeHd base 162 158) (e1 : pn = lamPars lamN) (e2 : en = lamBody lamN) (e3 : wn = lamScope lamN) (e4 : ps = lamPars lamS) (e5 : es = lamBody lamS) (e6 : ws = lamScope lamS) (e7 : pk = parsIn keepSt) (e8 : ek = inner keepSt) (e9 : wk = scopeIn keepSt)
    (dn : oN.data = .fields vn) (vn' : vn[1]? = some (.str qn xn)) (dc : oC.data = .fields vs) (vs' : vs[1]? = some (.str qs xs)) (dk : oK.data = .fields vk) (vk' : vk[1]? = some (.str qk xk))
    (dzS : oZS.data = .cell (some (.ref SO))) (dzH : oZH.data = .cell (some (.ref H)))
    (los : (SO == sysModules) = false) (loh : (H == sysModules) = false)
    (hdS : Obj.IsDictOf (PySem.strKind PySem.Challenge.rw_og0066_01.row.prog w) oS (strPairs [(.str "A" tA, .ref SA), (.str "B" tB, .ref SB)]))
    (hdH : Obj.IsDictOf (PySem.strKind PySem.Challenge.rw_og0066_01.row.prog w) oH (strPairs [(.str "A" tA', .int 7 t7), (.str "B" tB', .int 9 t9)]))
    (hfH : PyProof.V.FlatPairs PyData.str (strPairs [(.str "A" tA', .int 7 t7), (.str "B" tB', .int 9 t9)]) (strData [(.str "A" tA', .int 7 t7), (.str "B" tB', .int 9 t9)]))
    (ht0 : intBits t0 ≤ 30) (hb0 : intBits b0 ≤ 30) (ht1 : 0 ≤ t1) (ht1' : t1 ≤ 10) (hb1 : 0 ≤ b1) (hb1' : b1 ≤ 10) (hn0 : 0 ≤ n) (hn1 : n ≤ 20) (hg0 : -10 ≤ g) (hg1 : g ≤ 10) (hrn0 : 0 ≤ rn) (hrn1 : rn ≤ 20) (hrg0 : -10 ≤ rg) (hrg1 : rg ≤ 10) (hb : b0 ≠ 0)
    (hret0 : (due t0 t1 b0 b1 n g sg n g sg r).1 = none → ∀ (h' : Heap) (tk' : Nat) (t : Tok), Fr h₀ L h' m → News h₀ L h' ((H, oH) :: news) → Q (.str "size" t) { s with heap := h', toks := tk' })
    (hret1 : ∀ U, due t0 t1 b0 b1 n g sg n g sg r = (some U, none) → ∀ (oH' : Obj) (kvs' : List (Str × Value)) (h' : Heap) (tk' : Nat) (t : Tok), Obj.IsDictOf (PySem.strKind PySem.Challenge.rw_og0066_01.row.prog w) oH' kvs' → PyProof.V.FlatPairs PyData.str kvs' (PyProof.V.putD (PyData.str "A") (PyData.int U) (strData [(.str "A" tA', .int 7 t7), (.str "B" tB', .int 9 t9)])) → Fr h₀ L h' m → News h₀ L h' ((H, oH') :: news) → Q (.str "size" t) { s with heap := h', toks := tk' })
    (hret2 : ∀ U V, due t0 t1 b0 b1 n g sg n g sg r = (some U, some V) → ∀ (oH' : Obj) (kvs' : List (Str × Value)) (h' : Heap) (tk' : Nat) (t : Tok), Obj.IsDictOf (PySem.strKind PySem.Challenge.rw_og0066_01.row.prog w) oH' kvs' → PyProof.V.FlatPairs PyData.str kvs' (PyProof.V.putD (PyData.str "A") (PyData.int V) (PyProof.V.putD (PyData.str "A") (PyData.int U) (strData [(.str "A" tA', .int 7 t7), (.str "B" tB', .int 9 t9)]))) → Fr h₀ L h' m → News h₀ L h' ((H, oH') :: news) → Q (.str "" t) { s with heap := h', toks := tk' }) :
    wpAny (model PySem.Challenge.rw_og0066_01.row.prog w) (ktrTop dp un gd cn cs L a ccd cl outer) (call (.ref 120) [.ref ST, .ref fn, .ref fk, .ref fs]) Q E s := by
  refine Boxed.out ?_
  simp (disch :=
    k_dflt (
      conv at e1 => rhs; whnf
      conv at e2 => rhs; whnf
      conv at e3 => rhs; whnf
      conv at e4 => rhs; whnf
      conv at e5 => rhs; whnf
      conv at e6 => rhs; whnf
      conv at e7 => rhs; whnf
      conv at e8 => rhs; whnf
      conv at e9 => rhs; whnf
      subst e1 e2 e3 e4 e5 e6 e7 e8 e9
      refine wpAny_call ?_
      k_dflt cell_enter
      refine letAQE ?_
      intro A9 Q9 E9
      k_steps
      all_goals (try dsimp only)
      all_goals (first | exact hret0 (due_of0 (by with_reducible assumption) (by with_reducible assumption) hb ht1 ht1' hb1 hb1' hg0 hg1) _ _ _ (by k_asm) (news_sub (by k_asm) (by (repeat' (first | exact sub_refl | refine sub_skip ?_)))) | exact hret1 _ (due_of1 (by with_reducible assumption) (by with_reducible assumption) (by with_reducible assumption) hb ht1 ht1' hb1 hb1' hg0 hg1 hg0 hg1 (by with_reducible assumption) (by with_reducible assumption) (by with_reducible assumption)) _ _ _ _ _ (by with_reducible assumption) (by with_reducible assumption) (by k_asm) (news_sub (by k_asm) (by (repeat' (first | exact sub_refl | refine sub_skip ?_)))) | exact hret2 _ _ (due_of1 (by with_reducible assumption) (by with_reducible assumption) (by with_reducible assumption) hb ht1 ht1' hb1 hb1' hg0 hg1 hg0 hg1 (by with_reducible assumption) (by with_reducible assumption) (by with_reducible assumption)) _ _ _ _ _ (by with_reducible assumption) (by with_reducible assumption) (by k_asm) (news_sub (by k_asm) (by (repeat' (first | exact sub_refl | refine sub_skip ?_)))))
    )) only [↓Boxed.eq]
set_option rowWalk.seconds 0 in
set_option maxHeartbeats 16000000 in
theorem divB_use {P R SO H SA fn fk fs kn kk ks zS zH ST DN DD DG DI DR DE : Addr} {t0 t1 b0 b1 n g rn rg : Int} {sg rs r : Bool} {ta tb tc td te tf t7 t9 tA tB tA' tB' tr ti tj x1 x2 x3 x4 x5 x6 xn xk xs : Tok} {ca cb : Nat} {oS oH oN oK oC oZS oZH : Obj} {vn vk vs : Array Value} {qn qk qs : Str} {pn pk ps : Arguments} {en es : Expr} {ek : List Stmt} {wn wk ws : Scope} {pm ctn ctk cts dock : Value} {SB : Addr} {w : World} {p : Program} {loose : List Str} {mean : ExcName → Option Value} {mg mb : Str → Option Value} {news : List (Addr × Obj)}
    {dp un : Nat} {gd : Option (List Code)} {cn : Str} {cs : Scope} {a : Addr} {ccd : Value} {cl : List (Str × Addr)} {outer : List Env} {A₀ : Around} {base h₀ : Heap} {L : Addr} {m : Str → Option Value} {s : Shared} {Q E : Value → Shared → Prop}
    (B : Below A₀ base outer h₀) (F : Fr h₀ L s.heap m) (X : (hd.heap_39 w.params).In h₀) (N : News h₀ L s.heap ((H, oH) :: news)) (T : Top p loose mean mg mb h₀) (hk : cs.kind = .function) (hdp : dp + 6 < recursionLimit) (hun : un + 48 < cLine)
    (hST : (ST, ({ cls := .type "tuple", data := .seq #[.str "divide" x1, .ref DN, .ref DD, .ref DG, .ref DR, .ref DE] } : Obj)) ∈ news)
    (hDN : (DN, ({ cls := .type "tuple", data := .seq #[.str "number" x2, .ref P] } : Obj)) ∈ news)
    (hDD : (DD, ({ cls := .type "tuple", data := .seq #[.str "number" x3, .ref R] } : Obj)) ∈ news)
    (hDG : (DG, ({ cls := .type "tuple", data := .seq #[.ref DI, .bool r] } : Obj)) ∈ news)
    (hDI : (DI, ({ cls := .type "tuple", data := .seq #[.str "ref" x4, .str "A" x5] } : Obj)) ∈ news)
    (hDR : (DR, ({ cls := .type "tuple", data := .seq #[.str "ref" x6, .str "B" tr] } : Obj)) ∈ news)
    (hP : (P, ({ cls := .type "tuple", data := .seq #[.int t0 ta, .int t1 tb] ca } : Obj)) ∈ news)
    (hR : (R, ({ cls := .type "tuple", data := .seq #[.int b0 tc, .int b1 td] cb } : Obj)) ∈ news)
    (hfn : (fn, kla_obj (Str.ofString "<lambda>") qn pn en wn [] pm kn ctn) ∈ news)
    (hkn : (kn, oN) ∈ news)
    (hfs : (fs, kla_obj (Str.ofString "<lambda>") qs ps es ws [(Str.ofString "sorts", zS)] pm ks cts) ∈ news)
    (hks : (ks, oC) ∈ news)
    (hfk : (fk, fnMade (Str.ofString "keep") qk pk ek wk [(Str.ofString "sorts", zS), (Str.ofString "held", zH)] dock pm kk ctk) ∈ news)
    (hkk : (kk, oK) ∈ news)
    (hzS : (zS, oZS) ∈ news)
    (hzH : (zH, oZH) ∈ news)
    (hSO : (SO, oS) ∈ news)
    (hne : ∀ p ∈ news, p.1 ≠ H)
    (hG : TupAt base news SA #[.int n te, .int g tf, .bool sg]) (hS : TupAt base news SB #[.int rn ti, .int rg tj, .bool rs])
    (codeHd : CodeHd base 162 158) (e1 : pn = lamPars lamN) (e2 : en = lamBody lamN) (e3 : wn = lamScope lamN) (e4 : ps = lamPars lamS) (e5 : es = lamBody lamS) (e6 : ws = lamScope lamS) (e7 : pk = parsIn keepSt) (e8 : ek = inner keepSt) (e9 : wk = scopeIn keepSt)
    (dn : oN.data = .fields vn) (vn' : vn[1]? = some (.str qn xn)) (dc : oC.data = .fields vs) (vs' : vs[1]? = some (.str qs xs)) (dk : oK.data = .fields vk) (vk' : vk[1]? = some (.str qk xk))
    (dzS : oZS.data = .cell (some (.ref SO))) (dzH : oZH.data = .cell (some (.ref H)))
    (los : (SO == sysModules) = false) (loh : (H == sysModules) = false)
    (hdS : Obj.IsDictOf (PySem.strKind PySem.Challenge.rw_og0066_01.row.prog w) oS (strPairs [(.str "A" tA, .ref SA), (.str "B" tB, .ref SB)]))
    (hdH : Obj.IsDictOf (PySem.strKind PySem.Challenge.rw_og0066_01.row.prog w) oH (strPairs [(.str "A" tA', .int 7 t7), (.str "B" tB', .int 9 t9)]))
    (hfH : PyProof.V.FlatPairs PyData.str (strPairs [(.str "A" tA', .int 7 t7), (.str "B" tB', .int 9 t9)]) (strData [(.str "A" tA', .int 7 t7), (.str "B" tB', .int 9 t9)]))
    (ht0 : intBits t0 ≤ 30) (hb0 : intBits b0 ≤ 30) (ht1 : 0 ≤ t1) (ht1' : t1 ≤ 10) (hb1 : 0 ≤ b1) (hb1' : b1 ≤ 10) (hn0 : 0 ≤ n) (hn1 : n ≤ 20) (hg0 : -10 ≤ g) (hg1 : g ≤ 10) (hrn0 : 0 ≤ rn) (hrn1 : rn ≤ 20) (hrg0 : -10 ≤ rg) (hrg1 : rg ≤ 10) (hb : b0 ≠ 0)
    (hret0 : (due t0 t1 b0 b1 n g sg rn rg rs r).1 = none → ∀ (h' : Heap) (tk' : Nat) (t : Tok), Fr h₀ L h' m → News h₀ L h' ((H, oH) :: news) → Q (.str "size" t) { s with heap := h', toks := tk' })
    (hret1 : ∀ U, due t0 t1 b0 b1 n g sg rn rg rs r = (some U, none) → ∀ (oH' : Obj) (kvs' : List (Str × Value)) (h' : Heap) (tk' : Nat) (t : Tok), Obj.IsDictOf (PySem.strKind PySem.Challenge.rw_og0066_01.row.prog w) oH' kvs' → PyProof.V.FlatPairs PyData.str kvs' (PyProof.V.putD (PyData.str "A") (PyData.int U) (strData [(.str "A" tA', .int 7 t7), (.str "B" tB', .int 9 t9)])) → Fr h₀ L h' m → News h₀ L h' ((H, oH') :: news) → Q (.str "size" t) { s with heap := h', toks := tk' })
    (hret2 : ∀ U V, due t0 t1 b0 b1 n g sg rn rg rs r = (some U, some V) → ∀ (oH' : Obj) (kvs' : List (Str × Value)) (h' : Heap) (tk' : Nat) (t : Tok), Obj.IsDictOf (PySem.strKind PySem.Challenge.rw_og0066_01.row.prog w) oH' kvs' → PyProof.V.FlatPairs PyData.str kvs' (PyProof.V.putD (PyData.str "B") (PyData.int V) (PyProof.V.putD (PyData.str "A") (PyData.int U) (strData [(.str "A" tA', .int 7 t7), (.str "B" tB', .int 9 t9)]))) → Fr h₀ L h' m → News h₀ L h' ((H, oH') :: news) → Q (.str "" t) { s with heap := h', toks := tk' }) :
    wpAny (model PySem.Challenge.rw_og0066_01.row.prog w) (ktrTop dp un gd cn cs L a ccd cl outer) (call (.ref 120) [.ref ST, .ref fn, .ref fk, .ref fs]) Q E s := by
  refine Boxed.out ?_
  simp (disch :=
    k_dflt (
      conv at e1 => rhs; whnf
      conv at e2 => rhs; whnf
      conv at e3 => rhs; whnf
      conv at e4 => rhs; whnf
      conv at e5 => rhs; whnf
      conv at e6 => rhs; whnf
      conv at e7 => rhs; whnf
      conv at e8 => rhs; whnf
      conv at e9 => rhs; whnf
      subst e1 e2 e3 e4 e5 e6 e7 e8 e9
      refine wpAny_call ?_
      k_dflt cell_enter
      refine letAQE ?_
      intro A9 Q9 E9
      k_steps
      all_goals (try dsimp only)
      all_goals (first | exact hret0 (due_of0 (by with_reducible assumption) (by with_reducible assumption) hb ht1 ht1' hb1 hb1' hg0 hg1) _ _ _ (by k_asm) (news_sub (by k_asm) (by (repeat' (first | exact sub_refl | refine sub_skip ?_)))) | exact hret1 _ (due_of1 (by with_reducible assumption) (by with_reducible assumption) (by with_reducible assumption) hb ht1 ht1' hb1 hb1' hg0 hg1 hrg0 hrg1 (by with_reducible assumption) (by with_reducible assumption) (by with_reducible assumption)) _ _ _ _ _ (by with_reducible assumption) (by with_reducible assumption) (by k_asm) (news_sub (by k_asm) (by (repeat' (first | exact sub_refl | refine sub_skip ?_)))) | exact hret2 _ _ (due_of1 (by with_reducible assumption) (by with_reducible assumption) (by with_reducible assumption) hb ht1 ht1' hb1 hb1' hg0 hg1 hrg0 hrg1 (by with_reducible assumption) (by with_reducible assumption) (by with_reducible assumption)) _ _ _ _ _ (by with_reducible assumption) (by with_reducible assumption) (by k_asm) (news_sub (by k_asm) (by (repeat' (first | exact sub_refl | refine sub_skip ?_)))))
    )) only [↓Boxed.eq]
local macro_rules | `(tactic| walk_at "call ref") => `(tactic| (k_here; refine callAt 92 rfl ?_; k_dflt (apply quotient0_use; walk_at "p6"; (case hP | hR => k_mem); k_whole); intro _ _ _ _ _ _ _ _ _ _ _; walk_at "tl"))
set_option rowWalk.seconds 0 in
set_option maxHeartbeats 16000000 in
theorem div0_use {x : Str} {P R SO H SA fn fk fs kn kk ks zS zH ST DN DD DG DI DR DE : Addr} {t0 t1 b1 n g rn rg : Int} {sg rs r : Bool} {ta tb tc td te tf t7 t9 tA tB tA' tB' tr ti tj x1 x2 x3 x4 x5 x6 xn xk xs : Tok} {ca cb : Nat} {oS oH oN oK oC oZS oZH : Obj} {vn vk vs : Array Value} {qn qk qs : Str} {pn pk ps : Arguments} {en es : Expr} {ek : List Stmt} {wn wk ws : Scope} {pm ctn ctk cts dock : Value} {SB : Addr} {w : World} {p : Program} {loose : List Str} {mean : ExcName → Option Value} {mg mb : Str → Option Value} {news : List (Addr × Obj)}
    {dp un : Nat} {gd : Option (List Code)} {cn : Str} {cs : Scope} {a : Addr} {ccd : Value} {cl : List (Str × Addr)} {outer : List Env} {A₀ : Around} {base h₀ : Heap} {L : Addr} {m : Str → Option Value} {s : Shared} {Q E : Value → Shared → Prop}
    (B : Below A₀ base outer h₀) (XB : (hd.heap_39 w.params).In base) (TB : Top p loose mean mg mb base) (D : KtsDicts (outer.filterMap (·.frame)) h₀) (F : Fr h₀ L s.heap m) (X : (hd.heap_39 w.params).In h₀) (N : News h₀ L s.heap ((H, oH) :: news)) (T : Top p loose mean mg mb h₀) (hk : cs.kind = .function) (hdp : dp + 7 < recursionLimit) (hun : un + 56 < cLine)
    (hST : (ST, ({ cls := .type "tuple", data := .seq #[.str "divide" x1, .ref DN, .ref DD, .ref DG, .ref DR, .ref DE] } : Obj)) ∈ news)
    (hDN : (DN, ({ cls := .type "tuple", data := .seq #[.str "number" x2, .ref P] } : Obj)) ∈ news)
    (hDD : (DD, ({ cls := .type "tuple", data := .seq #[.str "number" x3, .ref R] } : Obj)) ∈ news)
    (hDG : (DG, ({ cls := .type "tuple", data := .seq #[.ref DI, .bool r] } : Obj)) ∈ news)
    (hDI : (DI, ({ cls := .type "tuple", data := .seq #[.str "ref" x4, .str "A" x5] } : Obj)) ∈ news)
    (hDR : (DR, ({ cls := .type "tuple", data := .seq #[.str "ref" x6, .str x tr] } : Obj)) ∈ news)
    (hP : (P, ({ cls := .type "tuple", data := .seq #[.int t0 ta, .int t1 tb] ca } : Obj)) ∈ news)
    (hR : (R, ({ cls := .type "tuple", data := .seq #[.int 0 tc, .int b1 td] cb } : Obj)) ∈ news)
    (hfn : (fn, kla_obj (Str.ofString "<lambda>") qn pn en wn [] pm kn ctn) ∈ news)
    (hkn : (kn, oN) ∈ news)
    (hfs : (fs, kla_obj (Str.ofString "<lambda>") qs ps es ws [(Str.ofString "sorts", zS)] pm ks cts) ∈ news)
    (hks : (ks, oC) ∈ news)
    (hfk : (fk, fnMade (Str.ofString "keep") qk pk ek wk [(Str.ofString "sorts", zS), (Str.ofString "held", zH)] dock pm kk ctk) ∈ news)
    (hkk : (kk, oK) ∈ news)
    (hzS : (zS, oZS) ∈ news)
    (hzH : (zH, oZH) ∈ news)
    (hSO : (SO, oS) ∈ news)
    (hne : ∀ p ∈ news, p.1 ≠ H)
    (hG : TupAt base news SA #[.int n te, .int g tf, .bool sg]) (hS : TupAt base news SB #[.int rn ti, .int rg tj, .bool rs])
    (codeHd : CodeHd base 162 158) (e1 : pn = lamPars lamN) (e2 : en = lamBody lamN) (e3 : wn = lamScope lamN) (e4 : ps = lamPars lamS) (e5 : es = lamBody lamS) (e6 : ws = lamScope lamS) (e7 : pk = parsIn keepSt) (e8 : ek = inner keepSt) (e9 : wk = scopeIn keepSt)
    (dn : oN.data = .fields vn) (vn' : vn[1]? = some (.str qn xn)) (dc : oC.data = .fields vs) (vs' : vs[1]? = some (.str qs xs)) (dk : oK.data = .fields vk) (vk' : vk[1]? = some (.str qk xk))
    (dzS : oZS.data = .cell (some (.ref SO))) (dzH : oZH.data = .cell (some (.ref H)))
    (los : (SO == sysModules) = false) (loh : (H == sysModules) = false)
    (hdS : Obj.IsDictOf (PySem.strKind PySem.Challenge.rw_og0066_01.row.prog w) oS (strPairs [(.str "A" tA, .ref SA), (.str "B" tB, .ref SB)]))
    (hdH : Obj.IsDictOf (PySem.strKind PySem.Challenge.rw_og0066_01.row.prog w) oH (strPairs [(.str "A" tA', .int 7 t7), (.str "B" tB', .int 9 t9)]))
    (hfH : PyProof.V.FlatPairs PyData.str (strPairs [(.str "A" tA', .int 7 t7), (.str "B" tB', .int 9 t9)]) (strData [(.str "A" tA', .int 7 t7), (.str "B" tB', .int 9 t9)]))
    (ht0 : intBits t0 ≤ 30) (ht1 : 0 ≤ t1) (ht1' : t1 ≤ 10) (hb1 : 0 ≤ b1) (hb1' : b1 ≤ 10) (hn0 : 0 ≤ n) (hn1 : n ≤ 20) (hg0 : -10 ≤ g) (hg1 : g ≤ 10) (hrn0 : 0 ≤ rn) (hrn1 : rn ≤ 20) (hrg0 : -10 ≤ rg) (hrg1 : rg ≤ 10)
    (hret : ∀ (g' h' : Heap) (tk' : Nat) (t : Tok), KtsTurn (outer.filterMap (·.frame)) h₀ g' → Fr g' L h' m → News g' L h' ((H, oH) :: news) → Below A₀ base outer g' → (hd.heap_39 w.params).In g' → Top p loose mean mg mb g' → KtsDicts (outer.filterMap (·.frame)) g' → Q (.str "size" t) { s with heap := h', toks := tk' }) :
    wpAny (model PySem.Challenge.rw_og0066_01.row.prog w) (ktrTop dp un gd cn cs L a ccd cl outer) (call (.ref 120) [.ref ST, .ref fn, .ref fk, .ref fs]) Q E s := by
  refine Boxed.out ?_
  simp (disch :=
    k_dflt (
      conv at e1 => rhs; whnf
      conv at e2 => rhs; whnf
      conv at e3 => rhs; whnf
      conv at e4 => rhs; whnf
      conv at e5 => rhs; whnf
      conv at e6 => rhs; whnf
      conv at e7 => rhs; whnf
      conv at e8 => rhs; whnf
      conv at e9 => rhs; whnf
      subst e1 e2 e3 e4 e5 e6 e7 e8 e9
      refine wpAny_call ?_
      k_dflt (refine' code_defXS ?k1 ?k2 ?k3 ?k4 ?k5 ?XB ?TB ?D ?T0 ?kA ?kF ?kK ?k6 ?k7 ?k8 ?k9 ?kB ?_ ?c2 ?c3 ?c4 ?c5; (case k3 => k_asm); (case k6 => k_is); (case kA => exact rfl); (case kF => exact rfl); (case kK => first | assumption | exact rfl); (case k1 => k_asm); (case k2 => k_asm); (case k4 => k_asm); (case k5 => k_asm); (case XB => assumption); (case TB => assumption); (case D => assumption); (case T0 => exact KtsTurn.refl); (case k7 => k_is); (case k8 => ktr_room); (case k9 => first | exact BindsTo.of_eq rfl | exact binds_K (by k_in) rfl (by k_is) rfl rfl rfl); (case c5 => decide); (case kB => exact locs rfl); (case c2 => exact rfl); (case c3 => exact rfl); (case c4 => exact rfl); k_whole; intro g' L' h' FG' F' N' B' X' T' D'; (try dsimp only); (try k_lift B'); (try k_fold))
      refine letAQE ?_
      intro A9 Q9 E9
      k_steps
      all_goals (try dsimp only)
      all_goals (refine' hret _ _ _ _ ?a1 ?a2 ?a3 ?a4 ?a5 ?a6 ?a7; (case a1 => with_reducible assumption); (case a2 => k_asm); (case a3 => (refine news_sub (by k_asm) ?_; (repeat' (first | exact sub_refl | refine sub_skip ?_)))); (case a4 => k_asm); (case a5 => k_asm); (case a6 => k_asm); (case a7 => with_reducible assumption))
    )) only [↓Boxed.eq]
end
section
theorem mem_out {q e : Addr × Obj} {own rest : List (Addr × Obj)} (h : e ∈ own ++ q :: rest) (n : e ≠ q) : e ∈ own ++ rest := by
  rcases List.mem_append.mp h with h | h
  · exact List.mem_append_left _ h
  · rcases List.mem_cons.mp h with h | h
    · exact absurd h n
    · exact List.mem_append_right _ h
theorem mem_pull {q e : Addr × Obj} {own rest : List (Addr × Obj)} (h : e ∈ own ++ q :: rest) : e ∈ q :: (own ++ rest) := by
  rcases List.mem_append.mp h with h | h
  · exact .tail _ (List.mem_append_left _ h)
  · rcases List.mem_cons.mp h with rfl | h
    · exact .head _
    · exact .tail _ (List.mem_append_right _ h)
theorem mem_push {q e : Addr × Obj} {own rest : List (Addr × Obj)} (h : e ∈ q :: (own ++ rest)) : e ∈ own ++ q :: rest := by
  rcases List.mem_cons.mp h with rfl | h
  · exact List.mem_append_right _ (.head _)
  · exact (List.mem_append.mp h).elim (fun q => List.mem_append_left _ q) fun q => List.mem_append_right _ (.tail _ q)
theorem ne_data {a H : Addr} {o oH : Obj} {d e : Data} (h1 : o.data = d) (h2 : oH.data = e) (n : d ≠ e) : (a, o) ≠ (H, oH) := fun h => n (by cases h; exact h1.symm.trans h2)
end
set_option maxHeartbeats 4000000 in
theorem dv_use {x : Str} {u v : Option Int} {un9 ug9 : Int} {us9 : Bool} {P R SO H SA fn fk fs kn kk ks zS zH ST DN DD DG DI DR DE : Addr} {t0 t1 b0 b1 n g rn rg : Int} {sg rs r : Bool} {ta tb tc td te tf t7 t9 tA tB tA' tB' tr ti tj x1 x2 x3 x4 x5 x6 xn xk xs : Tok} {ca cb : Nat} {oS oH oN oK oC oZS oZH : Obj} {vn vk vs : Array Value} {qn qk qs : Str} {pn pk ps : Arguments} {en es : Expr} {ek : List Stmt} {wn wk ws : Scope} {pm ctn ctk cts dock : Value} {SB : Addr} {w : World} {p : Program} {loose : List Str} {mean : ExcName → Option Value} {mg mb : Str → Option Value} {full : List (Addr × Obj)} {gf : Obj → List (Addr × Obj)}
    {dp un : Nat} {gd : Option (List Code)} {cn : Str} {cs : Scope} {a : Addr} {ccd : Value} {cl : List (Str × Addr)} {outer : List Env} {A₀ : Around} {base h₀ : Heap} {L : Addr} {m : Str → Option Value} {s : Shared} {Q E : Value → Shared → Prop}
    (B : Below A₀ base outer h₀) (XB : (hd.heap_39 w.params).In base) (TB : Top p loose mean mg mb base) (D : KtsDicts (outer.filterMap (·.frame)) h₀) (F : Fr h₀ L s.heap m) (X : (hd.heap_39 w.params).In h₀) (N : News h₀ L s.heap full) (T : Top p loose mean mg mb h₀) (hk : cs.kind = .function) (hdp : dp + 7 < recursionLimit) (hun : un + 56 < cLine)
    (hdue : due t0 t1 b0 b1 n g sg un9 ug9 us9 r = (u, v))
    (W9 : UpdF H oH full gf)
    (hST : (ST, ({ cls := .type "tuple", data := .seq #[.str "divide" x1, .ref DN, .ref DD, .ref DG, .ref DR, .ref DE] } : Obj)) ∈ full)
    (hDN : (DN, ({ cls := .type "tuple", data := .seq #[.str "number" x2, .ref P] } : Obj)) ∈ full)
    (hDD : (DD, ({ cls := .type "tuple", data := .seq #[.str "number" x3, .ref R] } : Obj)) ∈ full)
    (hDG : (DG, ({ cls := .type "tuple", data := .seq #[.ref DI, .bool r] } : Obj)) ∈ full)
    (hDI : (DI, ({ cls := .type "tuple", data := .seq #[.str "ref" x4, .str "A" x5] } : Obj)) ∈ full)
    (hDR : (DR, ({ cls := .type "tuple", data := .seq #[.str "ref" x6, .str x tr] } : Obj)) ∈ full)
    (hP : (P, ({ cls := .type "tuple", data := .seq #[.int t0 ta, .int t1 tb] ca } : Obj)) ∈ full)
    (hR : (R, ({ cls := .type "tuple", data := .seq #[.int b0 tc, .int b1 td] cb } : Obj)) ∈ full)
    (hfn : (fn, kla_obj (Str.ofString "<lambda>") qn pn en wn [] pm kn ctn) ∈ full)
    (hkn : (kn, oN) ∈ full)
    (hfs : (fs, kla_obj (Str.ofString "<lambda>") qs ps es ws [(Str.ofString "sorts", zS)] pm ks cts) ∈ full)
    (hks : (ks, oC) ∈ full)
    (hfk : (fk, fnMade (Str.ofString "keep") qk pk ek wk [(Str.ofString "sorts", zS), (Str.ofString "held", zH)] dock pm kk ctk) ∈ full)
    (hkk : (kk, oK) ∈ full)
    (hzS : (zS, oZS) ∈ full)
    (hzH : (zH, oZH) ∈ full)
    (hSO : (SO, oS) ∈ full)
    (nSO : SO ≠ H)
    (hG : TupAt base full SA #[.int n te, .int g tf, .bool sg]) (hS : TupAt base full SB #[.int rn ti, .int rg tj, .bool rs])
    (codeHd : CodeHd base 162 158) (e1 : pn = lamPars lamN) (e2 : en = lamBody lamN) (e3 : wn = lamScope lamN) (e4 : ps = lamPars lamS) (e5 : es = lamBody lamS) (e6 : ws = lamScope lamS) (e7 : pk = parsIn keepSt) (e8 : ek = inner keepSt) (e9 : wk = scopeIn keepSt)
    (dn : oN.data = .fields vn) (vn' : vn[1]? = some (.str qn xn)) (dc : oC.data = .fields vs) (vs' : vs[1]? = some (.str qs xs)) (dk : oK.data = .fields vk) (vk' : vk[1]? = some (.str qk xk))
    (dzS : oZS.data = .cell (some (.ref SO))) (dzH : oZH.data = .cell (some (.ref H)))
    (los : (SO == sysModules) = false) (loh : (H == sysModules) = false)
    (hdS : Obj.IsDictOf (PySem.strKind PySem.Challenge.rw_og0066_01.row.prog w) oS (strPairs [(.str "A" tA, .ref SA), (.str "B" tB, .ref SB)]))
    (hdH : Obj.IsDictOf (PySem.strKind PySem.Challenge.rw_og0066_01.row.prog w) oH (strPairs [(.str "A" tA', .int 7 t7), (.str "B" tB', .int 9 t9)]))
    (hfH : PyProof.V.FlatPairs PyData.str (strPairs [(.str "A" tA', .int 7 t7), (.str "B" tB', .int 9 t9)]) (strData [(.str "A" tA', .int 7 t7), (.str "B" tB', .int 9 t9)]))
    (ht0 : intBits t0 ≤ 30) (hb0 : intBits b0 ≤ 30) (ht1 : 0 ≤ t1) (ht1' : t1 ≤ 10) (hb1 : 0 ≤ b1) (hb1' : b1 ≤ 10) (hn0 : 0 ≤ n) (hn1 : n ≤ 20) (hg0 : -10 ≤ g) (hg1 : g ≤ 10) (hrn0 : 0 ≤ rn) (hrn1 : rn ≤ 20) (hrg0 : -10 ≤ rg) (hrg1 : rg ≤ 10)
    (hx : (x = "A" ∧ un9 = n ∧ ug9 = g ∧ us9 = sg) ∨ (x = "B" ∧ un9 = rn ∧ ug9 = rg ∧ us9 = rs))
    (hret0 : u = none → ∀ (g' h' : Heap) (tk' : Nat) (t : Tok), KtsTurn (outer.filterMap (·.frame)) h₀ g' → Fr g' L h' m → News g' L h' full → Below A₀ base outer g' → (hd.heap_39 w.params).In g' → Top p loose mean mg mb g' → KtsDicts (outer.filterMap (·.frame)) g' → Q (.str "size" t) { s with heap := h', toks := tk' })
    (hret1 : ∀ U, u = some U → v = none → ∀ (oH' : Obj) (kvs' : List (Str × Value)) (h' : Heap) (tk' : Nat) (t : Tok), Obj.IsDictOf (PySem.strKind PySem.Challenge.rw_og0066_01.row.prog w) oH' kvs' → PyProof.V.FlatPairs PyData.str kvs' (PyProof.V.putD (PyData.str "A") (PyData.int U) (strData [(.str "A" tA', .int 7 t7), (.str "B" tB', .int 9 t9)])) → Fr h₀ L h' m → News h₀ L h' (gf oH') → Q (.str "size" t) { s with heap := h', toks := tk' })
    (hret2 : ∀ U V, u = some U → v = some V → ∀ (oH' : Obj) (kvs' : List (Str × Value)) (h' : Heap) (tk' : Nat) (t : Tok), Obj.IsDictOf (PySem.strKind PySem.Challenge.rw_og0066_01.row.prog w) oH' kvs' → PyProof.V.FlatPairs PyData.str kvs' (PyProof.V.putD (PyData.str x) (PyData.int V) (PyProof.V.putD (PyData.str "A") (PyData.int U) (strData [(.str "A" tA', .int 7 t7), (.str "B" tB', .int 9 t9)]))) → Fr h₀ L h' m → News h₀ L h' (gf oH') → Q (.str "" t) { s with heap := h', toks := tk' }) :
    wpAny (model PySem.Challenge.rw_og0066_01.row.prog w) (ktrTop dp un gd cn cs L a ccd cl outer) (call (.ref 120) [.ref ST, .ref fn, .ref fk, .ref fs]) Q E s := by
  obtain ⟨own, rest, rfl, hg, h1, h2⟩ := W9.split
  obtain ⟨es', ep', hdat⟩ : ∃ es ep, oH.data = .dict es ep := (let ⟨es, ep, _, h, _⟩ := hdH; ⟨es, ep, h⟩)
  have zhST := (mem_out hST (ne_data rfl hdat nofun))
  have zhDN := (mem_out hDN (ne_data rfl hdat nofun))
  have zhDD := (mem_out hDD (ne_data rfl hdat nofun))
  have zhDG := (mem_out hDG (ne_data rfl hdat nofun))
  have zhDI := (mem_out hDI (ne_data rfl hdat nofun))
  have zhDR := (mem_out hDR (ne_data rfl hdat nofun))
  have zhP := (mem_out hP (ne_data rfl hdat nofun))
  have zhR := (mem_out hR (ne_data rfl hdat nofun))
  have zhfn := (mem_out hfn (ne_data (show _ = Data.func _ from rfl) hdat nofun))
  have zhkn := (mem_out hkn (ne_data dn hdat nofun))
  have zhfs := (mem_out hfs (ne_data (show _ = Data.func _ from rfl) hdat nofun))
  have zhks := (mem_out hks (ne_data dc hdat nofun))
  have zhfk := (mem_out hfk (ne_data (show _ = Data.func _ from rfl) hdat nofun))
  have zhkk := (mem_out hkk (ne_data dk hdat nofun))
  have zhzS := (mem_out hzS (ne_data dzS hdat nofun))
  have zhzH := (mem_out hzH (ne_data dzH hdat nofun))
  have zhSO := (mem_out hSO fun h => nSO (congrArg Prod.fst h))
  have zgf : ∀ (o' : Obj) (h' : Heap), News h₀ L h' ((H, o') :: (own ++ rest)) → News h₀ L h' (gf o') := fun o' h' N' p hp => N' p (mem_pull (hg o' ▸ hp))
  have zN : News h₀ L s.heap ((H, oH) :: (own ++ rest)) := fun p hp => N p (mem_push hp)
  have zne : ∀ p ∈ own ++ rest, p.1 ≠ H := fun p hp => (List.mem_append.mp hp).elim (h1 p) (h2 p)
  have zG : TupAt base (own ++ rest) SA #[.int n te, .int g tf, .bool sg] := (hG.elim .inl fun ⟨c, hc⟩ => .inr ⟨c, mem_out hc (ne_data rfl hdat nofun)⟩)
  have zS9 : TupAt base (own ++ rest) SB #[.int rn ti, .int rg tj, .bool rs] := (hS.elim .inl fun ⟨c, hc⟩ => .inr ⟨c, mem_out hc (ne_data rfl hdat nofun)⟩)
  by_cases hb : b0 = 0
  · have hu0 : u = none := (congrArg Prod.fst hdue).symm.trans (congrArg Prod.fst (due0 hb))
    clear hdue hret1 hret2
    subst hb
    exact div0_use B XB TB D F X zN T hk hdp hun zhST zhDN zhDD zhDG zhDI zhDR zhP zhR zhfn zhkn zhfs zhks zhfk zhkk zhzS zhzH zhSO zne zG zS9 codeHd e1 e2 e3 e4 e5 e6 e7 e8 e9 dn vn' dc vs' dk vk' dzS dzH los loh hdS hdH hfH ht0 ht1 ht1' hb1 hb1' hn0 hn1 hg0 hg1 hrn0 hrn1 hrg0 hrg1 fun g' h' tk' t kT kF kN => hret0 hu0 g' h' tk' t kT kF fun p hp => kN p (mem_pull hp)
  · rcases hx with ⟨rfl, rfl, rfl, rfl⟩ | ⟨rfl, rfl, rfl, rfl⟩
    · exact divA_use B F X zN T hk (by omega) (by omega) zhST zhDN zhDD zhDG zhDI zhDR zhP zhR zhfn zhkn zhfs zhks zhfk zhkk zhzS zhzH zhSO zne zG zS9 codeHd e1 e2 e3 e4 e5 e6 e7 e8 e9 dn vn' dc vs' dk vk' dzS dzH los loh hdS hdH hfH ht0 hb0 ht1 ht1' hb1 hb1' hn0 hn1 hg0 hg1 hrn0 hrn1 hrg0 hrg1 hb (fun h9 h' tk' t F' N' => hret0 ((congrArg Prod.fst hdue).symm.trans h9) h₀ h' tk' t KtsTurn.refl F' (fun p hp => N' p (mem_pull hp)) B X T D) (fun U hU oH' kvs' h' tk' t d f F' N' => hret1 U (congrArg Prod.fst (hdue.symm.trans hU)) (congrArg Prod.snd (hdue.symm.trans hU)) oH' kvs' h' tk' t d f F' (zgf _ _ N')) (fun U V hU oH' kvs' h' tk' t d f F' N' => hret2 U V (congrArg Prod.fst (hdue.symm.trans hU)) (congrArg Prod.snd (hdue.symm.trans hU)) oH' kvs' h' tk' t d f F' (zgf _ _ N'))
    · exact divB_use B F X zN T hk (by omega) (by omega) zhST zhDN zhDD zhDG zhDI zhDR zhP zhR zhfn zhkn zhfs zhks zhfk zhkk zhzS zhzH zhSO zne zG zS9 codeHd e1 e2 e3 e4 e5 e6 e7 e8 e9 dn vn' dc vs' dk vk' dzS dzH los loh hdS hdH hfH ht0 hb0 ht1 ht1' hb1 hb1' hn0 hn1 hg0 hg1 hrn0 hrn1 hrg0 hrg1 hb (fun h9 h' tk' t F' N' => hret0 ((congrArg Prod.fst hdue).symm.trans h9) h₀ h' tk' t KtsTurn.refl F' (fun p hp => N' p (mem_pull hp)) B X T D) (fun U hU oH' kvs' h' tk' t d f F' N' => hret1 U (congrArg Prod.fst (hdue.symm.trans hU)) (congrArg Prod.snd (hdue.symm.trans hU)) oH' kvs' h' tk' t d f F' (zgf _ _ N')) (fun U V hU oH' kvs' h' tk' t d f F' N' => hret2 U V (congrArg Prod.fst (hdue.symm.trans hU)) (congrArg Prod.snd (hdue.symm.trans hU)) oH' kvs' h' tk' t d f F' (zgf _ _ N'))
theorem ne_of_mem {l : List (Addr × Obj)} {H S : Addr} {o : Obj} (h : ∀ p ∈ l, p.1 ≠ H) (hm : (S, o) ∈ l) : S ≠ H := h _ hm
section
def optV : Option Int → Tok → Value
  | none, _ => .none
  | some i, t => .int i t
def optD (x : Str) : Option Int → List (PyData × PyData) → List (PyData × PyData)
  | none, D => D
  | some i, D => PyProof.V.putD (PyData.str x) (PyData.int i) D
def D00 : List (PyData × PyData) := [(PyData.str "A", PyData.int 7), (PyData.str "B", PyData.int 9)]
def D2 (x : Str) (u v : Option Int) : List (PyData × PyData) := optD x v (optD "A" u D00)
def wordOf : Option Int → Option Int → Str
  | some _, some _ => ""
  | _, _ => "size"
theorem D2_AB {x : Str} {u v : Option Int} (hx : x = "A" ∨ x = "B") : ∃ i j, D2 x u v = [(PyData.str "A", PyData.int i), (PyData.str "B", PyData.int j)] := by
  rcases hx with rfl | rfl <;> cases u <;> cases v <;> exact ⟨_, _, rfl⟩
theorem due_none {t0 t1 b0 b1 n g rn rg : Int} {sg rs r : Bool} {v : Option Int} (h : due t0 t1 b0 b1 n g sg rn rg rs r = (none, v)) : v = none := by
  unfold due at h
  split at h
  · exact (Prod.mk.inj h).2.symm
  · split at h
    · exact (Prod.mk.inj h).2.symm
    · exact nomatch (Prod.mk.inj h).1
def askedScope : Scope := scopeIn askedSt
def if1St : Stmt := lastOf ((inner askedSt).take 3)
def if2St : Stmt := lastOf ((inner askedSt).take 4)
def retSt : Stmt := lastOf (inner askedSt)
local macro_rules | `(tactic| walk_at "eval Name") => `(tactic| (k_here; k_dflt (refine' nameX_L ?z9F ?z9v ?_ ?z9a ?z9b; (case z9F => k_asm); (case z9a | z9b => rfl); (case z9v => with_reducible assumption); k_whole)))
local macro_rules | `(tactic| k_updF) => `(tactic| with_reducible assumption)
set_option maxHeartbeats 4000000 in
theorem dueG_use {P R G S : Addr} {t0 t1 b0 b1 n g rn rg : Int} {sg rs r : Bool} {ta tb tc td te tf tg th : Tok} {ca cb : Nat} {w : World} {p : Program} {loose : List Str} {mean : ExcName → Option Value} {mg mb : Str → Option Value} {news : List (Addr × Obj)}
    {dp un : Nat} {gd : Option (List Code)} {cn : Str} {cs : Scope} {a : Addr} {ccd : Value} {cl : List (Str × Addr)} {outer : List Env} {A₀ : Around} {base h₀ : Heap} {L : Addr} {m : Str → Option Value} {s : Shared} {Q E : Value → Shared → Prop}
    (B : Below A₀ base outer h₀) (F : Fr h₀ L s.heap m) (X : (hd.heap_39 w.params).In h₀) (N : News h₀ L s.heap news) (T : Top p loose mean mg mb h₀) (hk : cs.kind = .function) (hdp : dp + 5 < recursionLimit) (hun : un + 40 < cLine)
    (hP : (P, ({ cls := .type "tuple", data := .seq #[.int t0 ta, .int t1 tb] ca } : Obj)) ∈ news) (hR : (R, ({ cls := .type "tuple", data := .seq #[.int b0 tc, .int b1 td] cb } : Obj)) ∈ news) (hG : TupAt base news G #[.int n te, .int g tf, .bool sg]) (hS : TupAt base news S #[.int rn tg, .int rg th, .bool rs])
    (ht0 : intBits t0 ≤ 30) (hb0 : intBits b0 ≤ 30) (ht1 : 0 ≤ t1) (ht1' : t1 ≤ 10) (hb1 : 0 ≤ b1) (hb1' : b1 ≤ 10) (hn0 : 0 ≤ n) (hn1 : n ≤ 20) (hg0 : -10 ≤ g) (hg1 : g ≤ 10) (hrn0 : 0 ≤ rn) (hrn1 : rn ≤ 20) (hrg0 : -10 ≤ rg) (hrg1 : rg ≤ 10)
    (hret : ∀ (u v : Option Int), due t0 t1 b0 b1 n g sg rn rg rs r = (u, v) → ∀ (D : Addr) (t1' t2' c : Nat) (h' : Heap) (tk' : Nat), (∀ q ∈ news, q.1 < D) → Fr h₀ L h' m → News h₀ L h' ((D, { cls := .type "tuple", data := .seq #[optV u t1', optV v t2'] c }) :: news) → Q (.ref D) { s with heap := h', toks := tk' }) :
    wpAny (model PySem.Challenge.rw_og0066_01.row.prog w) (ktrTop dp un gd cn cs L a ccd cl outer) (call (.ref 156) [.ref P, .ref R, .ref G, .ref S, .bool r]) Q E s :=
  dueK_use B F X N T hk hdp hun hP hR hG hS ht0 hb0 ht1 ht1' hb1 hb1' hn0 hn1 hg0 hg1 hrn0 hrn1 hrg0 hrg1
    (fun h D c h' tk' l F' N' => hret _ _ h D 0 0 c h' tk' l F' N')
    (fun _ h D t c h' tk' l F' N' => hret _ _ h D t 0 c h' tk' l F' N')
    (fun _ _ h D t t' c h' tk' l F' N' => hret _ _ h D t t' c h' tk' l F' N')
set_option maxHeartbeats 8000000 in
theorem if1_use {u : Option Int} {tu : Tok} {DD : Addr} {oD : Obj} {kvs : List (Str × Value)} {gf : Obj → List (Addr × Obj)} {w : World} {p : Program} {loose : List Str} {mean : ExcName → Option Value} {mg mb : Str → Option Value} {news : List (Addr × Obj)}
    {dp un : Nat} {gd : Option (List Code)} {a : Addr} {ccd : Value} {cl : List (Str × Addr)} {outer : List Env} {A₀ : Around} {base h₀ : Heap} {L : Addr} {m : Str → Option Value} {s : Shared} {Q : Flow → Shared → Prop} {E : Value → Shared → Prop}
    (B : Below A₀ base outer h₀) (F : Fr h₀ L s.heap m) (X : (hd.heap_39 w.params).In h₀) (N : News h₀ L s.heap news) (T : Top p loose mean mg mb h₀) (hdp : dp + 3 < recursionLimit) (hun : un + 24 < cLine)
    (mt : m (Str.ofString "told") = some (optV u tu)) (md : m (Str.ofString "due") = some (.ref DD))
    (W9 : UpdF DD oD news gf) (hd : Obj.IsDictOf (PySem.strKind PySem.Challenge.rw_og0066_01.row.prog w) oD kvs) (hf : PyProof.V.FlatPairs PyData.str kvs D00)
    (hret : ∀ (oD' : Obj) (kvs' : List (Str × Value)) (h' : Heap) (tk' : Nat), Obj.IsDictOf (PySem.strKind PySem.Challenge.rw_og0066_01.row.prog w) oD' kvs' → PyProof.V.FlatPairs PyData.str kvs' (optD "A" u D00) → Fr h₀ L h' m → News h₀ L h' (gf oD') → Q .next { s with heap := h', toks := tk' }) :
    wpAny (model PySem.Challenge.rw_og0066_01.row.prog w) (ktrTop dp un gd (Str.ofString "_law_asked") askedScope L a ccd cl outer) (exec if1St (envX (Str.ofString "_law_asked") askedScope L a ccd cl)) Q E s := by
  refine Boxed.out ?_
  simp (disch :=
    k_dflt (
      have hg0 : ∀ h', News h₀ L h' news → News h₀ L h' (gf oD) := fun h' N' => by obtain ⟨own, rest, e, hg, _, _⟩ := W9.split; rw [hg oD, ← e]; exact N'
      conv in if1St => whnf
      cases u
      all_goals (unfold optV at mt; unfold D00 at hf; try dsimp only at mt)
      all_goals k_steps
      all_goals (try dsimp only)
      all_goals (first | exact hret _ _ _ _ (by with_reducible assumption) (by k_dflt assumption) (by k_asm) (by k_asm) | exact hret _ _ _ _ hd hf (by k_asm) (hg0 _ (by k_asm)))
    )) only [↓Boxed.eq]
set_option maxHeartbeats 8000000 in
theorem if2A_use {u v : Option Int} {tv tr : Tok} {DD : Addr} {oD : Obj} {kvs : List (Str × Value)} {gf : Obj → List (Addr × Obj)} {w : World} {p : Program} {loose : List Str} {mean : ExcName → Option Value} {mg mb : Str → Option Value} {news : List (Addr × Obj)}
    {dp un : Nat} {gd : Option (List Code)} {a : Addr} {ccd : Value} {cl : List (Str × Addr)} {outer : List Env} {A₀ : Around} {base h₀ : Heap} {L : Addr} {m : Str → Option Value} {s : Shared} {Q : Flow → Shared → Prop} {E : Value → Shared → Prop}
    (B : Below A₀ base outer h₀) (F : Fr h₀ L s.heap m) (X : (hd.heap_39 w.params).In h₀) (N : News h₀ L s.heap news) (T : Top p loose mean mg mb h₀) (hdp : dp + 3 < recursionLimit) (hun : un + 24 < cLine)
    (ml : m (Str.ofString "left") = some (optV v tv)) (mr : m (Str.ofString "rest") = some (.str "A" tr)) (md : m (Str.ofString "due") = some (.ref DD))
    (W9 : UpdF DD oD news gf) (hd : Obj.IsDictOf (PySem.strKind PySem.Challenge.rw_og0066_01.row.prog w) oD kvs) (hf : PyProof.V.FlatPairs PyData.str kvs (optD "A" u D00))
    (hret : ∀ (oD' : Obj) (kvs' : List (Str × Value)) (h' : Heap) (tk' : Nat), Obj.IsDictOf (PySem.strKind PySem.Challenge.rw_og0066_01.row.prog w) oD' kvs' → PyProof.V.FlatPairs PyData.str kvs' (D2 "A" u v) → Fr h₀ L h' m → News h₀ L h' (gf oD') → Q .next { s with heap := h', toks := tk' }) :
    wpAny (model PySem.Challenge.rw_og0066_01.row.prog w) (ktrTop dp un gd (Str.ofString "_law_asked") askedScope L a ccd cl outer) (exec if2St (envX (Str.ofString "_law_asked") askedScope L a ccd cl)) Q E s := by
  refine Boxed.out ?_
  simp (disch :=
    k_dflt (
      have hg0 : ∀ h', News h₀ L h' news → News h₀ L h' (gf oD) := fun h' N' => by obtain ⟨own, rest, e, hg, _, _⟩ := W9.split; rw [hg oD, ← e]; exact N'
      conv in if2St => whnf
      cases u <;> cases v
      all_goals (unfold optV at ml; dsimp only [optD, D00] at hf; try dsimp only at ml)
      all_goals k_steps
      all_goals (try dsimp only)
      all_goals (first | exact hret _ _ _ _ (by with_reducible assumption) (by k_dflt assumption) (by k_asm) (by k_asm) | exact hret _ _ _ _ hd hf (by k_asm) (hg0 _ (by k_asm)))
    )) only [↓Boxed.eq]
set_option maxHeartbeats 8000000 in
theorem if2B_use {u v : Option Int} {tv tr : Tok} {DD : Addr} {oD : Obj} {kvs : List (Str × Value)} {gf : Obj → List (Addr × Obj)} {w : World} {p : Program} {loose : List Str} {mean : ExcName → Option Value} {mg mb : Str → Option Value} {news : List (Addr × Obj)}
    {dp un : Nat} {gd : Option (List Code)} {a : Addr} {ccd : Value} {cl : List (Str × Addr)} {outer : List Env} {A₀ : Around} {base h₀ : Heap} {L : Addr} {m : Str → Option Value} {s : Shared} {Q : Flow → Shared → Prop} {E : Value → Shared → Prop}
    (B : Below A₀ base outer h₀) (F : Fr h₀ L s.heap m) (X : (hd.heap_39 w.params).In h₀) (N : News h₀ L s.heap news) (T : Top p loose mean mg mb h₀) (hdp : dp + 3 < recursionLimit) (hun : un + 24 < cLine)
    (ml : m (Str.ofString "left") = some (optV v tv)) (mr : m (Str.ofString "rest") = some (.str "B" tr)) (md : m (Str.ofString "due") = some (.ref DD))
    (W9 : UpdF DD oD news gf) (hd : Obj.IsDictOf (PySem.strKind PySem.Challenge.rw_og0066_01.row.prog w) oD kvs) (hf : PyProof.V.FlatPairs PyData.str kvs (optD "A" u D00))
    (hret : ∀ (oD' : Obj) (kvs' : List (Str × Value)) (h' : Heap) (tk' : Nat), Obj.IsDictOf (PySem.strKind PySem.Challenge.rw_og0066_01.row.prog w) oD' kvs' → PyProof.V.FlatPairs PyData.str kvs' (D2 "B" u v) → Fr h₀ L h' m → News h₀ L h' (gf oD') → Q .next { s with heap := h', toks := tk' }) :
    wpAny (model PySem.Challenge.rw_og0066_01.row.prog w) (ktrTop dp un gd (Str.ofString "_law_asked") askedScope L a ccd cl outer) (exec if2St (envX (Str.ofString "_law_asked") askedScope L a ccd cl)) Q E s := by
  refine Boxed.out ?_
  simp (disch :=
    k_dflt (
      have hg0 : ∀ h', News h₀ L h' news → News h₀ L h' (gf oD) := fun h' N' => by obtain ⟨own, rest, e, hg, _, _⟩ := W9.split; rw [hg oD, ← e]; exact N'
      conv in if2St => whnf
      cases u <;> cases v
      all_goals (unfold optV at ml; dsimp only [optD, D00] at hf; try dsimp only at ml)
      all_goals k_steps
      all_goals (try dsimp only)
      all_goals (first | exact hret _ _ _ _ (by with_reducible assumption) (by k_dflt assumption) (by k_asm) (by k_asm) | exact hret _ _ _ _ hd hf (by k_asm) (hg0 _ (by k_asm)))
    )) only [↓Boxed.eq]
set_option maxHeartbeats 8000000 in
theorem ret_use {u v : Option Int} {tu tv tw : Tok} {DD H zS zH : Addr} {oD oH oZ : Obj} {kD kH : List (Str × Value)} {Dd : List (PyData × PyData)} {w : World} {p : Program} {loose : List Str} {mean : ExcName → Option Value} {mg mb : Str → Option Value} {news : List (Addr × Obj)}
    {dp un : Nat} {gd : Option (List Code)} {a : Addr} {ccd : Value} {outer : List Env} {A₀ : Around} {base h₀ : Heap} {L : Addr} {m : Str → Option Value} {s : Shared} {Q : Flow → Shared → Prop} {E : Value → Shared → Prop}
    (B : Below A₀ base outer h₀) (F : Fr h₀ L s.heap m) (X : (hd.heap_39 w.params).In h₀) (N : News h₀ L s.heap news) (T : Top p loose mean mg mb h₀) (hdp : dp + 3 < recursionLimit) (hun : un + 24 < cLine)
    (mt : m (Str.ofString "told") = some (optV u tu)) (ml : m (Str.ofString "left") = some (optV v tv)) (mw : m (Str.ofString "word") = some (.str (wordOf u v) tw)) (md : m (Str.ofString "due") = some (.ref DD))
    (hz : (zH, oZ) ∈ news) (dz : oZ.data = .cell (some (.ref H))) (pH : (H, oH) ∈ news) (pD : (DD, oD) ∈ news) (dH : Obj.IsDictOf (PySem.strKind PySem.Challenge.rw_og0066_01.row.prog w) oH kH) (dD : Obj.IsDictOf (PySem.strKind PySem.Challenge.rw_og0066_01.row.prog w) oD kD) (fH : PyProof.V.FlatPairs PyData.str kH Dd) (fD : PyProof.V.FlatPairs PyData.str kD Dd)
    (lH : (H == sysModules) = false) (lD : (DD == sysModules) = false) (hD : ∃ i j, Dd = [(PyData.str "A", PyData.int i), (PyData.str "B", PyData.int j)])
    (hret : ∀ tk' : Nat, Q (.ret (.bool true)) { s with toks := tk' }) :
    wpAny (model PySem.Challenge.rw_og0066_01.row.prog w) (ktrTop dp un gd (Str.ofString "_law_asked") askedScope L a ccd [(Str.ofString "held", zH), (Str.ofString "sorts", zS)] outer) (exec retSt (envX (Str.ofString "_law_asked") askedScope L a ccd [(Str.ofString "held", zH), (Str.ofString "sorts", zS)])) Q E s := by
  refine Boxed.out ?_
  simp (disch :=
    k_dflt (
      obtain ⟨i, j, rfl⟩ := hD
      conv in retSt => whnf
      cases u <;> cases v
      all_goals (unfold optV at mt ml; unfold wordOf at mw; try dsimp only at mt ml mw)
      all_goals k_steps
      all_goals (try dsimp only)
      all_goals exact hret _
    )) only [↓Boxed.eq]
end
set_option maxHeartbeats 4000000 in
theorem dg_use {x : Str} {u v : Option Int} {un9 ug9 : Int} {us9 : Bool} {P R SO H SA fn fk fs kn kk ks zS zH ST DN DD DG DI DR DE : Addr} {t0 t1 b0 b1 n g rn rg : Int} {sg rs r : Bool} {ta tb tc td te tf t7 t9 tA tB tA' tB' tr ti tj x1 x2 x3 x4 x5 x6 xn xk xs : Tok} {ca cb : Nat} {oS oH oN oK oC oZS oZH : Obj} {vn vk vs : Array Value} {qn qk qs : Str} {pn pk ps : Arguments} {en es : Expr} {ek : List Stmt} {wn wk ws : Scope} {pm ctn ctk cts dock : Value} {SB : Addr} {w : World} {p : Program} {loose : List Str} {mean : ExcName → Option Value} {mg mb : Str → Option Value} {full : List (Addr × Obj)} {gf : Obj → List (Addr × Obj)}
    {dp un : Nat} {gd : Option (List Code)} {cn : Str} {cs : Scope} {a : Addr} {ccd : Value} {cl : List (Str × Addr)} {outer : List Env} {A₀ : Around} {base h₀ : Heap} {L : Addr} {m : Str → Option Value} {s : Shared} {Q E : Value → Shared → Prop}
    (B : Below A₀ base outer h₀) (XB : (hd.heap_39 w.params).In base) (TB : Top p loose mean mg mb base) (D : KtsDicts (outer.filterMap (·.frame)) h₀) (F : Fr h₀ L s.heap m) (X : (hd.heap_39 w.params).In h₀) (N : News h₀ L s.heap full) (T : Top p loose mean mg mb h₀) (hk : cs.kind = .function) (hdp : dp + 7 < recursionLimit) (hun : un + 56 < cLine)
    (hdue : due t0 t1 b0 b1 n g sg un9 ug9 us9 r = (u, v))
    (W9 : UpdF H oH full gf)
    (hST : (ST, ({ cls := .type "tuple", data := .seq #[.str "divide" x1, .ref DN, .ref DD, .ref DG, .ref DR, .ref DE] } : Obj)) ∈ full)
    (hDN : (DN, ({ cls := .type "tuple", data := .seq #[.str "number" x2, .ref P] } : Obj)) ∈ full)
    (hDD : (DD, ({ cls := .type "tuple", data := .seq #[.str "number" x3, .ref R] } : Obj)) ∈ full)
    (hDG : (DG, ({ cls := .type "tuple", data := .seq #[.ref DI, .bool r] } : Obj)) ∈ full)
    (hDI : (DI, ({ cls := .type "tuple", data := .seq #[.str "ref" x4, .str "A" x5] } : Obj)) ∈ full)
    (hDR : (DR, ({ cls := .type "tuple", data := .seq #[.str "ref" x6, .str x tr] } : Obj)) ∈ full)
    (hP : (P, ({ cls := .type "tuple", data := .seq #[.int t0 ta, .int t1 tb] ca } : Obj)) ∈ full)
    (hR : (R, ({ cls := .type "tuple", data := .seq #[.int b0 tc, .int b1 td] cb } : Obj)) ∈ full)
    (hfn : (fn, kla_obj (Str.ofString "<lambda>") qn pn en wn [] pm kn ctn) ∈ full)
    (hkn : (kn, oN) ∈ full)
    (hfs : (fs, kla_obj (Str.ofString "<lambda>") qs ps es ws [(Str.ofString "sorts", zS)] pm ks cts) ∈ full)
    (hks : (ks, oC) ∈ full)
    (hfk : (fk, fnMade (Str.ofString "keep") qk pk ek wk [(Str.ofString "sorts", zS), (Str.ofString "held", zH)] dock pm kk ctk) ∈ full)
    (hkk : (kk, oK) ∈ full)
    (hzS : (zS, oZS) ∈ full)
    (hzH : (zH, oZH) ∈ full)
    (hSO : (SO, oS) ∈ full)
    (nSO : SO ≠ H)
    (hG : TupAt base full SA #[.int n te, .int g tf, .bool sg]) (hS : TupAt base full SB #[.int rn ti, .int rg tj, .bool rs])
    (codeHd : CodeHd base 162 158) (e1 : pn = lamPars lamN) (e2 : en = lamBody lamN) (e3 : wn = lamScope lamN) (e4 : ps = lamPars lamS) (e5 : es = lamBody lamS) (e6 : ws = lamScope lamS) (e7 : pk = parsIn keepSt) (e8 : ek = inner keepSt) (e9 : wk = scopeIn keepSt)
    (dn : oN.data = .fields vn) (vn' : vn[1]? = some (.str qn xn)) (dc : oC.data = .fields vs) (vs' : vs[1]? = some (.str qs xs)) (dk : oK.data = .fields vk) (vk' : vk[1]? = some (.str qk xk))
    (dzS : oZS.data = .cell (some (.ref SO))) (dzH : oZH.data = .cell (some (.ref H)))
    (los : (SO == sysModules) = false) (loh : (H == sysModules) = false)
    (hdS : Obj.IsDictOf (PySem.strKind PySem.Challenge.rw_og0066_01.row.prog w) oS (strPairs [(.str "A" tA, .ref SA), (.str "B" tB, .ref SB)]))
    (hdH : Obj.IsDictOf (PySem.strKind PySem.Challenge.rw_og0066_01.row.prog w) oH (strPairs [(.str "A" tA', .int 7 t7), (.str "B" tB', .int 9 t9)]))
    (hfH : PyProof.V.FlatPairs PyData.str (strPairs [(.str "A" tA', .int 7 t7), (.str "B" tB', .int 9 t9)]) (strData [(.str "A" tA', .int 7 t7), (.str "B" tB', .int 9 t9)]))
    (ht0 : intBits t0 ≤ 30) (hb0 : intBits b0 ≤ 30) (ht1 : 0 ≤ t1) (ht1' : t1 ≤ 10) (hb1 : 0 ≤ b1) (hb1' : b1 ≤ 10) (hn0 : 0 ≤ n) (hn1 : n ≤ 20) (hg0 : -10 ≤ g) (hg1 : g ≤ 10) (hrn0 : 0 ≤ rn) (hrn1 : rn ≤ 20) (hrg0 : -10 ≤ rg) (hrg1 : rg ≤ 10)
    (hx : (x = "A" ∧ un9 = n ∧ ug9 = g ∧ us9 = sg) ∨ (x = "B" ∧ un9 = rn ∧ ug9 = rg ∧ us9 = rs))
    (hret : ∀ (g' h' : Heap) (tk' : Nat) (t : Tok) (oH' : Obj) (kvs' : List (Str × Value)), KtsTurn (outer.filterMap (·.frame)) h₀ g' → Fr g' L h' m → News g' L h' (gf oH') → Below A₀ base outer g' → (hd.heap_39 w.params).In g' → Top p loose mean mg mb g' → KtsDicts (outer.filterMap (·.frame)) g' → Obj.IsDictOf (PySem.strKind PySem.Challenge.rw_og0066_01.row.prog w) oH' kvs' → PyProof.V.FlatPairs PyData.str kvs' (D2 x u v) → Q (.str (wordOf u v) t) { s with heap := h', toks := tk' }) :
    wpAny (model PySem.Challenge.rw_og0066_01.row.prog w) (ktrTop dp un gd cn cs L a ccd cl outer) (call (.ref 120) [.ref ST, .ref fn, .ref fk, .ref fs]) Q E s := by
  have hgf : ∀ g' h', News g' L h' full → News g' L h' (gf oH) := fun g' h' N' => by obtain ⟨own, rest, e, hg, _, _⟩ := W9.split; rw [hg oH, ← e]; exact N'
  refine dv_use B XB TB D F X N T hk hdp hun hdue W9 hST hDN hDD hDG hDI hDR hP hR hfn hkn hfs hks hfk hkk hzS hzH hSO nSO hG hS codeHd e1 e2 e3 e4 e5 e6 e7 e8 e9 dn vn' dc vs' dk vk' dzS dzH los loh hdS hdH hfH ht0 hb0 ht1 ht1' hb1 hb1' hn0 hn1 hg0 hg1 hrn0 hrn1 hrg0 hrg1 hx ?_ ?_ ?_
  · intro hu g' h' tk' t kT kF kN kB kX kP kD
    subst hu
    have hv := due_none hdue
    subst hv
    exact hret g' h' tk' t oH _ kT kF (hgf _ _ kN) kB kX kP kD hdH hfH
  · intro U hu hv oH' kvs' h' tk' t hd hf F' N'
    subst hu hv
    exact hret h₀ h' tk' t oH' kvs' KtsTurn.refl F' N' B X T D hd hf
  · intro U V hu hv oH' kvs' h' tk' t hd hf F' N'
    subst hu hv
    exact hret h₀ h' tk' t oH' kvs' KtsTurn.refl F' N' B X T D hd hf
section
local macro_rules | `(tactic| walk_at "call ref") => `(tactic| (k_here; refine callAt 156 rfl ?_; k_dflt (apply dueG_use; walk_at "p6"; (case hP | hR => k_mem); (case hG | hS => walk_at "tt"); (case ht0 | hb0 | ht1 | ht1' | hb1 | hb1' | hn0 | hn1 | hg0 | hg1 | hrn0 | hrn1 | hrg0 | hrg1 => walk_at "om"); k_whole); intro _ _ _ _ _ _ _ _ _ l1 _ _; (try dsimp only); (try k_lt l1); (try k_fold)))
local macro_rules | `(tactic| walk_at "call ref") => `(tactic| (k_here; refine callAt 120 rfl ?_; k_dflt (apply dg_use; (case hdue => with_reducible assumption); (case B | F | X | T | N | XB | TB => k_asm); (case D => with_reducible assumption); (case hk => first | exact rfl | assumption); (case hST | hDR | hDN | hDD | hDG | hDI | hP | hR | hfn | hkn => k_mem); (case dn => with_reducible assumption); (case vn' => walk_at "vo"); (case hfs | hks => k_mem); (case dc => with_reducible assumption); (case vs' => walk_at "vo"); (case hfk | hkk => k_mem); (case dk => with_reducible assumption); (case vk' => walk_at "vo"); (case hzS => k_mem); (case dzS => k_dflt assumption); (case hzH => k_mem); (case dzH => k_dflt assumption); (case hSO => k_mem); (case hdS | hdH | hfH | los | loh => with_reducible assumption); (case W9 => k_updF); (case nSO => exact ne_of_mem (by with_reducible assumption) (by with_reducible assumption)); (case hdp => ktr_room); (case hun => ktr_units); (case hG | hS => walk_at "tt"); (case codeHd => with_reducible assumption); (case e1 | e2 | e3 | e4 | e5 | e6 | e7 | e8 | e9 => exact rfl); (case ht0 | hb0 | ht1 | ht1' | hb1 | hb1' | hn0 | hn1 | hg0 | hg1 | hrn0 | hrn1 | hrg0 | hrg1 => with_reducible assumption); (case hx => first | exact .inl ⟨rfl, rfl, rfl, rfl⟩ | exact .inr ⟨rfl, rfl, rfl, rfl⟩); k_whole); intro _ _ _ _ _ _ _ _ kN kB _ _ _ _ _; (try dsimp only at kN); (try k_lift kB); walk_at "tl"))
local macro_rules | `(tactic| walk_at "exec If") => `(tactic| (k_here; k_dflt (apply if1_use; (case B | F | X | N | T => k_asm); (case hdp => ktr_room); (case hun => ktr_units); (case mt | md => rfl); (case W9 => k_updF); (case hd => with_reducible assumption); (case hf => assumption); k_whole); intro _ _ _ _ _ _ _ N'; (try dsimp only at N'); walk_at "tl"))
local macro_rules | `(tactic| walk_at "exec If") => `(tactic| (k_here; k_dflt (first | (apply if2A_use; (case F => k_asm); (case mr => rfl)) | (apply if2B_use; (case F => k_asm); (case mr => rfl))); k_dflt ((case B | X | N | T => k_asm); (case hdp => ktr_room); (case hun => ktr_units); (case ml | md => rfl); (case W9 => k_updF); (case hd | hf => with_reducible assumption); k_whole); intro _ _ _ _ _ _ _ N'; (try dsimp only at N'); walk_at "tl"))
local macro_rules | `(tactic| walk_at "exec Return some") => `(tactic| (k_here; k_dflt (apply ret_use; (case B | F | X | N | T => k_asm); (case hdp => ktr_room); (case hun => ktr_units); (case mt | ml | mw | md => rfl); (case hz => k_mem); (case dz => assumption); (case pH | pD => k_mem); (case dH | dD | fH | fD | lH | lD => with_reducible assumption); (case hD => exact D2_AB (by first | exact .inl rfl | exact .inr rfl)); k_whole); intro _; (try dsimp only)))
set_option rowWalk.seconds 0 in
set_option maxHeartbeats 16000000 in
theorem askedKA_use {P R SO H SA SB : Addr} {t0 t1 b0 b1 n g rn rg : Int} {sg rs r : Bool} {ta tb tc td te tf tg th t7 t9 tA tB tA' tB' tr : Tok} {ca cb : Nat} {oS oH : Obj} {w : World} {p : Program} {loose : List Str} {mean : ExcName → Option Value} {mg mb : Str → Option Value} {news : List (Addr × Obj)}
    {dp un : Nat} {gd : Option (List Code)} {cn : Str} {cs : Scope} {a : Addr} {ccd : Value} {cl : List (Str × Addr)} {A₀ : Around} {base h₀ : Heap} {L : Addr} {m : Str → Option Value} {s : Shared} {Q E : Value → Shared → Prop}
    (B : Below A₀ base [] h₀) (XB : (hd.heap_39 w.params).In base) (TB : Top p loose mean mg mb base) (F : Fr h₀ L s.heap m) (X : (hd.heap_39 w.params).In h₀)  (T : Top p loose mean mg mb h₀) (hk : cs.kind = .function) (hdp : dp + 8 < recursionLimit) (hun : un + 64 < cLine)
    (N : News h₀ L s.heap ((H, oH) :: (158, tabObj #[]) :: news))
    (hP : (P, ({ cls := .type "tuple", data := .seq #[.int t0 ta, .int t1 tb] ca } : Obj)) ∈ news) (hR : (R, ({ cls := .type "tuple", data := .seq #[.int b0 tc, .int b1 td] cb } : Obj)) ∈ news) (hSO : (SO, oS) ∈ news)
    (codeHd : CodeHd base 162 158) (hne : ∀ p ∈ news, p.1 ≠ H)
    (lt4 : @LT.lt Nat _ 158 H) (hne8 : ∀ p ∈ news, p.1 ≠ 158)
    (hG : IsTup base SA #[.int n te, .int g tf, .bool sg]) (hS : IsTup base SB #[.int rn tg, .int rg th, .bool rs])
    (los : (SO == sysModules) = false) (loh : (H == sysModules) = false)
    (hdS : Obj.IsDictOf (PySem.strKind PySem.Challenge.rw_og0066_01.row.prog w) oS (strPairs [(.str "A" tA, .ref SA), (.str "B" tB, .ref SB)]))
    (hdH : Obj.IsDictOf (PySem.strKind PySem.Challenge.rw_og0066_01.row.prog w) oH (strPairs [(.str "A" tA', .int 7 t7), (.str "B" tB', .int 9 t9)]))
    (hfH : PyProof.V.FlatPairs PyData.str (strPairs [(.str "A" tA', .int 7 t7), (.str "B" tB', .int 9 t9)]) (strData [(.str "A" tA', .int 7 t7), (.str "B" tB', .int 9 t9)]))
    (ht0 : intBits t0 ≤ 30) (hb0 : intBits b0 ≤ 30) (ht1 : 0 ≤ t1) (ht1' : t1 ≤ 10) (hb1 : 0 ≤ b1) (hb1' : b1 ≤ 10) (hn0 : 0 ≤ n) (hn1 : n ≤ 20) (hg0 : -10 ≤ g) (hg1 : g ≤ 10) (hrn0 : 0 ≤ rn) (hrn1 : rn ≤ 20) (hrg0 : -10 ≤ rg) (hrg1 : rg ≤ 10)
    (hret : ∀ (c1 c2 c3 : Addr) (o1 o2 o3 : Obj) (vs1 vs2 vs3 : Array Value) (u1 u2 u3 : Tok) (h' : Heap) (tk' : Nat), o1.data = .fields vs1 → vs1[1]? = some (.str (Str.ofString "_law_asked.<locals>.keep") u1) → o2.data = .fields vs2 → vs2[1]? = some (.str (Str.ofString "_law_asked.<locals>.<lambda>") u2) → o3.data = .fields vs3 → vs3[1]? = some (.str (Str.ofString "_law_asked.<locals>.<lambda>") u3) → Fr h₀ L h' m → News h₀ L h' [(c3, o3), (c2, o2), (c1, o1), (158, tabObj (#[] ++ #[rawInt ((99 : Nat) : Int), rawInt ((4 : Nat) : Int), .ref c1] ++ #[rawInt ((105 : Nat) : Int), rawInt ((34 : Nat) : Int), .ref c2] ++ #[rawInt ((105 : Nat) : Int), rawInt ((68 : Nat) : Int), .ref c3]))] → Q (.bool true) { s with heap := h', toks := tk' }) :
    wpAny (model PySem.Challenge.rw_og0066_01.row.prog w) (ktrTop dp un gd cn cs L a ccd cl []) (call (.ref 163) [.ref P, .ref R, .ref SO, .bool r, .ref H, .str "A" tr]) Q E s := by
  refine Boxed.out ?_
  simp (disch :=
    k_dflt (
      refine wpAny_call ?_
      k_dflt (refine' code_defCS0 ?k1 ?k2 ?k3 ?k4 ?k5 ?kA ?kF ?kK ?k6 ?k7 ?k8 ?k9 ?kB ?kD ?_ ?c2 ?c3 ?c4; (case k3 => k_asm); (case k6 => k_is); (case kA => exact rfl); (case kF => exact rfl); (case kK => first | assumption | exact rfl); (case k1 => k_asm); (case k2 => k_asm); (case k4 => k_asm); (case k5 => k_asm); (case k7 => k_is); (case k8 => ktr_room); (case k9 => first | exact BindsTo.of_eq rfl | exact binds_K (by k_in) rfl (by k_is) rfl rfl rfl); (case kB => exact rfl); (case kD => decide +kernel); (case c2 => exact rfl); (case c3 => exact rfl); (case c4 => exact rfl); k_whole; intro g' L' h' tk' cells' FG' F' N' Y' B' X' T' l1 D'; (try k_lt l1); k_cells Y'; (try simp only [List.cons_append, List.nil_append] at N'); (try dsimp only); (try k_lift B'); (try k_fold))
      refine letAQE ?_
      intro A9 Q9 E9
      k_steps
      all_goals (try dsimp only)
      all_goals (refine' hret _ _ _ _ _ _ _ _ _ _ _ _ _ _ ?d1 ?v1 ?d2 ?v2 ?d3 ?v3 ?F ?N; (case F => k_asm); (case N => (rename News h₀ L _ _ => NN); k_dflt (refine' news_sub NN (four_mem ?ma ?mb ?mc ?md); (case ma => (repeat (first | with_reducible exact List.mem_cons_self | with_reducible refine List.mem_cons_of_mem _ ?_))); (case mb => (repeat (first | with_reducible exact List.mem_cons_self | with_reducible refine List.mem_cons_of_mem _ ?_))); (case mc => (repeat (first | with_reducible exact List.mem_cons_self | with_reducible refine List.mem_cons_of_mem _ ?_))); (case md => (repeat (first | with_reducible exact List.mem_cons_self | with_reducible refine List.mem_cons_of_mem _ ?_))))); (case d1 => with_reducible assumption); (case d2 => with_reducible assumption); (case d3 => with_reducible assumption); (case v1 => exact v_of (by with_reducible assumption) (by kernel_rfl)); (case v2 => exact v_of (by with_reducible assumption) (by kernel_rfl)); (case v3 => exact v_of (by with_reducible assumption) (by kernel_rfl)))
    )) only [↓Boxed.eq]
set_option rowWalk.seconds 0 in
set_option maxHeartbeats 16000000 in
theorem askedKB_use {P R SO H SA SB : Addr} {t0 t1 b0 b1 n g rn rg : Int} {sg rs r : Bool} {ta tb tc td te tf tg th t7 t9 tA tB tA' tB' tr : Tok} {ca cb : Nat} {oS oH : Obj} {w : World} {p : Program} {loose : List Str} {mean : ExcName → Option Value} {mg mb : Str → Option Value} {news : List (Addr × Obj)}
    {dp un : Nat} {gd : Option (List Code)} {cn : Str} {cs : Scope} {a : Addr} {ccd : Value} {cl : List (Str × Addr)} {A₀ : Around} {base h₀ : Heap} {L : Addr} {m : Str → Option Value} {s : Shared} {Q E : Value → Shared → Prop}
    (B : Below A₀ base [] h₀) (XB : (hd.heap_39 w.params).In base) (TB : Top p loose mean mg mb base) (F : Fr h₀ L s.heap m) (X : (hd.heap_39 w.params).In h₀)  (T : Top p loose mean mg mb h₀) (hk : cs.kind = .function) (hdp : dp + 8 < recursionLimit) (hun : un + 64 < cLine)
    (N : News h₀ L s.heap ((H, oH) :: (158, tabObj #[]) :: news))
    (hP : (P, ({ cls := .type "tuple", data := .seq #[.int t0 ta, .int t1 tb] ca } : Obj)) ∈ news) (hR : (R, ({ cls := .type "tuple", data := .seq #[.int b0 tc, .int b1 td] cb } : Obj)) ∈ news) (hSO : (SO, oS) ∈ news)
    (codeHd : CodeHd base 162 158) (hne : ∀ p ∈ news, p.1 ≠ H)
    (lt4 : @LT.lt Nat _ 158 H) (hne8 : ∀ p ∈ news, p.1 ≠ 158)
    (hG : IsTup base SA #[.int n te, .int g tf, .bool sg]) (hS : IsTup base SB #[.int rn tg, .int rg th, .bool rs])
    (los : (SO == sysModules) = false) (loh : (H == sysModules) = false)
    (hdS : Obj.IsDictOf (PySem.strKind PySem.Challenge.rw_og0066_01.row.prog w) oS (strPairs [(.str "A" tA, .ref SA), (.str "B" tB, .ref SB)]))
    (hdH : Obj.IsDictOf (PySem.strKind PySem.Challenge.rw_og0066_01.row.prog w) oH (strPairs [(.str "A" tA', .int 7 t7), (.str "B" tB', .int 9 t9)]))
    (hfH : PyProof.V.FlatPairs PyData.str (strPairs [(.str "A" tA', .int 7 t7), (.str "B" tB', .int 9 t9)]) (strData [(.str "A" tA', .int 7 t7), (.str "B" tB', .int 9 t9)]))
    (ht0 : intBits t0 ≤ 30) (hb0 : intBits b0 ≤ 30) (ht1 : 0 ≤ t1) (ht1' : t1 ≤ 10) (hb1 : 0 ≤ b1) (hb1' : b1 ≤ 10) (hn0 : 0 ≤ n) (hn1 : n ≤ 20) (hg0 : -10 ≤ g) (hg1 : g ≤ 10) (hrn0 : 0 ≤ rn) (hrn1 : rn ≤ 20) (hrg0 : -10 ≤ rg) (hrg1 : rg ≤ 10)
    (hret : ∀ (c1 c2 c3 : Addr) (o1 o2 o3 : Obj) (vs1 vs2 vs3 : Array Value) (u1 u2 u3 : Tok) (h' : Heap) (tk' : Nat), o1.data = .fields vs1 → vs1[1]? = some (.str (Str.ofString "_law_asked.<locals>.keep") u1) → o2.data = .fields vs2 → vs2[1]? = some (.str (Str.ofString "_law_asked.<locals>.<lambda>") u2) → o3.data = .fields vs3 → vs3[1]? = some (.str (Str.ofString "_law_asked.<locals>.<lambda>") u3) → Fr h₀ L h' m → News h₀ L h' [(c3, o3), (c2, o2), (c1, o1), (158, tabObj (#[] ++ #[rawInt ((99 : Nat) : Int), rawInt ((4 : Nat) : Int), .ref c1] ++ #[rawInt ((105 : Nat) : Int), rawInt ((34 : Nat) : Int), .ref c2] ++ #[rawInt ((105 : Nat) : Int), rawInt ((68 : Nat) : Int), .ref c3]))] → Q (.bool true) { s with heap := h', toks := tk' }) :
    wpAny (model PySem.Challenge.rw_og0066_01.row.prog w) (ktrTop dp un gd cn cs L a ccd cl []) (call (.ref 163) [.ref P, .ref R, .ref SO, .bool r, .ref H, .str "B" tr]) Q E s := by
  refine Boxed.out ?_
  simp (disch :=
    k_dflt (
      refine wpAny_call ?_
      k_dflt (refine' code_defCS0 ?k1 ?k2 ?k3 ?k4 ?k5 ?kA ?kF ?kK ?k6 ?k7 ?k8 ?k9 ?kB ?kD ?_ ?c2 ?c3 ?c4; (case k3 => k_asm); (case k6 => k_is); (case kA => exact rfl); (case kF => exact rfl); (case kK => first | assumption | exact rfl); (case k1 => k_asm); (case k2 => k_asm); (case k4 => k_asm); (case k5 => k_asm); (case k7 => k_is); (case k8 => ktr_room); (case k9 => first | exact BindsTo.of_eq rfl | exact binds_K (by k_in) rfl (by k_is) rfl rfl rfl); (case kB => exact rfl); (case kD => decide +kernel); (case c2 => exact rfl); (case c3 => exact rfl); (case c4 => exact rfl); k_whole; intro g' L' h' tk' cells' FG' F' N' Y' B' X' T' l1 D'; (try k_lt l1); k_cells Y'; (try simp only [List.cons_append, List.nil_append] at N'); (try dsimp only); (try k_lift B'); (try k_fold))
      refine letAQE ?_
      intro A9 Q9 E9
      k_steps
      all_goals (try dsimp only)
      all_goals (refine' hret _ _ _ _ _ _ _ _ _ _ _ _ _ _ ?d1 ?v1 ?d2 ?v2 ?d3 ?v3 ?F ?N; (case F => k_asm); (case N => (rename News h₀ L _ _ => NN); k_dflt (refine' news_sub NN (four_mem ?ma ?mb ?mc ?md); (case ma => (repeat (first | with_reducible exact List.mem_cons_self | with_reducible refine List.mem_cons_of_mem _ ?_))); (case mb => (repeat (first | with_reducible exact List.mem_cons_self | with_reducible refine List.mem_cons_of_mem _ ?_))); (case mc => (repeat (first | with_reducible exact List.mem_cons_self | with_reducible refine List.mem_cons_of_mem _ ?_))); (case md => (repeat (first | with_reducible exact List.mem_cons_self | with_reducible refine List.mem_cons_of_mem _ ?_))))); (case d1 => with_reducible assumption); (case d2 => with_reducible assumption); (case d3 => with_reducible assumption); (case v1 => exact v_of (by with_reducible assumption) (by kernel_rfl)); (case v2 => exact v_of (by with_reducible assumption) (by kernel_rfl)); (case v3 => exact v_of (by with_reducible assumption) (by kernel_rfl)))
    )) only [↓Boxed.eq]
set_option rowWalk.seconds 0 in
set_option maxHeartbeats 16000000 in
theorem askedNB_use {P R SO H SA SB c1 c2 c3 : Addr} {t0 t1 b0 b1 n g rn rg : Int} {sg rs r : Bool} {ta tb tc td te tf tg th t7 t9 tA tB tA' tB' tr : Tok} {ca cb cg ch : Nat} {oS oH o1 o2 o3 : Obj} {vs1 vs2 vs3 : Array Value} {u1 u2 u3 : Tok} {w : World} {p : Program} {loose : List Str} {mean : ExcName → Option Value} {mg mb : Str → Option Value} {news : List (Addr × Obj)}
    {dp un : Nat} {gd : Option (List Code)} {cn : Str} {cs : Scope} {a : Addr} {ccd : Value} {cl : List (Str × Addr)} {A₀ : Around} {base h₀ : Heap} {L : Addr} {m : Str → Option Value} {s : Shared} {Q E : Value → Shared → Prop}
    (B : Below A₀ base [] h₀) (XB : (hd.heap_39 w.params).In base) (TB : Top p loose mean mg mb base) (F : Fr h₀ L s.heap m) (X : (hd.heap_39 w.params).In h₀)  (T : Top p loose mean mg mb h₀) (hk : cs.kind = .function) (hdp : dp + 8 < recursionLimit) (hun : un + 64 < cLine)
    (N : News h₀ L s.heap ((H, oH) :: news))
    (hP : (P, ({ cls := .type "tuple", data := .seq #[.int t0 ta, .int t1 tb] ca } : Obj)) ∈ news) (hR : (R, ({ cls := .type "tuple", data := .seq #[.int b0 tc, .int b1 td] cb } : Obj)) ∈ news) (hSO : (SO, oS) ∈ news)
    (codeHd : CodeHd base 162 158) (hne : ∀ p ∈ news, p.1 ≠ H)
    (hG : (SA, ({ cls := .type "tuple", data := .seq #[.int n te, .int g tf, .bool sg] cg } : Obj)) ∈ news) (hS : (SB, ({ cls := .type "tuple", data := .seq #[.int rn tg, .int rg th, .bool rs] ch } : Obj)) ∈ news)
    (hT : (158, tabObj (#[] ++ #[rawInt ((99 : Nat) : Int), rawInt ((4 : Nat) : Int), .ref c1] ++ #[rawInt ((105 : Nat) : Int), rawInt ((34 : Nat) : Int), .ref c2] ++ #[rawInt ((105 : Nat) : Int), rawInt ((68 : Nat) : Int), .ref c3])) ∈ news) (hc1 : (c1, o1) ∈ news) (hc2 : (c2, o2) ∈ news) (hc3 : (c3, o3) ∈ news)
    (hd1 : o1.data = .fields vs1) (hv1 : vs1[1]? = some (.str (Str.ofString "_law_asked.<locals>.keep") u1)) (hd2 : o2.data = .fields vs2) (hv2 : vs2[1]? = some (.str (Str.ofString "_law_asked.<locals>.<lambda>") u2)) (hd3 : o3.data = .fields vs3) (hv3 : vs3[1]? = some (.str (Str.ofString "_law_asked.<locals>.<lambda>") u3))
    (los : (SO == sysModules) = false) (loh : (H == sysModules) = false)
    (hdS : Obj.IsDictOf (PySem.strKind PySem.Challenge.rw_og0066_01.row.prog w) oS (strPairs [(.str "A" tA, .ref SA), (.str "B" tB, .ref SB)]))
    (hdH : Obj.IsDictOf (PySem.strKind PySem.Challenge.rw_og0066_01.row.prog w) oH (strPairs [(.str "A" tA', .int 7 t7), (.str "B" tB', .int 9 t9)]))
    (hfH : PyProof.V.FlatPairs PyData.str (strPairs [(.str "A" tA', .int 7 t7), (.str "B" tB', .int 9 t9)]) (strData [(.str "A" tA', .int 7 t7), (.str "B" tB', .int 9 t9)]))
    (ht0 : intBits t0 ≤ 30) (hb0 : intBits b0 ≤ 30) (ht1 : 0 ≤ t1) (ht1' : t1 ≤ 10) (hb1 : 0 ≤ b1) (hb1' : b1 ≤ 10) (hn0 : 0 ≤ n) (hn1 : n ≤ 20) (hg0 : -10 ≤ g) (hg1 : g ≤ 10) (hrn0 : 0 ≤ rn) (hrn1 : rn ≤ 20) (hrg0 : -10 ≤ rg) (hrg1 : rg ≤ 10)
    (hret : ∀ (h' : Heap) (tk' : Nat), Fr h₀ L h' m → News h₀ L h' news → Q (.bool true) { s with heap := h', toks := tk' }) :
    wpAny (model PySem.Challenge.rw_og0066_01.row.prog w) (ktrTop dp un gd cn cs L a ccd cl []) (call (.ref 163) [.ref P, .ref R, .ref SO, .bool r, .ref H, .str "B" tr]) Q E s := by
  refine Boxed.out ?_
  simp (disch :=
    k_dflt (
      refine wpAny_call ?_
      k_dflt (refine' code_defCS0 ?k1 ?k2 ?k3 ?k4 ?k5 ?kA ?kF ?kK ?k6 ?k7 ?k8 ?k9 ?kB ?kD ?_ ?c2 ?c3 ?c4; (case k3 => k_asm); (case k6 => k_is); (case kA => exact rfl); (case kF => exact rfl); (case kK => first | assumption | exact rfl); (case k1 => k_asm); (case k2 => k_asm); (case k4 => k_asm); (case k5 => k_asm); (case k7 => k_is); (case k8 => ktr_room); (case k9 => first | exact BindsTo.of_eq rfl | exact binds_K (by k_in) rfl (by k_is) rfl rfl rfl); (case kB => exact rfl); (case kD => decide +kernel); (case c2 => exact rfl); (case c3 => exact rfl); (case c4 => exact rfl); k_whole; intro g' L' h' tk' cells' FG' F' N' Y' B' X' T' l1 D'; (try k_lt l1); k_cells Y'; (try simp only [List.cons_append, List.nil_append] at N'); (try dsimp only); (try k_lift B'); (try k_fold))
      refine letAQE ?_
      intro A9 Q9 E9
      k_steps
      all_goals (try dsimp only)
      all_goals (refine' hret _ _ ?F ?N; (case F => k_asm); (case N => (rename News h₀ L _ _ => NN); refine news_sub NN ?_; (repeat' (first | exact sub_refl | refine sub_skip ?_))))
    )) only [↓Boxed.eq]
end
set_option maxHeartbeats 4000000 in
theorem askedK_law {P R SO H SA SB : Addr} {i1 j1 i2 j2 t0 t1 b0 b1 n g rn rg : Int} {x : Str} {sg rs r : Bool} {ta tb tc td te tf tg th t7 t9 tA tB tA' tB' tr : Tok} {ca cb : Nat} {oS oH : Obj} {full : List (Addr × Obj)} {w : World} {p : Program} {loose : List Str} {mean : ExcName → Option Value} {mg mb : Str → Option Value} 
    {dp un : Nat} {gd : Option (List Code)} {cn : Str} {cs : Scope} {a : Addr} {ccd : Value} {cl : List (Str × Addr)} {A₀ : Around} {base h₀ : Heap} {L : Addr} {m : Str → Option Value} {s : Shared} {Q E : Value → Shared → Prop}
    (B : Below A₀ base [] h₀) (XB : (hd.heap_39 w.params).In base) (TB : Top p loose mean mg mb base) (F : Fr h₀ L s.heap m) (X : (hd.heap_39 w.params).In h₀)  (T : Top p loose mean mg mb h₀) (hk : cs.kind = .function) (hdp : dp + 8 < recursionLimit) (hun : un + 64 < cLine)
    (N : News h₀ L s.heap full) (hH : (H, oH) ∈ full) (hSO : (SO, oS) ∈ full) (hR : (R, ({ cls := .type "tuple", data := .seq #[.int b0 tc, .int b1 td] cb } : Obj)) ∈ full) (hP : (P, ({ cls := .type "tuple", data := .seq #[.int t0 ta, .int t1 tb] ca } : Obj)) ∈ full) (h8 : (158, tabObj #[]) ∈ full)
    (codeHd : CodeHd base 162 158) (n1 : SO ≠ H) (n2 : R ≠ H) (n3 : P ≠ H) (lt4 : @LT.lt Nat _ 158 H) (n5 : SO ≠ 158) (n6 : R ≠ 158) (n7 : P ≠ 158) (hx : x = "A" ∨ x = "B")
    (hG : IsTup base SA #[.int n te, .int g tf, .bool sg]) (hS : IsTup base SB #[.int rn tg, .int rg th, .bool rs])
    (los : (SO == sysModules) = false) (loh : (H == sysModules) = false)
    (hdS : Obj.IsDictOf (PySem.strKind PySem.Challenge.rw_og0066_01.row.prog w) oS (strPairs [(.str "A" tA, .ref SA), (.str "B" tB, .ref SB)]))
    (hdH : Obj.IsDictOf (PySem.strKind PySem.Challenge.rw_og0066_01.row.prog w) oH (strPairs [(.str "A" tA', .int 7 t7), (.str "B" tB', .int 9 t9)]))
    (hfH : PyProof.V.FlatPairs PyData.str (strPairs [(.str "A" tA', .int 7 t7), (.str "B" tB', .int 9 t9)]) (strData [(.str "A" tA', .int 7 t7), (.str "B" tB', .int 9 t9)]))
    (D1 : Dec i1 j1 t0 t1) (D2 : Dec i2 j2 b0 b1) (hi1 : intBits i1 ≤ 24) (hi2 : intBits i2 ≤ 24) (hj1 : 0 ≤ j1) (hj1' : j1 < 7) (hj2 : 0 ≤ j2) (hj2' : j2 < 7) (hn0 : 0 ≤ n) (hn1 : n ≤ 20) (hg0 : -10 ≤ g) (hg1 : g ≤ 10) (hrn0 : 0 ≤ rn) (hrn1 : rn ≤ 20) (hrg0 : -10 ≤ rg) (hrg1 : rg ≤ 10)
    (hret : ∀ (c1 c2 c3 : Addr) (o1 o2 o3 : Obj) (vs1 vs2 vs3 : Array Value) (u1 u2 u3 : Tok) (h' : Heap) (tk' : Nat), o1.data = .fields vs1 → vs1[1]? = some (.str (Str.ofString "_law_asked.<locals>.keep") u1) → o2.data = .fields vs2 → vs2[1]? = some (.str (Str.ofString "_law_asked.<locals>.<lambda>") u2) → o3.data = .fields vs3 → vs3[1]? = some (.str (Str.ofString "_law_asked.<locals>.<lambda>") u3) → Fr h₀ L h' m → News h₀ L h' [(c3, o3), (c2, o2), (c1, o1), (158, tabObj (#[] ++ #[rawInt ((99 : Nat) : Int), rawInt ((4 : Nat) : Int), .ref c1] ++ #[rawInt ((105 : Nat) : Int), rawInt ((34 : Nat) : Int), .ref c2] ++ #[rawInt ((105 : Nat) : Int), rawInt ((68 : Nat) : Int), .ref c3]))] → Q (.bool true) { s with heap := h', toks := tk' }) :
    wpAny (model PySem.Challenge.rw_og0066_01.row.prog w) (ktrTop dp un gd cn cs L a ccd cl []) (call (.ref 163) [.ref P, .ref R, .ref SO, .bool r, .ref H, .str x tr]) Q E s := by
  have e1 : intBits t0 ≤ 30 := Nat.le_trans (D1.bits_pos hi1 hj1) (by decide)
  have e2 : intBits b0 ≤ 30 := Nat.le_trans (D2.bits_pos hi2 hj2) (by decide)
  have e3 := D1.lo
  have e4 : t1 ≤ 10 := by have := D1.hi; omega
  have e5 := D2.lo
  have e6 : b1 ≤ 10 := by have := D2.hi; omega
  have N' : News h₀ L s.heap ((H, oH) :: (158, tabObj #[]) :: [(SO, oS), (R, ({ cls := .type "tuple", data := .seq #[.int b0 tc, .int b1 td] cb } : Obj)), (P, ({ cls := .type "tuple", data := .seq #[.int t0 ta, .int t1 tb] ca } : Obj))]) := news_sub N fun q hq => by
    rcases List.mem_cons.mp hq with rfl | hq
    · exact hH
    rcases List.mem_cons.mp hq with rfl | hq
    · exact h8
    rcases List.mem_cons.mp hq with rfl | hq
    · exact hSO
    rcases List.mem_cons.mp hq with rfl | hq
    · exact hR
    rcases List.mem_cons.mp hq with rfl | hq
    · exact hP
    cases hq
  have ne1 : ∀ q ∈ [(SO, oS), (R, ({ cls := .type "tuple", data := .seq #[.int b0 tc, .int b1 td] cb } : Obj)), (P, ({ cls := .type "tuple", data := .seq #[.int t0 ta, .int t1 tb] ca } : Obj))], q.1 ≠ H := fun q hq => by
    rcases List.mem_cons.mp hq with rfl | hq
    · exact n1
    rcases List.mem_cons.mp hq with rfl | hq
    · exact n2
    rcases List.mem_cons.mp hq with rfl | hq
    · exact n3
    cases hq
  have ne2 : ∀ q ∈ [(SO, oS), (R, ({ cls := .type "tuple", data := .seq #[.int b0 tc, .int b1 td] cb } : Obj)), (P, ({ cls := .type "tuple", data := .seq #[.int t0 ta, .int t1 tb] ca } : Obj))], q.1 ≠ 158 := fun q hq => by
    rcases List.mem_cons.mp hq with rfl | hq
    · exact n5
    rcases List.mem_cons.mp hq with rfl | hq
    · exact n6
    rcases List.mem_cons.mp hq with rfl | hq
    · exact n7
    cases hq
  rcases hx with rfl | rfl
  · exact askedKA_use B XB TB F X T hk hdp hun N' (.tail _ (.tail _ (.head _))) (.tail _ (.head _)) (.head _) codeHd ne1 lt4 ne2 hG hS los loh hdS hdH hfH e1 e2 e3 e4 e5 e6 hn0 hn1 hg0 hg1 hrn0 hrn1 hrg0 hrg1 hret
  · exact askedKB_use B XB TB F X T hk hdp hun N' (.tail _ (.tail _ (.head _))) (.tail _ (.head _)) (.head _) codeHd ne1 lt4 ne2 hG hS los loh hdS hdH hfH e1 e2 e3 e4 e5 e6 hn0 hn1 hg0 hg1 hrn0 hrn1 hrg0 hrg1 hret
set_option maxHeartbeats 4000000 in
theorem askedN_law {P R SO H SA SB c1 c2 c3 : Addr} {i1 j1 i2 j2 t0 t1 b0 b1 n g rn rg : Int} {sg rs r : Bool} {ta tb tc td te tf tg th t7 t9 tA tB tA' tB' tr : Tok} {ca cb cg ch : Nat} {oS oH o1 o2 o3 : Obj} {vs1 vs2 vs3 : Array Value} {u1 u2 u3 : Tok} {tail : List (Addr × Obj)} {w : World} {p : Program} {loose : List Str} {mean : ExcName → Option Value} {mg mb : Str → Option Value} 
    {dp un : Nat} {gd : Option (List Code)} {cn : Str} {cs : Scope} {a : Addr} {ccd : Value} {cl : List (Str × Addr)} {A₀ : Around} {base h₀ : Heap} {L : Addr} {m : Str → Option Value} {s : Shared} {Q E : Value → Shared → Prop}
    (B : Below A₀ base [] h₀) (XB : (hd.heap_39 w.params).In base) (TB : Top p loose mean mg mb base) (F : Fr h₀ L s.heap m) (X : (hd.heap_39 w.params).In h₀)  (T : Top p loose mean mg mb h₀) (hk : cs.kind = .function) (hdp : dp + 8 < recursionLimit) (hun : un + 64 < cLine)
    (N : News h₀ L s.heap ((H, oH) :: (SB, ({ cls := .type "tuple", data := .seq #[.int rn tg, .int rg th, .bool rs] ch } : Obj)) :: (SA, ({ cls := .type "tuple", data := .seq #[.int n te, .int g tf, .bool sg] cg } : Obj)) :: (SO, oS) :: (R, ({ cls := .type "tuple", data := .seq #[.int b0 tc, .int b1 td] cb } : Obj)) :: (P, ({ cls := .type "tuple", data := .seq #[.int t0 ta, .int t1 tb] ca } : Obj)) :: tail))
    (codeHd : CodeHd base 162 158) (hT : (158, tabObj (#[] ++ #[rawInt ((99 : Nat) : Int), rawInt ((4 : Nat) : Int), .ref c1] ++ #[rawInt ((105 : Nat) : Int), rawInt ((34 : Nat) : Int), .ref c2] ++ #[rawInt ((105 : Nat) : Int), rawInt ((68 : Nat) : Int), .ref c3])) ∈ tail) (hc1 : (c1, o1) ∈ tail) (hc2 : (c2, o2) ∈ tail) (hc3 : (c3, o3) ∈ tail)
    (hd1 : o1.data = .fields vs1) (hv1 : vs1[1]? = some (.str (Str.ofString "_law_asked.<locals>.keep") u1)) (hd2 : o2.data = .fields vs2) (hv2 : vs2[1]? = some (.str (Str.ofString "_law_asked.<locals>.<lambda>") u2)) (hd3 : o3.data = .fields vs3) (hv3 : vs3[1]? = some (.str (Str.ofString "_law_asked.<locals>.<lambda>") u3))
    (hne : ∀ q ∈ (SB, ({ cls := .type "tuple", data := .seq #[.int rn tg, .int rg th, .bool rs] ch } : Obj)) :: (SA, ({ cls := .type "tuple", data := .seq #[.int n te, .int g tf, .bool sg] cg } : Obj)) :: (SO, oS) :: (R, ({ cls := .type "tuple", data := .seq #[.int b0 tc, .int b1 td] cb } : Obj)) :: (P, ({ cls := .type "tuple", data := .seq #[.int t0 ta, .int t1 tb] ca } : Obj)) :: tail, q.1 ≠ H)
    (los : (SO == sysModules) = false) (loh : (H == sysModules) = false)
    (hdS : Obj.IsDictOf (PySem.strKind PySem.Challenge.rw_og0066_01.row.prog w) oS (strPairs [(.str "A" tA, .ref SA), (.str "B" tB, .ref SB)]))
    (hdH : Obj.IsDictOf (PySem.strKind PySem.Challenge.rw_og0066_01.row.prog w) oH (strPairs [(.str "A" tA', .int 7 t7), (.str "B" tB', .int 9 t9)]))
    (hfH : PyProof.V.FlatPairs PyData.str (strPairs [(.str "A" tA', .int 7 t7), (.str "B" tB', .int 9 t9)]) (strData [(.str "A" tA', .int 7 t7), (.str "B" tB', .int 9 t9)]))
    (D1 : Dec i1 j1 t0 t1) (D2 : Dec i2 j2 b0 b1) (hi1 : intBits i1 ≤ 24) (hi2 : intBits i2 ≤ 24) (hj1 : 0 ≤ j1) (hj1' : j1 < 7) (hj2 : 0 ≤ j2) (hj2' : j2 < 7) (hn0 : 0 ≤ n) (hn1 : n ≤ 20) (hg0 : -10 ≤ g) (hg1 : g ≤ 10) (hrn0 : 0 ≤ rn) (hrn1 : rn ≤ 20) (hrg0 : -10 ≤ rg) (hrg1 : rg ≤ 10)
    (hret : ∀ (h' : Heap) (tk' : Nat), Fr h₀ L h' m → News h₀ L h' tail → Q (.bool true) { s with heap := h', toks := tk' }) :
    wpAny (model PySem.Challenge.rw_og0066_01.row.prog w) (ktrTop dp un gd cn cs L a ccd cl []) (call (.ref 163) [.ref P, .ref R, .ref SO, .bool r, .ref H, .str "B" tr]) Q E s := by
  have e1 : intBits t0 ≤ 30 := Nat.le_trans (D1.bits_pos hi1 hj1) (by decide)
  have e2 : intBits b0 ≤ 30 := Nat.le_trans (D2.bits_pos hi2 hj2) (by decide)
  have e3 := D1.lo
  have e4 : t1 ≤ 10 := by have := D1.hi; omega
  have e5 := D2.lo
  have e6 : b1 ≤ 10 := by have := D2.hi; omega
  have up : ∀ {q}, q ∈ tail → q ∈ (SB, ({ cls := .type "tuple", data := .seq #[.int rn tg, .int rg th, .bool rs] ch } : Obj)) :: (SA, ({ cls := .type "tuple", data := .seq #[.int n te, .int g tf, .bool sg] cg } : Obj)) :: (SO, oS) :: (R, ({ cls := .type "tuple", data := .seq #[.int b0 tc, .int b1 td] cb } : Obj)) :: (P, ({ cls := .type "tuple", data := .seq #[.int t0 ta, .int t1 tb] ca } : Obj)) :: tail := fun hq => .tail _ (.tail _ (.tail _ (.tail _ (.tail _ hq))))
  exact askedNB_use B XB TB F X T hk hdp hun N (.tail _ (.tail _ (.tail _ (.tail _ (.head _))))) (.tail _ (.tail _ (.tail _ (.head _)))) (.tail _ (.tail _ (.head _))) codeHd hne (.tail _ (.head _)) (.head _) (up hT) (up hc1) (up hc2) (up hc3) hd1 hv1 hd2 hv2 hd3 hv3 los loh hdS hdH hfH e1 e2 e3 e4 e5 e6 hn0 hn1 hg0 hg1 hrn0 hrn1 hrg0 hrg1 (fun h' tk' F' N' => hret h' tk' F' (news_sub N' fun q hq => up hq))
local macro_rules | `(tactic| walk_at "eval IfExp") => `(tactic| (k_here; k_dflt (refine ifSign ?_)))
local macro_rules | `(tactic| walk_at "eval IfExp") => `(tactic| (k_here; k_dflt (refine ifAB ?_)))
local macro_rules | `(tactic| walk_at "SignOk") => `(tactic| (refine SignOk.of ?_; intro _ _ _ hv'; (try dsimp only); (have hb' := sign_bits hv' (by assumption) (by assumption) (by assumption))))
local macro_rules | `(tactic| walk_at "subscriptTail") => `(tactic| (k_here; k_dflt (refine' sorts_item ?z9k1 ?z9k2 ?z9k3 ?z9k4 ?_; (case z9k1 | z9k2 => k_asm); (case z9k3 | z9k4 => first | assumption | omega); k_whole); intro _ _ _ _ _ _ _ _ _ _ _))
local macro_rules | `(tactic| walk_at "newTuple") => `(tactic| (k_here; k_dflt (refine' kup_newTuple ?z9F ?z9N ?_ ?z9z; (case z9F => k_asm); (case z9N => first | k_asm | exact News.nil); (case z9z => kmk_size)); intro _ _ _ _ l1; (try k_lt l1); (try k_sweep)))
local macro_rules | `(tactic| walk_at "eval Dict") => `(tactic| (k_here; k_dflt (refine' kdn_str ?z9q ?z9F ?z9N ?z9b ?z9a ?z9l ?z9e ?z9n ?_; (case z9q => rfl); (case z9F => k_asm); (case z9N => first | k_asm | exact News.nil); (case z9b => exact Top.nolimit (by k_asm)); (case z9a | z9l => rfl); (case z9e => exact List.cons_ne_nil _ _); (case z9n => exact Nat.le_of_ble_eq_true rfl)); intro _ _ _ _ _ l1 _ _; (have lr' := l1); (try k_lt l1)))
local macro_rules | `(tactic| walk_at "KdnMade") => `(tactic| (k_here; k_dflt (refine' kdn_made_str ?z9F ?z9N ?z9U ?z9d ?z9k ?z9n ?_; (case z9k => rfl); (case z9n => exact nodupAB); (case z9F | z9N => k_asm); (case z9U => k_updF); (case z9d => with_reducible assumption); intro _ _ _ N' _); (try dsimp only at N')))
local macro_rules | `(tactic| walk_at "KdnMade") => `(tactic| (k_here; k_dflt (refine' kdn_made_strF ?z9F ?z9N ?z9U ?z9d ?z9k ?z9n ?z9v ?_; (case z9v | z9k => rfl); (case z9n => exact nodupAB); (case z9F | z9N => k_asm); (case z9U => k_updF); (case z9d => with_reducible assumption); intro _ _ _ N' _ _); (try dsimp only at N')))
local macro_rules | `(tactic| walk_at "call ref") => `(tactic| (k_here; refine callAt 163 rfl ?_; k_dflt (apply askedN_law; (case N | B => k_asm); (case XB | TB => assumption); (case F | X | T => k_asm); (case hk => first | exact rfl | assumption); (case hdp => ktr_room); (case hun => ktr_units); (case codeHd => assumption); (case hT | hc1 | hc2 | hc3 => k_mem); (case hd1 | hv1 | hd2 | hv2 | hd3 | hv3 => with_reducible assumption); (case hne => k_all); (case hdS | hdH | hfH | los | loh => with_reducible assumption); (case D1 | D2 => first | with_reducible assumption | exact dec_self); (case hi1 | hi2 => first | with_reducible assumption | exact intBits_le_iff.mpr (by decide)); (case hj1 | hj1' | hj2 | hj2' => first | assumption | omega); (case hn0 | hn1 | hg0 | hg1 | hrn0 | hrn1 | hrg0 | hrg1 => first | assumption | decide); k_whole); intro _ _ _ _; (try k_sweep); (iterate 6 (try ((rename @LT.lt Nat _ _ _ ∧ _ => zl); clear zl))); (iterate 2 (try ((rename Obj.IsDictOf _ _ _ => zl); clear zl))); (iterate 2 (try ((rename PyProof.V.FlatPairs _ _ _ => zl); clear zl))); walk_at "tl"))
local macro_rules | `(tactic| walk_at "call ref") => `(tactic| (k_here; refine callAt 163 rfl ?_; k_dflt (apply askedK_law; (case N | B => k_asm); (case XB | TB => assumption); (case F | X | T => k_asm); (case hk => first | exact rfl | assumption); (case hdp => ktr_room); (case hun => ktr_units); (case hH | hSO | hR | hP | h8 => k_mem); (case codeHd => assumption); (case n1 | n2 | n3 => k_ne); (case lt4 => omega); (case n5 | n6 | n7 => k_ne); (case hx => assumption); (case hdS | hdH | hfH | los | loh | hG | hS => with_reducible assumption); (case D1 | D2 => first | with_reducible assumption | exact dec_self); (case hi1 | hi2 => first | with_reducible assumption | exact intBits_le_iff.mpr (by decide)); (case hj1 | hj1' | hj2 | hj2' => first | assumption | omega); (case hn0 | hn1 | hg0 | hg1 | hrn0 | hrn1 | hrg0 | hrg1 => first | assumption | decide); k_whole); intro _ _ _ _ _ _ _ _ _ _ _ _ _ _ _ _ _ _ _ _ _ _; (try k_sweep); (repeat ((rename @LT.lt Nat _ _ _ ∧ _ => zl); clear zl)); (repeat ((rename Obj.IsDictOf _ _ _ => zl); clear zl)); (repeat ((rename PyProof.V.FlatPairs _ _ _ => zl); clear zl)); (repeat ((rename Dec _ _ _ _ => zl); clear zl)); walk_at "tl"))
section
def lawSt : Stmt := lastOf PySem.Challenge.pw_og0066_01.main.body
def lawScope : Scope := scopeIn lawSt
def turnSt : Stmt := lastOf (inner (lastOf (inner (lastOf ((inner lawSt).take 7)))))
local macro_rules | `(tactic| walk_at "eval Name") => `(tactic| (k_here; k_dflt (refine' nameX_L ?z9F ?z9v ?_ ?z9a ?z9b; (case z9F => k_asm); (case z9a | z9b => rfl); (case z9v => with_reducible assumption); k_whole)))
set_option rowWalk.seconds 0 in
set_option maxHeartbeats 16000000 in
theorem turn_use {i j : Int} {r : Bool} {ti tj : Tok} {c1 c2 c3 : Addr} {o1 o2 o3 : Obj} {vs1 vs2 vs3 : Array Value} {u1 u2 u3 : Tok} {tail : List (Addr × Obj)} {w : World} {p : Program} {loose : List Str} {mean : ExcName → Option Value} {mg mb : Str → Option Value}
    {dp un : Nat} {gd : Option (List Code)} {a : Addr} {ccd : Value} {A₀ : Around} {base h₀ : Heap} {L : Addr} {m : Str → Option Value} {s : Shared} {Q : Flow → Shared → Prop} {E : Value → Shared → Prop}
    (B : Below A₀ base [] h₀) (XB : (hd.heap_39 w.params).In base) (TB : Top p loose mean mg mb base) (F : Fr h₀ L s.heap m) (X : (hd.heap_39 w.params).In h₀) (N : News h₀ L s.heap tail) (T : Top p loose mean mg mb h₀) (hdp : dp + 8 < recursionLimit) (hun : un + 64 < cLine)
    (codeHd : CodeHd base 162 158)
    (mt : m (Str.ofString "top") = some (.int i ti)) (mb' : m (Str.ofString "bottom") = some (.int j tj)) (mr : m (Str.ofString "is_rounded") = some (.bool r)) (hi : intBits i ≤ 24) (hj : intBits j ≤ 24)
    (hT : (158, tabObj (#[] ++ #[rawInt ((99 : Nat) : Int), rawInt ((4 : Nat) : Int), .ref c1] ++ #[rawInt ((105 : Nat) : Int), rawInt ((34 : Nat) : Int), .ref c2] ++ #[rawInt ((105 : Nat) : Int), rawInt ((68 : Nat) : Int), .ref c3])) ∈ tail) (hc1 : (c1, o1) ∈ tail) (hc2 : (c2, o2) ∈ tail) (hc3 : (c3, o3) ∈ tail)
    (hd1 : o1.data = .fields vs1) (hv1 : vs1[1]? = some (.str (Str.ofString "_law_asked.<locals>.keep") u1)) (hd2 : o2.data = .fields vs2) (hv2 : vs2[1]? = some (.str (Str.ofString "_law_asked.<locals>.<lambda>") u2)) (hd3 : o3.data = .fields vs3) (hv3 : vs3[1]? = some (.str (Str.ofString "_law_asked.<locals>.<lambda>") u3))
    (hret : ∀ (h' : Heap) (tk' : Nat), Fr h₀ L h' m → News h₀ L h' tail → Q .next { s with heap := h', toks := tk' }) :
    wpAny (model PySem.Challenge.rw_og0066_01.row.prog w) (ktrTop dp un gd (Str.ofString "law") lawScope L a ccd [] []) (exec turnSt (envX (Str.ofString "law") lawScope L a ccd [])) Q E s := by
  refine Boxed.out ?_
  simp (disch :=
    k_dflt (
      conv in turnSt => whnf
      k_steps
      all_goals (try dsimp only)
      all_goals (exact hret _ _ (by k_asm) (by k_asm))
    )) only [↓Boxed.eq]
end
local macro_rules | `(tactic| walk_at "zz 0") => `(tactic| fail)
local macro_rules | `(tactic| walk_at "exec If") => `(tactic| (k_here; k_dflt (apply turn_use; (case B => k_asm); (case XB | TB => assumption); (case F | X | N | T => k_asm); (case hdp => ktr_room); (case hun => ktr_units); (case codeHd => assumption); (case mt | mb' => first | rfl | assumption); (case mr => rfl); (case hi | hj => first | assumption | exact intBits_le_iff.mpr (by decide)); (case hT | hc1 | hc2 | hc3 => k_mem); (case hd1 | hv1 | hd2 | hv2 | hd3 | hv3 => with_reducible assumption); k_whole); intro _ _ _ _; walk_at "tl"))
def turnsSt : Stmt := lastOf (inner (lastOf ((inner lawSt).take 7)))
set_option rowWalk.seconds 0 in
set_option maxHeartbeats 16000000 in
theorem turns_use {i j : Int} {ti tj : Tok} {c1 c2 c3 : Addr} {o1 o2 o3 : Obj} {vs1 vs2 vs3 : Array Value} {u1 u2 u3 : Tok} {tail : List (Addr × Obj)} {w : World} {p : Program} {loose : List Str} {mean : ExcName → Option Value} {mg mb : Str → Option Value}
    {dp un : Nat} {gd : Option (List Code)} {a : Addr} {ccd : Value} {A₀ : Around} {base h₀ : Heap} {L : Addr} {m : Str → Option Value} {s : Shared} {Q : Flow → Shared → Prop} {E : Value → Shared → Prop}
    (B : Below A₀ base [] h₀) (XB : (hd.heap_39 w.params).In base) (TB : Top p loose mean mg mb base) (F : Fr h₀ L s.heap m) (X : (hd.heap_39 w.params).In h₀) (N : News h₀ L s.heap tail) (T : Top p loose mean mg mb h₀) (hdp : dp + 8 < recursionLimit) (hun : un + 64 < cLine)
    (codeHd : CodeHd base 162 158)
    (mt : m (Str.ofString "top") = some (.int i ti)) (mb' : m (Str.ofString "bottom") = some (.int j tj)) (hi : intBits i ≤ 24) (hj : intBits j ≤ 24)
    (hT : (158, tabObj (#[] ++ #[rawInt ((99 : Nat) : Int), rawInt ((4 : Nat) : Int), .ref c1] ++ #[rawInt ((105 : Nat) : Int), rawInt ((34 : Nat) : Int), .ref c2] ++ #[rawInt ((105 : Nat) : Int), rawInt ((68 : Nat) : Int), .ref c3])) ∈ tail) (hc1 : (c1, o1) ∈ tail) (hc2 : (c2, o2) ∈ tail) (hc3 : (c3, o3) ∈ tail)
    (hd1 : o1.data = .fields vs1) (hv1 : vs1[1]? = some (.str (Str.ofString "_law_asked.<locals>.keep") u1)) (hd2 : o2.data = .fields vs2) (hv2 : vs2[1]? = some (.str (Str.ofString "_law_asked.<locals>.<lambda>") u2)) (hd3 : o3.data = .fields vs3) (hv3 : vs3[1]? = some (.str (Str.ofString "_law_asked.<locals>.<lambda>") u3))
    (hE : True ∧ (PassesOwn (model PySem.Challenge.rw_og0066_01.row.prog w) (ktrTop dp un gd (Str.ofString "law") lawScope L a ccd [] []) (envX (Str.ofString "law") lawScope L a ccd []) E))
    (hret : ∀ (m' : Str → Option Value) (h' : Heap) (tk' : Nat), Fr h₀ L h' m' → News h₀ L h' tail → Q .next { s with heap := h', toks := tk' }) :
    wpAny (model PySem.Challenge.rw_og0066_01.row.prog w) (ktrTop dp un gd (Str.ofString "law") lawScope L a ccd [] []) (exec turnsSt (envX (Str.ofString "law") lawScope L a ccd [])) Q E s := by
  refine Boxed.out ?_
  simp (disch :=
    k_dflt (
      conv in turnsSt => whnf
      k_steps
      all_goals (try dsimp only)
      all_goals (first | exact hE.2 | (refine' hret _ _ _ ?F ?N; (case F => k_asm); (case N => (rename News h₀ L _ _ => NN); refine news_sub NN ?_; (repeat' (first | exact sub_refl | refine sub_skip ?_)))))
    )) only [↓Boxed.eq]
local macro_rules | `(tactic| walk_at "exec For Name Tuple cons nil") => `(tactic| (k_here; k_dflt (apply turns_use; (case B => k_asm); (case XB | TB => assumption); (case F | X | N | T => k_asm); (case hdp => ktr_room); (case hun => ktr_units); (case codeHd => assumption); (case mt | mb' => rfl); (case hi | hj => exact intBits_le_iff.mpr (by decide)); (case hT | hc1 | hc2 | hc3 => k_mem); (case hd1 | hv1 | hd2 | hv2 | hd3 | hv3 => with_reducible assumption); (case hE => exact ⟨trivial, by passes_own⟩); k_whole); intro _ _ _ _ _; walk_at "tl"))
set_option rowWalk.seconds 0 in
set_option maxHeartbeats 16000000 in
theorem main : PySem.Challenge.rw_og0066_01.Holds := hd (by
  k_go0
  (all_goals try k_fold)
  refine letAQE ?_
  intro A9 Q9 E9
  k_steps)
end Mine
theorem PySem.Challenge.cw_og0066_01_holds : PySem.Challenge.rw_og0066_01.Holds :=
  Mine.main
