import PyProof.Rows.All
import Wide.All
import OpenK.AllK
import Wide.FinOn
import PyProof.TupleKey
import HandS.ForMost
import HandS.DictTup
import HandS.SortRule
import KE.KDictCopyH
import KE.KDictPairs
import HandS.SetFor
import HandS.Strs
import HandS.DeepEq
import HandS.TryElse
import HandS.ExcInit
import HandS.ExcField
import HandS.IsInst
import HandS.ForExc
import HandS.Walk
import HandS.Flow
import HandS.SortInts
import HandS.Defaults
import PyProof.StrBlock2
import PySem.Challenge.RW_halfmoved_k18_pointers
set_option Elab.async false
set_option linter.all false
set_option maxRecDepth 100000
set_option maxHeartbeats 4000000
namespace K18
namespace Hs
def rot (x : Nat) : Nat := (x * 2147483648) % 18446744073709551616 + x / 8589934592
def unrot (y : Nat) : Nat := (y % 2147483648) * 8589934592 + y / 2147483648
def uu (a : Nat) : Nat := (2870177450012600261 + a * 14029467366897019727) % 18446744073709551616
def ff (a : Nat) : Nat := (rot (uu a) * 11400714785074694791) % 18446744073709551616
def ww (a b : Nat) : Nat := (ff a + b * 14029467366897019727) % 18446744073709551616
def acc (a b : Nat) : Nat := ((rot (ww a b) * 11400714785074694791) % 18446744073709551616 + 2870177450013471924) % 18446744073709551616
def fin (t : Nat) : Int := if t == 18446744073709551616 - 1 then 1546275796 else if t < 9223372036854775808 then (t : Int) else (t : Int) - 18446744073709551616

theorem rot_split {x : Nat} (q r : Nat) (hr : r < 8589934592) (hq : q < 2147483648) (e : x = 8589934592 * q + r) : rot x = r * 2147483648 + q := by
  unfold rot
  have h1 : x / 8589934592 = q := by omega
  have h2 : (x * 2147483648) % 18446744073709551616 = r * 2147483648 := by
    show (x * 2147483648) % 18446744073709551616 = r * 2147483648
    omega
  rw [h1, h2]
theorem rot_lt {x : Nat} (h : x < 18446744073709551616) : rot x < 18446744073709551616 := by
  have h' : x < 18446744073709551616 := h
  rw [rot_split (x / 8589934592) (x % 8589934592) (by omega) (by omega) (by omega)]
  show _ < 18446744073709551616
  omega
theorem unrot_rot {x : Nat} (h : x < 18446744073709551616) : unrot (rot x) = x := by
  have h' : x < 18446744073709551616 := h
  rw [rot_split (x / 8589934592) (x % 8589934592) (by omega) (by omega) (by omega)]
  unfold unrot
  omega
theorem mul_back {x : Nat} (h : x < 18446744073709551616) : ((x * 11400714785074694791) % 18446744073709551616) * 614540362697595703 % 18446744073709551616 = x := by
  have e : (11400714785074694791 * 614540362697595703) % 18446744073709551616 = 1 := by decide +kernel
  rw [Nat.mod_mul_mod, Nat.mul_assoc, Nat.mul_mod, e, Nat.mul_one, Nat.mod_mod]
  exact Nat.mod_eq_of_lt h
/-- the state ahead of the last turn, from the sum behind it -/
def back (t : Nat) : Nat := unrot (((t + (18446744073709551616 - 2870177450013471924)) % 18446744073709551616) * 614540362697595703 % 18446744073709551616)
theorem ww_lt (a b : Nat) : ww a b < 18446744073709551616 := Nat.mod_lt _ (by decide)
theorem back_acc (a b : Nat) : back (acc a b) = ww a b := by
  unfold back acc
  have h1 : ((rot (ww a b) * 11400714785074694791) % 18446744073709551616 + 2870177450013471924) % 18446744073709551616 + (18446744073709551616 - 2870177450013471924) = ((rot (ww a b) * 11400714785074694791) % 18446744073709551616 + 2870177450013471924) % 18446744073709551616 + 15576566623696079692 := rfl
  have hlt : (rot (ww a b) * 11400714785074694791) % 18446744073709551616 < 18446744073709551616 := Nat.mod_lt _ (by decide)
  have h2 : (((rot (ww a b) * 11400714785074694791) % 18446744073709551616 + 2870177450013471924) % 18446744073709551616 + (18446744073709551616 - 2870177450013471924)) % 18446744073709551616 = (rot (ww a b) * 11400714785074694791) % 18446744073709551616 := by
    rw [h1]
    generalize (rot (ww a b) * 11400714785074694791) % 18446744073709551616 = z at *
    have hz : z < 18446744073709551616 := hlt
    show ((z + 2870177450013471924) % 18446744073709551616 + 15576566623696079692) % 18446744073709551616 = z
    omega
  rw [h2, mul_back (rot_lt (ww_lt a b)), unrot_rot (ww_lt a b)]
theorem acc_lt (a b : Nat) : acc a b < 18446744073709551616 := Nat.mod_lt _ (by decide)
/-- equal ends: equal sums, or the two that are told as one -/
theorem fin_eq {s t : Nat} (hs : s < 18446744073709551616) (ht : t < 18446744073709551616) (e : fin s = fin t) : s = t ∨ (s = 18446744073709551616 - 1 ∧ t = 1546275796) ∨ (s = 1546275796 ∧ t = 18446744073709551616 - 1) := by
  have hs' : s < 18446744073709551616 := hs
  have ht' : t < 18446744073709551616 := ht
  unfold fin at e
  simp only [beq_iff_eq] at e
  split at e <;> split at e <;> (try split at e) <;> (try split at e) <;> omega
/-- the difference of two turned states -/
def dd (δ c0 c1 : Nat) : Nat := (δ * 14029467366897019727 % 18446744073709551616 % 8589934592) * 2147483648 + δ * 14029467366897019727 % 18446744073709551616 / 8589934592 + c0 + c1 * (18446744073709551616 - 2147483648)
theorem uu_step (a δ : Nat) : uu (a + δ) = (uu a + δ * 14029467366897019727 % 18446744073709551616) % 18446744073709551616 := by
  unfold uu
  rw [Nat.add_mul, ← Nat.add_assoc, Nat.add_mod]
theorem rot_step (a δ : Nat) : ∃ c0 c1 : Nat, c0 ≤ 1 ∧ c1 ≤ 1 ∧ ∃ k : Int, (rot (uu (a + δ)) : Int) = rot (uu a) + dd δ c0 c1 + 18446744073709551616 * k := by
  have hu : uu a < 18446744073709551616 := Nat.mod_lt _ (by decide)
  have hd : δ * 14029467366897019727 % 18446744073709551616 < 18446744073709551616 := Nat.mod_lt _ (by decide)
  rw [uu_step]
  unfold dd
  generalize δ * 14029467366897019727 % 18446744073709551616 = d at *
  generalize uu a = u at *
  have hu' : u < 18446744073709551616 := hu
  have hd' : d < 18446744073709551616 := hd
  have hv : (u + d) % 18446744073709551616 < 18446744073709551616 := Nat.mod_lt _ (by decide)
  have e1 := rot_split (u / 8589934592) (u % 8589934592) (x := u) (by omega) (by omega) (by omega)
  have e2 := rot_split ((u + d) % 18446744073709551616 / 8589934592) ((u + d) % 18446744073709551616 % 8589934592) (x := (u + d) % 18446744073709551616) (by omega) (by omega) (by omega)
  rw [e1, e2]
  refine ⟨(u % 8589934592 + d % 8589934592) / 8589934592, (u + d) / 18446744073709551616, by omega, by omega, -(((u % 8589934592 + d % 8589934592) / 8589934592 : Nat) : Int) - ((u + d) / 18446744073709551616 : Nat), ?_⟩
  omega
/-- the finite look: no difference of states is one of the three -/
def okD (δ c0 c1 β : Nat) : Bool :=
  let x := (dd δ c0 c1 * 11400714785074694791 + β * 14029467366897019727 + (18446744073709551616 - 64 * 14029467366897019727 % 18446744073709551616)) % 18446744073709551616
  x != 0 && x != (18446744073709551616 + back (18446744073709551616 - 1) - back 1546275796) % 18446744073709551616 && x != (18446744073709551616 + back 1546275796 - back (18446744073709551616 - 1)) % 18446744073709551616
def okAll : Bool := (List.range 4).all fun δ => (List.range 2).all fun c0 => (List.range 2).all fun c1 => (List.range 128).all fun β => okD (δ + 1) c0 c1 β
theorem okAll_true : okAll = true := by decide +kernel
def okS (β : Nat) : Bool :=
  let x := (β * 14029467366897019727 + (18446744073709551616 - 64 * 14029467366897019727 % 18446744073709551616)) % 18446744073709551616
  (β == 64 || x != 0) && x != (18446744073709551616 + back (18446744073709551616 - 1) - back 1546275796) % 18446744073709551616 && x != (18446744073709551616 + back 1546275796 - back (18446744073709551616 - 1)) % 18446744073709551616
theorem okS_true : (List.range 128).all okS = true := by decide +kernel
theorem ok_at {δ c0 c1 β : Nat} (h1 : 1 ≤ δ) (h4 : δ ≤ 4) (hc0 : c0 ≤ 1) (hc1 : c1 ≤ 1) (hb : β < 128) : okD δ c0 c1 β = true := by
  have h := okAll_true
  unfold okAll at h
  have a := List.all_eq_true.mp h (δ - 1) (List.mem_range.mpr (by omega))
  have b := List.all_eq_true.mp a c0 (List.mem_range.mpr (by omega))
  have c := List.all_eq_true.mp b c1 (List.mem_range.mpr (by omega))
  have d := List.all_eq_true.mp c β (List.mem_range.mpr hb)
  rw [show δ - 1 + 1 = δ by omega] at d
  exact d

def xx (δ c0 c1 β : Nat) : Nat := (dd δ c0 c1 * 11400714785074694791 + β * 14029467366897019727 + (18446744073709551616 - 64 * 14029467366897019727 % 18446744073709551616)) % 18446744073709551616
def xs (β : Nat) : Nat := (β * 14029467366897019727 + (18446744073709551616 - 64 * 14029467366897019727 % 18446744073709551616)) % 18446744073709551616
theorem ww_step (a δ b b' : Nat) (hb : b < 64) : ∃ c0 c1 : Nat, c0 ≤ 1 ∧ c1 ≤ 1 ∧ ww (a + δ) b' = (ww a b + xx δ c0 c1 (b' + 64 - b)) % 18446744073709551616 := by
  obtain ⟨c0, c1, h0, h1, k, hk⟩ := rot_step a δ
  refine ⟨c0, c1, h0, h1, ?_⟩
  unfold ww ff xx
  generalize rot (uu (a + δ)) = r' at *
  generalize rot (uu a) = r at *
  generalize dd δ c0 c1 = d at *
  omega
theorem ww_same (a b b' : Nat) (hb : b < 64) : ww a b' = (ww a b + xs (b' + 64 - b)) % 18446744073709551616 := by
  unfold ww xs
  generalize ff a = r at *
  omega
/-- three differences that would make two ends one -/
theorem three {w w' x : Nat} (hw : w < 18446744073709551616) (hw' : w' < 18446744073709551616) (hx : x < 18446744073709551616) (e : w' = (w + x) % 18446744073709551616) (n0 : x ≠ 0) (n1 : x ≠ (18446744073709551616 + back (18446744073709551616 - 1) - back 1546275796) % 18446744073709551616) (n2 : x ≠ (18446744073709551616 + back 1546275796 - back (18446744073709551616 - 1)) % 18446744073709551616)
    (hb : w' = w ∨ (w' = back (18446744073709551616 - 1) ∧ w = back 1546275796) ∨ (w' = back 1546275796 ∧ w = back (18446744073709551616 - 1))) : False := by
  generalize back (18446744073709551616 - 1) = p at *
  generalize back 1546275796 = q at *
  rcases hb with h | ⟨h1, h2⟩ | ⟨h1, h2⟩
  · omega
  · subst h1 h2
    omega
  · subst h1 h2
    omega
theorem fin_ww {a b a' b' : Nat} (e : fin (acc a' b') = fin (acc a b)) : ww a' b' = ww a b ∨ (ww a' b' = back (18446744073709551616 - 1) ∧ ww a b = back 1546275796) ∨ (ww a' b' = back 1546275796 ∧ ww a b = back (18446744073709551616 - 1)) := by
  rw [← back_acc a' b', ← back_acc a b]
  rcases fin_eq (acc_lt a' b') (acc_lt a b) e with h | ⟨h1, h2⟩ | ⟨h1, h2⟩
  · exact .inl (by rw [h])
  · exact .inr (.inl ⟨by rw [h1], by rw [h2]⟩)
  · exact .inr (.inr ⟨by rw [h1], by rw [h2]⟩)
theorem apart_up (a δ b b' : Nat) (h1 : 1 ≤ δ) (h4 : δ ≤ 4) (hb : b < 64) (hb' : b' < 64) : fin (acc (a + δ) b') ≠ fin (acc a b) := fun e => by
  obtain ⟨c0, c1, k0, k1, hw⟩ := ww_step a δ b b' hb
  have ok := ok_at h1 h4 k0 k1 (β := b' + 64 - b) (by omega)
  unfold okD at ok
  simp only [Bool.and_eq_true, bne_iff_ne] at ok
  exact three (ww_lt _ _) (ww_lt _ _) (Nat.mod_lt _ (by decide)) hw ok.1.1 ok.1.2 ok.2 (fin_ww e)
theorem apart_same (a b b' : Nat) (hb : b < 64) (hb' : b' < 64) (hn : b ≠ b') : fin (acc a b') ≠ fin (acc a b) := fun e => by
  have ok := List.all_eq_true.mp okS_true (b' + 64 - b) (List.mem_range.mpr (by omega))
  unfold okS at ok
  simp only [Bool.and_eq_true, bne_iff_ne, Bool.or_eq_true, beq_iff_eq] at ok
  exact three (ww_lt _ _) (ww_lt _ _) (Nat.mod_lt _ (by decide)) (ww_same a b b' hb) (ok.1.1.resolve_left (by omega)) ok.1.2 ok.2 (fin_ww e)
theorem apart_nat {a a' b b' : Nat} (h1 : a ≤ a' + 4) (h2 : a' ≤ a + 4) (hb : b < 64) (hb' : b' < 64) (hn : ¬ (a = a' ∧ b = b')) : fin (acc a' b') ≠ fin (acc a b) := by
  by_cases e : a = a'
  · subst e
    exact apart_same a b b' hb hb' fun h => hn ⟨rfl, h⟩
  · by_cases l : a < a'
    · have := apart_up a (a' - a) b b' (by omega) (by omega) hb hb'
      rwa [show a + (a' - a) = a' by omega] at this
    · have := apart_up a' (a - a') b' b (by omega) (by omega) hb' hb
      rw [show a' + (a - a') = a by omega] at this
      exact fun z => this z.symm
/-- one lane of the sum, the model's own words -/
def lane (m p1 p2 a31 a33 : Nat) (acc : Nat) (h : Int) : Nat := ((((acc + (h % (m : Int)).toNat * p2) % m * a31) % m + ((acc + (h % (m : Int)).toNat * p2) % m) / a33) * p1) % m
theorem lane_nat (m p1 p2 a31 a33 acc z : Nat) (hz : z < m) : lane m p1 p2 a31 a33 acc (z : Int) = ((((acc + z * p2) % m * a31) % m + ((acc + z * p2) % m) / a33) * p1) % m := by
  have e : ((z : Int) % (m : Int)).toNat = z := by
    rw [← Int.natCast_emod, Int.toNat_natCast, Nat.mod_eq_of_lt hz]
  unfold lane
  rw [e]
def ends (m h63 x : Nat) : Int := if x == m - 1 then 1546275796 else if x < h63 then (x : Int) else (x : Int) - (m : Int)
def gen (m p1 p2 p5 a31 a33 h63 c : Nat) (hashes : List Int) : Int :=
  let acc := hashes.foldl (init := p5) fun acc h =>
    let acc := (acc + (h % (m : Int)).toNat * p2) % m
    let acc := (acc * a31) % m + acc / a33
    (acc * p1) % m
  let acc := (acc + (hashes.length ^^^ c)) % m
  if acc == m - 1 then 1546275796 else if acc < h63 then acc else (acc : Int) - m
theorem gen_eq (hs : List Int) : PySem.Builtin.Tuple.tupleHashOf hs = gen (2 ^ 64) 11400714785074694791 14029467366897019727 2870177450012600261 (2 ^ 31) (2 ^ 33) (2 ^ 63) (2870177450012600261 ^^^ 3527539) hs := by
  with_unfolding_all rfl
theorem gen_two (m p1 p2 p5 a31 a33 h63 c : Nat) (x y : Int) : gen m p1 p2 p5 a31 a33 h63 c [x, y] = ends m h63 ((lane m p1 p2 a31 a33 (lane m p1 p2 a31 a33 p5 x) y + (2 ^^^ c)) % m) := by
  rfl
theorem acc_gen (m p1 p2 p5 a31 a33 c a b : Nat) (h1 : m = 18446744073709551616) (h2 : p1 = 11400714785074694791) (h3 : p2 = 14029467366897019727) (h4 : p5 = 2870177450012600261) (h5 : a31 = 2147483648) (h6 : a33 = 8589934592) (h7 : c = 2870177450013471924) :
    (((((((((p5 + a * p2) % m * a31) % m + ((p5 + a * p2) % m) / a33) * p1) % m + b * p2) % m * a31) % m + (((((((p5 + a * p2) % m * a31) % m + ((p5 + a * p2) % m) / a33) * p1) % m + b * p2) % m) / a33)) * p1) % m + c) % m = acc a b := by
  subst h1 h2 h3 h4 h5 h6 h7
  unfold acc ww ff uu rot
  exact rfl
theorem ends_fin (m h63 x : Nat) (h1 : m = 18446744073709551616) (h2 : h63 = 9223372036854775808) : ends m h63 x = fin x := by
  subst h1 h2
  unfold ends fin
  exact rfl
theorem tupleHash_two (a b : Nat) (ha : a < 18446744073709551616) (hb : b < 18446744073709551616) : PySem.Builtin.Tuple.tupleHashOf [(a : Int), (b : Int)] = fin (acc a b) := by
  have e64 : (2 ^ 64 : Nat) = 18446744073709551616 := by decide +kernel
  have e63 : (2 ^ 63 : Nat) = 9223372036854775808 := by decide +kernel
  have e31 : (2 ^ 31 : Nat) = 2147483648 := by decide +kernel
  have e33 : (2 ^ 33 : Nat) = 8589934592 := by decide +kernel
  have ex : (2 ^^^ (2870177450012600261 ^^^ 3527539) : Nat) = 2870177450013471924 := by decide +kernel
  rw [gen_eq, gen_two, lane_nat _ _ _ _ _ _ a (by rw [e64]; exact ha), lane_nat _ _ _ _ _ _ b (by rw [e64]; exact hb), ends_fin _ _ _ e64 e63, acc_gen _ _ _ _ _ _ _ a b e64 rfl rfl rfl e31 e33 ex]
end Hs
open PySem
theorem hashInt_small {a : Int} (h0 : 0 ≤ a) (hz : a < 2 ^ 60) : hashInt a = a := by
  have e : (2 ^ 60 : Int) = 1152921504606846976 := by decide +kernel
  have e1 : (2 ^ 61 - 1 : Nat) = 2305843009213693951 := by decide +kernel
  rw [e] at hz
  have r : rawHash a = a := by
    unfold rawHash
    rw [e1]
    simp only [beq_iff_eq]
    rw [if_neg (by omega : ¬ a < 0)]
    split <;> omega
  unfold hashInt
  rw [r, if_neg (by simp only [beq_iff_eq]; omega)]
theorem fin_range {t : Nat} (h : t < 18446744073709551616) : -9223372036854775808 ≤ Hs.fin t ∧ Hs.fin t < 9223372036854775808 ∧ Hs.fin t ≠ -1 := by
  unfold Hs.fin
  simp only [beq_iff_eq]
  split
  · omega
  · split <;> omega
theorem reduce_fin {t : Nat} (h : t < 18446744073709551616) : reduceHash (Hs.fin t) = Hs.fin t := by
  obtain ⟨h1, h2, h3⟩ := fin_range h
  have e : (2 ^ 63 : Int) = 9223372036854775808 := by decide +kernel
  unfold reduceHash
  rw [e, if_pos (by simp only [Bool.and_eq_true, decide_eq_true_eq]; omega), if_neg (by simp only [beq_iff_eq]; exact h3)]
/-- keys near one another, places below 64: no two spots hash alike -/
theorem spots_apart {a a' b b' : Int} (h0 : 0 ≤ a) (h0' : 0 ≤ a') (hz : a < 2 ^ 60) (hz' : a' < 2 ^ 60) (h1 : a ≤ a' + 4) (h2 : a' ≤ a + 4) (hb : 0 ≤ b ∧ b < 64) (hb' : 0 ≤ b' ∧ b' < 64) (hn : ¬ (a = a' ∧ b = b')) :
    reduceHash (Builtin.Tuple.tupleHashOf [hashInt a, hashInt b]) ≠ reduceHash (Builtin.Tuple.tupleHashOf [hashInt a', hashInt b']) := by
  have e : (2 ^ 60 : Int) = 1152921504606846976 := by decide +kernel
  rw [hashInt_small h0 hz, hashInt_small h0' hz', hashInt_small hb.1 (by rw [e]; omega), hashInt_small hb'.1 (by rw [e]; omega)]
  rw [e] at hz hz'
  obtain ⟨x, rfl⟩ := Int.eq_ofNat_of_zero_le h0
  obtain ⟨x', rfl⟩ := Int.eq_ofNat_of_zero_le h0'
  obtain ⟨y, rfl⟩ := Int.eq_ofNat_of_zero_le hb.1
  obtain ⟨y', rfl⟩ := Int.eq_ofNat_of_zero_le hb'.1
  rw [Hs.tupleHash_two x y (by omega) (by omega), Hs.tupleHash_two x' y' (by omega) (by omega), reduce_fin (Hs.acc_lt _ _), reduce_fin (Hs.acc_lt _ _)]
  exact Hs.apart_nat (by omega) (by omega) (by omega) (by omega) (by omega)
end K18
/-! K18RulesA: rules over dicts whose keys are tuples: a copy, a pop of one argument, the sorted keys; a dict of a tuple of pairs. -/
namespace K18
open PySem PySem.Spec PyProof.Rows L2

/-- the hash that the model takes of a tuple key -/
def hashT (w : World) (k : List Key) : Int := reduceHash (Builtin.Tuple.tupleHashOf (k.map (keyH w)))

section
variable {X : Cx}
theorem room_at {A : Around} {n : Nat} (h : A.units + n < cLine) : A.units < cLine := Nat.lt_of_le_of_lt (Nat.le_add_right _ _) h
/-- dict(d), d of tuple keys of which no two hash alike: a copy -/
def rCopyT (w : World) : List V → Hp → VK → Prop := fun xs H Q => ∃ (a : Addr) (kvs : List (List Key × V)), xs = [.ref a] ∧ Rd H a (.dT kvs) ∧
  (kvs.map fun p => hashT w p.1).Nodup ∧ ∀ p, H p = none → Q (.ref p) (upd H p (.dT kvs))
theorem paired_fst {α β γ : Type} {G : α → β → Prop} {f : α → γ} {g : β → γ} (e : ∀ a b, G a b → f a = g b) : ∀ {l : List α} {m : List β}, Paired G l m → l.map f = m.map g
  | _, _, .nil => rfl
  | _, _, .cons h t => by rw [List.map_cons, List.map_cons, e _ _ h, paired_fst e t]
theorem call_copyT (hu : X.A.units + 8 < cLine) : CallR X (.type "dict") (rCopyT X.w) := by
  intro pins s σ H xs us Q I r q
  obtain ⟨a, kvs, rfl, hd, hap, q⟩ := q
  obtain ⟨u, rfl, rx⟩ := vals1 r
  cases rx
  obtain ⟨hz, lo, ys, rel, dd⟩ := dt_rd I.hok hd
  have hys : kvs.map (·.1) = ys.map (·.1) := paired_fst (fun _ _ z => z.1) rel
  have hlen : kvs.length = ys.length := Paired.length rel
  have hal : (ys.map fun y => (tupleKind (mixKind X.prog X.w)).hash y.1).Nodup := by
    have e : (ys.map fun y => (tupleKind (mixKind X.prog X.w)).hash y.1) = kvs.map fun p => hashT X.w p.1 := by
      have e1 := congrArg (List.map (hashT X.w)) hys
      rw [List.map_map, List.map_map] at e1
      exact e1.symm
    rw [e]
    exact hap
  have hty : ∀ y ∈ ys, s.TypeIs (.ref y.2.1) "tuple" := by
    obtain ⟨_, _, _, _, _, _, _, his, _⟩ := id dd
    intro y hy
    obtain ⟨o, _, _, h1, h2, _⟩ := his y hy
    exact ⟨o, h1, h2⟩
  refine callType_codes (Q₁ := fun ob s₁ => ob = .ref s.heap.objs.size ∧ s₁ = { s with heap := s.heap.push { cls := .type "dict", data := .dict #[] } })
    PySem.F.kt_called_dict (PySem.F.kt_typeCall_dict_1 _) PySem.F.entry_dict_init (kt_code_dict_new _ ⟨rfl, rfl⟩) ?_
  rintro ob s₁ ⟨rfl, rfl⟩
  have fresh : (s.heap.push { cls := .type "dict", data := .dict #[] }).DictOfH (tupleKind (mixKind X.prog X.w)) s.heap.objs.size [] := Heap.DictOfH.new s.heap
  have kk : ∀ b o, s.heap.get? b = some o → (s.heap.push { cls := .type "dict", data := .dict #[] }).get? b = some o := fun b o e => Heap.get?_push_of_some _ e
  have dd2 : (s.heap.push { cls := .type "dict", data := .dict #[] }).DictOfH (tupleKind (mixKind X.prog X.w)) a ys := by
    obtain ⟨o, es, ep, h1, h2, h3, h4, h5, h6⟩ := dd
    refine ⟨o, es, ep, kk _ _ h1, h2, h3, h4, fun y hy => ?_, h6⟩
    obtain ⟨o2, its, n, g1, g2⟩ := h5 y hy
    exact ⟨o2, its, n, kk _ _ g1, g2⟩
  have hne : s.heap.objs.size ≠ a := by
    obtain ⟨_, _, _, h1, _⟩ := dd
    exact fun e => absurd (Heap.lt_size h1) (by rw [e]; exact Nat.lt_irrefl _)
  refine ⟨fresh.typeIs, PySem.F.args_dict_init_2 _ _, ?_⟩
  unfold Builtin.«dict.__init__»
  refine wpAny_bind ?_
  unfold Builtin.Dict.selfAndRest
  refine wpAny_bind (wpAny_notOrdered_dict fresh.typeIs ?_)
  show wpAny _ _ (pure (s.heap.objs.size, [Value.ref a])) _ _ _
  refine wpAny_pure ?_
  show wpAny _ _ (Builtin.Dict.updateFrom "dict.__init__" s.heap.objs.size (.ref a) [] .none) _ _ _
  refine updateFrom_dictH (s := { s with heap := s.heap.push { cls := .type "dict", data := .dict #[] } }) (kvs := []) (more := ys) .none ?_ hne lo fresh dd2 (.inr ⟨fun y hy => ?_, hal⟩) ?_ fun h' d' _ hs => ?_
  · show X.A.units + 1 + 1 < cLine
    omega
  · obtain ⟨o, h1, h2⟩ := hty y hy
    exact ⟨o, kk _ _ h1, h2⟩
  · rw [← hlen]
    simpa using hz
  · rw [storedAllH_nil_of_nodup ys dd.nodup] at d'
    have hm : (s.heap.objs.size == sysModules) = false := beq_eq_false_iff_ne.mpr (Nat.ne_of_gt I.big)
    have hn : H s.heap.objs.size = none := I.hok.fresh (Nat.le_refl _)
    obtain ⟨o, es, ep, h1, h2, h3, h4, _, h6⟩ := d'
    refine ⟨rfl, .ref s.heap.objs.size, upd H s.heap.objs.size (.dT kvs), I.laid (t' := s.toks) (fun b u e => (hs.2 b (Nat.ne_of_lt (Heap.lt_size e))).trans (kk b u e)) (Nat.le_refl _)
      (show ObjOk X.prog X.w _ _ _ (.dT kvs) from ⟨hz, hm, ys, KT.keeps rel fun b zs e => ?_, o, es, ep, h1, h2, h3, h4, h6⟩), rfl, q _ hn⟩
    rw [upd_ne (ne_of_none e hn)]
    exact e

/-- d.pop(k), the tuple key there -/
def rPop1T : V → List V → Hp → VK → Prop := fun x xs H Q => ∃ (a : Addr) (kvs : List (List Key × V)) (k : List Key) (b : Addr) (v : V), x = .ref a ∧ xs = [.ref b] ∧ H a = some (.dT kvs) ∧
  H b = some (.tup (k.map kV)) ∧ valV kvs k = some v ∧ Q v (upd H a (.dT (dropK kvs k)))
theorem KT_without {H : Hp} {kvs : List (List Key × V)} {ys : List (List Key × Addr × Value)} (k : List Key) (rel : KT H kvs ys) : KT H (dropK kvs k) (withoutH ys k) := by
  induction rel with
  | nil => exact .nil
  | @cons p q ps qs h t ih =>
    unfold dropK withoutH at *
    rw [List.filter_cons, List.filter_cons]
    obtain ⟨h1, h2, h3⟩ := h
    by_cases e : p.1 = k
    · have n1 : ¬ decide (p.1 ≠ k) = true := by simp [e]
      have n2 : ¬ decide (q.1 ≠ k) = true := by simp [h1.symm.trans e]
      rw [if_neg n1, if_neg n2]
      exact ih
    · have n1 : decide (p.1 ≠ k) = true := by simp [e]
      have n2 : decide (q.1 ≠ k) = true := by simpa using fun z => e (h1.trans z)
      rw [if_pos n1, if_pos n2]
      exact .cons ⟨h1, h2, h3⟩ ih
theorem mt_pop1T (hu : X.A.units + 1 < cLine) : MtR X "dict.pop" rPop1T := by
  intro pins s σ H x xs v us Q I rx rxs h
  obtain ⟨a, kvs, k, b, y, rfl, rfl, ha, hb, hv, q⟩ := h
  cases rx
  obtain ⟨u1, rfl, r1⟩ := vals1 rxs
  cases r1
  obtain ⟨z, hd, ys, rel, dd⟩ := dt_of I.hok ha
  have hz : ys.length ≤ sizeLine := by rw [← Paired.length rel]; exact z
  obtain ⟨w', hw, rw'⟩ := RelO.some_of (v := y) (o := (atKey ys k).map (·.2)) (by rw [← hv]; exact rel.val k)
  obtain ⟨p, hp, rfl⟩ := Option.map_eq_some_iff.mp hw
  refine call_pop_heap (more := []) (hsz := hz) (.inl rfl) (PySem.F.args_dict_pop_2 _ _) (tupleKind_room_in1 hu) (key_of I.hok hb) hd dd hp fun h' d' hs => ?_
  obtain ⟨o, es, ep, h1, h2, h3, h4, _, h6⟩ := d'
  have hl : (dropK kvs k).length ≤ sizeLine := Nat.le_trans (dropK_le kvs k) z
  have J : Inv X pins σ (upd H a (.dT (dropK kvs k))) { s with heap := h', toks := s.toks + (tupleKind (mixKind X.prog X.w)).draws k } :=
    d_write I (by rw [ha]; exact True.intro) hs ⟨o, h1⟩ ⟨hl, hd, _, KT.keeps (KT_without k rel) fun c zs e => (by rw [upd_ne (ne_of e ha fun z => nomatch z)]; exact e), o, es, ep, h1, h2, h3, h4, h6⟩
  exact ⟨y, _, J, rw', q⟩
end
end K18
namespace K18
open PySem PySem.Spec PyProof.Rows L2

/-- the pair of ints in the tuple at t -/
def pairAt (H : Hp) (t : Addr) : Int × Int := match H t with
  | some (.tup [.int i, .int j]) => (i, j)
  | _ => (0, 0)
theorem pairAt_of {H : Hp} {t : Addr} {i j : Int} (h : H t = some (.tup [.int i, .int j])) : pairAt H t = (i, j) := by
  unfold pairAt
  rw [h]
def adOf : Value → Addr
  | .ref a => a
  | _ => 0
/-- a spot as a key -/
def spotK (p : Int × Int) : List Key := [Sum.inl p.1, Sum.inl p.2]
theorem spotK_inj {p q : Int × Int} (h : spotK p = spotK q) : p = q := by
  obtain ⟨a, b⟩ := p
  obtain ⟨c, d⟩ := q
  unfold spotK at h
  simp only [List.cons.injEq, Sum.inl.injEq, and_true] at h
  exact Prod.ext h.1 h.2
/-- sorted(d), d of keys that are pairs of ints: a new list of the keys' own tuples -/
def rSortT : List V → Hp → VK → Prop := fun xs H Q => ∃ (a : Addr) (kvs : List (List Key × V)), xs = [.ref a] ∧ Rd H a (.dT kvs) ∧ (∀ p ∈ kvs, ∃ q, p.1 = spotK q) ∧
  ∀ (L : List (Addr × Int × Int)) (p : Addr), (∀ e ∈ L, H e.1 = some (.tup [.int e.2.1, .int e.2.2])) → (L.map fun e => spotK e.2).Perm (kvs.map (·.1)) →
    (L.Pairwise fun x y => SrtO.lexB y.2 x.2 = false) → H p = none → Q (.ref p) (upd H p (.lst (L.map fun e => V.ref e.1)))
section
variable {X : Cx}
theorem KT_at {H : Hp} {kvs : List (List Key × V)} {ys : List (List Key × Addr × Value)} (rel : KT H kvs ys) : ∀ y ∈ ys, (∃ p ∈ kvs, p.1 = y.1) ∧ H y.2.1 = some (.tup (y.1.map kV)) := by
  induction rel with
  | nil => intro y hy; cases hy
  | @cons p q ps qs h t ih =>
    intro y hy
    rcases List.mem_cons.mp hy with e | hy
    · rw [e]
      exact ⟨⟨p, List.mem_cons_self, h.1⟩, by rw [← h.1]; exact h.2.1⟩
    · obtain ⟨⟨p', h1, h2⟩, h3⟩ := ih y hy
      exact ⟨⟨p', List.mem_cons_of_mem _ h1, h2⟩, h3⟩
theorem call_sortT (hcalm : X.calm = true) : CallR X (.builtin "sorted") rSortT := by
  intro pins s σ H xs us Q I r q
  obtain ⟨a, kvs, rfl, hd, hsp, q⟩ := q
  obtain ⟨u, rfl, rx⟩ := vals1 r
  cases rx
  obtain ⟨hz, lo, ys, rel, dd⟩ := dt_rd I.hok hd
  have hys : kvs.map (·.1) = ys.map (·.1) := paired_fst (fun _ _ z => z.1) rel
  have hlen : kvs.length = ys.length := Paired.length rel
  obtain ⟨o, es, ep, h1, h2, h3, h4, h5, h6⟩ := id dd
  have hes : es.size = ys.length := size_of_entries h4
  have pr : ∀ y ∈ ys, ∃ g : Int × Int, y.1 = spotK g ∧ H y.2.1 = some (.tup [.int g.1, .int g.2]) := fun y hy => by
    obtain ⟨⟨p, hp, e⟩, ht⟩ := KT_at rel y hy
    obtain ⟨g, eg⟩ := hsp p hp
    have e1 : y.1 = spotK g := e.symm.trans eg
    refine ⟨g, e1, ?_⟩
    rw [ht, e1]
    rfl
  have raw : s.heap.DictRaw a es ep := ⟨o, h1, h2, h3⟩
  refine Calls.call_function_entry PyProof.Rows.kind_sorted PyProof.Rows.plain_sorted PyProof.Rows.entry_sorted (PyProof.Rows.args_sorted1 _) ?_
  unfold Builtin.«sorted»
  refine wpAny_bind (m := checkCount "sorted" 1 1 _) (wpAny_pure ?_)
  refine wpAny_bind (PySem.W.kdu_collect (A := X.A.in1) (KdlSrc.rawDict (es := es) (ep := ep) lo) (I.ok.hd hcalm) raw (by rw [hes, ← hlen]; exact hz) fun h' tk acc hk hacc => ?_)
  have hac : acc.toList = ys.map fun y => Value.ref y.2.1 := by
    refine List.ext_getElem? fun j => ?_
    rw [List.getElem?_map]
    cases ey : ys[j]? with
    | none =>
      have hl : ys.length ≤ j := List.getElem?_eq_none_iff.mp ey
      rw [List.getElem?_eq_none (by rw [Array.length_toList, hacc.1, hes]; exact hl)]
      rfl
    | some y =>
      have hj : j < ys.length := (List.getElem?_eq_some_iff.mp ey).1
      have hja : j < acc.size := by rw [hacc.1, hes]; exact hj
      have e0 : acc[j]? = some acc[j] := Array.getElem?_eq_getElem hja
      obtain ⟨hi, e1⟩ := hacc.2 j acc[j] e0
      have e2 : es[j]? = (ys[j]?).map (entryOfKey (tupleKind (mixKind X.prog X.w))) := entry_at h4 j
      rw [ey, Array.getElem?_eq_getElem hi] at e2
      have e3 : es[j] = entryOfKey (tupleKind (mixKind X.prog X.w)) y := Option.some.inj e2
      rw [Array.getElem?_toList, e0, e1, e3]
      rfl
  have hal : acc.toList.length = ys.length := by rw [hac, List.length_map]
  have I1 : Inv X pins σ H { s with heap := h', toks := tk } := I.kept hk
  refine wpAny_bind (wpAny_newList ?_ (by rw [hal, ← hlen]; exact hz))
  have hoL : (h'.push (seqObj "list" acc.toList.toArray 0)).get? h'.objs.size = some (seqObj "list" acc.toList.toArray 0) := Heap.get?_push_size _ rfl
  show wpAny _ _ _ _ _ { s with heap := h'.push (seqObj "list" acc.toList.toArray 0), toks := tk }
  have hp : ∀ v ∈ acc.toList, Srt.IsPair h' v (pairAt H (adOf v)).1 (pairAt H (adOf v)).2 := fun v hv => by
    rw [hac] at hv
    obtain ⟨y, hy, rfl⟩ := List.mem_map.mp hv
    obtain ⟨g, _, hg⟩ := pr y hy
    obtain ⟨_, its, rv, o2, ho2, hc2, n2, hd2⟩ := I.hok _ _ hg
    obtain ⟨u1, u2, rfl, ⟨t1, rfl⟩, ⟨t2, rfl⟩⟩ := vals2 rv
    show Srt.IsPair h' _ (pairAt H y.2.1).1 (pairAt H y.2.1).2
    rw [pairAt_of hg]
    exact ⟨y.2.1, o2, t1, t2, n2, rfl, hk _ _ ho2, hc2, hd2⟩
  have hnew : ∀ b o, h'.get? b = some o → b ≠ h'.objs.size := fun b o e => Nat.ne_of_lt (Heap.lt_size e)
  refine wpAny_bind (wpAny_holding (wpAny_call_entry PyProof.Rows.slot_list_sort ⟨_, hoL, rfl⟩ PyProof.Rows.entry_list_sort
    (SrtO.list_sort_ord (s := { s with heap := h'.push (seqObj "list" acc.toList.toArray 0), toks := tk }) (SrtO.swo_lex fun v => pairAt H (adOf v)) hoL (by rw [hal, ← hlen]; exact hz) (fun h2 => ?_) fun out hs hb => ⟨_, rfl, ?_⟩) (PyProof.Rows.args_list_sort _)))
  · refine SrtO.pairs_sortableO (s := { s with heap := h'.push (seqObj "list" acc.toList.toArray 0), toks := tk }) (k := fun v => pairAt H (adOf v)) (by omega) (fun v hm => (hp v hm).keeps fun b o e _ => Heap.get?_push_of_some _ e) fun o e => ?_
    have e' : some o = some (seqObj "list" acc.toList.toArray 0) := e.symm.trans hoL
    cases e'
    intro c
    exact absurd (Value.type.inj c) (by decide)
  · obtain ⟨e', he'⟩ := PyProof.Rows.sortedHeap_at (vs := acc.toList) (out := out.toArray) hoL
    have hpm := hb.perm
    have hor : ∀ v ∈ out, ∃ y ∈ ys, v = Value.ref y.2.1 := fun v hv => by
      have hv2 := hpm.mem_iff.mp hv
      rw [hac] at hv2
      obtain ⟨y, hy, e⟩ := List.mem_map.mp hv2
      exact ⟨y, hy, e.symm⟩
    have eL : ((out.map fun v => (adOf v, pairAt H (adOf v))).map fun e => V.ref e.1) = out.map fun v => V.ref (adOf v) := by
      rw [List.map_map]
      rfl
    have hvals : Vals (out.map fun v => V.ref (adOf v)) out := by
      have gen : ∀ l : List Value, (∀ v ∈ l, ∃ y ∈ ys, v = Value.ref y.2.1) → Vals (l.map fun v => V.ref (adOf v)) l := by
        intro l
        induction l with
        | nil => intro _; exact .nil
        | cons v l ih =>
          intro hl
          obtain ⟨y, _, e⟩ := hl v List.mem_cons_self
          refine .cons ?_ (ih fun v' hv' => hl v' (List.mem_cons_of_mem _ hv'))
          rw [e]
          rfl
      exact gen out hor
    have hnn : H h'.objs.size = none := I1.hok.fresh (Nat.le_refl _)
    have hsl : (out.map fun v => V.ref (adOf v)).length ≤ sizeLine := by
      rw [List.length_map, hpm.length_eq, hal, ← hlen]
      exact hz
    refine wpAny_pure ⟨_, rfl, .ref h'.objs.size, upd H h'.objs.size (.lst ((out.map fun v => (adOf v, pairAt H (adOf v))).map fun e => V.ref e.1)), ?_, rfl, q _ h'.objs.size ?_ ?_ ?_ hnn⟩
    · rw [eL]
      refine I1.laid (t' := tk) (fun b u e => ?_) (Nat.le_refl _) (show ObjOk X.prog X.w _ _ _ (.lst (out.map fun v => V.ref (adOf v))) from ⟨hsl, out, e', hvals, he'⟩)
      have hb2 : b < h'.objs.size := Heap.lt_size e
      rw [PyProof.Rows.sortedHeap_old (Nat.ne_of_lt hb2) (by rw [size_push']; exact Nat.lt_succ_of_lt hb2)]
      exact Heap.get?_push_of_some _ e
    · intro e he
      obtain ⟨v, hv, rfl⟩ := List.mem_map.mp he
      obtain ⟨y, hy, rfl⟩ := hor v hv
      obtain ⟨g, _, hg⟩ := pr y hy
      show H y.2.1 = some (.tup [.int (pairAt H y.2.1).1, .int (pairAt H y.2.1).2])
      rw [pairAt_of hg]
      exact hg
    · rw [hys, List.map_map]
      have e1 : (acc.toList.map fun v => spotK (pairAt H (adOf v))) = ys.map (·.1) := by
        rw [hac, List.map_map]
        refine List.map_congr_left fun y hy => ?_
        obtain ⟨g, e2, hg⟩ := pr y hy
        show spotK (pairAt H y.2.1) = y.1
        rw [pairAt_of hg, e2]
      rw [← e1]
      exact hpm.map _
    · refine List.pairwise_map.mpr ?_
      exact hs
end
end K18
namespace K18
open PySem PySem.Spec PyProof.Rows L2

/-- a tuple of which it is known that it has no dict of its own -/
def PlainT (H : Hp) (a : Addr) (xs : List V) : Prop := ∃ o : Obj, H a = some (.frz o (.tup xs)) ∧ o.dict = none
theorem PlainT.sq {K : PySem.W.Frag} {H : Hp} {a : Addr} {xs : List V} (h : PlainT H a xs) : SqT K H a xs := by
  obtain ⟨o, h, _⟩ := h
  exact .inl (.inr ⟨o, h⟩)
section
variable {X : Cx} {es : List Expr} {t : TA} {pos : Pos}
/-- (a, b, ..), its object held as it was made -/
def tTupZ (t : TA) : TE := fun σ H Q => t σ H fun xs H1 => xs.length ≤ sizeLine ∧ ∀ p o, H1 p = none → o.dict = none → Q (.ref p) (upd H1 p (.frz o (.tup xs)))
theorem pe_tupZ {x1} (h : PA X es t) : PE X (.Tuple es x1 pos) (tTupZ t) := by
  refine ⟨fun pins s σ H Q I hq => wpAny_Tuple_spliced (thn (h.run pos pins s σ H _ I hq) fun us s1 ⟨xs, H1, I1, r, z, q⟩ => ⟨by rw [← r.length]; exact z, ?_⟩)⟩
  have hn : H1 s1.heap.objs.size = none := I1.hok.fresh (Nat.le_refl _)
  have hg : (s1.heap.push { cls := .type "tuple", data := .seq us.toArray }).get? s1.heap.objs.size = some { cls := .type "tuple", data := .seq us.toArray } := Heap.get?_push_size _ rfl
  refine ⟨.ref s1.heap.objs.size, _, I1.laid (o := .frz { cls := .type "tuple", data := .seq us.toArray } (.tup xs)) (t' := s1.toks) (fun b u e => Heap.get?_push_of_some _ e) (Nat.le_refl _) ?_, rfl, q _ _ hn rfl⟩
  exact ⟨hg, z, us, r, ⟨_, hg, rfl, _, rfl⟩⟩

theorem pairsZ {pins : List (Addr × Obj)} {σ : L2.St} {H : Hp} {s : Shared} (I : Inv X pins σ H s) : ∀ {ps : List Addr} {kvs : List (Key × V)}, Paired (fun p kv => SqT X.K H p [kV kv.1, kv.2]) ps kvs →
    ∃ (pv : List (Value × Value)) (vs : List (Key × Value)), KV kvs vs ∧ pv.length = ps.length ∧ vs.length = ps.length ∧
      ∀ (j : Nat) (k v : Value), pv[j]? = some (k, v) → (∃ b, ps[j]? = some b ∧ IsTup s.heap b #[k, v]) ∧ ∃ key, vs[j]? = some (key, v) ∧ keyIs key k = true
  | _, _, .nil => ⟨[], [], .nil, rfl, rfl, fun j k v e => by simp at e⟩
  | _, _, .cons (a := p) (b := kv) h t => by
    obtain ⟨pv, vs, r, l1, l2, hp⟩ := pairsZ I t
    obtain ⟨its, rv, ht, _⟩ := I.tuple h
    obtain ⟨u, y, rfl, ru, ry⟩ := vals2 rv
    refine ⟨(u, y) :: pv, (kv.1, y) :: vs, .cons ⟨rfl, ry⟩ r, by rw [List.length_cons, List.length_cons, l1], by rw [List.length_cons, List.length_cons, l2], fun j k v e => ?_⟩
    cases j with
    | zero =>
      rw [List.getElem?_cons_zero] at e
      cases Option.some.inj e
      exact ⟨⟨p, rfl, ht⟩, kv.1, rfl, kV_is (P := X.prog) (w := X.w) ru⟩
    | succ j =>
      rw [List.getElem?_cons_succ] at e
      exact hp j k v e
/-- dict(t), t a tuple of pairs -/
def rDictTup (K : PySem.W.Frag) : List V → Hp → VK → Prop := fun xs H Q => ∃ (a : Addr) (ps : List Addr) (kvs : List (Key × V)), xs = [.ref a] ∧ PlainT H a (ps.map V.ref) ∧
  Paired (fun p kv => SqT K H p [kV kv.1, kv.2]) ps kvs ∧ ∀ p, H p = none → Q (.ref p) (upd H p (.dK (mergeK [] kvs)))
theorem vals_refs : ∀ {ps : List Addr} {us : List Value}, Vals (ps.map V.ref) us → us = ps.map Value.ref
  | [], _, r => by
    cases r
    rfl
  | p :: ps, _, r => by
    cases r with
    | cons h t =>
      cases h
      rw [vals_refs t]
      rfl
theorem call_dictTup (hcalm : X.calm = true) : CallR X (.type "dict") (rDictTup X.K) := by
  intro pins s σ H xs us Q I r q
  obtain ⟨a, ps, kvs, rfl, ⟨o, ha, hdn⟩, hps, q⟩ := q
  obtain ⟨u, rfl, rx⟩ := vals1 r
  cases rx
  obtain ⟨ho, hz, its, rv, o2, ho2, hc2, n2, hd2⟩ := (show s.heap.get? a = some o ∧ ObjOk X.prog X.w H s.heap a (.tup (ps.map V.ref)) from I.hok a _ ha)
  rw [ho] at ho2
  cases Option.some.inj ho2
  obtain ⟨pv, vs, rel, l1, l2, hp⟩ := pairsZ I hps
  have hit := vals_refs rv
  have hpl : ps.length ≤ sizeLine := by simpa using hz
  have hitems : PairItems s.heap its.toArray (fun j => ps.getD j 0) pv := by
    refine ⟨by rw [List.size_toArray, hit, List.length_map, l1], fun j k v e => ?_⟩
    obtain ⟨⟨b, hb, htup⟩, _⟩ := hp j k v e
    have e1 : ps.getD j 0 = b := by simp [hb]
    show its.toArray[j]? = some (Value.ref (ps.getD j 0)) ∧ PairAt s.heap (ps.getD j 0) k v
    rw [e1]
    refine ⟨?_, .inl htup⟩
    rw [hit]
    simp [hb]
  have hm : (s.heap.objs.size == sysModules) = false := beq_eq_false_iff_ne.mpr (Nat.ne_of_gt I.big)
  refine PySem.call_dict_pairs (knd := mixKind X.prog X.w) (kvs := vs) (PairArg.tuple a its.toArray (fun j => ps.getD j 0) pv) (I.ok.hd hcalm) ⟨⟨o, n2, ho, hc2, hdn, hd2⟩, hitems⟩ ⟨by rw [l2, l1], fun j k v e => ?_⟩ (by rw [l1]; exact hpl) fun h' tk d' hk => ?_
  · obtain ⟨_, key, e1, e2⟩ := hp j k v e
    exact ⟨key, e1, e2⟩
  · have hlm : (mergeK [] kvs).length ≤ sizeLine := by
      have e1 := length_mergeK kvs []
      have e2 : kvs.length = ps.length := (Paired.length hps).symm
      rw [List.length_nil] at e1
      omega
    have hn : H s.heap.objs.size = none := I.hok.fresh (Nat.le_refl _)
    exact ⟨.ref s.heap.objs.size, _, I.laid (t' := tk) (o := .dK (mergeK [] kvs)) (fun b u e => hk b u (fun z => nomatch z) e) (Nat.le_refl _) ⟨hlm, hm, _, KV.merge rel .nil, d'⟩, rfl, q _ hn⟩
end
end K18
namespace L2
open PySem PySem.Spec PyProof.Rows
section
variable {P : Program} {w : World} {A : Around} {E : Value → Shared → Prop} {s : Shared}
/-- a set as it is made, still empty -/
abbrev k18e (w : World) : Obj := { cls := .type "set", dict := none, data := .set #[] 0 (.fresh 0 0 (!w.params.followText "set-order")) }
/-- set(xs), xs a list of whole numbers -/
theorem k18_set_list {l : Addr} {vals : Array Value} (ks : List Int) {Q : Value → Shared → Prop} (hfree : A.handled = none) (hlist : s.heap.IsList l vals) (hints : IntsAre vals.toList ks) (hroom : ks.length + 1 < scanBound)
    (hend : ∀ (g : Heap) (t c : Nat), SetR w g s.heap.objs.size (fun j => decide (j ∈ ks)) c → c ≤ ks.length → (∀ b o, s.heap.get? b = some o → g.get? b = some o) → Q (.ref s.heap.objs.size) { s with heap := g, toks := t }) :
    wpAny (model P w) A (call (.type "set") [.ref l]) Q E s := by
  have hcount : vals.size = ks.length := (Array.length_toList (xs := vals)).symm.trans (IntsAre.length hints)
  obtain ⟨cM, tM, hmro⟩ := F.called_set.mro
  have z1 := F.called_set.made
  have z2 := F.called_set.sub
  refine wpAny_call (codeAny_of_tree ?_)
  show wpAny _ _ (callAny (.type "set") _) _ _ _
  refine wpAny_pure ⟨Code.quiet_builtin _ (by decide +kernel), codeAny_builtin F.entry_type_call (Eq.mpr (by rw [Around.under_plain (weight_type_call_type "set" [.ref l] []) rfl]) ?_)⟩
  have z3 := F.called_set.notType
  have z4 := F.called_set.canCreate
  have z5 := F.typeCall_set_1 (.ref l)
  repeat (any_goals (first | assumption | wp_step))
  refine codeAny_mono (code_set_led1 (.ref l) (E := E) (Q₁ := fun ob sN => ob = .ref s.heap.objs.size ∧ sN = { s with heap := s.heap.push (k18e w) }) ⟨rfl, rfl⟩) fun rN sN hrN => ?_
  cases rN with
  | error e => exact hrN
  | ok flN =>
    cases flN with
    | ret ob =>
      obtain ⟨rfl, rfl⟩ := hrN
      have hme : (s.heap.push (k18e w)).get? s.heap.objs.size = some (k18e w) := Heap.get?_push_size _ rfl
      have hT : Shared.TypeIs { s with heap := s.heap.push (k18e w) } (.ref s.heap.objs.size) "set" := ⟨_, hme, rfl⟩
      have z6 := F.called_set.init.lookup
      have z7 := F.called_set.init.bind (.ref s.heap.objs.size)
      repeat (any_goals (first | assumption | wp_step))
      refine codeAny_mono (codeAny_call_builtin (R := wants (fun r sK => r = .none ∧ ∃ g t c, sK = { s with heap := g, toks := t } ∧ SetR w g s.heap.objs.size (fun j => decide (j ∈ ks)) c ∧ c ≤ ks.length ∧
          (∀ b o, s.heap.get? b = some o → g.get? b = some o)) E) F.called_set.init.plain F.entry_set_init (check_set_init_1 hT ?_)) fun rK sK hrK => ?_
      · obtain ⟨ol, hol, hcl, nl, hdl⟩ := hlist
        obtain ⟨ocls, odict, odata, oslots⟩ := ol
        simp only at hcl hdl
        subst hcl hdl
        have hol' : (s.heap.push (k18e w)).get? l = some { cls := .type "list", dict := odict, data := .seq vals nl, slots := oslots } := Heap.get?_push_of_some _ hol
        have y1 := F.sub_list_set
        have y2 := F.sub_list_frozenset
        have y3 : (Value.type "list" == Value.type "dict") = false := by decide
        have hl1 : (s.heap.push (k18e w)).IsList l vals := ⟨_, hol', rfl, nl, rfl⟩
        unfold Builtin.«set.__init__» noKeywords Builtin.Frozenset.updateFrom
        generalize hPI : pyIter = PI
        wp_walk
        subst hPI
        refine wpAny_pyIter_list hl1 (wpAny_bind (wpAny_runValue ?_))
        have hlS : l < s.heap.objs.size := Heap.lt_size hol
        have y4 : A.in1.in1.in1.handled = none := by simp [hfree]
        have y5 : (s.heap.push (k18e w)).objs.size = s.heap.objs.size + 1 := Heap.size_push ..
        have y6 : l ≠ (s.heap.push (k18e w)).objs.size := by rw [y5]; exact Nat.ne_of_lt (Nat.lt_succ_of_lt hlS)
        have y7 : s.heap.objs.size ∉ [(s.heap.push (k18e w)).objs.size, l] := by
          rw [y5]
          simp only [List.mem_cons, List.not_mem_nil, or_false, not_or]
          exact ⟨Nat.ne_of_lt (Nat.lt_succ_self _), Nat.ne_of_gt hlS⟩
        have hval : ∀ (i : Nat) (v : Value), vals[i]? = some v → ∃ k t, ks[i]? = some k ∧ v = .int k t := fun i v hv => by
          obtain ⟨t, e⟩ := PyProof.Rows.IntsAre.int_at hints i v (by rw [Array.getElem?_toList]; exact hv)
          have hi : i < ks.length := by rw [← hcount]; exact (Array.getElem?_eq_some_iff.mp hv).1
          exact ⟨ks[i], t, List.getElem?_eq_getElem hi, by rw [e]; simp [hi]⟩
        refine set_update_ints ((Walks.list y4 _ l y6 vals).toS) s.heap.objs.size y7 ks hcount hroom hval (vals.size - 0) 0 _ (by omega) (Nat.zero_le _) ⟨⟨_, Heap.get?_push_size _ rfl, rfl, rfl⟩, (hl1.push _)⟩ ?hA ?hB
        case hA => exact ⟨0, Nat.le_refl 0, setR_new_at (Heap.get?_push_of_some _ hme)⟩
        case hB =>
          intro s2 c2 hm hc2 hS2
          obtain ⟨g, g2, d2, t2, os2⟩ := s2
          have e1 : g2 = s.gens := hm.gens
          have e2 : d2 = s.drawn := hm.drawn
          have e3 : os2 = s.os := hm.os
          subst e1 e2 e3
          rw [hcount] at hc2
          show wpAny _ _ _ _ _ _
          refine wpAny_pure ?_
          show wpAny _ _ (ret Value.none) _ _ _
          refine wpAny_pure ⟨rfl, g, t2, c2, rfl, hS2, hc2, fun b o e => hm.heap b o ?_ (Heap.get?_push_of_some _ (Heap.get?_push_of_some _ e))⟩
          have hb0 : b < s.heap.objs.size := Heap.lt_size e
          have q1 : b ≠ s.heap.objs.size := Nat.ne_of_lt hb0
          have q2 : b ≠ (s.heap.push (k18e w)).objs.size := by rw [y5]; exact Nat.ne_of_lt (Nat.lt_succ_of_lt hb0)
          simp only [List.mem_cons, List.not_mem_nil, or_false, not_or]
          exact ⟨q1, q2⟩
      · cases rK with
        | error e => exact hrK
        | ok flK =>
          cases flK with
          | ret rr =>
            obtain ⟨rfl, g, t, c, rfl, q1, q2, q3⟩ := hrK
            repeat (any_goals (first | assumption | wp_step))
            exact hend _ _ _ q1 q2 q3
          | _ => exact hrK.elim
    | _ => exact hrN.elim
end
section
variable {X : Cx}
/-- set(xs), xs a list of whole numbers: their set -/
def k18rSetL (K : PySem.W.Frag) (w : World) : List V → Hp → VK → Prop := fun xs H Q => ∃ (a : Addr) (ks : List Int), xs = [.ref a] ∧ SqL K H a (ks.map V.int) ∧ ks.length < 1000 ∧
  ∀ p c, H p = none → c ≤ ks.length → Q (.ref p) (upd H p (SetO w p (fun j => decide (j ∈ ks)) c))
theorem k18_setL (hc : X.calm = true) : CallR X (.type "set") (k18rSetL X.K X.w) := by
  intro pins s σ H xs us Q I r q
  obtain ⟨a, ks, rfl, hs, hl, q⟩ := q
  obtain ⟨its, rv, hp, hz⟩ := I.list hs
  rw [Vals.ref1 r]
  refine k18_set_list ks (I.ok.hd hc) hp.isList (by simpa using rv.ints) (by unfold scanBound; omega) fun g t c hS hc hk => ?_
  have hn : H s.heap.objs.size = none := I.hok.fresh (Nat.le_refl _)
  exact ⟨.ref s.heap.objs.size, _, I.laid (t' := t) (o := SetO X.w s.heap.objs.size (fun j => decide (j ∈ ks)) c) hk (Nat.le_refl _) (setO_new hS), rfl, q _ c hn hc⟩
end
end L2
namespace L2
open PySem PySem.Spec PyProof.Rows
section
variable {prog : Program} {w : World} {K : Type} [DecidableEq K] {knd : KeyKind prog w K} {A : Around} {E : Value → Shared → Prop} {s : Shared}
/-- d != e, their values compared at any depth -/
theorem k18_ne_dicts {a b : Addr} {ka kb : List (K × Value)} {r : Bool} {Q : Value → Shared → Prop} (na : (a == sysModules) = false) (nb : (b == sysModules) = false)
    (da : s.heap.DictOf knd a ka) (db : s.heap.DictOf knd b kb) (hroom : A.units < cLine) (hits : ka.length = kb.length → PySem.W.KeqHitsP prog w A.in1 s kb ka r) (h : Q (.bool (!(ka.length == kb.length && r))) s) :
    wpAny (model prog w) A (richCompare .NotEq (.ref a) (.ref b)) Q E s := by
  have body : wpAny (model prog w) A.in1 (Builtin.«dict.__ne__» ⟨[.ref a, .ref b], []⟩) (fun f s' => ∃ v, f = .done (.ret v) ∧ v ≠ Value.notImplemented ∧ Q v s') (fun _ _ => False) s := by
    show wpAny _ _ (Builtin.Dict.dictSlotArgs "__ne__" ⟨[.ref a, .ref b], []⟩ >>= _) _ _ s
    refine wpAny_bind ?_
    unfold Builtin.Dict.dictSlotArgs
    refine wpAny_bind (wpAny_notOrdered_dict da.typeIs (show wpAny _ _ (pure (Value.ref a, Value.ref b)) _ _ s from wpAny_pure ?_))
    refine wpAny_bind (wpAny_isInstance (T := "dict") db.typeIs PySem.F.sub_dict_dict ?_)
    simp only [Bool.not_true, Bool.false_eq_true, if_false]
    refine wpAny_bind (wpAny_pure (wpAny_bind (wpAny_pure (wpAny_bind (PySem.W.samePairsP na nb da db hits (wpAny_pure ⟨_, rfl, ?_, ?_⟩))))))
    · exact fun x => nomatch x
    · simpa using h
  refine wpAny_richCompare_same_room (op := .NotEq) da.typeIs db.typeIs PySem.F.slot_dict_ne (wpAny_call_entry PySem.F.slot_dict_ne da.typeIs PySem.F.entry_dict_ne ?_ (PySem.F.args_dict_ne_2 _ _)) hroom
  exact wpAny_mono body (fun f s' x => x) fun _ _ z => z.elim
end
section
variable {X : Cx}
/-- a != b of two dicts that are equal -/
def k18rNeV (K : PySem.W.Frag) : R2 := fun x y H Q => ∃ n, n ≤ 60 ∧ (∃ a b ks ls, x = .ref a ∧ y = .ref b ∧ H a = some (.dK ks) ∧ H b = some (.dK ls) ∧ ks.length = ls.length ∧ ∀ p ∈ ks, ∃ u, valV ls p.1 = some u ∧ EqV K H n p.2 u) ∧ Q (.bl false) H
theorem k18_neV (hu : X.A.units + 64 < cLine) : OpR X (compareOp .NotEq) (k18rNeV X.K) := by
  intro pins s σ H x y v u Q I rx ry h
  obtain ⟨n, hn, ⟨a, b, ks, ls, rfl, rfl, ha, hb, hl, hp⟩, q⟩ := h
  obtain rfl : v = Value.ref a := rx
  obtain rfl : u = Value.ref b := ry
  obtain ⟨_, ya, va, ra, da⟩ := dk_of I.hok ha
  obtain ⟨_, yb, vb, rb, db⟩ := dk_of I.hok hb
  have e : va.length = vb.length := by rw [← ra.length, ← rb.length]; exact hl
  have ih := eqV_run I n X.A.in1 (by show X.A.units + 1 + n < cLine; omega)
  show wpAny _ _ (richCompare .NotEq (.ref a) (.ref b)) _ _ _
  refine k18_ne_dicts (knd := mixKind X.prog X.w) (r := true) ya yb da db (by omega) (fun _ => hits_run ih rb ra hp) ?_
  refine fin_bl I q ?_
  rw [e]
  simp
end

/-! ### try .. except C as n .. else -/
section
variable {X : Cx} {x n : Str} {c : Value} {i : Nat} {body suite orelse : List Stmt} {b₀ : Stmt} {np pos pos' : Pos} {tb : WX → TS} {ts : Addr → Value → Option Addr → TS} {u : TS} {Wout : WX}
theorem k18_try_asE (hoE : PSs X orelse u) (hst : X.stack = X.env :: X.outer) (hfr0 : X.env.frame = some X.env.locals) (hND : X.N.Nodup) (hix : X.N[i]? = some n) (hkind : X.env.kindOf n = some .local) (hNm : Names X x c) (tk : Takes X Wout)
    (hBody : ∀ (W : WX) (pn : List (Addr × Obj)) (xe : Value → Shared → Prop), Takes (X.tr pn xe) W → PassesOwn (model X.prog X.w) X.A X.env xe → PSs (X.tr pn xe) body (tb W))
    (hSuite : ∀ (a : Addr) (oe : Obj) (cls : Value) (d : Option Addr) (pn : List (Addr × Obj)), Zc cls d oe → (∃ vs, oe.data = .fields vs) → PSs (X.suite a ((a, oe) :: pn)) (b₀ :: suite) (ts a cls d)) :
    PS X (.Try body [.ExceptHandler (some (.Name x np)) (some n) (b₀ :: suite) pos'] orelse [] pos) (fun D σ H => tb (wAs X.K c i ts Wout D) { D with nx := u D } σ H) := by
  refine ⟨fun pins s σ H D I hRd => ?_⟩
  have okX := I.ok
  have hframes : X.A.frames = some (X.env :: X.outer) := by rw [okX.frames, hst]
  refine wpAny_Try_except (wpAny_mono ((hBody (wAs X.K c i ts Wout D) (X.pn ++ pins) (fun e s₁ => wpAny (model X.prog X.w) X.A (noteFrame e X.env) (fun _ s₂ => wpAny (model X.prog X.w) X.A (setFlight e none) (fun _ s₃ =>
    wpAny (model X.prog X.w) X.A (handleBy e X.env [.ExceptHandler (some (.Name x np)) (some n) (b₀ :: suite) pos']) (SP X pins D) X.xe s₃) X.xe s₂) X.xe s₁) (fun q0 s' xx => ?_) PassesOwn.looking).run [] s σ H { D with nx := u D } (I.toTry _) hRd) (fun f s1 hsp => ?_) (fun e s1 he => he))
  · obtain ⟨a, B, sI, pins', σ', H', cls, d, rfl, J0, nb, up, sky, na, os, ag, b, hb1, hyes, hno⟩ := xx
    have J : Inv X pins σ' H' sI := J0.ofTry okX
    have sky' : Sky B (X.env :: X.outer) a (Zc cls d) X.env.locals s'.heap := by rw [← hst]; exact sky
    show wpAny (model X.prog X.w) X.A (noteFrame (.ref a) X.env) _ _ _
    refine Sky.land Zc.steady hframes hfr0 sky' fun g3 fl3 up3 => ?_
    have J3 : Inv X pins σ' H' { s' with heap := g3 } := J.landed nb fl3.1 (up.trans up3) os ag
    obtain ⟨oe3, vs3, he3, hz3, hd3⟩ := fl3.there
    have nfr : a ∉ frs (X.env :: X.outer) := fun hm => by
      obtain ⟨_, o', e', hnf⟩ := fl3.2.2.1.mem hm
      rw [he3] at e'
      cases e'
      exact hnf _ hd3
    have nL : a ≠ X.env.locals := fun z => nfr (List.mem_filterMap.mpr ⟨X.env, List.mem_cons_self, by rw [hfr0, z]⟩)
    have nF : a ∉ X.fs := fun hm => by
      obtain ⟨e, he, q⟩ := List.mem_filterMap.mp hm
      exact nfr (List.mem_filterMap.mpr ⟨e, List.mem_cons_of_mem _ he, q⟩)
    have S3 := J3.suite he3 hd3 na nL nF
    refine wpAny_handleBy_cons (codeAny_handlers_test ?_) (by intro q; cases q)
    have LT : PySem.W.Looks (model X.prog X.w) g3 (typeOf (.ref a)) cls := fun _ _ _ s k q => wpAny_typeOf_ref (k _ _ he3) (by rw [hz3.1]; exact q)
    have LM := PySem.W.exm_one (M := model X.prog X.w) (J3.kIn) LT hb1
    have named : ∀ {Q : Value → Shared → Prop} {E : Value → Shared → Prop}, Q c { s' with heap := g3 } → wpAny (model X.prog X.w) (X.A.mark (some (.ref a))) (eval (.Name x np) X.env) Q E { s' with heap := g3 } := fun {Q E} q => by
      obtain ⟨hg, hdbg, hm | ⟨hm, hv, hnn⟩⟩ := hNm
      · exact ld_glob (X := X.suite a ((a, oe3) :: (X.pn ++ pins))) S3 hg hm q hdbg
      · exact ld_blt (X := X.suite a ((a, oe3) :: (X.pn ++ pins))) S3 hg hm hv q hnn hdbg
    refine named (LM.here ?_)
    cases b with
    | true =>
      refine codeAny_handlers_suite_as (HandSPX.lands_againZ fl3 fun g4 fl4 up4 => ?_)
      have J4 : Inv X pins σ' H' { s' with heap := g4 } := J.landed nb fl4.1 ((up.trans up3).trans up4) os ag
      obtain ⟨oe4, vs4, he4, hz4, hd4⟩ := fl4.there
      have S4 := J4.suite he4 hd4 na nL nF
      refine store_ok (X := X.suite a ((a, oe4) :: (X.pn ++ pins))) (v := .ref a) S4 hND hix (.inl hkind) rfl (fun s5 S5 => ?_) (.inr hkind)
      refine wpAny_mono ((hSuite a oe4 cls d (X.pn ++ pins) hz4 ⟨_, hd4⟩).run [] s5 _ H' _ S5 (hyes rfl a na)) (fun f s6 hsp => ?_) (fun _ _ z => False.elim z)
      have fin6 : ∀ {σ6 : St} {H6 : Hp} {Q : Shared → Prop}, Inv (X.suite a ((a, oe4) :: (X.pn ++ pins))) [] σ6 H6 s6 → (∀ s7, Inv X pins (σ6.set i none) H6 s7 → Q s7) →
          wpAny (model X.prog X.w) X.A (do bindName X.env n .none; unbindBehindTheSuite X.env n pos') (fun _ s7 => Q s7) X.xe s6 := fun {σ6 H6 Q} S6 hq => gone_ok (S6.unsuite okX) hND hix hkind hq
      cases f with
      | next =>
        obtain ⟨σ6, H6, S6, q6⟩ := hsp
        exact fin6 S6 fun s7 J7 => ⟨_, _, J7, q6⟩
      | brk =>
        obtain ⟨σ6, H6, S6, q6⟩ := hsp
        exact fin6 S6 fun s7 J7 => ⟨_, _, J7, q6⟩
      | cont =>
        obtain ⟨σ6, H6, S6, q6⟩ := hsp
        exact fin6 S6 fun s7 J7 => ⟨_, _, J7, q6⟩
      | ret w6 =>
        obtain ⟨v6, σ6, H6, S6, r6, q6⟩ := hsp
        exact fin6 S6 fun s7 J7 => ⟨_, _, _, J7, r6, q6⟩
    | false =>
      show wpAny _ X.A (handleBy (.ref a) X.env []) _ _ _
      refine wpAny_handleBy_nil ?_
      obtain ⟨k1, k2, k3, oe, vs, T, oT, tsl, he, hz, hd, h1, hr⟩ := id fl3
      unfold PySem.passOn
      refine wpAny_bind (wpAny_field he hd h1 ?_)
      rw [if_neg (show ¬ ((Value.ref T == Value.none) = true) from by simp)]
      have onward : wpAny (model X.prog X.w) X.A (setFlight (.ref a) X.env.frame) (fun _ s4 => wpAny (model X.prog X.w) X.A (throw (.ref a) : Sem Flow) (SP X pins D) X.xe s4) X.xe { s' with heap := g3 } := by
        rw [hfr0]
        exact HandSPX.setFlight_upZ fl3 fun g4 hh4 up4 => wpAny_throw (tk _ _ ⟨a, B, sI, pins, σ', H', cls, d, rfl, J, nb, (up.trans up3).trans up4, .inr (.inr (by rw [hst]; exact hh4)), na, os, ag, hno rfl⟩)
      first
        | exact wpAny_bind (wpAny_pure (wpAny_bind onward))
        | exact wpAny_bind onward
  · cases f with
    | next =>
      obtain ⟨σ', H', J', q⟩ := hsp
      exact hoE.run pins s1 σ' H' D (J'.ofTry okX) q
    | brk =>
      obtain ⟨σ', H', J', q⟩ := hsp
      exact ⟨σ', H', J'.ofTry okX, q⟩
    | cont =>
      obtain ⟨σ', H', J', q⟩ := hsp
      exact ⟨σ', H', J'.ofTry okX, q⟩
    | ret u6 =>
      obtain ⟨v, σ', H', J', r, q⟩ := hsp
      exact ⟨v, σ', H', J'.ofTry okX, r, q⟩
end
end L2
namespace L2
open PySem PySem.Spec PyProof.Rows
namespace K18

/-! ### the text by places -/
def top (i : Nat) : Stmt := PySem.Challenge.pw_halfmoved_k18_pointers.main.body.getD i (.Pass ⟨0, 0, 0, 0⟩)

/-! ### defs that may be called by their names -/
/-- a def of the module, under its name -/
structure DefAt (K : PySem.W.Frag) (mg : Str → Option Value) (x : Str) (st : Stmt) : Prop where
  ex : ∃ (f : Addr) (fd : FuncData), Fun K x x st f fd ∧ mg x = some (.ref f)
/-- the names of built-ins that the text uses, none of them bound by the module -/
structure Gs (mg : Str → Option Value) : Prop where
  isinstance : mg "isinstance" = none
  int : mg "int" = none
  bool : mg "bool" = none
  str : mg "str" = none
  tuple : mg "tuple" = none
  dict : mg "dict" = none
  len : mg "len" = none
  sorted : mg "sorted" = none
  sum : mg "sum" = none
  enumerate : mg "enumerate" = none
  range : mg "range" = none
  set : mg "set" = none
/-- a def that lets nothing out, and what it promises -/
structure Cl (P : Program) (w : World) (K : PySem.W.Frag) (mg : Str → Option Value) (base : Heap) (k : Nat) (x : Str) (sp : Sp) : Prop where
  ex : ∃ (f : Addr) (fd : FuncData) (ps : List Str), FnOk P w K mg base CX0 k f fd ps sp ∧ mg x = some (.ref f) ∧ PySem.W.keepIn K (.ref f) = true ∧ Binds K fd ps []
/-- .. that may let an exception out -/
structure ClX (P : Program) (w : World) (K : PySem.W.Frag) (mg : Str → Option Value) (base : Heap) (k : Nat) (x : Str) (sp : Sp) : Prop where
  ex : ∃ (f : Addr) (fd : FuncData) (ps : List Str), FnOk P w K mg base (L2.CX P w) k f fd ps sp ∧ mg x = some (.ref f) ∧ PySem.W.keepIn K (.ref f) = true ∧ Binds K fd ps []
section
variable {P : Program} {w : World} {K : PySem.W.Frag} {mg : Str → Option Value} {base : Heap}
abbrev BindsBy (x : Str) (st : Stmt) (ps : List Str) : Prop := ∀ (kV doc pm : Value) (an : Option Addr) (cdv ct : Value) (us : List Value), us.length = ps.length →
  bindArgs (PySem.W.fnOf x x (defArgs st) (defBody st) (defScope st) .none kV doc pm an cdv ct) ⟨us, []⟩ = pure (ps.zip us)
theorem cl_mk {x : Str} {st : Stmt} {N ps : List Str} {k : Nat} {sp : Sp} (D : DefAt K mg x st) (S : FnScope N ps (defScope st)) (hb : BindsBy x st ps) (len : ∀ vs H Q E, sp vs H Q E → vs.length = ps.length)
    (hbody : ∀ (f : Addr) (cdv : Value) (A : Around) (outer : List Env) (s : Shared) (H : Hp) (vs : List V) (Q : VK) (E : XK), Room k (A.deeper (envOfC x (defScope st) s.heap.objs.size f cdv)) → sp vs H Q E →
      ∃ t, PSs (cxOf CX0 P w K mg base N x (defScope st) f cdv A outer s H E).nox (defBody st) t ∧ t { nx := fun _ H' => Q .non H', rt := Q } (start N vs) H) : Cl P w K mg base (k + 1) x sp := by
  obtain ⟨f, fd, F, hm⟩ := D.ex
  exact ⟨f, fd, ps, F.ok S len fun cdv A outer s H vs Q E => hbody f cdv A outer s H vs Q E, hm, F.kp, F.binds hb⟩
theorem clX_mk {x : Str} {st : Stmt} {N ps : List Str} {k : Nat} {sp : Sp} (D : DefAt K mg x st) (S : FnScope N ps (defScope st)) (hb : BindsBy x st ps) (len : ∀ vs H Q E, sp vs H Q E → vs.length = ps.length)
    (hbody : ∀ (f : Addr) (cdv : Value) (A : Around) (outer : List Env) (s : Shared) (H : Hp) (vs : List V) (Q : VK) (E : XK), Room k (A.deeper (envOfC x (defScope st) s.heap.objs.size f cdv)) → sp vs H Q E →
      ∃ t, PSs (cxOf (L2.CX P w) P w K mg base N x (defScope st) f cdv A outer s H E) (defBody st) t ∧ t { nx := fun _ H' => Q .non H', rt := Q } (start N vs) H) : ClX P w K mg base (k + 1) x sp := by
  obtain ⟨f, fd, F, hm⟩ := D.ex
  exact ⟨f, fd, ps, F.okX S len fun cdv A outer s H vs Q E => hbody f cdv A outer s H vs Q E, hm, F.kp, F.binds hb⟩
end
section
variable {X : Cx} {k j : Nat} {x : Str} {sp : Sp} {p pos : Pos} {e : Expr} {es : List Expr} {t : TA}
/-- f(e, ..) -/
def tCl (sp : Sp) (t : TA) : TE := fun σ H Q => t σ H fun vs H1 => sp vs H1 Q E0
theorem pe_cl (c : Cl X.prog X.w X.K X.mg X.base k x sp) (hr : Room j X.A) (hk : k ≤ j) (hg : Gl X x) (ha : PA X (e :: es) t)
    (hdb : (x == ("__debug__" : Str)) = false := by decide +kernel) (he : starEach (e :: es) X.env = (false, eval e X.env) :: starEach es X.env := by rfl) (hpl : (backTo pos (starEach es X.env)).any (·.1) = false := by rfl) :
    PE X (.Call (.Name x p) (e :: es) [] pos) (tCl sp t) := by
  obtain ⟨f, fd, ps, F, hm, kp, b⟩ := c.ex
  have h := pe_call (dvs := []) (E := E0) (p := p) (pos := pos) F (hr.mono hk) hg hm kp b .nil pass0 ha hdb he hpl
  refine ⟨fun pins s σ H Q I q => h.run pins s σ H Q I ?_⟩
  have e1 : tCall sp [] E0 t = tCl sp t := by
    funext σ H Q
    unfold tCall tCl
    simp only [List.append_nil]
  rw [e1]
  exact q
/-- f(e, ..) of a def that may let an exception out -/
def tClX (sp : Sp) (W : WX) (t : TA) : TE := fun σ H Q => t σ H fun vs H1 => sp vs H1 Q (fun cls d H2 => W cls d σ H2)
theorem pe_clX {W : WX} (c : ClX X.prog X.w X.K X.mg X.base k x sp) (hr : Room j X.A) (hk : k ≤ j) (tk : Takes X W) (hg : Gl X x) (ha : PA X (e :: es) t)
    (hdb : (x == ("__debug__" : Str)) = false := by decide +kernel) (he : starEach (e :: es) X.env = (false, eval e X.env) :: starEach es X.env := by rfl) (hpl : (backTo pos (starEach es X.env)).any (·.1) = false := by rfl) :
    PE X (.Call (.Name x p) (e :: es) [] pos) (tClX sp W t) := by
  obtain ⟨f, fd, ps, F, hm, kp, b⟩ := c.ex
  exact pe_callS F (hr.mono hk) hg hm kp b (fun σ => passAt tk σ) ha hdb he hpl
end

/-! ### tests whose answer is known -/
theorem ifN {c A B : Prop} [Decidable c] (h : ¬ c) (b : B) : if decide c = true then A else B := by
  rw [decide_eq_false h]
  exact iteF b
theorem ifY {c A B : Prop} [Decidable c] (h : c) (a : A) : if decide c = true then A else B := by
  rw [decide_eq_true h]
  exact iteT a
theorem ifNN {c A B : Prop} [Decidable c] (h : ¬ c) (a : A) : if (!decide c) = true then A else B := by
  rw [decide_eq_false h]
  exact iteT a
theorem ifNY {c A B : Prop} [Decidable c] (h : c) (b : B) : if (!decide c) = true then A else B := by
  rw [decide_eq_true h]
  exact iteF b
theorem ifFe {c : Bool} {A B : Prop} (h : c = false) (b : B) : if c = true then A else B := by
  rw [h]
  exact iteF b
theorem ifTe {c : Bool} {A B : Prop} (h : c = true) (a : A) : if c = true then A else B := by
  rw [h]
  exact iteT a
theorem ifNTe {c : Bool} {A B : Prop} (h : c = true) (b : B) : if (!c) = true then A else B := by
  rw [h]
  exact iteF b
theorem ifNFe {c : Bool} {A B : Prop} (h : c = false) (a : A) : if (!c) = true then A else B := by
  rw [h]
  exact iteT a
theorem qT {Q : VK} {H : Hp} {c : Prop} [Decidable c] (h : c) (q : Q (.bl true) H) : Q (.bl (decide c)) H := by
  rw [decide_eq_true h]
  exact q
theorem qF {Q : VK} {H : Hp} {c : Prop} [Decidable c] (h : ¬ c) (q : Q (.bl false) H) : Q (.bl (decide c)) H := by
  rw [decide_eq_false h]
  exact q
/-! ### heaps -/
/-- all that was tracked is as it was, but for these -/
def Keep (l : List Addr) (H H' : Hp) : Prop := ∀ b o, H b = some o → b ∉ l → H' b = some o
theorem Keep.refl {l : List Addr} (H : Hp) : Keep l H H := fun _ _ h _ => h
theorem Keep.trans {l : List Addr} {H H1 H2 : Hp} (a : Keep l H H1) (b : Keep l H1 H2) : Keep l H H2 := fun c o h n => b c o (a c o h n) n
theorem Keep.mono {l m : List Addr} {H H' : Hp} (a : Keep l H H') (h : ∀ b, b ∈ l → b ∈ m) : Keep m H H' := fun c o q n => a c o q fun z => n (h c z)
theorem Keep.of_same {l : List Addr} {H H' : Hp} (a : Same H H') : Keep l H H' := fun c o q _ => a c o q
theorem Keep.same {H H' : Hp} (a : Keep [] H H') : Same H H' := fun c o q => a c o q (fun z => nomatch z)
theorem same_upd {H : Hp} {p : Addr} {o : HO} (h : H p = none) : Same H (upd H p o) := fun b u e => by
  rw [upd_ne (ne_of_none e h)]
  exact e
theorem keep_upd {H : Hp} {p : Addr} {o : HO} : Keep [p] H (upd H p o) := fun b u e n => by
  rw [upd_ne fun z => n (by rw [z]; exact List.mem_cons_self)]
  exact e
theorem plainT_same {H H' : Hp} {a : Addr} {xs : List V} (s : Same H H') (h : _root_.K18.PlainT H a xs) : _root_.K18.PlainT H' a xs := by
  obtain ⟨o, h, e⟩ := h
  exact ⟨o, s _ _ h, e⟩
/-- a turn of a comprehension without a test -/
theorem lcY {a b σ2 : St} {H2 : Hp} {te : TE} {R : V → Hp → Prop} {B : Hp → Prop} (e : a = b) (h : te σ2 H2 R) : a = b ∧ tYes σ2 H2 (fun k H3 => if k = true then te σ2 H3 R else B H3) := ⟨e, iteT (B := B H2) h⟩
section
variable {X : Cx} {K : PySem.W.Frag}
theorem ixT (h : X.K = K) : IxR X (rIxT K) := by
  subst h
  exact ix_tup
theorem ixL (h : X.K = K) : IxR X (rIxL K) := by
  subst h
  exact ix_list
end
end K18
end L2
namespace L2
open PySem PySem.Spec PyProof.Rows
namespace K18
variable {P : Program} {w : World} {K : PySem.W.Frag} {mg : Str → Option Value} {base : Heap}

/-- a pointer: a key or nothing -/
def gV : Option Int → V
  | none => .non
  | some i => .int i

/-! ### is_whole -/
def spWhole : Sp := fun vs H Q _ => ∃ i : Int, vs = [.int i] ∧ Q (.bl true) H
theorem sc_whole : FnScope ["thing"] ["thing"] (defScope (top 12)) := ⟨rfl, rfl, rfl, by decide +kernel, rfl, by decide +kernel, by decide +kernel⟩
theorem cl_whole (D : DefAt K mg "is_whole" (top 12)) (G : Gs mg) : Cl P w K mg base 1 "is_whole" spWhole := by
  refine cl_mk D sc_whole (fun _ _ _ _ _ _ us hl => match us, hl with | [_], _ => rfl) (fun vs H Q E h => ?_) (fun f cdv A outer s H vs Q E hr h => ?_)
  · obtain ⟨i, rfl, _⟩ := h
    rfl
  · obtain ⟨i, rfl, q⟩ := h
    refine ⟨_, pss_one (ps_ret (pe_and (pe_callB call_isi (by rfl) G.isinstance PyProof.Rows.boot_isinstance (pa_cons (pv 0) (pa_cons (pe_bltn (v := .ty "int") (by rfl) G.int PyProof.Rows.boot_int rfl) pa_nil)))
      (pe_one (pe_not (pe_callB call_isi (by rfl) G.isinstance PyProof.Rows.boot_isinstance (pa_cons (pv 0) (pa_cons (pe_bltn (v := .ty "bool") (by rfl) G.bool PyProof.Rows.boot_bool rfl) pa_nil))))))), ?_⟩
    refine ⟨_, rfl, _, _, _, _, true, rfl, .ty "int", .base (.int i), kit_ty (by decide +kernel), true, rfl, iteT ?_⟩
    exact ⟨_, rfl, _, _, _, _, false, rfl, .ty "bool", .base (.int i), kit_ty (by decide +kernel), false, rfl, q⟩

/-! ### fits_plain, of a whole number -/
def spFitsPlain (K : PySem.W.Frag) : Sp := fun vs H Q _ => ∃ (k : Addr) (i : Int), vs = [.ref k, .int i] ∧ SqT K H k [.str "whole"] ∧ Q (.bl true) H
theorem sc_plain : FnScope ["kind", "value", "word"] ["kind", "value"] (defScope (top 13)) := ⟨rfl, rfl, rfl, by decide +kernel, rfl, by decide +kernel, by decide +kernel⟩
theorem cl_plain (D : DefAt K mg "fits_plain" (top 13)) (G : Gs mg) (C1 : Cl P w K mg base 1 "is_whole" spWhole) : Cl P w K mg base 2 "fits_plain" (spFitsPlain K) := by
  refine cl_mk D sc_plain (fun _ _ _ _ _ _ us hl => match us, hl with | [_, _], _ => rfl) (fun vs H Q E h => ?_) (fun f cdv A outer s H vs Q E hr h => ?_)
  · obtain ⟨k, i, rfl, _⟩ := h
    rfl
  · obtain ⟨k, i, rfl, hk, q⟩ := h
    refine ⟨_, pss_cons (ps_set (i := 2) sc_plain.nd rfl (Or.inl rfl) (pe_ix ix_tup (pv 0) pe_int (fun _ _ => rfl)))
      (pss_cons (ps_if (pt_cmpR op_eq (pv 2) pe_str (nomark _)) pss_never pss_nil)
      (pss_cons (ps_if (pt_cmpR op_eq (pv 2) pe_str (nomark _)) pss_never pss_nil)
      (pss_cons (ps_if (pt_not (pt_val (pe_cl C1 hr (by decide) (by rfl) (pa_cons (pv 1) pa_nil)))) pss_never pss_nil)
      (pss_cons (ps_if (pt_cmpR op_eq (pv 2) pe_str (nomark _)) pss_never pss_nil)
      (pss_one (ps_ret (pe_or (pe_cmpR op_eq (pv 2) pe_str (nomark _)) (pe_one (pe_cmpR op_le (pv 1) (pe_ix ix_tup (pv 0) pe_int (fun _ _ => rfl)) (nomark _)))))))))), ?_⟩
    refine ⟨_, rfl, k, _, _, _, rfl, rfl, hk, atI_nat (j := 0) rfl, ?_⟩
    refine ⟨_, rfl, rfl, _, rfl, ifN (by decide +kernel) ?_⟩
    refine ⟨_, rfl, rfl, _, rfl, ifN (by decide +kernel) ?_⟩
    refine ⟨_, rfl, i, rfl, true, rfl, iteF ?_⟩
    refine ⟨_, rfl, rfl, _, rfl, ifN (by decide +kernel) ?_⟩
    exact ⟨_, rfl, rfl, _, rfl, ifY rfl q⟩

/-! ### fits, of a pointer's kind and of a whole number's -/
/-- such a value as a column of the form may hold -/
inductive Fit (K : PySem.W.Frag) (H : Hp) (S : Int) : Addr → V → Prop where
  | key {k : Addr} (h : SqT K H k [.str "key"]) (g : Option Int) (r : ∀ i, g = some i → 0 ≤ i ∧ i < S) : Fit K H S k (gV g)
  | whole {k : Addr} (h : SqT K H k [.str "whole"]) (i : Int) : Fit K H S k (.int i)
def spFits (K : PySem.W.Frag) : Sp := fun vs H Q _ => ∃ (k : Addr) (v : V) (S : Int), vs = [.ref k, v, .int S] ∧ Fit K H S k v ∧ Q (.bl true) H
theorem sc_fits : FnScope ["kind", "value", "size", "word"] ["kind", "value", "size"] (defScope (top 15)) := ⟨rfl, rfl, rfl, by decide +kernel, rfl, by decide +kernel, by decide +kernel⟩
theorem cl_fits (D : DefAt K mg "fits" (top 15)) (G : Gs mg) (C1 : Cl P w K mg base 1 "is_whole" spWhole) (C2 : Cl P w K mg base 2 "fits_plain" (spFitsPlain K)) : Cl P w K mg base 3 "fits" (spFits K) := by
  refine cl_mk D sc_fits (fun _ _ _ _ _ _ us hl => match us, hl with | [_, _, _], _ => rfl) (fun vs H Q E h => ?_) (fun f cdv A outer s H vs Q E hr h => ?_)
  · obtain ⟨k, v, S, rfl, _⟩ := h
    rfl
  · obtain ⟨k, v, S, rfl, hf, q⟩ := h
    refine ⟨_, pss_cons (ps_set (i := 3) sc_fits.nd rfl (Or.inl rfl) (pe_ix ix_tup (pv 0) pe_int (fun _ _ => rfl)))
      (pss_cons (ps_if (pt_cmpR op_eq (pv 3) pe_str (nomark _)) (pss_one (ps_ret (pe_or (pe_cmpR op_isN (pv 1) pe_non (nomark _)) (pe_one (pe_and (pe_cl C1 hr (by decide) (by rfl) (pa_cons (pv 1) pa_nil))
        (pe_one (pe_chain op_le op_lt pe_int (pv 1) (pv 2)))))))) pss_nil)
      (pss_cons (ps_if (pt_cmpR op_eq (pv 3) pe_str (nomark _)) pss_never pss_nil)
      (pss_cons (ps_if (pt_cmpR op_eq (pv 3) pe_str (nomark _)) pss_never pss_nil)
      (pss_cons (ps_if (pt_cmpR op_eq (pv 3) pe_str (nomark _)) pss_never pss_nil)
      (pss_one (ps_ret (pe_cl C2 hr (by decide) (by rfl) (pa_cons (pv 0) (pa_cons (pv 1) pa_nil))))))))), ?_⟩
    cases hf with
    | @whole hk i =>
      refine ⟨_, rfl, k, _, _, _, rfl, rfl, hk, atI_nat (j := 0) rfl, ?_⟩
      refine ⟨_, rfl, rfl, _, rfl, ifN (by decide +kernel) ?_⟩
      refine ⟨_, rfl, rfl, _, rfl, ifN (by decide +kernel) ?_⟩
      refine ⟨_, rfl, rfl, _, rfl, ifN (by decide +kernel) ?_⟩
      refine ⟨_, rfl, rfl, _, rfl, ifN (by decide +kernel) ?_⟩
      exact ⟨_, rfl, _, rfl, k, i, rfl, hk, q⟩
    | @key hk g r =>
      refine ⟨_, rfl, k, _, _, _, rfl, rfl, hk, atI_nat (j := 0) rfl, ?_⟩
      refine ⟨_, rfl, rfl, _, rfl, ifY rfl ?_⟩
      cases g with
      | none => exact ⟨_, rfl, rfl, _, rfl, ifY rfl q⟩
      | some i =>
        obtain ⟨h1, h2⟩ := r i rfl
        refine ⟨_, rfl, rfl, _, rfl, ifN (fun z => nomatch z) ?_⟩
        refine ⟨_, rfl, i, rfl, true, rfl, iteT ?_⟩
        refine ⟨_, rfl, _, _, rfl, rfl, _, rfl, ifY h1 ⟨_, rfl, _, _, rfl, rfl, ?_⟩⟩
        exact qT (Q := Q) h2 q
end K18
end L2
namespace L2
open PySem PySem.Spec PyProof.Rows
namespace K18
variable {P : Program} {w : World} {K : PySem.W.Frag} {mg : Str → Option Value} {base : Heap}

/-! ### the form, as the law makes it -/
/-- a table: where its parts stand, its name, sort, columns (the first of pointers, the second of kind kb) -/
structure Tab where
  nm : Str
  so : Str
  ca : Str
  cb : Str
  kb : Str
  at_ : Addr
  k : Addr
  pa : Addr
  pb : Addr
  qa : Addr
  qb : Addr
structure TabAt (H : Hp) (t : Tab) : Prop where
  at_ : H t.at_ = some (.tup [.str t.nm, .str t.so, .ref t.k])
  k : _root_.K18.PlainT H t.k [.ref t.pa, .ref t.pb]
  pa : H t.pa = some (.tup [.str t.ca, .ref t.qa])
  pb : H t.pb = some (.tup [.str t.cb, .ref t.qb])
  qa : H t.qa = some (.tup [.str "key"])
  qb : H t.qb = some (.tup [.str t.kb])
  ne : ¬ t.ca = t.cb
  lt : ltCps t.ca.cps.toList t.cb.cps.toList = true
structure Frm where
  size : Int
  tabs : Addr
  a : Tab
  b : Tab
structure FormAt (H : Hp) (fm : Addr) (F : Frm) : Prop where
  fm : H fm = some (.tup [.int F.size, .ref F.tabs])
  tabs : H F.tabs = some (.tup [.ref F.a.at_, .ref F.b.at_])
  a : TabAt H F.a
  b : TabAt H F.b
  ne : ¬ F.a.nm = F.b.nm
  sa : F.a.so = "head"
  sb : F.b.so = "some"
  ka : F.a.kb = "key"
  kb : F.b.kb = "whole"
theorem TabAt.same {H H' : Hp} {t : Tab} (s : Same H H') (h : TabAt H t) : TabAt H' t :=
  ⟨s _ _ h.at_, plainT_same s h.k, s _ _ h.pa, s _ _ h.pb, s _ _ h.qa, s _ _ h.qb, h.ne, h.lt⟩
theorem FormAt.same {H H' : Hp} {fm : Addr} {F : Frm} (s : Same H H') (h : FormAt H fm F) : FormAt H' fm F :=
  ⟨s _ _ h.fm, s _ _ h.tabs, h.a.same s, h.b.same s, h.ne, h.sa, h.sb, h.ka, h.kb⟩
/-- one of the form's two tables -/
def Of (F : Frm) (t : Tab) : Prop := t = F.a ∨ t = F.b
theorem FormAt.tab {H : Hp} {fm : Addr} {F : Frm} {t : Tab} (h : FormAt H fm F) (o : Of F t) : TabAt H t := by
  rcases o with rfl | rfl
  · exact h.a
  · exact h.b

/-! ### table_at -/
def spTableAt : Sp := fun vs H Q _ => ∃ (fm : Addr) (F : Frm) (t : Tab), vs = [.ref fm, .str t.nm] ∧ FormAt H fm F ∧ Of F t ∧ Q (.ref t.at_) H
theorem sc_tableAt : FnScope ["form", "table", "one"] ["form", "table"] (defScope (top 17)) := ⟨rfl, rfl, rfl, by decide +kernel, rfl, by decide +kernel, by decide +kernel⟩
theorem cl_tableAt (D : DefAt K mg "table_at" (top 17)) : Cl P w K mg base 1 "table_at" spTableAt := by
  refine cl_mk D sc_tableAt (fun _ _ _ _ _ _ us hl => match us, hl with | [_, _], _ => rfl) (fun vs H Q E h => ?_) (fun f cdv A outer s H vs Q E hr h => ?_)
  · obtain ⟨fm, F, t, rfl, _⟩ := h
    rfl
  · obtain ⟨fm, F, t, rfl, hF, ht, q⟩ := h
    refine ⟨_, pss_cons (ps_for PassesOwn.never rfl (pi_tup (pe_ix ix_tup (pv 0) pe_int (fun _ _ => rfl))) (pg_name (i := 2) sc_tableAt.nd rfl (Or.inl rfl))
      (pss_one (ps_if (pt_cmpR op_eq (pe_ix ix_tup (pv 2) pe_int (fun _ _ => rfl)) (pv 1) (nomark _)) (pss_one (ps_ret (pv 2))) pss_nil))) pss_never, ?_⟩
    refine ⟨_, rfl, fm, _, _, _, rfl, rfl, SqT.of hF.fm, atI_nat (j := 1) rfl, F.tabs, rfl, ⟨_, SqT.of hF.tabs⟩, ?_⟩
    refine for_tup (xs := [.ref F.a.at_, .ref F.b.at_]) (fun i σ H' => H' = H ∧ (∃ o, σ = [some (.ref fm), some (.str t.nm), o]) ∧ (i = 0 ∨ (i = 1 ∧ t = F.b))) ⟨rfl, ⟨_, rfl⟩, .inl rfl⟩ (fun i σ H' _ p => by rw [p.1]; exact SqT.of hF.tabs) ?_ ?_
    · rintro i x σ H' hx ⟨rfl, ⟨o, rfl⟩, hi⟩
      rcases hi with rfl | ⟨rfl, rfl⟩
      · cases Option.some.inj hx
        refine ⟨_, rfl, F.a.at_, _, _, _, rfl, rfl, SqT.of hF.a.at_, atI_nat (j := 0) rfl, _, rfl, rfl, _, rfl, ?_⟩
        rcases ht with rfl | rfl
        · exact ifY rfl ⟨_, rfl, q⟩
        · exact ifN (fun z => hF.ne (V.str.inj z)) ⟨rfl, ⟨_, rfl⟩, .inr ⟨rfl, rfl⟩⟩
      · cases Option.some.inj hx
        refine ⟨_, rfl, F.b.at_, _, _, _, rfl, rfl, SqT.of hF.b.at_, atI_nat (j := 0) rfl, _, rfl, rfl, _, rfl, ?_⟩
        exact ifY rfl ⟨_, rfl, q⟩
    · rintro σ H' ⟨_, _, h | ⟨h, _⟩⟩
      · exact absurd h (by simp)
      · exact absurd h (by simp)

/-! ### tables_of, head_of, sort_of -/
def spTablesOf : Sp := fun vs H Q _ => ∃ (fm : Addr) (F : Frm), vs = [.ref fm] ∧ FormAt H fm F ∧ ∀ p, H p = none → Q (.ref p) (upd H p (.lst [.str F.a.nm, .str F.b.nm]))
theorem sc_tablesOf : FnScope ["form", "one"] ["form"] (defScope (top 18)) := ⟨rfl, rfl, rfl, by decide +kernel, rfl, by decide +kernel, by decide +kernel⟩
theorem cl_tablesOf (D : DefAt K mg "tables_of" (top 18)) : Cl P w K mg base 1 "tables_of" spTablesOf := by
  refine cl_mk D sc_tablesOf (fun _ _ _ _ _ _ us hl => match us, hl with | [_], _ => rfl) (fun vs H Q E h => ?_) (fun f cdv A outer s H vs Q E hr h => ?_)
  · obtain ⟨fm, F, rfl, _⟩ := h
    rfl
  · obtain ⟨fm, F, rfl, hF, q⟩ := h
    refine ⟨_, pss_one (ps_ret (pe_lc (own := [("one", 1)]) (g := gName 1) (tt := tYes) rfl sc_tablesOf.nd (pi_tup (pe_ix ix_tup (pv 0) pe_int (fun _ _ => rfl))) (blkOk_by (N := ["form", "one"]) (sc := defScope (top 18)) (by decide +kernel))
      (fun _ _ _ _ _ => pg_name (i := 1) sc_tablesOf.nd rfl (Or.inl rfl)) (fun _ _ _ _ _ => pts_nil) (fun _ _ _ _ _ => pe_ix (ixT (K := K) rfl) (pv 1) pe_int (fun _ _ => rfl)))), ?_⟩
    refine ⟨_, rfl, fm, _, _, _, rfl, rfl, SqT.of hF.fm, atI_nat (j := 1) rfl, F.tabs, rfl, ⟨_, SqT.of hF.tabs⟩, fun D hD => ?_⟩
    have sm : ∀ o, Same H (upd H D o) := fun o => same_upd hD
    refine lc_tup (K := K) (a := F.tabs) (xs := [.ref F.a.at_, .ref F.b.at_]) (fun i H' => H' = upd H D (.lst (([.str F.a.nm, .str F.b.nm] : List V).take i))) rfl (fun i H' _ p => by rw [p]; exact SqT.of (sm _ _ _ hF.tabs)) ?_ ?_
    · rintro i x H' hx rfl
      match i, hx with
      | 0, hx =>
        cases Option.some.inj hx
        exact lcY rfl ⟨_, rfl, F.a.at_, _, _, _, rfl, rfl, SqT.of (sm _ _ _ hF.a.at_), atI_nat (j := 0) rfl, _, upd_same, by show 0 < sizeLine; decide, upd_upd⟩
      | 1, hx =>
        cases Option.some.inj hx
        exact lcY rfl ⟨_, rfl, F.b.at_, _, _, _, rfl, rfl, SqT.of (sm _ _ _ hF.b.at_), atI_nat (j := 0) rfl, _, upd_same, by show 1 < sizeLine; decide, upd_upd⟩
      | i + 2, hx => exact absurd hx (by simp)
    · rintro H' rfl
      exact q D hD
def spHeadOf : Sp := fun vs H Q _ => ∃ (fm : Addr) (F : Frm), vs = [.ref fm] ∧ FormAt H fm F ∧ Q (.str F.a.nm) H
theorem sc_headOf : FnScope ["form"] ["form"] (defScope (top 19)) := ⟨rfl, rfl, rfl, by decide +kernel, rfl, by decide +kernel, by decide +kernel⟩
theorem cl_headOf (D : DefAt K mg "head_of" (top 19)) : Cl P w K mg base 1 "head_of" spHeadOf := by
  refine cl_mk D sc_headOf (fun _ _ _ _ _ _ us hl => match us, hl with | [_], _ => rfl) (fun vs H Q E h => ?_) (fun f cdv A outer s H vs Q E hr h => ?_)
  · obtain ⟨fm, F, rfl, _⟩ := h
    rfl
  · obtain ⟨fm, F, rfl, hF, q⟩ := h
    refine ⟨_, pss_one (ps_ret (pe_ix ix_tup (pe_ix ix_tup (pe_ix ix_tup (pv 0) pe_int (fun _ _ => rfl)) pe_int (fun _ _ => rfl)) pe_int (fun _ _ => rfl))), ?_⟩
    exact ⟨_, rfl, fm, _, _, _, rfl, rfl, SqT.of hF.fm, atI_nat (j := 1) rfl, F.tabs, _, _, _, rfl, rfl, SqT.of hF.tabs, atI_nat (j := 0) rfl, F.a.at_, _, _, _, rfl, rfl, SqT.of hF.a.at_, atI_nat (j := 0) rfl, q⟩
def spSortOf : Sp := fun vs H Q _ => ∃ (fm : Addr) (F : Frm) (t : Tab), vs = [.ref fm, .str t.nm] ∧ FormAt H fm F ∧ Of F t ∧ Q (.str t.so) H
theorem sc_sortOf : FnScope ["form", "table"] ["form", "table"] (defScope (top 20)) := ⟨rfl, rfl, rfl, by decide +kernel, rfl, by decide +kernel, by decide +kernel⟩
theorem cl_sortOf (D : DefAt K mg "sort_of" (top 20)) (C1 : Cl P w K mg base 1 "table_at" spTableAt) : Cl P w K mg base 2 "sort_of" spSortOf := by
  refine cl_mk D sc_sortOf (fun _ _ _ _ _ _ us hl => match us, hl with | [_, _], _ => rfl) (fun vs H Q E h => ?_) (fun f cdv A outer s H vs Q E hr h => ?_)
  · obtain ⟨fm, F, t, rfl, _⟩ := h
    rfl
  · obtain ⟨fm, F, t, rfl, hF, ht, q⟩ := h
    refine ⟨_, pss_one (ps_ret (pe_ix ix_tup (pe_cl C1 hr (by decide) (by rfl) (pa_cons (pv 0) (pa_cons (pv 1) pa_nil))) pe_int (fun _ _ => rfl))), ?_⟩
    exact ⟨_, rfl, _, rfl, fm, F, t, rfl, hF, ht, t.at_, _, _, _, rfl, rfl, SqT.of (hF.tab ht).at_, atI_nat (j := 1) rfl, q⟩

/-! ### columns_of -/
def spColumnsOf : Sp := fun vs H Q _ => ∃ (fm : Addr) (F : Frm) (t : Tab), vs = [.ref fm, .str t.nm] ∧ FormAt H fm F ∧ Of F t ∧ ∀ p, H p = none → Q (.ref p) (upd H p (.dK [(Sum.inr t.ca, .ref t.qa), (Sum.inr t.cb, .ref t.qb)]))
theorem merge_two {x y : Str} {u v : V} (h : ¬ x = y) : mergeK [] [(Sum.inr x, u), (Sum.inr y, v)] = [(Sum.inr x, u), (Sum.inr y, v)] := by
  have h2 : ¬ (Sum.inr x : Key) = Sum.inr y := fun z => h (Sum.inr.inj z)
  show putK (putK [] (Sum.inr x) u) (Sum.inr y) v = _
  rw [show putK ([] : List (Key × V)) (Sum.inr x) u = [(Sum.inr x, u)] from rfl, putK_new _ (by rw [valV_neg (p := (Sum.inr x, u)) h2]; rfl)]
  rfl
theorem sc_columnsOf : FnScope ["form", "table"] ["form", "table"] (defScope (top 21)) := ⟨rfl, rfl, rfl, by decide +kernel, rfl, by decide +kernel, by decide +kernel⟩
theorem cl_columnsOf (D : DefAt K mg "columns_of" (top 21)) (G : Gs mg) (C1 : Cl P w K mg base 1 "table_at" spTableAt) : Cl P w K mg base 2 "columns_of" spColumnsOf := by
  refine cl_mk D sc_columnsOf (fun _ _ _ _ _ _ us hl => match us, hl with | [_, _], _ => rfl) (fun vs H Q E h => ?_) (fun f cdv A outer s H vs Q E hr h => ?_)
  · obtain ⟨fm, F, t, rfl, _⟩ := h
    rfl
  · obtain ⟨fm, F, t, rfl, hF, ht, q⟩ := h
    have T := hF.tab ht
    refine ⟨_, pss_one (ps_ret (pe_callTy (_root_.K18.call_dictTup rfl) (by rfl) G.dict PyProof.Rows.boot_dict (pa_cons (pe_ix ix_tup (pe_cl C1 hr (by decide) (by rfl) (pa_cons (pv 0) (pa_cons (pv 1) pa_nil))) pe_int (fun _ _ => rfl)) pa_nil))), ?_⟩
    refine ⟨_, rfl, _, rfl, fm, F, t, rfl, hF, ht, t.at_, _, _, _, rfl, rfl, SqT.of T.at_, atI_nat (j := 2) rfl, t.k, [t.pa, t.pb], [(Sum.inr t.ca, .ref t.qa), (Sum.inr t.cb, .ref t.qb)], rfl, T.k, .cons (SqT.of T.pa) (.cons (SqT.of T.pb) .nil), fun p hp => ?_⟩
    rw [merge_two T.ne]
    exact q p hp
end K18
end L2
namespace L2
open PySem PySem.Spec PyProof.Rows
namespace K18
variable {P : Program} {w : World} {K : PySem.W.Frag} {mg : Str → Option Value} {base : Heap}

/-- a row of a table -/
def rowOf (t : Tab) (x y : V) : List (Key × V) := [(Sum.inr t.ca, x), (Sum.inr t.cb, y)]
theorem rowOf_a {t : Tab} {x y : V} : valV (rowOf t x y) (Sum.inr t.ca) = some x := valV_pos (p := (Sum.inr t.ca, x)) rfl
theorem rowOf_b {t : Tab} {x y : V} (h : ¬ t.ca = t.cb) : valV (rowOf t x y) (Sum.inr t.cb) = some y := by
  unfold rowOf
  rw [valV_neg (p := (Sum.inr t.ca, x)) (fun z => h (Sum.inr.inj z))]
  exact valV_pos (p := (Sum.inr t.cb, y)) rfl

/-! ### fits_columns -/
def spFitsCols (K : PySem.W.Frag) : Sp := fun vs H Q _ => ∃ (S : Int) (t : Tab) (r : Addr) (x y : V), vs = [.int S, .ref t.k, .ref r] ∧ TabAt H t ∧ H r = some (.dK (rowOf t x y)) ∧ Fit K H S t.qa x ∧ Fit K H S t.qb y ∧ Q (.bl true) H
theorem sc_fitsCols : FnScope ["size", "columns", "row", "column", "kind"] ["size", "columns", "row"] (defScope (top 22)) := ⟨rfl, rfl, rfl, by decide +kernel, rfl, by decide +kernel, by decide +kernel⟩
theorem cl_fitsCols (D : DefAt K mg "fits_columns" (top 22)) (G : Gs mg) (C3 : Cl P w K mg base 3 "fits" (spFits K)) : Cl P w K mg base 4 "fits_columns" (spFitsCols K) := by
  refine cl_mk D sc_fitsCols (fun _ _ _ _ _ _ us hl => match us, hl with | [_, _, _], _ => rfl) (fun vs H Q E h => ?_) (fun f cdv A outer s H vs Q E hr h => ?_)
  · obtain ⟨S, t, r, x, y, rfl, _⟩ := h
    rfl
  · obtain ⟨S, t, r, x, y, rfl, T, hrow, fa, fb, q⟩ := h
    have hu := hu_of hr
    refine ⟨_, pss_cons (ps_if (PW.pt (pw_or (pt_not (pt_val (pe_callB call_isi (by rfl) G.isinstance PyProof.Rows.boot_isinstance (pa_cons (pv 2) (pa_cons (pe_bltn (v := .ty "dict") (by rfl) G.dict PyProof.Rows.boot_dict rfl) pa_nil)))))
        (pw_or1 (pt_cmpR op_ne (pe_callB call_lenD (by rfl) G.len PySem.boot_len (pa_cons (pv 2) pa_nil)) (pe_callB call_len_seq (by rfl) G.len PySem.boot_len (pa_cons (pv 1) pa_nil)) (nomark _))))) pss_never pss_nil)
      (pss_cons (ps_for PassesOwn.never rfl (pi_tup (pv 1)) (pg_tup rfl (pgs_cons (pg_name (i := 3) sc_fitsCols.nd rfl (Or.inl rfl)) (pgs_cons (pg_name (i := 4) sc_fitsCols.nd rfl (Or.inl rfl)) pgs_nil)))
        (pss_one (ps_if (PW.pt (pw_or (pt_cmp (pc_dnotin hu (pv 3) (pv 2))) (pw_or1 (pt_not (pt_val (pe_cl C3 hr (by decide) (by rfl) (pa_cons (pv 4) (pa_cons (pe_dget hu (pv 2) (pv 3) (fun _ _ => rfl)) (pa_cons (pv 0) pa_nil))))))))) pss_never pss_nil)))
      (pss_one (ps_ret pe_bl))), ?_⟩
    refine ⟨_, rfl, _, _, _, _, true, rfl, .ty "dict", .base (.dK hrow), kit_ty (by decide +kernel), true, rfl, iteF ?_⟩
    refine ⟨_, rfl, r, _, rfl, hrow, _, rfl, t.k, _, rfl, .inr T.k.sq, rfl, _, rfl, ifNY rfl ?_⟩
    refine ⟨_, rfl, t.k, rfl, ⟨_, T.k.sq⟩, ?_⟩
    refine for_tup (xs := [.ref t.pa, .ref t.pb]) (fun i σ H' => H' = H ∧ ∃ o1 o2, σ = [some (.int S), some (.ref t.k), some (.ref r), o1, o2]) ⟨rfl, _, _, rfl⟩ (fun i σ H' _ p => by rw [p.1]; exact T.k.sq) ?_ ?_
    · rintro i z σ H' hz ⟨rfl, o1, o2, rfl⟩
      match i, hz with
      | 0, hz =>
        cases Option.some.inj hz
        refine ⟨t.pa, _, rfl, SqT.of T.pa, rfl, _, _, rfl, _, _, rfl, rfl, ?_⟩
        refine ⟨_, rfl, _, rfl, r, _, rfl, DGet.k (k := Sum.inr t.ca) hrow, _, rfl, ?_⟩
        rw [rowOf_a]
        refine iteF ?_
        refine ⟨_, rfl, _, rfl, _, rfl, r, _, rfl, (by have g := DGet.k (k := Sum.inr t.ca) hrow; rw [rowOf_a] at g; exact g), _, rfl, t.qa, x, S, rfl, fa, true, rfl, iteF ⟨rfl, _, _, rfl⟩⟩
      | 1, hz =>
        cases Option.some.inj hz
        refine ⟨t.pb, _, rfl, SqT.of T.pb, rfl, _, _, rfl, _, _, rfl, rfl, ?_⟩
        refine ⟨_, rfl, _, rfl, r, _, rfl, DGet.k (k := Sum.inr t.cb) hrow, _, rfl, ?_⟩
        rw [rowOf_b T.ne]
        refine iteF ?_
        refine ⟨_, rfl, _, rfl, _, rfl, r, _, rfl, (by have g := DGet.k (k := Sum.inr t.cb) hrow; rw [rowOf_b T.ne] at g; exact g), _, rfl, t.qb, y, S, rfl, fb, true, rfl, iteF ⟨rfl, _, _, rfl⟩⟩
      | i + 2, hz => exact absurd hz (by simp)
    · rintro σ H' ⟨rfl, _⟩
      exact q

/-! ### is_row -/
def spIsRow (K : PySem.W.Frag) : Sp := fun vs H Q _ => ∃ (fm : Addr) (F : Frm) (t : Tab) (r : Addr) (x y : V), vs = [.ref fm, .str t.nm, .ref r] ∧ FormAt H fm F ∧ Of F t ∧ H r = some (.dK (rowOf t x y)) ∧ Fit K H F.size t.qa x ∧ Fit K H F.size t.qb y ∧ Q (.bl true) H
theorem sc_isRow : FnScope ["form", "table", "row", "name", "sort", "columns"] ["form", "table", "row"] (defScope (top 23)) := ⟨rfl, rfl, rfl, by decide +kernel, rfl, by decide +kernel, by decide +kernel⟩
theorem cl_isRow (D : DefAt K mg "is_row" (top 23)) (C4 : Cl P w K mg base 4 "fits_columns" (spFitsCols K)) : Cl P w K mg base 5 "is_row" (spIsRow K) := by
  refine cl_mk D sc_isRow (fun _ _ _ _ _ _ us hl => match us, hl with | [_, _, _], _ => rfl) (fun vs H Q E h => ?_) (fun f cdv A outer s H vs Q E hr h => ?_)
  · obtain ⟨fm, F, t, r, x, y, rfl, _⟩ := h
    rfl
  · obtain ⟨fm, F, t, r, x, y, rfl, hF, ht, hrow, fa, fb, q⟩ := h
    refine ⟨_, pss_cons (ps_for PassesOwn.never rfl (pi_tup (pe_ix ix_tup (pv 0) pe_int (fun _ _ => rfl)))
        (pg_tup rfl (pgs_cons (pg_name (i := 3) sc_isRow.nd rfl (Or.inl rfl)) (pgs_cons (pg_name (i := 4) sc_isRow.nd rfl (Or.inl rfl)) (pgs_cons (pg_name (i := 5) sc_isRow.nd rfl (Or.inl rfl)) pgs_nil))))
      (pss_one (ps_if (pt_cmpR op_eq (pv 3) (pv 1) (nomark _)) (pss_one (ps_ret (pe_cl C4 hr (by decide) (by rfl) (pa_cons (pe_ix ix_tup (pv 0) pe_int (fun _ _ => rfl)) (pa_cons (pv 5) (pa_cons (pv 2) pa_nil)))))) pss_nil))) pss_never, ?_⟩
    refine ⟨_, rfl, fm, _, _, _, rfl, rfl, SqT.of hF.fm, atI_nat (j := 1) rfl, F.tabs, rfl, ⟨_, SqT.of hF.tabs⟩, ?_⟩
    refine for_tup (xs := [.ref F.a.at_, .ref F.b.at_]) (fun i σ H' => H' = H ∧ (∃ o1 o2 o3, σ = [some (.ref fm), some (.str t.nm), some (.ref r), o1, o2, o3]) ∧ (i = 0 ∨ (i = 1 ∧ t = F.b))) ⟨rfl, ⟨_, _, _, rfl⟩, .inl rfl⟩ (fun i σ H' _ p => by rw [p.1]; exact SqT.of hF.tabs) ?_ ?_
    · rintro i z σ H' hz ⟨rfl, ⟨o1, o2, o3, rfl⟩, hi⟩
      have fin : ∀ u : Tab, Of F u → u = t → (TabAt H' u) → (∃ v, some (some (V.ref u.k)) = some (some v) ∧ v = V.ref t.k) := fun u _ e _ => ⟨_, rfl, by rw [e]⟩
      rcases hi with rfl | ⟨rfl, rfl⟩
      · cases Option.some.inj hz
        refine ⟨F.a.at_, _, rfl, SqT.of hF.a.at_, rfl, _, _, rfl, _, _, rfl, _, _, rfl, rfl, ?_⟩
        refine ⟨_, rfl, _, rfl, rfl, _, rfl, ?_⟩
        rcases ht with rfl | rfl
        · exact ifY rfl ⟨_, rfl, fm, _, _, _, rfl, rfl, SqT.of hF.fm, atI_nat (j := 0) rfl, _, rfl, _, rfl, F.size, F.a, r, x, y, rfl, hF.a, hrow, fa, fb, q⟩
        · exact ifN (fun z => hF.ne (V.str.inj z)) ⟨rfl, ⟨_, _, _, rfl⟩, .inr ⟨rfl, rfl⟩⟩
      · cases Option.some.inj hz
        refine ⟨F.b.at_, _, rfl, SqT.of hF.b.at_, rfl, _, _, rfl, _, _, rfl, _, _, rfl, rfl, ?_⟩
        refine ⟨_, rfl, _, rfl, rfl, _, rfl, ?_⟩
        exact ifY rfl ⟨_, rfl, fm, _, _, _, rfl, rfl, SqT.of hF.fm, atI_nat (j := 0) rfl, _, rfl, _, rfl, F.size, F.b, r, x, y, rfl, hF.b, hrow, fa, fb, q⟩
    · rintro σ H' ⟨_, _, h | ⟨h, _⟩⟩
      · exact absurd h (by simp)
      · exact absurd h (by simp)

/-! ### spot_fits, step_fits -/
/-- a spot as a table may have it -/
def SpotOk (F : Frm) (t : Tab) (k p : Int) : Prop := 0 ≤ k ∧ k < F.size ∧ 0 ≤ p ∧ (p = 0 ∨ t = F.b)
def spSpotFits : Sp := fun vs H Q _ => ∃ (fm : Addr) (F : Frm) (t : Tab) (k p : Int), vs = [.ref fm, .str t.nm, .int k, .int p] ∧ FormAt H fm F ∧ Of F t ∧ SpotOk F t k p ∧ ∀ H', Same H H' → Q (.bl true) H'
theorem sc_spotFits : FnScope ["form", "table", "key", "place"] ["form", "table", "key", "place"] (defScope (top 25)) := ⟨rfl, rfl, rfl, by decide +kernel, rfl, by decide +kernel, by decide +kernel⟩
theorem cl_spotFits (D : DefAt K mg "spot_fits" (top 25)) (C1 : Cl P w K mg base 1 "is_whole" spWhole) (C2 : Cl P w K mg base 2 "sort_of" spSortOf) : Cl P w K mg base 3 "spot_fits" spSpotFits := by
  refine cl_mk D sc_spotFits (fun _ _ _ _ _ _ us hl => match us, hl with | [_, _, _, _], _ => rfl) (fun vs H Q E h => ?_) (fun f cdv A outer s H vs Q E hr h => ?_)
  · obtain ⟨fm, F, t, k, p, rfl, _⟩ := h
    rfl
  · obtain ⟨fm, F, t, k, p, rfl, hF, ht, ⟨h1, h2, h3, h4⟩, q⟩ := h
    refine ⟨_, pss_cons (ps_if (PW.pt (pw_or (pt_not (pt_val (pe_cl C1 hr (by decide) (by rfl) (pa_cons (pv 2) pa_nil)))) (pw_or1 (pt_not (pt_val (pe_cl C1 hr (by decide) (by rfl) (pa_cons (pv 3) pa_nil))))))) pss_never pss_nil)
      (pss_cons (ps_if (PW.pt (pw_or (pt_cmpR op_lt (pv 2) pe_int (nomark _)) (pw_or (pt_cmpR op_ge (pv 2) (pe_ix ix_tup (pv 0) pe_int (fun _ _ => rfl)) (nomark _)) (pw_or1 (pt_cmpR op_lt (pv 3) pe_int (nomark _)))))) pss_never pss_nil)
      (pss_one (ps_ret (pe_or (pe_cmpR op_eq (pv 3) pe_int (nomark _)) (pe_one (pe_cmpR op_in_seq (pe_cl C2 hr (by decide) (by rfl) (pa_cons (pv 0) (pa_cons (pv 1) pa_nil))) (pe_tup (pa_cons pe_str (pa_cons pe_str pa_nil))) rfl)))))), ?_⟩
    refine ⟨_, rfl, k, rfl, true, rfl, iteF ⟨_, rfl, p, rfl, true, rfl, iteF ?_⟩⟩
    refine ⟨_, rfl, k, 0, rfl, rfl, _, rfl, ifN (by omega) ?_⟩
    refine ⟨_, rfl, _, rfl, fm, _, _, _, rfl, rfl, SqT.of hF.fm, atI_nat (j := 0) rfl, k, F.size, rfl, rfl, _, rfl, ifN (by omega) ?_⟩
    refine ⟨_, rfl, p, 0, rfl, rfl, _, rfl, ifN (by omega) ?_⟩
    refine ⟨_, rfl, rfl, _, rfl, ?_⟩
    by_cases e : p = 0
    · exact ifY (by rw [e]) (q H (Same.refl H))
    · refine ifN (fun z => e (V.int.inj z)) ?_
      have hb : t = F.b := h4.resolve_left e
      refine ⟨_, rfl, _, rfl, fm, F, t, rfl, hF, ht, by show 2 ≤ sizeLine; decide, fun a ha => ⟨a, _, rfl, .inr (SqT.of upd_same), rfl, rfl, ?_⟩⟩
      have e2 : inV (.str t.so) [.str "many", .str "some"] = true := by
        rw [hb, hF.sb]
        decide +kernel
      show Q (.bl (inV (.str t.so) [.str "many", .str "some"])) _
      rw [e2]
      exact q _ (same_upd ha)
end K18
end L2
namespace L2
open PySem PySem.Spec PyProof.Rows
namespace K18
open _root_.K18 (spotK spotK_inj)

/-! ### spots, sorted -/
abbrev Spot := Int × Int
def leS (p q : Spot) : Bool := !SrtO.lexB q p
def srtS (l : List Spot) : List Spot := l.mergeSort leS
def leI (a b : Int) : Bool := decide (a ≤ b)
def srtI (l : List Int) : List Int := l.mergeSort leI
theorem leS_iff {p q : Spot} : leS p q = true ↔ ¬ (q.1 < p.1 ∨ (q.1 = p.1 ∧ q.2 < p.2)) := by
  unfold leS
  rw [Bool.not_eq_true', SrtO.lexB_no]
theorem srtS_perm (l : List Spot) : (srtS l).Perm l := List.mergeSort_perm l leS
theorem srtI_perm (l : List Int) : (srtI l).Perm l := List.mergeSort_perm l leI
theorem srtS_le (l : List Spot) : (srtS l).Pairwise fun p q => leS p q = true :=
  List.pairwise_mergeSort (fun a b c h1 h2 => by rw [leS_iff] at *; omega) (fun a b => by rw [Bool.or_eq_true, leS_iff, leS_iff]; omega) l
theorem srtI_le (l : List Int) : (srtI l).Pairwise fun a b => leI a b = true :=
  List.pairwise_mergeSort (fun a b c h1 h2 => by simp only [leI, decide_eq_true_eq] at *; omega) (fun a b => by simp only [leI, Bool.or_eq_true, decide_eq_true_eq]; omega) l
theorem srtS_uniq {l m : List Spot} (h : m.Perm l) (s : m.Pairwise fun p q => leS p q = true) : m = srtS l :=
  List.Perm.eq_of_pairwise (le := fun p q => leS p q = true) (fun a b _ _ h1 h2 => by rw [leS_iff] at h1 h2; exact Prod.ext (by omega) (by omega)) s (srtS_le l) (h.trans (srtS_perm l).symm)
theorem srtI_uniq {l m : List Int} (h : m.Perm l) (s : m.Pairwise (· ≤ ·)) : m = srtI l :=
  List.Perm.eq_of_pairwise (le := fun a b => leI a b = true) (fun a b _ _ h1 h2 => by simp only [leI, decide_eq_true_eq] at h1 h2; omega) (s.imp fun h => by simp only [leI, decide_eq_true_eq]; exact h) (srtI_le l) (h.trans (srtI_perm l).symm)

/-! ### lists of pairs -/
section
variable {κ : Type} [DecidableEq κ]
theorem valV_drop (kvs : List (κ × V)) (k j : κ) : valV (dropK kvs k) j = if j = k then none else valV kvs j := by
  unfold dropK
  induction kvs with
  | nil =>
    rw [List.filter_nil, valV_nil]
    split <;> rfl
  | cons p r ih =>
    rw [List.filter_cons]
    by_cases e : p.1 = k
    · rw [if_neg (by simp [e]), ih]
      by_cases ej : j = k
      · rw [if_pos ej, if_pos ej]
      · rw [if_neg ej, if_neg ej, valV_neg (fun z => ej (z.symm.trans e))]
    · rw [if_pos (by simp [e])]
      by_cases ep : p.1 = j
      · rw [valV_pos ep, valV_pos ep, if_neg (fun z => e (ep.trans z))]
      · rw [valV_neg ep, valV_neg ep, ih]
theorem keys_drop (kvs : List (κ × V)) (k : κ) : (dropK kvs k).map (·.1) = (kvs.map (·.1)).filter fun x => decide (x ≠ k) := by
  unfold dropK
  rw [List.filter_map]
  rfl
theorem keys_put_new {kvs : List (κ × V)} {k : κ} (v : V) (h : valV kvs k = none) : (putK kvs k v).map (·.1) = kvs.map (·.1) ++ [k] := by
  rw [putK_new v h, List.map_append]
  rfl
theorem keys_put_old {kvs : List (κ × V)} {k : κ} (v : V) (h : (valV kvs k).isSome = true) : (putK kvs k v).map (·.1) = kvs.map (·.1) := by
  unfold putK
  rw [valV_any, if_pos h, List.map_map]
  refine List.map_congr_left fun p _ => ?_
  show (if p.1 = k then (p.1, v) else p).1 = p.1
  split <;> rfl
theorem valV_some_of_mem {kvs : List (κ × V)} {k : κ} (h : k ∈ kvs.map (·.1)) : ∃ v, valV kvs k = some v := by
  cases e : valV kvs k with
  | some v => exact ⟨v, rfl⟩
  | none => exact absurd h (valV_not e)
theorem valV_none_of {kvs : List (κ × V)} {k : κ} (h : ¬ k ∈ kvs.map (·.1)) : valV kvs k = none := by
  cases e : valV kvs k with
  | none => rfl
  | some v => exact absurd (valV_in e) h
end
theorem spot_mem {L : List Spot} {q : Spot} : spotK q ∈ L.map spotK ↔ q ∈ L := by
  constructor
  · intro h
    obtain ⟨p, hp, e⟩ := List.mem_map.mp h
    rw [← spotK_inj e]
    exact hp
  · exact fun h => List.mem_map.mpr ⟨q, h, rfl⟩

/-! ### a sheet: its rows by their spots -/
structure SheetAt (H : Hp) (s : Addr) (t : Tab) (L : List Spot) (X Y : Spot → V) : Prop where
  ex : ∃ kvs : List (List Key × V), H s = some (.dT kvs) ∧ kvs.map (·.1) = L.map spotK ∧ ∀ q ∈ L, ∃ r, valV kvs (spotK q) = some (.ref r) ∧ H r = some (.dK (rowOf t (X q) (Y q)))
  nd : L.Nodup
theorem SheetAt.keep {H H' : Hp} {s : Addr} {t : Tab} {L : List Spot} {X Y : Spot → V} {l : List Addr} (h : SheetAt H s t L X Y) (k : Keep l H H') (hs : ¬ s ∈ l) (hl : ∀ b, b ∈ l → ∀ x y, H b ≠ some (.dK (rowOf t x y))) : SheetAt H' s t L X Y := by
  obtain ⟨kvs, h1, h2, h3⟩ := h.ex
  refine ⟨⟨kvs, k _ _ h1 hs, h2, fun q hq => ?_⟩, h.nd⟩
  obtain ⟨r, e1, e2⟩ := h3 q hq
  exact ⟨r, e1, k _ _ e2 fun z => hl _ z _ _ e2⟩
theorem SheetAt.same {H H' : Hp} {s : Addr} {t : Tab} {L : List Spot} {X Y : Spot → V} (h : SheetAt H s t L X Y) (k : Same H H') : SheetAt H' s t L X Y :=
  h.keep (l := []) (Keep.of_same k) (fun z => nomatch z) fun _ z => nomatch z
theorem SheetAt.isT {H : Hp} {s : Addr} {t : Tab} {L : List Spot} {X Y : Spot → V} (h : SheetAt H s t L X Y) : ∃ kvs, H s = some (.dT kvs) := by
  obtain ⟨kvs, h1, _⟩ := h.ex
  exact ⟨kvs, h1⟩
/-- the same rows told otherwise -/
theorem SheetAt.congr {H : Hp} {s : Addr} {t : Tab} {L : List Spot} {X Y X' Y' : Spot → V} (h : SheetAt H s t L X Y) (e : ∀ q ∈ L, X q = X' q ∧ Y q = Y' q) : SheetAt H s t L X' Y' := by
  obtain ⟨kvs, h1, h2, h3⟩ := h.ex
  refine ⟨⟨kvs, h1, h2, fun q hq => ?_⟩, h.nd⟩
  obtain ⟨r, e1, e2⟩ := h3 q hq
  obtain ⟨ex, ey⟩ := e q hq
  exact ⟨r, e1, by rw [← ex, ← ey]; exact e2⟩
def setAt (X : Spot → V) (q : Spot) (x : V) : Spot → V := fun p => if p = q then x else X p
theorem setAt_same {X : Spot → V} {q : Spot} {x : V} : setAt X q x q = x := if_pos rfl
theorem setAt_ne {X : Spot → V} {p q : Spot} {x : V} (h : p ≠ q) : setAt X q x p = X p := if_neg h

/-- a row put in where none is -/
theorem SheetAt.add {H H' : Hp} {s r : Addr} {t : Tab} {L : List Spot} {X Y : Spot → V} {q : Spot} {x y : V} {kvs : List (List Key × V)} (h : SheetAt H s t L X Y) (hs : H s = some (.dT kvs)) (hq : ¬ q ∈ L)
    (k : Keep [s] H H') (hr : H' r = some (.dK (rowOf t x y))) (hs' : H' s = some (.dT (putK kvs (spotK q) (.ref r)))) : SheetAt H' s t (L ++ [q]) (setAt X q x) (setAt Y q y) := by
  obtain ⟨kvs0, h1, h2, h3⟩ := h.ex
  rw [hs] at h1
  cases h1
  have nn : valV kvs (spotK q) = none := valV_none_of (by rw [h2, spot_mem]; exact hq)
  refine ⟨⟨_, hs', ?_, fun p hp => ?_⟩, ?_⟩
  · rw [keys_put_new _ nn, h2, List.map_append]
    rfl
  · rw [valV_put]
    by_cases e : p = q
    · subst e
      exact ⟨r, if_pos rfl, by rw [setAt_same, setAt_same]; exact hr⟩
    · rcases List.mem_append.mp hp with hp | hp
      · obtain ⟨r', e1, e2⟩ := h3 p hp
        refine ⟨r', by rw [if_neg (fun z => e (spotK_inj z))]; exact e1, ?_⟩
        rw [setAt_ne e, setAt_ne e]
        exact k _ _ e2 fun z => by
          rw [List.mem_singleton.mp z, hs] at e2
          cases e2
      · exact absurd (List.mem_singleton.mp hp) e
  · exact nd_snoc h.nd hq
/-- a row put in the place of another -/
theorem SheetAt.set {H H' : Hp} {s r : Addr} {t : Tab} {L : List Spot} {X Y : Spot → V} {q : Spot} {x y : V} {kvs : List (List Key × V)} (h : SheetAt H s t L X Y) (hs : H s = some (.dT kvs)) (hq : q ∈ L)
    (k : Keep [s] H H') (hr : H' r = some (.dK (rowOf t x y))) (hs' : H' s = some (.dT (putK kvs (spotK q) (.ref r)))) : SheetAt H' s t L (setAt X q x) (setAt Y q y) := by
  obtain ⟨kvs0, h1, h2, h3⟩ := h.ex
  rw [hs] at h1
  cases h1
  obtain ⟨r0, e0, _⟩ := h3 q hq
  refine ⟨⟨_, hs', ?_, fun p hp => ?_⟩, h.nd⟩
  · rw [keys_put_old _ (by rw [e0]; rfl), h2]
  · rw [valV_put]
    by_cases e : p = q
    · subst e
      exact ⟨r, if_pos rfl, by rw [setAt_same, setAt_same]; exact hr⟩
    · obtain ⟨r', e1, e2⟩ := h3 p hp
      refine ⟨r', by rw [if_neg (fun z => e (spotK_inj z))]; exact e1, ?_⟩
      rw [setAt_ne e, setAt_ne e]
      exact k _ _ e2 fun z => by
        rw [List.mem_singleton.mp z, hs] at e2
        cases e2
/-- a row taken away -/
theorem SheetAt.cut {H H' : Hp} {s : Addr} {t : Tab} {L : List Spot} {X Y : Spot → V} {q : Spot} {kvs : List (List Key × V)} (h : SheetAt H s t L X Y) (hs : H s = some (.dT kvs))
    (k : Keep [s] H H') (hs' : H' s = some (.dT (dropK kvs (spotK q)))) : SheetAt H' s t (L.filter fun p => decide (p ≠ q)) X Y := by
  obtain ⟨kvs0, h1, h2, h3⟩ := h.ex
  rw [hs] at h1
  cases h1
  refine ⟨⟨_, hs', ?_, fun p hp => ?_⟩, h.nd.filter _⟩
  · rw [keys_drop, h2, List.filter_map]
    refine congrArg (List.map spotK) (List.filter_congr fun p _ => ?_)
    show decide (spotK p ≠ spotK q) = decide (p ≠ q)
    by_cases e : p = q
    · rw [e]
      simp
    · simp only [ne_eq, e, not_false_eq_true, decide_true, decide_eq_true_eq]
      exact fun z => e (spotK_inj z)
  · obtain ⟨hp, hn⟩ := List.mem_filter.mp hp
    have hn' : p ≠ q := of_decide_eq_true hn
    obtain ⟨r', e1, e2⟩ := h3 p hp
    refine ⟨r', ?_, k _ _ e2 fun z => ?_⟩
    · rw [valV_drop, if_neg fun z => hn' (spotK_inj z)]
      exact e1
    · rw [List.mem_singleton.mp z, hs] at e2
      cases e2
end K18
end L2
namespace L2
open PySem PySem.Spec PyProof.Rows
namespace K18
open _root_.K18 (spotK spotK_inj)
variable {P : Program} {w : World} {K : PySem.W.Frag} {mg : Str → Option Value} {base : Heap}

/-! ### steps -/
inductive Op where
  | add | set | cut
  deriving DecidableEq
def Op.word : Op → Str
  | .add => "add"
  | .set => "set"
  | .cut => "cut"
structure Stp where
  op : Op
  t : Tab
  k : Int
  p : Int
  x : V
  y : V
abbrev Stp.q (st : Stp) : Spot := (st.k, st.p)
/-- a step as a tuple -/
def StpAt (H : Hp) (a : Addr) (st : Stp) : Prop := ∃ more : List V, H a = some (.tup (.str st.op.word :: .str st.t.nm :: .int st.k :: .int st.p :: more)) ∧ (st.op ≠ .cut → ∃ r, more = [.ref r] ∧ H r = some (.dK (rowOf st.t st.x st.y)))
theorem StpAt.keep {H H' : Hp} {a : Addr} {st : Stp} {l : List Addr} (h : StpAt H a st) (k : Keep l H H') (h1 : ∀ b, b ∈ l → ∀ xs, H b ≠ some (.tup xs)) (h2 : ∀ b, b ∈ l → ∀ ks, H b ≠ some (.dK ks)) : StpAt H' a st := by
  obtain ⟨more, e1, e2⟩ := h
  refine ⟨more, k _ _ e1 fun z => h1 _ z _ e1, fun n => ?_⟩
  obtain ⟨r, e3, e4⟩ := e2 n
  exact ⟨r, e3, k _ _ e4 fun z => h2 _ z _ e4⟩
/-- a value that a pointer's column may hold -/
def GoalV (S : Int) (x : V) : Prop := ∃ g : Option Int, x = gV g ∧ ∀ i, g = some i → 0 ≤ i ∧ i < S
/-- values that a row of the table may hold -/
def RowV (F : Frm) (t : Tab) (x y : V) : Prop := GoalV F.size x ∧ (t = F.a → GoalV F.size y) ∧ (t = F.b → ∃ i, y = .int i)
theorem fit_goal {H : Hp} {k : Addr} {S : Int} {x : V} (h : SqT K H k [.str "key"]) (g : GoalV S x) : Fit K H S k x := by
  obtain ⟨g, rfl, r⟩ := g
  exact .key h g r
theorem RowV.fit {H : Hp} {fm : Addr} {F : Frm} {t : Tab} {x y : V} (h : RowV F t x y) (hF : FormAt H fm F) (ht : Of F t) : Fit K H F.size t.qa x ∧ Fit K H F.size t.qb y := by
  have T := hF.tab ht
  refine ⟨fit_goal (SqT.of T.qa) h.1, ?_⟩
  rcases ht with rfl | rfl
  · refine fit_goal (SqT.of ?_) (h.2.1 rfl)
    rw [T.qb, hF.ka]
  · obtain ⟨i, rfl⟩ := h.2.2 rfl
    refine .whole (SqT.of ?_) i
    rw [T.qb, hF.kb]

/-! ### step_fits -/
def spStepFits : Sp := fun vs H Q _ => ∃ (fm : Addr) (F : Frm) (a : Addr) (st : Stp), vs = [.ref fm, .ref a] ∧ FormAt H fm F ∧ Of F st.t ∧ StpAt H a st ∧ SpotOk F st.t st.k st.p ∧ (st.op ≠ .cut → RowV F st.t st.x st.y) ∧ ∀ H', Same H H' → Q (.bl true) H'
theorem sc_stepFits : FnScope ["form", "step"] ["form", "step"] (defScope (top 26)) := ⟨rfl, rfl, rfl, by decide +kernel, rfl, by decide +kernel, by decide +kernel⟩
theorem word_cut {o : Op} : (V.str o.word = V.str "cut") ↔ o = .cut := by
  cases o with
  | add => exact ⟨fun z => absurd z (by decide +kernel), fun z => nomatch z⟩
  | set => exact ⟨fun z => absurd z (by decide +kernel), fun z => nomatch z⟩
  | cut => exact ⟨fun _ => rfl, fun _ => rfl⟩
theorem word_add {o : Op} : (V.str o.word = V.str "add") ↔ o = .add := by
  cases o with
  | add => exact ⟨fun _ => rfl, fun _ => rfl⟩
  | set => exact ⟨fun z => absurd z (by decide +kernel), fun z => nomatch z⟩
  | cut => exact ⟨fun z => absurd z (by decide +kernel), fun z => nomatch z⟩
theorem cl_stepFits (D : DefAt K mg "step_fits" (top 26)) (C3 : Cl P w K mg base 3 "spot_fits" spSpotFits) (C5 : Cl P w K mg base 5 "is_row" (spIsRow K)) : Cl P w K mg base 6 "step_fits" spStepFits := by
  refine cl_mk D sc_stepFits (fun _ _ _ _ _ _ us hl => match us, hl with | [_, _], _ => rfl) (fun vs H Q E h => ?_) (fun f cdv A outer s H vs Q E hr h => ?_)
  · obtain ⟨fm, F, a, st, rfl, _⟩ := h
    rfl
  · obtain ⟨fm, F, a, st, rfl, hF, ht, ⟨more, ha, hm⟩, so, rv, q⟩ := h
    refine ⟨_, pss_cons (ps_if (pt_not (pt_val (pe_cl C3 hr (by decide) (by rfl) (pa_cons (pv 0) (pa_cons (pe_ix ix_tup (pv 1) pe_int (fun _ _ => rfl)) (pa_cons (pe_ix ix_tup (pv 1) pe_int (fun _ _ => rfl)) (pa_cons (pe_ix ix_tup (pv 1) pe_int (fun _ _ => rfl)) pa_nil))))))) pss_never pss_nil)
      (pss_one (ps_ret (pe_or (pe_cmpR op_eq (pe_ix ix_tup (pv 1) pe_int (fun _ _ => rfl)) pe_str (nomark _)) (pe_one (pe_cl C5 hr (by decide) (by rfl) (pa_cons (pv 0) (pa_cons (pe_ix ix_tup (pv 1) pe_int (fun _ _ => rfl)) (pa_cons (pe_ix ix_tup (pv 1) pe_int (fun _ _ => rfl)) pa_nil)))))))), ?_⟩
    refine ⟨_, rfl, _, rfl, a, _, _, _, rfl, rfl, SqT.of ha, atI_nat (j := 1) rfl, _, rfl, a, _, _, _, rfl, rfl, SqT.of ha, atI_nat (j := 2) rfl, _, rfl, a, _, _, _, rfl, rfl, SqT.of ha, atI_nat (j := 3) rfl, fm, F, st.t, st.k, st.p, rfl, hF, ht, so, fun H' sm => ⟨true, rfl, iteF ?_⟩⟩
    refine ⟨_, rfl, a, _, _, _, rfl, rfl, SqT.of (sm _ _ ha), atI_nat (j := 0) rfl, rfl, _, rfl, ?_⟩
    by_cases e : st.op = .cut
    · exact ifY (word_cut.mpr e) (q _ sm)
    · obtain ⟨r, rfl, hr'⟩ := hm e
      have fit := (rv e).fit (K := K) (hF.same sm) ht
      refine ifN (fun z => e (word_cut.mp z)) ⟨_, rfl, _, rfl, a, _, _, _, rfl, rfl, SqT.of (sm _ _ ha), atI_nat (j := 1) rfl, _, rfl, a, _, _, _, rfl, rfl, SqT.of (sm _ _ ha), atI_nat (j := 4) rfl, fm, F, st.t, r, st.x, st.y, rfl, hF.same sm, ht, sm _ _ hr', fit.1, fit.2, q _ sm⟩

/-! ### do_step -/
def stL (st : Stp) (L : List Spot) : List Spot := match st.op with
  | .add => L ++ [st.q]
  | .set => L
  | .cut => L.filter fun p => decide (p ≠ st.q)
def stX (st : Stp) (X : Spot → V) : Spot → V := match st.op with
  | .cut => X
  | _ => setAt X st.q st.x
def stY (st : Stp) (Y : Spot → V) : Spot → V := match st.op with
  | .cut => Y
  | _ => setAt Y st.q st.y
def Can (st : Stp) (L : List Spot) : Prop := match st.op with
  | .add => ¬ st.q ∈ L
  | _ => st.q ∈ L
/-- what a step must be, ahead of it -/
structure StpOk (F : Frm) (st : Stp) (L : List Spot) : Prop where
  t : Of F st.t
  so : SpotOk F st.t st.k st.p
  rv : st.op ≠ .cut → RowV F st.t st.x st.y
  can : Can st L
  few : L.length ≤ 1000
def spDoStep : Sp := fun vs H Q _ => ∃ (fm : Addr) (F : Frm) (sh : Addr) (ks : List (Key × V)) (a : Addr) (st : Stp) (sa : Addr) (L : List Spot) (X Y : Spot → V), vs = [.ref fm, .ref sh, .ref a] ∧ FormAt H fm F ∧ H sh = some (.dK ks) ∧
  StpAt H a st ∧ valV ks (Sum.inr st.t.nm) = some (.ref sa) ∧ SheetAt H sa st.t L X Y ∧ StpOk F st L ∧ ∀ H', Keep [sa] H H' → SheetAt H' sa st.t (stL st L) (stX st X) (stY st Y) → Q .non H'
theorem sc_doStep : FnScope ["form", "sheets", "step", "table", "key", "place", "there"] ["form", "sheets", "step"] (defScope (top 27)) := ⟨rfl, rfl, rfl, by decide +kernel, rfl, by decide +kernel, by decide +kernel⟩
theorem cl_doStep (D : DefAt K mg "do_step" (top 27)) (G : Gs mg) (C6 : Cl P w K mg base 6 "step_fits" spStepFits) : Cl P w K mg base 7 "do_step" spDoStep := by
  refine cl_mk D sc_doStep (fun _ _ _ _ _ _ us hl => match us, hl with | [_, _, _], _ => rfl) (fun vs H Q E h => ?_) (fun f cdv A outer s H vs Q E hr h => ?_)
  · obtain ⟨fm, F, sh, ks, a, st, sa, L, X, Y, rfl, _⟩ := h
    rfl
  · obtain ⟨fm, F, sh, ks, a, st, sa, L, X, Y, rfl, hF, hsh, hst, hsa, S, ok, q⟩ := h
    have hu := hu_of hr
    have nd := sc_doStep.nd
    obtain ⟨more, ha, hm⟩ := id hst
    refine ⟨_, pss_cons (ps_set (i := 3) nd rfl (Or.inl rfl) (pe_ix ix_tup (pv 2) pe_int (fun _ _ => rfl)))
      (pss_cons (ps_set (i := 4) nd rfl (Or.inl rfl) (pe_ix ix_tup (pv 2) pe_int (fun _ _ => rfl)))
      (pss_cons (ps_set (i := 5) nd rfl (Or.inl rfl) (pe_ix ix_tup (pv 2) pe_int (fun _ _ => rfl)))
      (pss_cons (ps_if (pt_cmp (pc_dnotin hu (pv 3) (pv 1))) pss_never pss_nil)
      (pss_cons (ps_if (pt_not (pt_val (pe_cl C6 hr (by decide) (by rfl) (pa_cons (pv 0) (pa_cons (pv 2) pa_nil))))) pss_never pss_nil)
      (pss_cons (ps_set (i := 6) nd rfl (Or.inl rfl) (pe_cmp (pc_din hu (pe_tup (pa_cons (pv 4) (pa_cons (pv 5) pa_nil))) (pe_dget hu (pv 1) (pv 3) (fun _ _ => rfl))) rfl))
      (pss_cons (ps_if (PW.pt (pw_and (pt_cmpR op_eq (pe_ix ix_tup (pv 2) pe_int (fun _ _ => rfl)) pe_str (nomark _)) (pw_and1 (pt_val (pv 6))))) pss_never pss_nil)
      (pss_cons (ps_if (PW.pt (pw_and (pt_cmpR op_ne (pe_ix ix_tup (pv 2) pe_int (fun _ _ => rfl)) pe_str (nomark _)) (pw_and1 (pt_not (pt_val (pv 6)))))) pss_never pss_nil)
      (pss_one (ps_if (pt_cmpR op_eq (pe_ix ix_tup (pv 2) pe_int (fun _ _ => rfl)) pe_str (nomark _))
        (pss_one (ps_expr (pe_bm PySem.F.plainAttrs_dict PySem.F.slot_dict_pop PySem.F.type_dict_pop (_root_.K18.mt_pop1T hu) (pe_dget hu (pv 1) (pv 3) (fun _ _ => rfl)) (pa_cons (pe_tup (pa_cons (pv 4) (pa_cons (pv 5) pa_nil))) pa_nil))))
        (pss_one (ps_dput hu (pe_dget hu (pv 1) (pv 3) (fun _ _ => rfl)) (pe_tup (pa_cons (pv 4) (pa_cons (pv 5) pa_nil))) (pe_callTy call_dictD (by rfl) G.dict PyProof.Rows.boot_dict (pa_cons (pe_ix ix_tup (pv 2) pe_int (fun _ _ => rfl)) pa_nil)) rfl))))))))))), ?_⟩
    have ev : Of F st.t := ok.t
    refine ⟨_, rfl, a, _, _, _, rfl, rfl, SqT.of ha, atI_nat (j := 1) rfl, ?_⟩
    refine ⟨_, rfl, a, _, _, _, rfl, rfl, SqT.of ha, atI_nat (j := 2) rfl, ?_⟩
    refine ⟨_, rfl, a, _, _, _, rfl, rfl, SqT.of ha, atI_nat (j := 3) rfl, ?_⟩
    refine ⟨_, rfl, _, rfl, sh, _, rfl, DGet.k (k := Sum.inr st.t.nm) hsh, _, rfl, ?_⟩
    rw [hsa]
    refine iteF ?_
    refine ⟨_, rfl, _, rfl, fm, F, a, st, rfl, hF, ev, hst, ok.so, ok.rv, fun H1 sm => ⟨true, rfl, iteF ?_⟩⟩
    refine ⟨_, rfl, _, rfl, (by show 2 ≤ sizeLine; decide), fun b hb => ?_⟩
    obtain ⟨kvs, hs, hk, hrow⟩ := S.ex
    have sm2 : Same H (upd H1 b (.tup [.int st.k, .int st.p])) := sm.trans (same_upd hb)
    have gsa : ∀ {H' : Hp}, Same H H' → DGet H' sh (.str st.t.nm) (some (.ref sa)) := fun {H'} s => by
      have g := DGet.k (k := Sum.inr st.t.nm) (s _ _ hsh)
      rw [hsa] at g
      exact g
    refine ⟨_, rfl, _, rfl, sh, _, rfl, gsa sm2, sa, _, rfl, DGet.t (k := spotK st.q) (sm2 _ _ hs) upd_same, ?_⟩
    have hlen : kvs.length ≤ 1000 := by
      have e := congrArg List.length hk
      rw [List.length_map, List.length_map] at e
      rw [e]
      exact ok.few
    have can := ok.can
    unfold Can at can
    have keyT : ∀ {H' : Hp} {c : Addr}, H' c = none → (upd H' c (.tup [.int st.k, .int st.p])) c = some (.tup ((spotK st.q).map kV)) := fun _ => upd_same
    -- the row put in
    have put : st.op ≠ .cut → ∀ H2, Same H H2 → (∀ H', Keep [sa] H H' → (∃ r, H' r = some (.dK (rowOf st.t st.x st.y)) ∧ H' sa = some (.dT (putK kvs (spotK st.q) (.ref r)))) → Q .non H') →
        sDPut (tDGet (tVar 1) (tVar 3)) (tTup (tCons (tVar 4) (tCons (tVar 5) tNil))) (tCB (fun xs H Q => ∃ (a : Addr) (kvs : List (Key × V)), xs = [.ref a] ∧ Rd H a (.dK kvs) ∧ ∀ p, H p = none → Q (.ref p) (upd H p (.dK kvs))) (tCons (tOp (rIxT K) (tVar 2) (tC (.int 4))) tNil))
          { nx := fun _ H' => Q .non H', rt := Q } [some (.ref fm), some (.ref sh), some (.ref a), some (.str st.t.nm), some (.int st.k), some (.int st.p), some (.bl (valV kvs (spotK st.q)).isSome)] H2 := fun n H2 s2 k => by
      obtain ⟨r, rfl, hr'⟩ := hm n
      refine ⟨_, rfl, a, _, _, _, rfl, rfl, SqT.of (s2 _ _ ha), atI_nat (j := 4) rfl, r, _, rfl, .inl (s2 _ _ hr'), fun p hp => ?_⟩
      have s3 := s2.trans (same_upd (o := .dK (rowOf st.t st.x st.y)) hp)
      refine ⟨_, rfl, _, rfl, sh, _, rfl, gsa s3, _, rfl, _, rfl, (by show 2 ≤ sizeLine; decide), fun c hc => ?_⟩
      have s4 := s3.trans (same_upd (o := .tup [.int st.k, .int st.p]) hc)
      refine ⟨sa, _, rfl, DPut.t (k := spotK st.q) (s4 _ _ hs) upd_same (Nat.lt_of_le_of_lt hlen (by decide)), ?_⟩
      have hps : p ≠ sa := fun z => by
        rw [z, s2 _ _ hs] at hp
        cases hp
      have hpc : p ≠ c := ne_of_none (upd_same (H := H2) (a := p) (o := .dK (rowOf st.t st.x st.y))) hc
      refine k _ ((Keep.of_same s4).trans (keep_upd)) ⟨p, ?_, upd_same⟩
      rw [upd_ne hps, upd_ne hpc, upd_same]
    obtain ⟨op, t, k, p, x, y⟩ := st
    cases op with
    | add =>
      have nn : valV kvs (spotK (k, p)) = none := valV_none_of (by rw [hk, spot_mem]; exact can)
      have e0 : (valV kvs (spotK (k, p))).isSome = false := by rw [nn]; rfl
      refine ⟨_, rfl, a, _, _, _, rfl, rfl, SqT.of (sm2 _ _ ha), atI_nat (j := 0) rfl, rfl, _, rfl, ifY rfl ⟨_, rfl, _, rfl, ifFe e0 ?_⟩⟩
      refine ⟨_, rfl, a, _, _, _, rfl, rfl, SqT.of (sm2 _ _ ha), atI_nat (j := 0) rfl, rfl, _, rfl, ifNY rfl (iteF ?_)⟩
      refine ⟨_, rfl, a, _, _, _, rfl, rfl, SqT.of (sm2 _ _ ha), atI_nat (j := 0) rfl, rfl, _, rfl, ifN (fun z => nomatch word_cut.mp z) ?_⟩
      exact put (fun z => nomatch z) _ sm2 fun H' kp ⟨r, h1, h2⟩ => q H' kp (S.add hs can kp h1 h2)
    | set =>
      obtain ⟨r0, e1, _⟩ := hrow (k, p) can
      have e0 : (valV kvs (spotK (k, p))).isSome = true := by rw [e1]; rfl
      refine ⟨_, rfl, a, _, _, _, rfl, rfl, SqT.of (sm2 _ _ ha), atI_nat (j := 0) rfl, rfl, _, rfl, ifN (fun z => nomatch word_add.mp z) (iteF ?_)⟩
      refine ⟨_, rfl, a, _, _, _, rfl, rfl, SqT.of (sm2 _ _ ha), atI_nat (j := 0) rfl, rfl, _, rfl, ifNN (fun z => nomatch word_add.mp z) ⟨_, rfl, _, rfl, ifNTe e0 ?_⟩⟩
      refine ⟨_, rfl, a, _, _, _, rfl, rfl, SqT.of (sm2 _ _ ha), atI_nat (j := 0) rfl, rfl, _, rfl, ifN (fun z => nomatch word_cut.mp z) ?_⟩
      exact put (fun z => nomatch z) _ sm2 fun H' kp ⟨r, h1, h2⟩ => q H' kp (S.set hs can kp h1 h2)
    | cut =>
      obtain ⟨r0, e1, _⟩ := hrow (k, p) can
      have e0 : (valV kvs (spotK (k, p))).isSome = true := by rw [e1]; rfl
      refine ⟨_, rfl, a, _, _, _, rfl, rfl, SqT.of (sm2 _ _ ha), atI_nat (j := 0) rfl, rfl, _, rfl, ifN (fun z => nomatch word_add.mp z) (iteF ?_)⟩
      refine ⟨_, rfl, a, _, _, _, rfl, rfl, SqT.of (sm2 _ _ ha), atI_nat (j := 0) rfl, rfl, _, rfl, ifNN (fun z => nomatch word_add.mp z) ⟨_, rfl, _, rfl, ifNTe e0 ?_⟩⟩
      refine ⟨_, rfl, a, _, _, _, rfl, rfl, SqT.of (sm2 _ _ ha), atI_nat (j := 0) rfl, rfl, _, rfl, ifY rfl ?_⟩
      refine ⟨_, rfl, _, rfl, sh, _, rfl, gsa sm2, .inr (.inr (.inl ⟨rfl, .inr ⟨_, sm2 _ _ hs⟩⟩)), _, rfl, _, rfl, (by show 2 ≤ sizeLine; decide), fun c hc => ?_⟩
      have s4 := sm2.trans (same_upd (o := .tup [.int k, .int p]) hc)
      refine ⟨sa, kvs, spotK (k, p), c, _, rfl, rfl, s4 _ _ hs, upd_same, e1, ?_⟩
      have kp := (Keep.of_same (l := [sa]) s4).trans (keep_upd (o := .dT (dropK kvs (spotK (k, p)))))
      exact q _ kp (S.cut hs kp upd_same)
end K18
end L2
namespace L2
open PySem PySem.Spec PyProof.Rows
namespace K18
open _root_.K18 (spotK spotK_inj)
variable {P : Program} {w : World} {K : PySem.W.Frag} {mg : Str → Option Value} {base : Heap}

/-! ### places_of -/
/-- the places of a thing's rows, as its sheet has them -/
def plc (L : List Spot) (k : Int) : List Int := (L.filter fun q => decide (q.1 = k)).map (·.2)
theorem plc_snoc (L : List Spot) (q : Spot) (k : Int) : plc (L ++ [q]) k = plc L k ++ (if q.1 = k then [q.2] else []) := by
  unfold plc
  rw [List.filter_append, List.map_append]
  congr 1
  by_cases e : q.1 = k
  · simp [e]
  · simp [e]
theorem plc_le (L : List Spot) (k : Int) : (plc L k).length ≤ L.length := by
  unfold plc
  rw [List.length_map]
  exact List.length_filter_le _ _
def spPlacesOf : Sp := fun vs H Q _ => ∃ (s : Addr) (key : Int) (t : Tab) (L : List Spot) (X Y : Spot → V), vs = [.ref s, .int key] ∧ SheetAt H s t L X Y ∧ L.length ≤ 1000 ∧
  ∀ (p : Addr) H', Same H H' → H p = none → H' p = some (.lst ((srtI (plc L key)).map V.int)) → Q (.ref p) H'
theorem sc_placesOf : FnScope ["sheet", "key", "spot"] ["sheet", "key"] (defScope (top 28)) := ⟨rfl, rfl, rfl, by decide +kernel, rfl, by decide +kernel, by decide +kernel⟩
theorem spots_at {kvs : List (List Key × V)} {L : List Spot} (h : kvs.map (·.1) = L.map spotK) {i : Nat} {k : List Key} {v : V} (e : kvs[i]? = some (k, v)) : ∃ q, L[i]? = some q ∧ k = spotK q := by
  have e1 : (kvs.map (·.1))[i]? = some k := by rw [List.getElem?_map, e]; rfl
  rw [h, List.getElem?_map] at e1
  obtain ⟨q, h1, h2⟩ := Option.map_eq_some_iff.mp e1
  exact ⟨q, h1, h2.symm⟩
theorem take_at {α : Type} {L : List α} {i : Nat} {q : α} (h : L[i]? = some q) : L.take (i + 1) = L.take i ++ [q] := by
  rw [List.take_add_one, h]
  rfl
theorem cl_placesOf (D : DefAt K mg "places_of" (top 28)) (G : Gs mg) : Cl P w K mg base 1 "places_of" spPlacesOf := by
  refine cl_mk D sc_placesOf (fun _ _ _ _ _ _ us hl => match us, hl with | [_, _], _ => rfl) (fun vs H Q E h => ?_) (fun f cdv A outer s H vs Q E hr h => ?_)
  · obtain ⟨sh, key, t, L, X, Y, rfl, _⟩ := h
    rfl
  · obtain ⟨sh, key, t, L, X, Y, rfl, S, hL, q⟩ := h
    obtain ⟨kvs, hs, hk, _⟩ := S.ex
    have hlen : kvs.length = L.length := by
      have e := congrArg List.length hk
      rw [List.length_map, List.length_map] at e
      exact e
    refine ⟨_, pss_one (ps_ret (pe_callB cr_sortedI (by rfl) G.sorted PyProof.Rows.boot_sorted (pa_cons (pe_lock (pe_lc (own := [("spot", 2)]) (g := gName 2) rfl sc_placesOf.nd (pi_keys (pv 0)) (blkOk_by (N := ["sheet", "key", "spot"]) (sc := defScope (top 28)) (by decide +kernel))
      (fun _ _ _ _ _ => pg_name (i := 2) sc_placesOf.nd rfl (Or.inl rfl)) (fun _ _ _ _ _ => pts_one (pt_cmpR op_eq (pe_ix (ixT (K := K) rfl) (pv 2) pe_int (fun _ _ => rfl)) (pv 1) (nomark _))) (fun _ _ _ _ _ => pe_ix (ixT (K := K) rfl) (pv 2) pe_int (fun _ _ => rfl)))) pa_nil))), ?_⟩
    refine ⟨sh, _, hs, True.intro, fun od => ⟨_, rfl, sh, od, rfl, .inr ⟨kvs, upd_same, fun D hD => ?_⟩⟩⟩
    have hDs : sh ≠ D := ne_of_none (upd_same (H := H) (a := sh) (o := .frz od (.dT kvs))) hD
    have hD0 : H D = none := by rw [upd_ne (Ne.symm hDs)] at hD; exact hD
    refine lc_it walk_keysT (fun i H' => H' = upd (upd H sh (.frz od (.dT kvs))) D (.lst ((plc (L.take i) key).map V.int))) rfl (fun i H' _ p => by rw [p, upd_ne hDs]; exact upd_same) ?_ ?_
    · rintro i x H1 H2 hi rfl ⟨rfl, k, v, b, e1, rfl, e2⟩
      obtain ⟨g, hg, rfl⟩ := spots_at hk e1
      have lt : ((plc (L.take i) key).map V.int).length < sizeLine := by
        rw [List.length_map]
        have e3 := plc_le (L.take i) key
        have e4 : (L.take i).length ≤ L.length := by rw [List.length_take]; omega
        exact Nat.lt_of_le_of_lt (Nat.le_trans e3 (Nat.le_trans e4 hL)) (by decide)
      refine ⟨rfl, _, rfl, b, _, _, _, rfl, rfl, SqT.of e2, atI_nat (j := 0) rfl, _, rfl, rfl, _, rfl, ?_⟩
      by_cases e : g.1 = key
      · refine ifY (by rw [← e]; rfl) ⟨_, rfl, b, _, _, _, rfl, rfl, SqT.of e2, atI_nat (j := 1) rfl, _, upd_same, lt, ?_⟩
        rw [upd_upd, take_at hg, plc_snoc, if_pos e, List.map_append]
        rfl
      · refine ifN (fun z => e (V.int.inj z)) ?_
        rw [take_at hg, plc_snoc, if_neg e, List.append_nil]
    · rintro H1 rfl
      rw [hlen, List.take_length]
      refine ⟨by rw [upd_ne hDs]; exact upd_same, D, plc L key, rfl, SqL.of (by rw [upd_ne (Ne.symm hDs)]; exact upd_same), fun ns' p hp hs' hpn => ?_⟩
      rw [srtI_uniq hp hs']
      have sm : Same H (upd (upd (upd (upd H sh (.frz od (.dT kvs))) D (.lst ((plc L key).map V.int))) sh (.dT kvs)) p (.lst ((srtI (plc L key)).map V.int))) := fun c o e => by
        by_cases ecs : c = sh
        · subst ecs
          rw [hs] at e
          cases e
          rw [upd_ne (ne_of_none (upd_same) hpn)]
          exact upd_same
        · have hcp : c ≠ p := ne_of_none (H := upd (upd (upd H sh (.frz od (.dT kvs))) D (.lst ((plc L key).map V.int))) sh (.dT kvs)) (o := o) (by rw [upd_ne ecs, upd_ne (ne_of_none e hD0), upd_ne ecs]; exact e) hpn
          rw [upd_ne hcp, upd_ne ecs, upd_ne (ne_of_none e hD0), upd_ne ecs]
          exact e
      refine q p _ sm ?_ upd_same
      have hps : p ≠ sh := fun z => by
        rw [z, upd_same] at hpn
        cases hpn
      have hpD : p ≠ D := fun z => by
        rw [z, upd_ne (Ne.symm hDs), upd_same] at hpn
        cases hpn
      rw [upd_ne hps, upd_ne hpD, upd_ne hps] at hpn
      exact hpn
end K18
end L2
namespace L2
open PySem PySem.Spec PyProof.Rows
namespace K18
open _root_.K18 (spotK spotK_inj)
variable {P : Program} {w : World} {K : PySem.W.Frag} {mg : Str → Option Value} {base : Heap}

/-! ### look_at_places -/
def rangeI (n : Nat) : List Int := (List.range n).map fun (i : Nat) => (i : Int)
theorem rangeI_at {n i : Nat} (h : i < n) : (rangeI n)[i]? = some (i : Int) := by
  unfold rangeI
  rw [List.getElem?_map, List.getElem?_range h]
  rfl
theorem rangeI_len (n : Nat) : (rangeI n).length = n := by
  unfold rangeI
  rw [List.length_map, List.length_range]
/-- places as the sort wants them -/
def RightP (so : Str) (ns : List Int) : Prop := (so = "head" ∧ ns ≠ []) ∨ (so = "some" ∧ ∃ n : Nat, 0 < n ∧ ns = rangeI n)
theorem dpAll_ints {H : Hp} : ∀ ns : List Int, DpAll K H (ns.map V.int) (ns.map PyData.int)
  | [] => .nil
  | n :: r => .cons (.int n) (dpAll_ints r)
theorem shaped_ints' (ns : List Int) : SeqAt.shaped (.list (ns.map PyData.int)) = true := PySem.W.shaped_ints ns
theorem eqv_nil {ns : List Int} (h : ns ≠ []) : PyData.eqv (.list (ns.map PyData.int)) (.list []) = false := by
  cases ns with
  | nil => exact absurd rfl h
  | cons n r => rfl
def spLookPlaces (K : PySem.W.Frag) : Sp := fun vs H Q _ => ∃ (nm so : Str) (key : Int) (p : Addr) (ns : List Int), vs = [.str nm, .str so, .int key, .ref p] ∧ SqL K H p (ns.map V.int) ∧ RightP so ns ∧ ∀ H', Same H H' → Q .non H'
theorem sc_lookPlaces : FnScope ["table", "sort", "key", "places", "place", "found"] ["table", "sort", "key", "places"] (defScope (top 29)) := ⟨rfl, rfl, rfl, by decide +kernel, rfl, by decide +kernel, by decide +kernel⟩
theorem cl_lookPlaces (D : DefAt K mg "look_at_places" (top 29)) (G : Gs mg) : Cl P w K mg base 1 "look_at_places" (spLookPlaces K) := by
  refine cl_mk D sc_lookPlaces (fun _ _ _ _ _ _ us hl => match us, hl with | [_, _, _, _], _ => rfl) (fun vs H Q E h => ?_) (fun f cdv A outer s H vs Q E hr h => ?_)
  · obtain ⟨nm, so, key, p, ns, rfl, _⟩ := h
    rfl
  · obtain ⟨nm, so, key, p, ns, rfl, hp, hR, q⟩ := h
    have nd := sc_lookPlaces.nd
    have hu := hr.units
    refine ⟨_, pss_cons (ps_if (pt_cmpR op_in_seq (pv 1) (pe_tup (pa_cons pe_str (pa_cons pe_str pa_nil))) rfl)
        (pss_cons (ps_if (pt_cmpR (op_eqD hu) (pv 3) (pe_lst pa_nil) (nomark _)) pss_never pss_nil) (pss_one ps_retN)) pss_nil)
      (pss_cons (ps_for PassesOwn.never rfl (pi_enum (by rfl) G.enumerate (pa_cons (pv 3) pa_nil)) (pg_tup rfl (pgs_cons (pg_name (i := 4) nd rfl (Or.inl rfl)) (pgs_cons (pg_name (i := 5) nd rfl (Or.inl rfl)) pgs_nil)))
        (pss_one (ps_if (pt_cmpR op_ne (pv 5) (pv 4) (nomark _)) pss_never pss_nil)))
      (pss_one (ps_if (PW.pt (pw_and (pt_cmpR op_eq (pv 1) pe_str (nomark _)) (pw_and1 (pt_cmpR (op_eqD hu) (pv 3) (pe_lst pa_nil) (nomark _))))) pss_never pss_nil))), ?_⟩
    refine ⟨_, rfl, (by show 2 ≤ sizeLine; decide), fun a ha => ⟨a, _, rfl, .inr (SqT.of upd_same), rfl, rfl, _, rfl, ?_⟩⟩
    have s1 : Same H (upd H a (.tup [.str "head", .str "twin"])) := same_upd ha
    rcases hR with ⟨rfl, hne⟩ | ⟨rfl, n, hn, rfl⟩
    · refine ifTe (by decide +kernel) ?_
      refine ⟨_, rfl, (by show 0 ≤ sizeLine; decide), fun b hb => ?_⟩
      have s2 := s1.trans (same_upd (o := .lst []) hb)
      refine ⟨_, _, .lst (s2.seq hp) (dpAll_ints ns), .lst (SqL.of upd_same) .nil, shaped_ints' ns, rfl, _, rfl, ifFe (eqv_nil hne) ?_⟩
      exact q _ s2
    · refine ifFe (by decide +kernel) ?_
      refine ⟨_, rfl, p, _, rfl, s1.seq hp, ?_⟩
      refine for_it walk_enum (fun i σ H' => Same H H' ∧ ∃ o1 o2, σ = [some (.str nm), some (.str "some"), some (.int key), some (.ref p), o1, o2]) ⟨s1, _, _, rfl⟩ (fun i σ H' _ pp => pp.1.seq hp) ?_ ?_
      · rintro i x σ H1 H2 hi ⟨sm, o1, o2, rfl⟩ ⟨T, y, z, rfl, hT, rfl, ey, ez⟩
        have s3 := sm.trans (same_upd (o := .tup [y, z]) hT)
        rw [List.length_map, rangeI_len] at hi
        have ez2 : ((rangeI n).map V.int)[i]? = some z := ez
        rw [List.getElem?_map, rangeI_at hi] at ez2
        cases Option.some.inj ey
        cases Option.some.inj ez2
        refine ⟨T, _, rfl, SqT.of upd_same, rfl, _, _, rfl, _, _, rfl, rfl, ?_⟩
        exact ⟨_, rfl, _, rfl, rfl, _, rfl, ifNY rfl ⟨s3, _, _, rfl⟩⟩
      · rintro σ H1 ⟨sm, o1, o2, rfl⟩
        refine ⟨_, rfl, rfl, _, rfl, ifY rfl ⟨_, rfl, (by show 0 ≤ sizeLine; decide), fun b hb => ?_⟩⟩
        have s2 := sm.trans (same_upd (o := .lst []) hb)
        have hne : rangeI n ≠ [] := fun z => by
          have e := rangeI_len n
          rw [z] at e
          exact absurd e (by simp; omega)
        exact ⟨_, _, .lst (s2.seq hp) (dpAll_ints _), .lst (SqL.of upd_same) .nil, shaped_ints' _, rfl, _, rfl, ifFe (eqv_nil hne) (q _ s2)⟩

/-! ### look_at_thing -/
/-- a thing's rows are none, or whole -/
def Whole (La Lb : List Spot) (k : Int) : Prop := (plc La k = [] ∧ plc Lb k = []) ∨ (plc La k ≠ [] ∧ ∃ n : Nat, 0 < n ∧ srtI (plc Lb k) = rangeI n)
/-- the sheets of a table: the dict of both -/
structure ShAt (H : Hp) (sh : Addr) (F : Frm) (sa sb : Addr) (La Lb : List Spot) (Xa Ya Xb Yb : Spot → V) : Prop where
  sh : H sh = some (.dK [(Sum.inr F.a.nm, .ref sa), (Sum.inr F.b.nm, .ref sb)])
  a : SheetAt H sa F.a La Xa Ya
  b : SheetAt H sb F.b Lb Xb Yb
  la : La.length ≤ 1000
  lb : Lb.length ≤ 1000
theorem ShAt.same {H H' : Hp} {sh : Addr} {F : Frm} {sa sb : Addr} {La Lb : List Spot} {Xa Ya Xb Yb : Spot → V} (h : ShAt H sh F sa sb La Lb Xa Ya Xb Yb) (s : Same H H') : ShAt H' sh F sa sb La Lb Xa Ya Xb Yb :=
  ⟨s _ _ h.sh, h.a.same s, h.b.same s, h.la, h.lb⟩
theorem same_updD {H H1 : Hp} {D : Addr} {o : HO} (s : Same H H1) (h : H D = none) : Same H (upd H1 D o) := fun b u e => by
  rw [upd_ne (ne_of_none e h)]
  exact s b u e
theorem len_srt (l : List Int) : (srtI l).length = l.length := (srtI_perm l).length_eq
theorem two_a {x y : Str} {u v : V} : valV ([(Sum.inr x, u), (Sum.inr y, v)] : List (Key × V)) (Sum.inr x) = some u := valV_pos (p := (Sum.inr x, u)) rfl
theorem two_b {x y : Str} {u v : V} (h : ¬ x = y) : valV ([(Sum.inr x, u), (Sum.inr y, v)] : List (Key × V)) (Sum.inr y) = some v := by
  rw [valV_neg (p := (Sum.inr x, u)) (fun z => h (Sum.inr.inj z))]
  exact valV_pos (p := (Sum.inr y, v)) rfl
theorem ShAt.ga {H : Hp} {sh : Addr} {F : Frm} {sa sb : Addr} {La Lb : List Spot} {Xa Ya Xb Yb : Spot → V} (h : ShAt H sh F sa sb La Lb Xa Ya Xb Yb) : DGet H sh (.str F.a.nm) (some (.ref sa)) := by
  have g := DGet.k (k := Sum.inr F.a.nm) h.sh
  rw [two_a] at g
  exact g
theorem ShAt.gb {H : Hp} {sh : Addr} {F : Frm} {sa sb : Addr} {La Lb : List Spot} {Xa Ya Xb Yb : Spot → V} (h : ShAt H sh F sa sb La Lb Xa Ya Xb Yb) (n : ¬ F.a.nm = F.b.nm) : DGet H sh (.str F.b.nm) (some (.ref sb)) := by
  have g := DGet.k (k := Sum.inr F.b.nm) h.sh
  rw [two_b n] at g
  exact g
def spLookThing : Sp := fun vs H Q _ => ∃ (fm : Addr) (F : Frm) (sh : Addr) (key : Int) (sa sb : Addr) (La Lb : List Spot) (Xa Ya Xb Yb : Spot → V), vs = [.ref fm, .ref sh, .int key] ∧ FormAt H fm F ∧ ShAt H sh F sa sb La Lb Xa Ya Xb Yb ∧
  Whole La Lb key ∧ ∀ H', Same H H' → Q .non H'
theorem sc_lookThing : FnScope ["form", "sheets", "key", "tables", "table", "many"] ["form", "sheets", "key"] (defScope (top 30)) := ⟨rfl, rfl, rfl, by decide +kernel, rfl, by decide +kernel, by decide +kernel⟩
theorem cl_lookThing (D : DefAt K mg "look_at_thing" (top 30)) (G : Gs mg) (C1 : Cl P w K mg base 1 "tables_of" spTablesOf) (C2 : Cl P w K mg base 1 "places_of" spPlacesOf) (C3 : Cl P w K mg base 2 "sort_of" spSortOf) (C4 : Cl P w K mg base 1 "look_at_places" (spLookPlaces K)) :
    Cl P w K mg base 3 "look_at_thing" spLookThing := by
  refine cl_mk D sc_lookThing (fun _ _ _ _ _ _ us hl => match us, hl with | [_, _, _], _ => rfl) (fun vs H Q E h => ?_) (fun f cdv A outer s H vs Q E hr h => ?_)
  · obtain ⟨fm, F, sh, key, sa, sb, La, Lb, Xa, Ya, Xb, Yb, rfl, _⟩ := h
    rfl
  · obtain ⟨fm, F, sh, key, sa, sb, La, Lb, Xa, Ya, Xb, Yb, rfl, hF, S, hW, q⟩ := h
    have nd := sc_lookThing.nd
    have hu := hu_of hr
    refine ⟨_, pss_cons (ps_set (i := 3) nd rfl (Or.inl rfl) (pe_cl C1 hr (by decide) (by rfl) (pa_cons (pv 0) pa_nil)))
      (pss_cons (ps_set (i := 5) nd rfl (Or.inl rfl) (pe_callB (cr_sum rfl) (by rfl) G.sum PyProof.Rows.boot_sum (pa_cons (pe_lc (own := [("table", 4)]) (g := gName 4) (tt := tYes) rfl nd (pi_list (pv 3)) (blkOk_by (N := ["form", "sheets", "key", "tables", "table", "many"]) (sc := defScope (top 30)) (by decide +kernel))
        (fun _ _ _ _ _ => pg_name (i := 4) nd rfl (Or.inl rfl)) (fun _ _ _ _ _ => pts_nil)
        (fun _ _ _ _ _ => pe_callB (r := fun xs H Q => ∃ p ys, xs = [.ref p] ∧ (SqL K H p ys ∨ SqT K H p ys) ∧ Q (.int ys.length) H) call_len_seq (by rfl) G.len PySem.boot_len (pa_cons (pe_cl C2 hr (by decide) (by rfl) (pa_cons (pe_dget hu (pv 1) (pv 4) (fun _ _ => rfl)) (pa_cons (pv 2) pa_nil))) pa_nil))) pa_nil)))
      (pss_cons (ps_if (pt_cmpR op_eq (pv 5) pe_int (nomark _)) (pss_one ps_retN) pss_nil)
      (pss_one (ps_for PassesOwn.never rfl (pi_list (pv 3)) (pg_name (i := 4) nd rfl (Or.inl rfl))
        (pss_one (ps_expr (pe_cl C4 hr (by decide) (by rfl) (pa_cons (pv 4) (pa_cons (pe_cl C3 hr (by decide) (by rfl) (pa_cons (pv 0) (pa_cons (pv 4) pa_nil))) (pa_cons (pv 2) (pa_cons (pe_cl C2 hr (by decide) (by rfl) (pa_cons (pe_dget hu (pv 1) (pv 4) (fun _ _ => rfl)) (pa_cons (pv 2) pa_nil))) pa_nil))))))))))), ?_⟩
    refine ⟨_, rfl, fm, F, rfl, hF, fun pT hpT => ?_⟩
    have s1 : Same H (upd H pT (.lst [.str F.a.nm, .str F.b.nm])) := same_upd hpT
    generalize hH1 : upd H pT (.lst [.str F.a.nm, .str F.b.nm]) = H1 at s1
    have hT : H1 pT = some (.lst [.str F.a.nm, .str F.b.nm]) := by rw [← hH1]; exact upd_same
    refine ⟨_, rfl, pT, rfl, ⟨_, SqL.of hT⟩, fun D hD => ?_⟩
    have d0 : Same H1 (upd H1 D (.lst [])) := same_upd hD
    refine lc_list (K := K) (a := pT) (xs := [.str F.a.nm, .str F.b.nm]) (fun i H' => Same H1 H' ∧ H' D = some (.lst ((([((plc La key).length : Int), ((plc Lb key).length : Int)] : List Int).take i).map V.int))) ⟨d0, upd_same⟩ (fun i H' _ p => SqL.of (p.1 _ _ hT)) ?_ ?_
    · rintro i x H2 hx ⟨s2, hd2⟩
      match i, hx with
      | 0, hx =>
        cases Option.some.inj hx
        have S2 := (S.same s1).same s2
        refine lcY rfl ?_
        refine ⟨_, rfl, _, rfl, sh, _, rfl, S2.ga, _, rfl, sa, key, F.a, La, Xa, Ya, rfl, S2.a, S2.la, fun p2 H4 s4 hp2 hl2 => ?_⟩
        refine ⟨p2, _, rfl, .inl (SqL.of hl2), _, s4 _ _ hd2, (by show 0 < sizeLine; decide), same_updD (s2.trans s4) hD, ?_⟩
        rw [upd_same, List.length_map, len_srt]
        rfl
      | 1, hx =>
        cases Option.some.inj hx
        have S2 := (S.same s1).same s2
        refine lcY rfl ?_
        refine ⟨_, rfl, _, rfl, sh, _, rfl, S2.gb hF.ne, _, rfl, sb, key, F.b, Lb, Xb, Yb, rfl, S2.b, S2.lb, fun p2 H4 s4 hp2 hl2 => ?_⟩
        refine ⟨p2, _, rfl, .inl (SqL.of hl2), _, s4 _ _ hd2, (by show 1 < sizeLine; decide), same_updD (s2.trans s4) hD, ?_⟩
        rw [upd_same, List.length_map, len_srt]
        rfl
      | i + 2, hx => exact absurd hx (by simp)
    · rintro H2 ⟨s2, hd2⟩
      refine ⟨D, [((plc La key).length : Int), ((plc Lb key).length : Int)], rfl, SqL.of hd2, ?_⟩
      have s12 := s1.trans s2
      refine ⟨_, rfl, rfl, _, rfl, ?_⟩
      have esum : ([((plc La key).length : Int), ((plc Lb key).length : Int)] : List Int).sum = ((plc La key).length : Int) + ((plc Lb key).length : Int) := by simp
      rw [esum]
      rcases hW with ⟨h1, h2⟩ | ⟨h1, n, hn, h2⟩
      · refine ifY (by rw [h1, h2]; rfl) ?_
        exact q _ s12
      · have hpos : 0 < (plc La key).length := List.length_pos_iff.mpr h1
        refine ifN (fun z => ?_) ?_
        · have z2 := V.int.inj z
          omega
        refine ⟨_, rfl, pT, rfl, ⟨_, SqL.of (s2 _ _ hT)⟩, ?_⟩
        refine for_list (K := K) (a := pT) (xs := [.str F.a.nm, .str F.b.nm]) (fun i σ H' => Same H2 H' ∧ ∃ o m, σ = [some (.ref fm), some (.ref sh), some (.int key), some (.ref pT), o, some m]) ⟨Same.refl _, _, _, rfl⟩ (fun i σ H' _ p => SqL.of (p.1 _ _ (s2 _ _ hT))) ?_ ?_
        · rintro i x σ H3 hx ⟨s3, o, m, rfl⟩
          have s13 := s12.trans s3
          have S3 := S.same s13
          have hF3 := hF.same s13
          match i, hx with
          | 0, hx =>
            cases Option.some.inj hx
            refine ⟨_, rfl, _, rfl, _, rfl, fm, F, F.a, rfl, hF3, .inl rfl, _, rfl, _, rfl, _, rfl, sh, _, rfl, S3.ga, _, rfl, sa, key, F.a, La, Xa, Ya, rfl, S3.a, S3.la, fun p2 H4 s4 hp2 hl2 => ?_⟩
            exact ⟨_, _, _, p2, _, rfl, SqL.of hl2, .inl ⟨hF.sa, fun z => by
              have e := len_srt (plc La key)
              rw [z] at e
              exact absurd e.symm (by simp; exact h1)⟩, fun H5 s5 => ⟨(s3.trans s4).trans s5, _, _, rfl⟩⟩
          | 1, hx =>
            cases Option.some.inj hx
            refine ⟨_, rfl, _, rfl, _, rfl, fm, F, F.b, rfl, hF3, .inr rfl, _, rfl, _, rfl, _, rfl, sh, _, rfl, S3.gb hF.ne, _, rfl, sb, key, F.b, Lb, Xb, Yb, rfl, S3.b, S3.lb, fun p2 H4 s4 hp2 hl2 => ?_⟩
            exact ⟨_, _, _, p2, _, rfl, SqL.of hl2, .inr ⟨hF.sb, n, hn, h2⟩, fun H5 s5 => ⟨(s3.trans s4).trans s5, _, _, rfl⟩⟩
          | i + 2, hx => exact absurd hx (by simp)
        · rintro σ H3 ⟨s3, _⟩
          exact q _ (s12.trans s3)
end K18
end L2
namespace L2
open PySem PySem.Spec PyProof.Rows
namespace K18
open _root_.K18 (spotK spotK_inj)
variable {P : Program} {w : World} {K : PySem.W.Frag} {mg : Str → Option Value} {base : Heap}

/-! ### columns_by -/
def colsBy (t : Tab) (wd : Str) : List Str := (if ("key" : Str) = wd then [t.ca] else []) ++ (if t.kb = wd then [t.cb] else [])
theorem two_sorted {x y : Str} {ys : List Str} (h : ys.Perm [x, y]) (s : sortedS ys = true) (lt : ltCps x.cps.toList y.cps.toList = true) : ys = [x, y] := by
  have hl := h.length_eq
  match ys, hl with
  | [u, v], _ =>
    have hu : u = x ∨ u = y := by simpa using h.mem_iff.mp (List.mem_cons_self (a := u) (l := [v]))
    rcases hu with rfl | rfl
    · have h2 := h.cons_inv
      rw [List.perm_singleton] at h2
      rw [h2]
    · have h3 : [u, v].Perm [u, x] := h.trans (List.Perm.swap _ _ _)
      have h2 := h3.cons_inv
      rw [List.perm_singleton] at h2
      have e : v = x := by injection h2
      subst e
      simp [sortedS, risingS, lt] at s
def spColumnsBy : Sp := fun vs H Q _ => ∃ (fm : Addr) (F : Frm) (t : Tab) (wd : Str), vs = [.ref fm, .str t.nm, .str wd] ∧ FormAt H fm F ∧ Of F t ∧ ∀ (p : Addr) H', Same H H' → H p = none → H' p = some (.lst ((colsBy t wd).map V.str)) → Q (.ref p) H'
theorem sc_columnsBy : FnScope ["form", "table", "word", "columns", "column"] ["form", "table", "word"] (defScope (top 31)) := ⟨rfl, rfl, rfl, by decide +kernel, rfl, by decide +kernel, by decide +kernel⟩
theorem cl_columnsBy (D : DefAt K mg "columns_by" (top 31)) (G : Gs mg) (C2 : Cl P w K mg base 2 "columns_of" spColumnsOf) : Cl P w K mg base 3 "columns_by" spColumnsBy := by
  refine cl_mk D sc_columnsBy (fun _ _ _ _ _ _ us hl => match us, hl with | [_, _, _], _ => rfl) (fun vs H Q E h => ?_) (fun f cdv A outer s H vs Q E hr h => ?_)
  · obtain ⟨fm, F, t, wd, rfl, _⟩ := h
    rfl
  · obtain ⟨fm, F, t, wd, rfl, hF, ht, q⟩ := h
    have nd := sc_columnsBy.nd
    have hu := hu_of hr
    have T := hF.tab ht
    refine ⟨_, pss_cons (ps_set (i := 3) nd rfl (Or.inr rfl) (pe_cl C2 hr (by decide) (by rfl) (pa_cons (pv 0) (pa_cons (pv 1) pa_nil))))
      (pss_one (ps_ret (pe_lc (own := [("column", 4)]) (g := gName 4) rfl nd (pi_list (pe_callB (call_sortedD rfl) (by rfl) G.sorted PyProof.Rows.boot_sorted (pa_cons (pv 3) pa_nil))) (blkOk_by (N := ["form", "table", "word", "columns", "column"]) (sc := defScope (top 31)) (by decide +kernel))
        (fun _ _ _ _ _ => pg_name (i := 4) nd rfl (Or.inl rfl)) (fun _ _ _ _ _ => pts_one (pt_cmpR op_eq (pe_ix (ixT (K := K) rfl) (pe_dget hu (pv 3) (pv 4) (fun _ _ => rfl)) pe_int (fun _ _ => rfl)) (pv 2) (nomark _))) (fun _ _ _ _ _ => pv 4)))), ?_⟩
    refine ⟨_, rfl, _, rfl, fm, F, t, rfl, hF, ht, fun pC hpC => ?_⟩
    have s1 : Same H (upd H pC (.dK [(Sum.inr t.ca, .ref t.qa), (Sum.inr t.cb, .ref t.qb)])) := same_upd hpC
    generalize hH1 : upd H pC (.dK [(Sum.inr t.ca, .ref t.qa), (Sum.inr t.cb, .ref t.qb)]) = H1 at s1
    have hC : H1 pC = some (.dK [(Sum.inr t.ca, .ref t.qa), (Sum.inr t.cb, .ref t.qb)]) := by rw [← hH1]; exact upd_same
    refine ⟨_, rfl, pC, _, [t.ca, t.cb], rfl, .inl hC, rfl, (by show 2 < 64; decide), fun ys pS hp hs hpS => ?_⟩
    rw [two_sorted hp hs T.lt]
    have s2 : Same H1 (upd H1 pS (.lst [.str t.ca, .str t.cb])) := same_upd hpS
    refine ⟨pS, rfl, ⟨_, SqL.of upd_same⟩, fun D hD => ?_⟩
    have s3 := s2.trans (same_upd (o := .lst []) hD)
    have hSD : pS ≠ D := ne_of_none (upd_same (H := H1) (a := pS) (o := .lst ([t.ca, t.cb].map V.str))) hD
    have h1D : H1 D = none := by
      rw [upd_ne (Ne.symm hSD)] at hD
      exact hD
    have hu2 : ∀ u, upd (upd H1 pS (.lst ([t.ca, t.cb].map V.str))) D u pS = some (.lst [.str t.ca, .str t.cb]) := fun u => by rw [upd_ne hSD]; exact upd_same
    have hC3 : ∀ u, upd (upd H1 pS (.lst ([t.ca, t.cb].map V.str))) D u pC = some (.dK [(Sum.inr t.ca, .ref t.qa), (Sum.inr t.cb, .ref t.qb)]) := fun u => (same_updD s2 h1D) _ _ hC
    have hq : ∀ u a xs, H a = some (.tup xs) → upd (upd H1 pS (.lst ([t.ca, t.cb].map V.str))) D u a = some (.tup xs) := fun u a xs e => (same_updD s2 h1D) _ _ (s1 _ _ e)
    refine lc_list (K := K) (a := pS) (xs := [.str t.ca, .str t.cb]) (fun i H' => ∃ acc : List Str, H' = upd (upd H1 pS (.lst ([t.ca, t.cb].map V.str))) D (.lst (acc.map V.str)) ∧
      ((i = 0 ∧ acc = []) ∨ (i = 1 ∧ acc = if ("key" : Str) = wd then [t.ca] else []) ∨ (i = 2 ∧ acc = colsBy t wd))) ⟨[], rfl, .inl ⟨rfl, rfl⟩⟩ (fun i H' _ p => by obtain ⟨acc, rfl, _⟩ := p; exact SqL.of (hu2 _)) ?_ ?_
    · rintro i x H2 hx ⟨acc, rfl, hacc⟩
      rcases hacc with ⟨rfl, rfl⟩ | ⟨rfl, rfl⟩ | ⟨rfl, rfl⟩
      · cases Option.some.inj hx
        have g := DGet.k (k := Sum.inr t.ca) (hC3 (.lst (([] : List Str).map V.str)))
        rw [two_a] at g
        refine ⟨rfl, _, rfl, _, rfl, pC, _, rfl, g, t.qa, _, _, _, rfl, rfl, SqT.of (hq _ _ _ T.qa), atI_nat (j := 0) rfl, _, rfl, rfl, _, rfl, ?_⟩
        by_cases e : ("key" : Str) = wd
        · refine ifY (by rw [e]) ⟨_, rfl, _, upd_same, (by show 0 < sizeLine; decide), [t.ca], upd_upd, .inr (.inl ⟨rfl, (if_pos e).symm⟩)⟩
        · exact ifN (fun z => e (V.str.inj z)) ⟨[], rfl, .inr (.inl ⟨rfl, (if_neg e).symm⟩)⟩
      · cases Option.some.inj hx
        have g := DGet.k (k := Sum.inr t.cb) (hC3 (.lst ((if ("key" : Str) = wd then [t.ca] else []).map V.str)))
        rw [two_b T.ne] at g
        refine ⟨rfl, _, rfl, _, rfl, pC, _, rfl, g, t.qb, _, _, _, rfl, rfl, SqT.of (hq _ _ _ T.qb), atI_nat (j := 0) rfl, _, rfl, rfl, _, rfl, ?_⟩
        by_cases e : t.kb = wd
        · refine ifY (by rw [e]) ⟨_, rfl, _, upd_same, ?_, colsBy t wd, ?_, .inr (.inr ⟨rfl, rfl⟩)⟩
          · split
            · show 1 < sizeLine
              decide
            · show 0 < sizeLine
              decide
          · rw [upd_upd]
            unfold colsBy
            rw [if_pos e, List.map_append]
            rfl
        · refine ifN (fun z => e (V.str.inj z)) ⟨colsBy t wd, ?_, .inr (.inr ⟨rfl, rfl⟩)⟩
          unfold colsBy
          rw [if_neg e, List.append_nil]
      · exact absurd hx (by simp)
    · rintro H2 ⟨acc, rfl, hacc⟩
      rcases hacc with ⟨h, _⟩ | ⟨h, _⟩ | ⟨_, rfl⟩
      · exact absurd h (by simp)
      · exact absurd h (by simp)
      · refine q D _ (s1.trans (same_updD s2 h1D)) ?_ upd_same
        cases e : H D with
        | none => rfl
        | some o =>
          rw [s1 _ _ e] at h1D
          cases h1D

/-! ### look_for_twice: no column here is a once column -/
def spTwice : Sp := fun vs H Q _ => ∃ (fm : Addr) (F : Frm) (sh sa sb : Addr) (La Lb : List Spot) (Xa Ya Xb Yb : Spot → V), vs = [.ref fm, .ref sh] ∧ FormAt H fm F ∧ ShAt H sh F sa sb La Lb Xa Ya Xb Yb ∧ ∀ H', Same H H' → Q .non H'
theorem sc_twice : FnScope ["form", "sheets", "table", "sheet", "column", "seen", "spot", "value"] ["form", "sheets"] (defScope (top 32)) := ⟨rfl, rfl, rfl, by decide +kernel, rfl, by decide +kernel, by decide +kernel⟩
theorem no_once {H : Hp} {fm : Addr} {F : Frm} {t : Tab} (hF : FormAt H fm F) (ht : Of F t) : colsBy t "once" = [] := by
  unfold colsBy
  rw [if_neg (by decide +kernel)]
  rcases ht with rfl | rfl
  · rw [hF.ka, if_neg (by decide +kernel)]
    rfl
  · rw [hF.kb, if_neg (by decide +kernel)]
    rfl
theorem cl_twice (D : DefAt K mg "look_for_twice" (top 32)) (G : Gs mg) (C1 : Cl P w K mg base 1 "tables_of" spTablesOf) (C3 : Cl P w K mg base 3 "columns_by" spColumnsBy) : Cl P w K mg base 4 "look_for_twice" spTwice := by
  refine cl_mk D sc_twice (fun _ _ _ _ _ _ us hl => match us, hl with | [_, _], _ => rfl) (fun vs H Q E h => ?_) (fun f cdv A outer s H vs Q E hr h => ?_)
  · obtain ⟨fm, F, sh, sa, sb, La, Lb, Xa, Ya, Xb, Yb, rfl, _⟩ := h
    rfl
  · obtain ⟨fm, F, sh, sa, sb, La, Lb, Xa, Ya, Xb, Yb, rfl, hF, S, q⟩ := h
    have nd := sc_twice.nd
    have hu := hu_of hr
    refine ⟨_, pss_one (ps_for PassesOwn.never rfl (pi_list (pe_cl C1 hr (by decide) (by rfl) (pa_cons (pv 0) pa_nil))) (pg_name (i := 2) nd rfl (Or.inl rfl))
      (pss_cons (ps_set (i := 3) nd rfl (Or.inl rfl) (pe_dget hu (pv 1) (pv 2) (fun _ _ => rfl)))
      (pss_one (ps_for PassesOwn.never rfl (pi_list (pe_cl C3 hr (by decide) (by rfl) (pa_cons (pv 0) (pa_cons (pv 2) (pa_cons pe_str pa_nil))))) (pg_name (i := 4) nd rfl (Or.inl rfl)) pss_never)))), ?_⟩
    refine ⟨_, rfl, fm, F, rfl, hF, fun pT hpT => ⟨pT, rfl, ⟨_, SqL.of upd_same⟩, ?_⟩⟩
    have s1 : Same H (upd H pT (.lst [.str F.a.nm, .str F.b.nm])) := same_upd hpT
    refine for_list (K := K) (a := pT) (xs := [.str F.a.nm, .str F.b.nm]) (fun i σ H' => Same (upd H pT (.lst [.str F.a.nm, .str F.b.nm])) H' ∧ ∃ o2 o3 o4, σ = [some (.ref fm), some (.ref sh), o2, o3, o4, none, none, none]) ⟨Same.refl _, _, _, _, rfl⟩ (fun i σ H' _ p => SqL.of (p.1 _ _ upd_same)) ?_ ?_
    · rintro i x σ H2 hx ⟨s2, o2, o3, o4, rfl⟩
      have s12 := s1.trans s2
      have S2 := S.same s12
      have hF2 := hF.same s12
      obtain ⟨t, ht, rfl, u, hg⟩ : ∃ t, Of F t ∧ x = .str t.nm ∧ ∃ u, DGet H2 sh (.str t.nm) (some u) := by
        match i, hx with
        | 0, hx => exact ⟨F.a, .inl rfl, (Option.some.inj hx).symm, _, S2.ga⟩
        | 1, hx => exact ⟨F.b, .inr rfl, (Option.some.inj hx).symm, _, S2.gb hF.ne⟩
        | i + 2, hx => exact absurd hx (by simp)
      refine ⟨_, rfl, _, rfl, sh, u, rfl, hg, ?_⟩
      refine ⟨_, rfl, _, rfl, fm, F, t, _, rfl, hF2, ht, fun p H3 s3 hp hl => ⟨p, rfl, ⟨_, SqL.of hl⟩, ?_⟩⟩
      rw [no_once hF2 ht] at hl
      refine for_list (K := K) (a := p) (xs := []) (fun i σ H' => H' = H3 ∧ ∃ o4, σ = [some (.ref fm), some (.ref sh), some (.str t.nm), some u, o4, none, none, none]) ⟨rfl, _, rfl⟩ (fun i σ H' _ pp => by rw [pp.1]; exact SqL.of hl) (fun i x σ H' hx => absurd hx (by simp)) ?_
      rintro σ H' ⟨rfl, o4, rfl⟩
      exact ⟨s2.trans s3, _, _, _, rfl⟩
    · rintro σ H2 ⟨s2, _⟩
      exact q _ (s1.trans s2)
end K18
end L2
namespace L2
open PySem PySem.Spec PyProof.Rows
namespace K18
open _root_.K18 (spotK spotK_inj)
variable {P : Program} {w : World} {K : PySem.W.Frag} {mg : Str → Option Value} {base : Heap}

/-! ### the error: Nowhere, made by StepError's __init__ -/
abbrev sErrInit : Stmt := inClass (top 2) 0
/-- what the written part says of Nowhere, at C -/
structure NwAt (K : PySem.W.Frag) (mg : Str → Option Value) (C : Addr) : Prop where
  gC : mg "Nowhere" = some (.ref C)
  T : OexC K C
  nT : PySem.W.findIn K (.ref C) "table" = some none
  nK : PySem.W.findIn K (.ref C) "key" = some none
  nP : PySem.W.findIn K (.ref C) "place" = some none
  te : PySem.W.exmOne K (.ref C) (.ref C) = some true
  xf : XfC K C
  ini : ∃ (f : Addr) (fd : FuncData), PySem.W.findIn K (.ref C) "__init__" = some (some (.ref f)) ∧ PySem.W.typeIn K (.ref f) = some (.type "function") ∧ L2.Fun K "__init__" "StepError.__init__" sErrInit f fd
/-- the fields of such an error -/
def errF (nm : Str) (q : Spot) : List (Str × V) := [("place", .int q.2), ("key", .int q.1), ("table", .str nm)]
def spErrInit (K : PySem.W.Frag) (C : Addr) : Sp := fun vs H Q _ => ∃ (a : Addr) (nm : Str) (q : Spot), vs = [.ref a, .str nm, .int q.1, .int q.2] ∧ H a = some (exo a C none) ∧
  ∀ (d : Addr) H', H d = none → Keep [a] H H' → H' a = some (exo a C (some d)) → H' d = some (exd d (errF nm q)) → Q .non H'
theorem sc_errInit : FnScope ["self", "table", "key", "place"] ["self", "table", "key", "place"] (defScope sErrInit) := ⟨rfl, rfl, rfl, by decide +kernel, rfl, by decide +kernel, by decide +kernel⟩
theorem fn_errInit {C f : Addr} {fd : FuncData} (N : NwAt K mg C) (F : L2.Fun K "__init__" "StepError.__init__" sErrInit f fd) : FnOk P w K mg base CX0 1 f fd ["self", "table", "key", "place"] (spErrInit K C) := by
  refine F.ok sc_errInit (fun vs H Q E h => ?_) (fun cdv A outer s H vs Q E hr h => ?_)
  · obtain ⟨a, nm, q, rfl, _⟩ := h
    rfl
  · obtain ⟨a, nm, q, rfl, ha, k⟩ := h
    refine ⟨_, pss_cons (ps_ost (pv 0) (pv 1)) (pss_cons (ps_ost (pv 0) (pv 2)) (pss_one (ps_ost (pv 0) (pv 3)))), ?_⟩
    refine ⟨_, rfl, _, rfl, a, C, rfl, N.T, N.nT, .inl ⟨ha, fun d hd hda => ?_⟩⟩
    refine ⟨_, rfl, _, rfl, a, C, rfl, N.T, N.nK, .inr ⟨d, _, upd_same, (by rw [upd_ne hda]; exact upd_same), (by show 1 ≤ 900; decide), ?_⟩⟩
    refine ⟨_, rfl, _, rfl, a, C, rfl, N.T, N.nP, .inr ⟨d, _, (by rw [upd_ne (Ne.symm hda)]; exact upd_same), upd_same, (by show 2 ≤ 900; decide), ?_⟩⟩
    refine k d _ hd (fun b o e n => ?_) (by rw [upd_ne (Ne.symm hda), upd_ne (Ne.symm hda)]; exact upd_same) upd_same
    have hba : b ≠ a := fun z => n (by rw [z]; exact List.mem_cons_self)
    have hbd := ne_of_none e hd
    rw [upd_ne hbd, upd_ne hbd, upd_ne hba, upd_ne hbd]
    exact e

/-! ### the first row that points to nothing -/
/-- such a value points to a key that is not held -/
def bad (La : List Spot) : V → Bool
  | .int i => !decide ((i, 0) ∈ La)
  | _ => false
def dueZ (La L : List Spot) (Zs : List (Spot → V)) : Option Spot := Zs.findSome? fun Z => (srtS L).find? fun q => bad La (Z q)
def dueP (F : Frm) (La Lb : List Spot) (Xa Ya Xb : Spot → V) : Option (Str × Spot) := match dueZ La La [Xa, Ya] with
  | some q => some (F.a.nm, q)
  | none => (dueZ La Lb [Xb]).map fun q => (F.b.nm, q)
theorem find_at {α : Type} {p : α → Bool} {l : List α} {i : Nat} {x : α} (h : l[i]? = some x) (hx : p x = true) (hb : ∀ y ∈ l.take i, p y = false) : l.find? p = some x := by
  have e : l = l.take i ++ x :: l.drop (i + 1) := by
    obtain ⟨h1, h2⟩ := List.getElem?_eq_some_iff.mp h
    rw [← h2, ← List.drop_eq_getElem_cons h1, List.take_append_drop]
  rw [e, List.find?_append, List.find?_eq_none.mpr (fun y hy => by rw [hb y hy]; decide), Option.none_or, List.find?_cons, hx]
theorem findSome_at {α β : Type} {f : α → Option β} {l : List α} {i : Nat} {x : α} {b : β} (h : l[i]? = some x) (hx : f x = some b) (hb : ∀ y ∈ l.take i, f y = none) : l.findSome? f = some b := by
  have e : l = l.take i ++ x :: l.drop (i + 1) := by
    obtain ⟨h1, h2⟩ := List.getElem?_eq_some_iff.mp h
    rw [← h2, ← List.drop_eq_getElem_cons h1, List.take_append_drop]
  rw [e, List.findSome?_append, List.findSome?_eq_none_iff.mpr hb, Option.none_or, List.findSome?_cons, hx]
def unK : List Key → Spot
  | [Sum.inl a, Sum.inl b] => (a, b)
  | _ => (0, 0)
theorem unK_spotK (q : Spot) : unK (spotK q) = q := rfl
/-- what sorted() of a sheet gives -/
theorem sorted_sheet {LL : List (Addr × Int × Int)} {L : List Spot} (hp : (LL.map fun e => spotK e.2).Perm (L.map spotK)) (hs : LL.Pairwise fun x y => SrtO.lexB y.2 x.2 = false) : LL.map (·.2) = srtS L := by
  refine srtS_uniq ?_ ?_
  · have h := hp.map unK
    rw [List.map_map, List.map_map] at h
    have e1 : (LL.map (unK ∘ fun e => spotK e.2)) = LL.map (·.2) := List.map_congr_left fun e _ => unK_spotK e.2
    have e2 : L.map (unK ∘ spotK) = L := by
      rw [show (unK ∘ spotK) = id from funext unK_spotK, List.map_id]
    rw [e1, e2] at h
    exact h
  · refine List.pairwise_map.mpr (hs.imp fun h => ?_)
    show (!SrtO.lexB _ _) = true
    rw [h]
    rfl
theorem sheet_has {kvs : List (List Key × V)} {L : List Spot} (h : kvs.map (·.1) = L.map spotK) (q : Spot) : (valV kvs (spotK q)).isSome = decide (q ∈ L) := by
  by_cases e : q ∈ L
  · obtain ⟨v, hv⟩ := valV_some_of_mem (kvs := kvs) (k := spotK q) (by rw [h, spot_mem]; exact e)
    rw [hv, decide_eq_true e]
    rfl
  · rw [valV_none_of (by rw [h, spot_mem]; exact e), decide_eq_false e]
    rfl
/-- pointers, or nothing -/
def Ptr (L : List Spot) (Z : Spot → V) : Prop := ∀ q ∈ L, ∃ g, Z q = gV g
def spNowhere (C : Addr) : Sp := fun vs H Q E => ∃ (fm : Addr) (F : Frm) (sh sa sb : Addr) (La Lb : List Spot) (Xa Ya Xb Yb : Spot → V), vs = [.ref fm, .ref sh] ∧ FormAt H fm F ∧ ShAt H sh F sa sb La Lb Xa Ya Xb Yb ∧
  (Ptr La Xa ∧ Ptr La Ya ∧ Ptr Lb Xb) ∧ (dueP F La Lb Xa Ya Xb = none → ∀ H', Same H H' → Q .non H') ∧
  (∀ nm q, dueP F La Lb Xa Ya Xb = some (nm, q) → ∀ d H', Same H H' → H' d = some (.xd (errF nm q)) → E (.ref C) (some d) H')
theorem sc_nowhere : FnScope ["form", "sheets", "heads", "table", "sheet", "column", "spot", "goal"] ["form", "sheets"] (defScope (top 33)) := ⟨rfl, rfl, rfl, by decide +kernel, rfl, by decide +kernel, by decide +kernel⟩
theorem cl_nowhere {C : Addr} (D : DefAt K mg "look_for_nowhere" (top 33)) (G : Gs mg) (N : NwAt K mg C) (C0 : Cl P w K mg base 1 "head_of" spHeadOf) (C1 : Cl P w K mg base 1 "tables_of" spTablesOf) (C3 : Cl P w K mg base 3 "columns_by" spColumnsBy) :
    ClX P w K mg base 4 "look_for_nowhere" (spNowhere C) := by
  refine clX_mk D sc_nowhere (fun _ _ _ _ _ _ us hl => match us, hl with | [_, _], _ => rfl) (fun vs H Q E h => ?_) (fun f cdv A outer s H vs Q E hr h => ?_)
  · obtain ⟨fm, F, sh, sa, sb, La, Lb, Xa, Ya, Xb, Yb, rfl, _⟩ := h
    rfl
  · obtain ⟨fm, F, sh, sa, sb, La, Lb, Xa, Ya, Xb, Yb, rfl, hF, S, ⟨pXa, pYa, pXb⟩, q, qE⟩ := h
    have nd := sc_nowhere.nd
    have hu := hu_of hr
    obtain ⟨fI, fdI, hI1, hI2, hI3⟩ := N.ini
    have bI : Binds K fdI ["self", "table", "key", "place"] [] := hI3.binds fun _ _ _ _ _ _ us hl => match us, hl with | [_, _, _, _], _ => rfl
    refine ⟨_, pss_cons (ps_set (i := 2) nd rfl (Or.inl rfl) (pe_dget hu (pv 1) (pe_cl C0 hr (by decide) (by rfl) (pa_cons (pv 0) pa_nil)) (fun _ _ => rfl)))
      (pss_one (ps_for (passes_of rfl) rfl (pi_list (pe_cl C1 hr (by decide) (by rfl) (pa_cons (pv 0) pa_nil))) (pg_name (i := 3) nd rfl (Or.inl rfl))
      (pss_cons (ps_set (i := 4) nd rfl (Or.inl rfl) (pe_dget hu (pv 1) (pv 3) (fun _ _ => rfl)))
      (pss_one (ps_for (passes_of rfl) rfl (pi_list (pe_cl C3 hr (by decide) (by rfl) (pa_cons (pv 0) (pa_cons (pv 3) (pa_cons pe_str pa_nil))))) (pg_name (i := 5) nd rfl (Or.inl rfl))
      (pss_one (ps_for (passes_of rfl) rfl (pi_list (pe_callB (_root_.K18.call_sortT rfl) (by rfl) G.sorted PyProof.Rows.boot_sorted (pa_cons (pv 4) pa_nil))) (pg_name (i := 6) nd rfl (Or.inl rfl))
      (pss_cons (ps_set (i := 7) nd rfl (Or.inl rfl) (pe_dget hu (pe_dget hu (pv 4) (pv 6) (fun _ _ => rfl)) (pv 5) (fun _ _ => rfl)))
      (pss_one (ps_if (PW.pt (pw_and (pt_cmpR op_notN (pv 7) pe_non (nomark _)) (pw_and1 (pt_cmp (pc_dnotin hu (pe_tup (pa_cons (pv 7) (pa_cons pe_int pa_nil))) (pv 2))))))
        (pss_one (ps_raise rfl (takes_of rfl rfl rfl rfl) (pmk_oex (dvs := []) (sp := spErrInit K C) N.T hI1 hI2 (fn_errInit N hI3) (hr.mono (by decide)) bI .nil pass0 rfl N.gC (pa_cons (pv 3) (pa_cons (pe_ix ix_tup (pv 6) pe_int (fun _ _ => rfl)) (pa_cons (pe_ix ix_tup (pv 6) pe_int (fun _ _ => rfl)) pa_nil))))))
        pss_nil)))))))))), ?_⟩
    refine ⟨_, rfl, _, rfl, fm, F, rfl, hF, sh, _, rfl, S.ga, ?_⟩
    refine ⟨_, rfl, fm, F, rfl, hF, fun pT hpT => ⟨pT, rfl, ⟨_, SqL.of upd_same⟩, ?_⟩⟩
    have s1 : Same H (upd H pT (.lst [.str F.a.nm, .str F.b.nm])) := same_upd hpT
    generalize hH1 : upd H pT (.lst [.str F.a.nm, .str F.b.nm]) = H1 at s1
    have hT : H1 pT = some (.lst [.str F.a.nm, .str F.b.nm]) := by rw [← hH1]; exact upd_same
    refine for_list (K := K) (a := pT) (xs := [.str F.a.nm, .str F.b.nm]) (fun i σ H' => Same H1 H' ∧ ((1 ≤ i → dueZ La La [Xa, Ya] = none) ∧ (2 ≤ i → dueZ La Lb [Xb] = none)) ∧ ∃ o3 o4 o5 o6 o7, σ = [some (.ref fm), some (.ref sh), some (.ref sa), o3, o4, o5, o6, o7])
      ⟨Same.refl _, ⟨fun h => absurd h (by decide), fun h => absurd h (by decide)⟩, _, _, _, _, _, rfl⟩ (fun i σ H' _ p => SqL.of (p.1 _ _ hT)) ?_ ?_
    · rintro i x σ H2 hx ⟨s2, hpr, o3, o4, o5, o6, o7, rfl⟩
      have s12 := s1.trans s2
      have S2 := S.same s12
      have hF2 := hF.same s12
      obtain ⟨t, s, L, X, Y, cz, ht, rfl, hget, SA, hL, hcols, hcz, hsome, hnext⟩ : ∃ (t : Tab) (s : Addr) (L : List Spot) (X Y : Spot → V) (cz : List (Str × (Spot → V))), Of F t ∧ x = .str t.nm ∧ DGet H2 sh (.str t.nm) (some (.ref s)) ∧ SheetAt H2 s t L X Y ∧ L.length ≤ 1000 ∧
          colsBy t "key" = cz.map (·.1) ∧ (∀ c ∈ cz, ∀ g ∈ L, valV (rowOf t (X g) (Y g)) (Sum.inr c.1) = some (c.2 g) ∧ ∃ u, c.2 g = gV u) ∧ (∀ g, dueZ La L (cz.map (·.2)) = some g → dueP F La Lb Xa Ya Xb = some (t.nm, g)) ∧
          (dueZ La L (cz.map (·.2)) = none → (1 ≤ i + 1 → dueZ La La [Xa, Ya] = none) ∧ (2 ≤ i + 1 → dueZ La Lb [Xb] = none)) := by
        match i, hx with
        | 0, hx =>
          refine ⟨F.a, sa, La, Xa, Ya, [(F.a.ca, Xa), (F.a.cb, Ya)], .inl rfl, (Option.some.inj hx).symm, S2.ga, S2.a, S2.la, ?_, fun c hc g hg => ?_, fun g hg => ?_, fun h => ⟨fun _ => h, fun z => absurd z (by decide)⟩⟩
          · unfold colsBy
            rw [if_pos rfl, hF.ka, if_pos rfl]
            rfl
          · rcases List.mem_cons.mp hc with rfl | hc
            · exact ⟨rowOf_a, pXa g hg⟩
            · rw [List.mem_singleton.mp hc]
              exact ⟨rowOf_b hF.a.ne, pYa g hg⟩
          · unfold dueP
            rw [show dueZ La La [Xa, Ya] = some g from hg]
        | 1, hx =>
          refine ⟨F.b, sb, Lb, Xb, Yb, [(F.b.ca, Xb)], .inr rfl, (Option.some.inj hx).symm, S2.gb hF.ne, S2.b, S2.lb, ?_, fun c hc g hg => ?_, fun g hg => ?_, fun h => ⟨fun _ => hpr.1 (by decide), fun _ => h⟩⟩
          · unfold colsBy
            rw [if_pos rfl, hF.kb, if_neg (by decide +kernel)]
            rfl
          · rw [List.mem_singleton.mp hc]
            exact ⟨rowOf_a, pXb g hg⟩
          · unfold dueP
            rw [hpr.1 (by decide), show dueZ La Lb [Xb] = some g from hg]
            rfl
        | i + 2, hx => exact absurd hx (by simp)
      refine ⟨_, rfl, _, rfl, sh, _, rfl, hget, ?_⟩
      refine ⟨_, rfl, _, rfl, fm, F, t, _, rfl, hF2, ht, fun p H3 s3 hp hl => ⟨p, rfl, ⟨_, SqL.of hl⟩, ?_⟩⟩
      rw [hcols, List.map_map] at hl
      refine for_list (K := K) (a := p) (xs := cz.map (V.str ∘ fun c => c.1)) (fun j σ H' => Same H3 H' ∧ (∀ c ∈ cz.take j, (srtS L).find? (fun g => bad La (c.2 g)) = none) ∧ ∃ o5 o6 o7, σ = [some (.ref fm), some (.ref sh), some (.ref sa), some (.str t.nm), some (.ref s), o5, o6, o7])
        ⟨Same.refl _, fun c hc => absurd hc (by simp), _, _, _, rfl⟩ (fun j σ H' _ pp => SqL.of (pp.1 _ _ hl)) ?_ ?_
      · rintro j x σ H4 hx ⟨s4, hpre, o5, o6, o7, rfl⟩
        rw [List.getElem?_map] at hx
        obtain ⟨c, hc, rfl⟩ := Option.map_eq_some_iff.mp hx
        have hcm : c ∈ cz := List.mem_of_getElem? hc
        have s34 := s3.trans s4
        have SA4 := SA.same s34
        obtain ⟨kvs, hs4, hkeys, hrows⟩ := SA4.ex
        refine ⟨_, rfl, s, kvs, rfl, .inl hs4, fun e he => ?_, fun LL p5 hLL hperm hpair hp5 => ?_⟩
        · have hm : e.1 ∈ kvs.map (·.1) := List.mem_map.mpr ⟨e, he, rfl⟩
          rw [hkeys] at hm
          obtain ⟨g, _, eg⟩ := List.mem_map.mp hm
          exact ⟨g, eg.symm⟩
        rw [hkeys] at hperm
        have hsrt := sorted_sheet hperm hpair
        have s5 : Same H4 (upd H4 p5 (.lst (LL.map fun e => V.ref e.1))) := same_upd hp5
        refine ⟨p5, rfl, ⟨_, SqL.of upd_same⟩, ?_⟩
        generalize hH5 : upd H4 p5 (.lst (LL.map fun e => V.ref e.1)) = H5 at s5
        have hP5 : H5 p5 = some (.lst (LL.map fun e => V.ref e.1)) := by rw [← hH5]; exact upd_same
        refine for_list (K := K) (a := p5) (xs := LL.map fun e => V.ref e.1) (fun m σ H' => Same H5 H' ∧ (∀ g ∈ (srtS L).take m, bad La (c.2 g) = false) ∧ ∃ o6 o7, σ = [some (.ref fm), some (.ref sh), some (.ref sa), some (.str t.nm), some (.ref s), some (.str c.1), o6, o7])
          ⟨Same.refl _, fun g hg => absurd hg (by simp), _, _, rfl⟩ (fun m σ H' _ pp => SqL.of (pp.1 _ _ hP5)) ?_ ?_
        · rintro m x σ H6 hx ⟨s6, hmb, o6, o7, rfl⟩
          rw [List.getElem?_map] at hx
          obtain ⟨e, he, rfl⟩ := Option.map_eq_some_iff.mp hx
          have hg : (srtS L)[m]? = some e.2 := by
            rw [← hsrt, List.getElem?_map, he]
            rfl
          have hgL : e.2 ∈ L := (srtS_perm L).mem_iff.mp (List.mem_of_getElem? hg)
          have s46 := s5.trans s6
          obtain ⟨r, hr1, hr2⟩ := hrows e.2 hgL
          obtain ⟨hv, u, hu2⟩ := hcz c hcm e.2 hgL
          have ht6 := s46 _ _ (hLL e (List.mem_of_getElem? he))
          have g1 := DGet.t (k := spotK e.2) (s46 _ _ hs4) ht6
          rw [hr1] at g1
          have g2 := DGet.k (k := Sum.inr c.1) (s46 _ _ hr2)
          rw [hv] at g2
          refine ⟨_, rfl, _, rfl, s, _, rfl, g1, _, rfl, r, _, rfl, g2, ?_⟩
          have step : ∀ H', Same H6 H' → bad La (c.2 e.2) = false → Same H5 H' ∧ (∀ g ∈ (srtS L).take (m + 1), bad La (c.2 g) = false) := fun H' s7 hb => ⟨s6.trans s7, fun g hg' => by
            rw [take_at hg] at hg'
            rcases List.mem_append.mp hg' with h | h
            · exact hmb g h
            · rw [List.mem_singleton.mp h]
              exact hb⟩
          cases u with
          | none =>
            refine ⟨_, rfl, rfl, _, rfl, ifNY hu2 (iteF ?_)⟩
            have st := step H6 (Same.refl _) (by rw [hu2]; rfl)
            exact ⟨st.1, st.2, _, _, rfl⟩
          | some k =>
            refine ⟨_, rfl, rfl, _, rfl, ifNN (fun z => by rw [hu2] at z; cases z) ?_⟩
            refine ⟨_, rfl, (by show 2 ≤ sizeLine; decide), fun b hb => ?_⟩
            have s7 : Same H6 (upd H6 b (.tup [c.2 e.2, .int 0])) := same_upd hb
            have sAll := ((s12.trans s34).trans s46).trans s7
            obtain ⟨kva, ha1, ha2, _⟩ := (S.a.same sAll).ex
            refine ⟨_, rfl, sa, _, rfl, DGet.t (k := spotK (k, 0)) ha1 (by rw [upd_same, hu2]; rfl), _, rfl, ?_⟩
            by_cases hin : (k, 0) ∈ La
            · refine ifNTe (by rw [sheet_has ha2]; exact decide_eq_true hin) ?_
              have st := step _ s7 (by rw [hu2]; show (!decide ((k, 0) ∈ La)) = false; rw [decide_eq_true hin]; rfl)
              exact ⟨st.1, st.2, _, _, rfl⟩
            · refine ifNFe (by rw [sheet_has ha2]; exact decide_eq_false hin) ?_
              have hbad : bad La (c.2 e.2) = true := by
                rw [hu2]
                show (!decide ((k, 0) ∈ La)) = true
                rw [decide_eq_false hin]
                rfl
              have hdue : dueZ La L (cz.map (·.2)) = some e.2 := by
                unfold dueZ
                rw [List.findSome?_map]
                refine findSome_at hc ?_ (fun y hy => hpre y hy)
                exact find_at hg hbad hmb
              have ht7 := s7 _ _ ht6
              refine ⟨_, rfl, _, rfl, e.1, _, _, _, rfl, rfl, SqT.of ht7, atI_nat (j := 0) rfl, _, rfl, e.1, _, _, _, rfl, rfl, SqT.of ht7, atI_nat (j := 1) rfl, (by show 3 ≤ 1000; decide), fun a ha => ?_⟩
              refine ⟨a, t.nm, e.2, rfl, upd_same, fun d H' hd kp h1 h2 => ⟨rfl, d, _, h1, h2, ?_, ?_⟩⟩
              · by_cases z : d = a
                · rw [z, upd_same] at hd
                  cases hd
                · rw [upd_ne z] at hd
                  exact hd
              · refine qE t.nm e.2 (hsome e.2 hdue) d _ (fun y o hy => ?_) upd_same
                have hy7 := sAll _ _ hy
                have hya : y ≠ a := ne_of_none hy7 ha
                have hyd : y ≠ d := fun z => by
                  rw [z] at hy7 hya
                  rw [upd_ne hya] at hd
                  rw [hd] at hy7
                  cases hy7
                rw [upd_ne hyd, del_ne hya]
                exact kp _ _ (by rw [upd_ne hya]; exact hy7) (by simpa using hya)
        · rintro σ H6 ⟨s6, hmb, o6, o7, rfl⟩
          refine ⟨(s4.trans s5).trans s6, fun c' hc' => ?_, _, _, _, rfl⟩
          rw [take_at hc] at hc'
          rcases List.mem_append.mp hc' with h | h
          · exact hpre c' h
          · rw [List.mem_singleton.mp h]
            refine List.find?_eq_none.mpr fun g hg => ?_
            have e1 : (srtS L).take (LL.map fun e => V.ref e.1).length = srtS L := by
              rw [List.length_map, ← List.length_map (as := LL) (fun e => e.2), hsrt, List.take_length]
            rw [hmb g (by rw [e1]; exact hg)]
            decide
      · rintro σ H4 ⟨s4, hpre, o5, o6, o7, rfl⟩
        refine ⟨(s2.trans s3).trans s4, hnext ?_, _, _, _, _, _, rfl⟩
        unfold dueZ
        rw [List.findSome?_map]
        refine List.findSome?_eq_none_iff.mpr fun c hc => hpre c ?_
        rw [List.length_map, List.take_length]
        exact hc
    · rintro σ H2 ⟨s2, hpr, _⟩
      refine q ?_ _ (s1.trans s2)
      unfold dueP
      rw [hpr.1 (by show 1 ≤ 2; decide), hpr.2 (by show 2 ≤ 2; decide)]
      rfl
end K18
end L2
namespace L2
open PySem PySem.Spec PyProof.Rows
namespace K18
open _root_.K18 (spotK spotK_inj)
variable {P : Program} {w : World} {K : PySem.W.Frag} {mg : Str → Option Value} {base : Heap}

/-! ### the table as the law knows it -/
structure Tb where
  ks : List Int
  h0 : Int → Option Int
  h1 : Int → Option Int
  so : Int → List (Option Int)
/-- what one table holds: rows for a key, values at a spot -/
structure Cnt where
  t : Tab
  n : Int → Nat
  X : Spot → V
  Y : Spot → V
def cA (F : Frm) (T : Tb) : Cnt := ⟨F.a, fun _ => 1, fun q => gV (T.h0 q.1), fun q => gV (T.h1 q.1)⟩
def cB (F : Frm) (T : Tb) : Cnt := ⟨F.b, fun k => (T.so k).length, fun q => gV ((T.so q.1).getD q.2.toNat none), fun q => .int q.2⟩
def spotsOf (k : Int) (n : Nat) : List Spot := (List.range n).map fun (p : Nat) => (k, (p : Int))
def spots (n : Int → Nat) (ks : List Int) : List Spot := ks.flatMap fun k => spotsOf k (n k)
abbrev Cnt.L (c : Cnt) (ks : List Int) : List Spot := spots c.n ks
theorem spotsOf_mem {k : Int} {n : Nat} {q : Spot} : q ∈ spotsOf k n ↔ q.1 = k ∧ 0 ≤ q.2 ∧ q.2 < n := by
  unfold spotsOf
  rw [List.mem_map]
  constructor
  · rintro ⟨p, hp, rfl⟩
    have h := List.mem_range.mp hp
    exact ⟨rfl, by show (0 : Int) ≤ (p : Int); omega, by show (p : Int) < n; omega⟩
  · rintro ⟨h1, h2, h3⟩
    refine ⟨q.2.toNat, List.mem_range.mpr (by omega), Prod.ext h1.symm ?_⟩
    show ((q.2.toNat : Nat) : Int) = q.2
    omega
theorem spots_mem {n : Int → Nat} {ks : List Int} {q : Spot} : q ∈ spots n ks ↔ q.1 ∈ ks ∧ 0 ≤ q.2 ∧ q.2 < n q.1 := by
  unfold spots
  rw [List.mem_flatMap]
  constructor
  · rintro ⟨k, hk, hq⟩
    obtain ⟨h1, h2, h3⟩ := spotsOf_mem.mp hq
    subst h1
    exact ⟨hk, h2, h3⟩
  · rintro ⟨h1, h2, h3⟩
    exact ⟨q.1, h1, spotsOf_mem.mpr ⟨rfl, h2, h3⟩⟩
theorem spots_snoc (n : Int → Nat) (ks : List Int) (k : Int) : spots n (ks ++ [k]) = spots n ks ++ spotsOf k (n k) := by
  unfold spots
  rw [List.flatMap_append, List.flatMap_cons, List.flatMap_nil, List.append_nil]
theorem spotsOf_succ (k : Int) (n : Nat) : spotsOf k (n + 1) = spotsOf k n ++ [(k, (n : Int))] := by
  unfold spotsOf
  rw [List.range_succ, List.map_append]
  rfl
/-- the rows of one thing in one table, as a list -/
def LstAt (H : Hp) (l : Addr) (c : Cnt) (k : Int) : Prop := ∃ rs : List Addr, H l = some (.lst (rs.map V.ref)) ∧ rs.length = c.n k ∧ ∀ (i : Nat) r, rs[i]? = some r → H r = some (.dK (rowOf c.t (c.X (k, (i : Int))) (c.Y (k, (i : Int)))))
structure ThingsAt (H : Hp) (th : Addr) (F : Frm) (T : Tb) : Prop where
  ex : ∃ kvs : List (Key × V), H th = some (.dK kvs) ∧ kvs.map (·.1) = T.ks.map Sum.inl ∧ ∀ k ∈ T.ks, ∃ pc la lb, valV kvs (Sum.inl k) = some (.ref pc) ∧ H pc = some (.dK [(Sum.inr F.a.nm, .ref la), (Sum.inr F.b.nm, .ref lb)]) ∧ LstAt H la (cA F T) k ∧ LstAt H lb (cB F T) k
  nd : T.ks.Nodup
theorem LstAt.keep {H H' : Hp} {l : Addr} {c : Cnt} {k : Int} {m : List Addr} (h : LstAt H l c k) (kp : Keep m H H') (n1 : ∀ b, b ∈ m → ∀ xs, H b ≠ some (.lst xs)) (n2 : ∀ b, b ∈ m → ∀ ks, H b ≠ some (.dK ks)) : LstAt H' l c k := by
  obtain ⟨rs, e1, e2, e3⟩ := h
  exact ⟨rs, kp _ _ e1 fun z => n1 _ z _ e1, e2, fun i r hr => kp _ _ (e3 i r hr) fun z => n2 _ z _ (e3 i r hr)⟩
theorem ThingsAt.same {H H' : Hp} {th : Addr} {F : Frm} {T : Tb} (s : Same H H') (h : ThingsAt H th F T) : ThingsAt H' th F T := by
  obtain ⟨kvs, e1, e2, e3⟩ := h.ex
  refine ⟨⟨kvs, s _ _ e1, e2, fun k hk => ?_⟩, h.nd⟩
  obtain ⟨pc, la, lb, g1, g2, g3, g4⟩ := e3 k hk
  exact ⟨pc, la, lb, g1, s _ _ g2, g3.keep (m := []) (Keep.of_same s) (fun _ z => nomatch z) (fun _ z => nomatch z), g4.keep (m := []) (Keep.of_same s) (fun _ z => nomatch z) (fun _ z => nomatch z)⟩
/-! ### locks -/
theorem unlock_keep {H H' : Hp} {d : Addr} {od : Obj} {u : HO} {l : List Addr} (hd : H d = some u) (k : Keep l (upd H d (.frz od u)) H') : Keep l H (upd H' d u) := fun b o e n => by
  by_cases z : b = d
  · subst z
    rw [hd] at e
    cases e
    exact upd_same
  · rw [upd_ne z]
    exact k _ _ (by rw [upd_ne z]; exact e) n
theorem lock_keep {H : Hp} {d : Addr} {o : HO} : Keep [d] H (upd H d o) := keep_upd
theorem SheetAt.unlock {H : Hp} {s d : Addr} {od : Obj} {u : HO} {t : Tab} {L : List Spot} {X Y : Spot → V} (h : SheetAt H s t L X Y) (hd : H d = some (.frz od u)) : SheetAt (upd H d u) s t L X Y := by
  refine h.keep (l := [d]) keep_upd (fun z => ?_) fun b hb x y e => ?_
  · obtain ⟨kvs, e⟩ := h.isT
    rw [List.mem_singleton.mp z, hd] at e
    cases e
  · rw [List.mem_singleton.mp hb, hd] at e
    cases e

theorem spots_pre {n : Int → Nat} {ks : List Int} {j : Nat} {k : Int} (h : ks[j]? = some k) : (spots n (ks.take j)).length + n k ≤ (spots n ks).length := by
  have e : ks = (ks.take j ++ [k]) ++ ks.drop (j + 1) := by
    rw [← take_at h, List.take_append_drop]
  have e2 : spots n ks = (spots n (ks.take j) ++ spotsOf k (n k)) ++ spots n (ks.drop (j + 1)) := by
    conv => lhs; rw [e]
    unfold spots
    rw [List.flatMap_append, List.flatMap_append, List.flatMap_cons, List.flatMap_nil, List.append_nil]
  rw [e2, List.length_append, List.length_append]
  have e3 : (spotsOf k (n k)).length = n k := by
    unfold spotsOf
    rw [List.length_map, List.length_range]
  omega
theorem not_take {ks : List Int} {j : Nat} {k : Int} (nd : ks.Nodup) (h : ks[j]? = some k) : ¬ k ∈ ks.take j := fun hm => by
  have e : ks = (ks.take j ++ [k]) ++ ks.drop (j + 1) := by
    rw [← take_at h, List.take_append_drop]
  rw [e, List.nodup_append, List.nodup_append] at nd
  exact nd.1.2.2 k hm k (List.mem_singleton.mpr rfl) rfl
theorem ne_things {H : Hp} {th b : Addr} {kvs : List (Key × V)} {ks : List Int} {x : Str} {v : V} {r : List (Key × V)} (h : H th = some (.dK kvs)) (hk : kvs.map (·.1) = ks.map Sum.inl) (hb : H b = some (.dK ((Sum.inr x, v) :: r))) : b ≠ th := fun z => by
  rw [z, h] at hb
  cases hb
  cases ks with
  | nil => simp at hk
  | cons k ks => simp at hk
theorem setAt_self {X : Spot → V} {q : Spot} : setAt X q (X q) = X := by
  funext p
  unfold setAt
  split
  · rename_i h
    rw [h]
  · rfl
theorem sheet_len {H : Hp} {s : Addr} {t : Tab} {L : List Spot} {X Y : Spot → V} (h : SheetAt H s t L X Y) {kvs : List (List Key × V)} (e : H s = some (.dT kvs)) : kvs.length = L.length := by
  obtain ⟨kvs0, h1, h2, _⟩ := h.ex
  rw [e] at h1
  cases h1
  have e1 := congrArg List.length h2
  rw [List.length_map, List.length_map] at e1
  exact e1

/-! ### sheets_of -/
def spSheetsOf : Sp := fun vs H Q _ => ∃ (fm : Addr) (F : Frm) (th : Addr) (T : Tb), vs = [.ref fm, .ref th] ∧ FormAt H fm F ∧ ThingsAt H th F T ∧ ((cA F T).L T.ks).length ≤ 1000 ∧ ((cB F T).L T.ks).length ≤ 1000 ∧
  ∀ (sh sa sb : Addr) H', Same H H' → H sh = none → ShAt H' sh F sa sb ((cA F T).L T.ks) ((cB F T).L T.ks) (cA F T).X (cA F T).Y (cB F T).X (cB F T).Y → Q (.ref sh) H'
theorem sc_sheetsOf : FnScope ["form", "things", "sheets", "table", "key", "place", "row"] ["form", "things"] (defScope (top 34)) := ⟨rfl, rfl, rfl, by decide +kernel, rfl, by decide +kernel, by decide +kernel⟩
theorem cl_sheetsOf (D : DefAt K mg "sheets_of" (top 34)) (G : Gs mg) (C1 : Cl P w K mg base 1 "tables_of" spTablesOf) : Cl P w K mg base 2 "sheets_of" spSheetsOf := by
  refine cl_mk D sc_sheetsOf (fun _ _ _ _ _ _ us hl => match us, hl with | [_, _], _ => rfl) (fun vs H Q E h => ?_) (fun f cdv A outer s H vs Q E hr h => ?_)
  · obtain ⟨fm, F, th, T, rfl, _⟩ := h
    rfl
  · obtain ⟨fm, F, th, T, rfl, hF, hT, nA, nB, q⟩ := h
    have nd := sc_sheetsOf.nd
    have hu := hu_of hr
    refine ⟨_, pss_cons (ps_set (i := 2) nd rfl (Or.inl rfl) pe_dnewK)
      (pss_cons (ps_for PassesOwn.never rfl (pi_list (pe_cl C1 hr (by decide) (by rfl) (pa_cons (pv 0) pa_nil))) (pg_name (i := 3) nd rfl (Or.inl rfl))
        (pss_cons (ps_dput hu (pv 2) (pv 3) pe_dnewT rfl)
        (pss_one (ps_lock (ps_for PassesOwn.never rfl (pi_keys (pv 1)) (pg_name (i := 4) nd rfl (Or.inl rfl))
          (pss_one (ps_for PassesOwn.never rfl (pi_enum (by rfl) G.enumerate (pa_cons (pe_dget hu (pe_dget hu (pv 1) (pv 4) (fun _ _ => rfl)) (pv 3) (fun _ _ => rfl)) pa_nil)) (pg_tup rfl (pgs_cons (pg_name (i := 5) nd rfl (Or.inl rfl)) (pgs_cons (pg_name (i := 6) nd rfl (Or.inl rfl)) pgs_nil)))
            (pss_one (ps_dput hu (pe_dget hu (pv 2) (pv 3) (fun _ _ => rfl)) (pe_tup (pa_cons (pv 4) (pa_cons (pv 5) pa_nil))) (pe_callTy call_dictD (by rfl) G.dict PyProof.Rows.boot_dict (pa_cons (pv 6) pa_nil)) rfl)))))))))
      (pss_one (ps_ret (pv 2)))), ?_⟩
    intro sh hsh
    refine ⟨_, rfl, fm, F, rfl, hF.same (same_upd hsh), fun pT hpT => ⟨pT, rfl, ⟨_, SqL.of upd_same⟩, ?_⟩⟩
    generalize hH1 : upd (upd H sh (.dK [])) pT (.lst [.str F.a.nm, .str F.b.nm]) = H1
    have s1 : Same H H1 := by
      rw [← hH1]
      exact (same_upd hsh).trans (same_upd hpT)
    have hP : H1 pT = some (.lst [.str F.a.nm, .str F.b.nm]) := by rw [← hH1]; exact upd_same
    have hps : sh ≠ pT := ne_of_none (upd_same (H := H) (a := sh) (o := .dK [])) hpT
    have hS0 : H1 sh = some (.dK []) := by rw [← hH1, upd_ne hps]; exact upd_same
    obtain ⟨kvT, hth, hkT, hthings⟩ := hT.ex
    refine for_list (K := K) (a := pT) (xs := [.str F.a.nm, .str F.b.nm]) (fun i σ H' => Same H H' ∧ H' pT = some (.lst [.str F.a.nm, .str F.b.nm]) ∧ (∃ o3 o4 o5 o6, σ = [some (.ref fm), some (.ref th), some (.ref sh), o3, o4, o5, o6]) ∧
      ((i = 0 ∧ H' sh = some (.dK [])) ∨ (i = 1 ∧ ∃ sa, H' sh = some (.dK [(Sum.inr F.a.nm, .ref sa)]) ∧ SheetAt H' sa F.a ((cA F T).L T.ks) (cA F T).X (cA F T).Y) ∨
        (i = 2 ∧ ∃ sa sb, ShAt H' sh F sa sb ((cA F T).L T.ks) ((cB F T).L T.ks) (cA F T).X (cA F T).Y (cB F T).X (cB F T).Y)))
      ⟨s1, hP, ⟨_, _, _, _, rfl⟩, .inl ⟨rfl, hS0⟩⟩ (fun i σ H' _ p => SqL.of p.2.1) ?_ ?_
    · rintro i x σ H2 hx ⟨s2, hP2, ⟨o3, o4, o5, o6, rfl⟩, hst⟩
      obtain ⟨t, c, kv0, ht, rfl, hc, hsh2, hnew, hkv, hlen, hrows, hfin⟩ : ∃ (t : Tab) (c : Cnt) (kv0 : List (Key × V)), Of F t ∧ x = .str t.nm ∧ c.t = t ∧ H2 sh = some (.dK kv0) ∧ valV kv0 (Sum.inr t.nm) = none ∧ kv0.length ≤ 2 ∧ (c.L T.ks).length ≤ 1000 ∧
          (∀ k la lb, LstAt H la (cA F T) k → LstAt H lb (cB F T) k → ∃ l, valV ([(Sum.inr F.a.nm, .ref la), (Sum.inr F.b.nm, .ref lb)] : List (Key × V)) (Sum.inr t.nm) = some (.ref l) ∧ LstAt H l c k) ∧
          (∀ s H3, Keep [sh] H2 H3 → H3 sh = some (.dK (kv0 ++ [(Sum.inr t.nm, .ref s)])) → SheetAt H3 s t (c.L T.ks) c.X c.Y →
            ((i + 1 = 0 ∧ H3 sh = some (.dK [])) ∨ (i + 1 = 1 ∧ ∃ sa, H3 sh = some (.dK [(Sum.inr F.a.nm, .ref sa)]) ∧ SheetAt H3 sa F.a ((cA F T).L T.ks) (cA F T).X (cA F T).Y) ∨
              (i + 1 = 2 ∧ ∃ sa sb, ShAt H3 sh F sa sb ((cA F T).L T.ks) ((cB F T).L T.ks) (cA F T).X (cA F T).Y (cB F T).X (cB F T).Y))) := by
        rcases hst with ⟨rfl, h0⟩ | ⟨rfl, sa, h0, h1⟩ | ⟨rfl, _⟩
        · exact ⟨F.a, cA F T, [], .inl rfl, (Option.some.inj hx).symm, rfl, h0, rfl, by decide, nA, fun k la lb g1 g2 => ⟨la, two_a, g1⟩, fun s H3 _ g1 g2 => .inr (.inl ⟨rfl, s, g1, g2⟩)⟩
        · refine ⟨F.b, cB F T, _, .inr rfl, (Option.some.inj hx).symm, rfl, h0, ?_, by show 1 ≤ 2; decide, nB, fun k la lb g1 g2 => ⟨lb, two_b hF.ne, g2⟩, fun s H3 kp g1 g2 => .inr (.inr ⟨rfl, sa, s, ⟨g1, ?_, g2, nA, nB⟩⟩)⟩
          · rw [valV_neg (p := (Sum.inr F.a.nm, .ref sa)) (fun z => hF.ne (Sum.inr.inj z))]
            rfl
          · refine h1.keep kp (fun z => ?_) fun b hb x y e => ?_
            · obtain ⟨kvs, e⟩ := h1.isT
              rw [List.mem_singleton.mp z, h0] at e
              cases e
            · rw [List.mem_singleton.mp hb, h0] at e
              have e2 := congrArg List.length (HO.dK.inj (Option.some.inj e))
              simp [rowOf] at e2
        · exact absurd hx (by simp)
      intro s hs
      -- the new sheet, laid under the table's name
      have hss : s ≠ sh := fun z => by
        rw [z, hsh2] at hs
        cases hs
      have hkv1 : putK kv0 (Sum.inr t.nm) (.ref s) = kv0 ++ [(Sum.inr t.nm, .ref s)] := putK_new _ hnew
      refine ⟨_, rfl, _, rfl, sh, _, rfl, DPut.k (k := Sum.inr t.nm) (by rw [upd_ne (Ne.symm hss)]; exact hsh2) (Nat.lt_of_le_of_lt hkv (by decide)), ?_⟩
      rw [hkv1]
      generalize hH3 : upd (upd H2 s (.dT [])) sh (.dK (kv0 ++ [(Sum.inr t.nm, .ref s)])) = H3
      have k3 : Keep [sh] H2 H3 := by
        rw [← hH3]
        exact (Keep.of_same (same_upd hs)).trans keep_upd
      have hsh3 : H3 sh = some (.dK (kv0 ++ [(Sum.inr t.nm, .ref s)])) := by rw [← hH3]; exact upd_same
      have hs3 : H3 s = some (.dT []) := by rw [← hH3, upd_ne hss]; exact upd_same
      have h0s : H s = none := by
        cases e : H s with
        | none => rfl
        | some o =>
          rw [s2 _ _ e] at hs
          cases hs
      have b3 : Same H H3 := fun b o e => k3 _ _ (s2 _ _ e) (by
        have := ne_of_none e hsh
        simpa using this)
      refine ⟨th, _, b3 _ _ hth, True.intro, fun od => ?_⟩
      have kL : ∀ b o, H b = some o → b ≠ th → (upd H3 th (.frz od (.dK kvT))) b = some o := fun b o e n => by
        rw [upd_ne n]
        exact b3 _ _ e
      have hsth : s ≠ th := fun z => by
        rw [z, hth] at h0s
        cases h0s
      have hshth : sh ≠ th := fun z => by
        rw [z, hth] at hsh
        cases hsh
      generalize hHl : upd H3 th (.frz od (.dK kvT)) = Hl at kL
      have hthl : Hl th = some (.frz od (.dK kvT)) := by rw [← hHl]; exact upd_same
      have hshl : Hl sh = some (.dK (kv0 ++ [(Sum.inr t.nm, .ref s)])) := by rw [← hHl, upd_ne hshth]; exact hsh3
      have hsl : Hl s = some (.dT []) := by rw [← hHl, upd_ne hsth]; exact hs3
      have hPl : Keep [th] H3 Hl := by rw [← hHl]; exact keep_upd
      have kvl : kvT.length = T.ks.length := by
        have e := congrArg List.length hkT
        rw [List.length_map, List.length_map] at e
        exact e
      refine ⟨_, rfl, th, od, rfl, .inl ⟨kvT, hthl, ?_⟩⟩
      refine for_it walk_keys (fun j σ H' => Keep [s] Hl H' ∧ SheetAt H' s t (spots c.n (T.ks.take j)) c.X c.Y ∧ ∃ o4 o5 o6, σ = [some (.ref fm), some (.ref th), some (.ref sh), some (.str t.nm), o4, o5, o6])
        ⟨Keep.refl _, ⟨⟨[], hsl, rfl, fun q hq => absurd hq (by simp [spots])⟩, by simp [spots]⟩, _, _, _, rfl⟩ (fun j σ H' _ p => p.1 _ _ hthl (by simpa using Ne.symm hsth)) ?_ ?_
      · rintro j x σ H4 H4' hj ⟨k4, SA, o4, o5, o6, rfl⟩ ⟨rfl, kk, vv, hkk, rfl⟩
        have e1 : (kvT.map (·.1))[j]? = some kk := by rw [List.getElem?_map, hkk]; rfl
        rw [hkT, List.getElem?_map] at e1
        obtain ⟨key, hkey, rfl⟩ := Option.map_eq_some_iff.mp e1
        have hkm : key ∈ T.ks := List.mem_of_getElem? hkey
        obtain ⟨pc, la, lb, g1, g2, g3, g4⟩ := hthings key hkm
        obtain ⟨l, hl1, rs, hl2, hl3, hl4⟩ := hrows key la lb g3 g4
        have k04 : ∀ b o, H b = some o → b ≠ th → H4' b = some o := fun b o e n => k4 _ _ (kL _ _ e n) (by simpa using ne_of_none e h0s)
        have hth4 : H4' th = some (.frz od (.dK kvT)) := k4 _ _ hthl (by simpa using Ne.symm hsth)
        have hpc4 := k04 _ _ g2 (ne_things hth hkT g2)
        have hl4' : H4' l = some (.lst (rs.map V.ref)) := k04 _ _ hl2 fun z => by
          rw [z, hth] at hl2
          cases hl2
        have gd1 : DGet H4' th (.int key) (some (.ref pc)) := .inl ⟨kvT, Sum.inl key, .inr ⟨od, hth4⟩, rfl, g1.symm⟩
        have gd2 : DGet H4' pc (.str t.nm) (some (.ref l)) := .inl ⟨_, Sum.inr t.nm, .inl hpc4, rfl, hl1.symm⟩
        refine ⟨_, rfl, _, rfl, th, _, rfl, gd1, _, rfl, pc, _, rfl, gd2, l, _, rfl, SqL.of hl4', ?_⟩
        refine for_it walk_enum (fun m σ H' => Keep [s] Hl H' ∧ SheetAt H' s t (spots c.n (T.ks.take j) ++ spotsOf key m) c.X c.Y ∧ H' l = some (.lst (rs.map V.ref)) ∧ (∃ o5 o6, σ = [some (.ref fm), some (.ref th), some (.ref sh), some (.str t.nm), some (.int key), o5, o6]))
          ⟨k4, by simpa [spotsOf] using SA, hl4', _, _, rfl⟩ (fun m σ H' _ p => SqL.of p.2.2.1) ?_ ?_
        · rintro m z σ H5 H6 hm ⟨k5, SA5, hl5, o5, o6, rfl⟩ ⟨Tu, y, x, rfl, hTu, rfl, ey, ex⟩
          have ex2 : (rs.map V.ref)[m]? = some x := ex
          cases Option.some.inj ey
          rw [List.getElem?_map] at ex2
          obtain ⟨r, hr1, rfl⟩ := Option.map_eq_some_iff.mp ex2
          rw [List.length_map, hl3] at hm
          have hrow := hl4 m r hr1
          have k05 : ∀ b o, H b = some o → b ≠ th → H5 b = some o := fun b o e n => k5 _ _ (kL _ _ e n) (by simpa using ne_of_none e h0s)
          have hrow5 := k05 _ _ hrow (ne_things hth hkT hrow)
          have u1 : Same H5 (upd H5 Tu (.tup [.int (m : Nat), .ref r])) := same_upd hTu
          refine ⟨Tu, _, rfl, SqT.of upd_same, rfl, _, _, rfl, _, _, rfl, rfl, ?_⟩
          refine ⟨_, rfl, r, _, rfl, .inl (u1 _ _ hrow5), fun p hp => ?_⟩
          have u2 := u1.trans (same_upd (o := .dK (rowOf c.t (c.X (key, (m : Int))) (c.Y (key, (m : Int))))) hp)
          have hsh5 : H5 sh = some (.dK (kv0 ++ [(Sum.inr t.nm, .ref s)])) := k5 _ _ hshl (by simpa using Ne.symm hss)
          have gsh : ∀ {H' : Hp}, Same H5 H' → DGet H' sh (.str t.nm) (some (.ref s)) := fun {H'} sm => by
            have g := DGet.k (k := Sum.inr t.nm) (sm _ _ hsh5)
            rw [← hkv1, valV_put, if_pos rfl] at g
            exact g
          refine ⟨_, rfl, _, rfl, sh, _, rfl, gsh u2, _, rfl, _, rfl, (by show 2 ≤ sizeLine; decide), fun b hb => ?_⟩
          have u3 := u2.trans (same_upd (o := .tup [.int key, .int (m : Nat)]) hb)
          obtain ⟨kvs, hk5⟩ := SA5.isT
          have hlen5 := sheet_len SA5 hk5
          have hle : kvs.length ≤ 1000 := by
            rw [hlen5, List.length_append]
            have e2 : (spotsOf key m).length = m := by
              unfold spotsOf
              rw [List.length_map, List.length_range]
            have e3 := spots_pre (n := c.n) hkey
            have e4 : (spots c.n T.ks).length ≤ 1000 := hlen
            omega
          refine ⟨s, _, rfl, DPut.t (k := spotK (key, (m : Int))) (u3 _ _ hk5) upd_same (Nat.lt_of_le_of_lt hle (by decide)), ?_⟩
          have hpb : p ≠ b := ne_of_none (upd_same (H := upd H5 Tu (.tup [.int (m : Nat), .ref r])) (a := p) (o := .dK (rowOf c.t (c.X (key, (m : Int))) (c.Y (key, (m : Int)))))) hb
          have hps2 : p ≠ s := fun z => by
            rw [z, u1 _ _ hk5] at hp
            cases hp
          have kq : Keep [s] H5 (upd (upd (upd (upd H5 Tu (.tup [.int (m : Nat), .ref r])) p (.dK (rowOf c.t (c.X (key, (m : Int))) (c.Y (key, (m : Int)))))) b (.tup [.int key, .int (m : Nat)])) s (.dT (putK kvs (spotK (key, (m : Int))) (.ref p)))) := (Keep.of_same u3).trans keep_upd
          have hnot : ¬ ((key, (m : Int)) : Spot) ∈ spots c.n (T.ks.take j) ++ spotsOf key m := fun z => by
            rcases List.mem_append.mp z with z | z
            · exact not_take hT.nd hkey (spots_mem.mp z).1
            · have := (spotsOf_mem.mp z).2.2
              have e : ((key, (m : Int)) : Spot).2 = (m : Int) := rfl
              rw [e] at this
              omega
          have SA6 := SA5.add (q := (key, (m : Int))) (x := c.X (key, (m : Int))) (y := c.Y (key, (m : Int))) hk5 hnot kq (by rw [upd_ne hps2, upd_ne hpb, upd_same, hc]) upd_same
          rw [setAt_self, setAt_self, List.append_assoc, ← spotsOf_succ] at SA6
          have hls : l ≠ s := fun z => by
            rw [z, hk5] at hl5
            cases hl5
          exact ⟨k5.trans kq, SA6, kq _ _ hl5 (by simpa using hls), _, _, rfl⟩
        · rintro σ H5 ⟨k5, SA5, _, o5, o6, rfl⟩
          rw [List.length_map, hl3, ← spots_snoc, ← take_at hkey] at SA5
          exact ⟨k5, SA5, _, _, _, rfl⟩
      · rintro σ H4 ⟨k4, SA, o4, o5, o6, rfl⟩
        rw [kvl, List.take_length] at SA
        have hth4 : H4 th = some (.frz od (.dK kvT)) := k4 _ _ hthl (by simpa using Ne.symm hsth)
        refine ⟨hth4, ?_⟩
        rw [← hHl] at k4
        have k5 : Keep [s] H3 (upd H4 th (.dK kvT)) := unlock_keep (b3 _ _ hth) k4
        have SA5 := SA.unlock hth4
        have hns : ∀ b o, H2 b = some o → b ≠ s := fun b o e => ne_of_none e hs
        have k6 : Keep [sh] H2 (upd H4 th (.dK kvT)) := fun b o e n => k5 _ _ (k3 _ _ e n) (by simpa using hns b o e)
        have hshF := k5 _ _ hsh3 (by simpa using Ne.symm hss)
        have hPsh : pT ≠ sh := fun z => by
          rw [z, hsh2] at hP2
          cases hP2
        refine ⟨fun b o e => k6 _ _ (s2 _ _ e) (by simpa using ne_of_none e hsh), k6 _ _ hP2 (by simpa using hPsh), ⟨_, _, _, _, rfl⟩, hfin s _ k6 hshF SA5⟩
    · rintro σ H2 ⟨s2, _, ⟨o3, o4, o5, o6, rfl⟩, hst⟩
      rcases hst with ⟨h, _⟩ | ⟨h, _⟩ | ⟨_, sa, sb, S⟩
      · exact absurd h (by simp)
      · exact absurd h (by simp)
      · exact ⟨_, rfl, q sh sa sb H2 s2 hsh S⟩
end K18
end L2
namespace L2
open PySem PySem.Spec PyProof.Rows
namespace K18
section
variable {X : Cx} {k : Nat} {f C : Addr} {fd : FuncData} {ps : List Str} {ds : List Value} {dvs : List V} {sp : Sp} {W : WX} {x m : Str} {p pos apos : Pos} {e o : Expr} {es : List Expr} {ta : TE} {t : TA}
/-- o.m(e, ..) of a method that may let an exception out -/
def tMethX (C : Addr) (m : Str) (sp : Sp) (W : WX) (ta : TE) (t : TA) : TE := fun σ H Q => ta σ H fun x H1 => ∃ a dx fs, x = .ref a ∧ H1 a = some (.ins C dx fs) ∧ fs.lookup m = none ∧ t σ H1 fun vs H2 => sp (x :: vs) H2 Q (fun cls d H3 => W cls d σ H3)
theorem pe_methX {pl : Sem Bool} (he : PE X o ta) (c : Cls X.K C) (hm : Meth X.K C m f) (F : FnOk X.prog X.w X.K X.mg X.base (L2.CX X.prog X.w) k f fd ps sp) (hr : Room k X.A) (hb : Binds X.K fd ps []) (tk : Takes X W) (ha : PA X (e :: es) t)
    (hst : starEach (e :: es) X.env = (false, eval e X.env) :: starEach es X.env := by rfl) (hpl : (backTo pos (starEach es X.env)).any (·.1) = false := by rfl)
    (ht : eval (.Call (.Attribute o m apos) (e :: es) [] pos) X.env = (eval o X.env >>= fun ov => standAt apos.atName >>= fun _ => holding [ov] (getMethod ov m pl) >>= fun r =>
      callWith pos r.1 r.2 (backTo pos (starEach (e :: es) X.env)) (backToKw pos (keywordEach [] X.env))) := by rfl) :
    PE X (.Call (.Attribute o m apos) (e :: es) [] pos) (tMethX C m sp W ta t) := by
  refine ⟨fun pins s σ H Q I q0 => ?_⟩
  refine PySem.W.methodCall_KW (pl := pl) (thn (he.run pins s σ H _ I q0) fun u s1 hu => ?_) ht
  obtain ⟨x, H1, I1, rx, a, dx, fs, rfl, ea, l, q1⟩ := hu
  obtain rfl : u = Value.ref a := rx
  refine getmeth_ok I1 ea c hm l (PySem.W.callWith_K (first := [.ref a]) (h₀ := X.base) I.ok.mod.kin hm.kp (thn (ha.run pos pins s1 σ H1 _ I1 q1) fun us s2 hus => ?_) hst hpl)
  obtain ⟨vs, H2, I2, r, q2⟩ := hus
  exact ⟨I2.kIn, run_fnS (us := .ref a :: us) (vs := .ref a :: vs) (E := WE W) F hr hb (passAt tk σ) I2 (.cons rfl r) q2⟩
/-- C(e, ..), whose __init__ may let an exception out -/
def tMakeX (C : Addr) (sp : Sp) (dvs : List V) (W : WX) (t : TA) : TE := fun σ H Q => t σ H fun vs H1 => ∀ x dx, H1 x = none → H1 dx = none → dx ≠ x → sp (.ref x :: (vs ++ dvs)) (upd (upd H1 dx (.own x)) x (.ins C dx [])) (fun v H2 => v = .non ∧ Q (.ref x) H2) (fun cls d H3 => W cls d σ H3)
theorem pe_makeX (M : Mk X.K C f) (F : FnOk X.prog X.w X.K X.mg X.base (L2.CX X.prog X.w) k f fd ps sp) (hr : Room (k + 1) X.A) (hg : Gl X x) (hm : X.mg x = some (.ref C)) (hb : Binds X.K fd ps ds) (hd : Vals dvs ds) (tk : Takes X W) (ha : PA X (e :: es) t)
    (hdb : (x == ("__debug__" : Str)) = false := by decide +kernel) (he : starEach (e :: es) X.env = (false, eval e X.env) :: starEach es X.env := by rfl) (hpl : (backTo pos (starEach es X.env)).any (·.1) = false := by rfl) :
    PE X (.Call (.Name x p) (e :: es) [] pos) (tMakeX C sp dvs W t) := by
  refine ⟨fun pins s σ H Q I q0 => wpAny_Call_Name_kw (ld_glob I hg hm (PySem.W.callWith_K (h₀ := X.base) I.ok.mod.kin M.kp (thn (ha.run pos pins s σ H _ I q0) fun us s1 hus => ?_) he hpl) hdb)⟩
  obtain ⟨vs, H1, I1, r, q1⟩ := hus
  refine ⟨I1.kIn, ?_⟩
  have hq := q1 (s1.heap.objs.size + 1) s1.heap.objs.size (I1.hok.fresh (Nat.le_succ _)) (I1.hok.fresh (Nat.le_refl _)) (Nat.ne_of_lt (Nat.lt_succ_self _))
  have J := Inv.made (C := C) I1
  have rr : Vals (V.ref (s1.heap.objs.size + 1) :: (vs ++ dvs)) (Value.ref (s1.heap.objs.size + 1) :: (us ++ ds)) := .cons rfl (r.append hd)
  have hlen : (Value.ref (s1.heap.objs.size + 1) :: us ++ ds).length = ps.length := rr.length.symm.trans (F.len _ _ _ _ hq)
  show wpAny (model X.prog X.w) X.A (call (.ref C) us) _ _ _
  refine wpAny_call (make_map (f := f) I1.kIn M.makes M.init (beq_iff_eq.mp M.fn) (codeAny_mono (F.run _ X.stack _ _ ⟨Value.ref (s1.heap.objs.size + 1) :: us, []⟩ (Value.ref (s1.heap.objs.size + 1) :: (us ++ ds)) _ _ (WE W σ) (hr.make C us [])
    (J.env0.make C us []) (hb _ (Value.ref (s1.heap.objs.size + 1) :: us) J.kIn hlen) rr hq) fun fr s' hfr => ?_))
  cases fr with
  | error er => exact passAt tk σ pins _ _ er s' J hfr
  | ok fl =>
    cases fl with
    | ret u =>
      obtain ⟨v, H', I3, rv, ev, q3⟩ := J.after hfr
      subst ev
      exact ⟨rv, V.ref (s1.heap.objs.size + 1), H', I3, rfl, q3⟩
    | next => exact False.elim hfr
    | brk => exact False.elim hfr
    | cont => exact False.elim hfr
end
end K18
end L2
namespace L2
open PySem PySem.Spec PyProof.Rows
namespace K18
open _root_.K18 (spotK spotK_inj)
variable {P : Program} {w : World} {K : PySem.W.Frag} {mg : Str → Option Value} {base : Heap}

/-! ### the class Plain -/
structure PlCls (K : PySem.W.Frag) (mg : Str → Option Value) (C : Addr) : Prop where
  cl : Cls K C
  nS : NoAttr K C "shape"
  nH : NoAttr K C "sheets"
  gC : mg "Plain" = some (.ref C)
def flds (fm sh : Addr) : List (Str × V) := [("shape", .ref fm), ("sheets", .ref sh)]
theorem flds_shape {fm sh : Addr} : (flds fm sh).lookup ("shape" : Str) = some (V.ref fm) := by
  unfold flds
  rw [lookup_put, if_pos rfl]
theorem flds_sheets {fm sh : Addr} : (flds fm sh).lookup ("sheets" : Str) = some (V.ref sh) := by
  unfold flds
  rw [lookup_put, if_neg (by decide +kernel), lookup_put, if_pos rfl]
theorem flds_no {fm sh : Addr} {m : Str} (h1 : ¬ m = ("shape" : Str)) (h2 : ¬ m = ("sheets" : Str)) : (flds fm sh).lookup m = none := by
  unfold flds
  rw [lookup_put, if_neg h1, lookup_put, if_neg h2]
  rfl
theorem put_shape {fm : Addr} : putF ("shape" : Str) (.ref fm) [] = ([(("shape" : Str), V.ref fm)] : List (Str × V)) := rfl
theorem put_sheets {fm sh : Addr} : putF ("sheets" : Str) (.ref sh) [(("shape" : Str), V.ref fm)] = flds fm sh := rfl
theorem put_again {fm sh sh' : Addr} : putF ("sheets" : Str) (.ref sh') (flds fm sh) = flds fm sh' := rfl
/-- the first row of the table that points to nothing -/
def dueT (F : Frm) (T : Tb) : Option (Str × Spot) := dueP F ((cA F T).L T.ks) ((cB F T).L T.ks) (cA F T).X (cA F T).Y (cB F T).X
theorem ptrs (F : Frm) (T : Tb) : Ptr ((cA F T).L T.ks) (cA F T).X ∧ Ptr ((cA F T).L T.ks) (cA F T).Y ∧ Ptr ((cB F T).L T.ks) (cB F T).X :=
  ⟨fun q _ => ⟨_, rfl⟩, fun q _ => ⟨_, rfl⟩, fun q _ => ⟨_, rfl⟩⟩

/-! ### __init__ -/
abbrev sInit : Stmt := inClass (top 35) 0
def spInit (C CN : Addr) : Sp := fun vs H Q E => ∃ (p dx fm : Addr) (tv : V) (F : Frm) (T : Tb), vs = [.ref p, .ref fm, tv] ∧ H p = some (.ins C dx []) ∧ FormAt H fm F ∧ ((tv = .non ∧ T.ks = []) ∨ ∃ th, tv = .ref th ∧ ThingsAt H th F T) ∧
  ((cA F T).L T.ks).length ≤ 1000 ∧ ((cB F T).L T.ks).length ≤ 1000 ∧
  (dueT F T = none → ∀ sh sa sb H', Keep [p] H H' → H' p = some (.ins C dx (flds fm sh)) → ShAt H' sh F sa sb ((cA F T).L T.ks) ((cB F T).L T.ks) (cA F T).X (cA F T).Y (cB F T).X (cB F T).Y → Q .non H') ∧
  (∀ nm q, dueT F T = some (nm, q) → ∀ d H', Keep [p] H H' → H' d = some (.xd (errF nm q)) → E (.ref CN) (some d) H')
theorem sc_init : FnScope ["self", "form", "things"] ["self", "form", "things"] (defScope sInit) := ⟨rfl, rfl, rfl, by decide +kernel, rfl, by decide +kernel, by decide +kernel⟩
theorem fn_init {C CN f : Addr} {fd : FuncData} {dvs : List V} {kws : List (Str × V)} (F0 : FunD K "__init__" "Plain.__init__" (defArgs sInit) (defBody sInit) (defScope sInit) dvs kws f fd) (T0 : PlCls K mg C) (G : Gs mg)
    (C2 : Cl P w K mg base 2 "sheets_of" spSheetsOf) (C3 : Cl P w K mg base 4 "look_for_twice" spTwice) (C4 : ClX P w K mg base 4 "look_for_nowhere" (spNowhere CN)) :
    FnOk P w K mg base (L2.CX P w) 5 f fd ["self", "form", "things"] (spInit C CN) := by
  refine F0.ok sc_init (fun vs H Q E h => ?_) (fun cdv A outer s H vs Q E hr h => ?_)
  · obtain ⟨p, dx, fm, tv, F, T, rfl, _⟩ := h
    rfl
  · obtain ⟨p, dx, fm, tv, F, T, rfl, hp, hF, htv, nA, nB, q, qE⟩ := h
    have nd := sc_init.nd
    refine ⟨_, pss_cons (ps_fld (pv 0) (pv 1) rfl)
      (pss_cons (ps_if (pt_cmpR op_isN (pv 2) pe_non (nomark _)) (pss_one (ps_fld (pv 0) (pe_cl C2 hr (by decide) (by rfl) (pa_cons (pv 1) (pa_cons pe_dnewK pa_nil))) rfl))
        (pss_one (ps_fld (pv 0) (pe_cl C2 hr (by decide) (by rfl) (pa_cons (pv 1) (pa_cons (pv 2) pa_nil))) rfl)))
      (pss_cons (ps_expr (pe_cl C3 hr (by decide) (by rfl) (pa_cons (pv 1) (pa_cons (pe_fld (pv 0) rfl) pa_nil))))
      (pss_one (ps_expr (pe_clX C4 hr (by decide) (takes_of rfl rfl rfl rfl) (by rfl) (pa_cons (pv 1) (pa_cons (pe_fld (pv 0) rfl) pa_nil))))))), ?_⟩
    refine ⟨_, rfl, _, rfl, p, C, dx, [], rfl, hp, T0.cl, T0.nS, (by show 0 < 1000; decide), ?_⟩
    rw [put_shape]
    generalize hH1 : upd H p (.ins C dx [(("shape" : Str), V.ref fm)]) = H1
    have k1 : Keep [p] H H1 := by rw [← hH1]; exact keep_upd
    have hp1 : H1 p = some (.ins C dx [(("shape" : Str), V.ref fm)]) := by rw [← hH1]; exact upd_same
    have np : ∀ {b : Addr} {o : HO}, H b = some o → o ≠ .ins C dx [] → b ≠ p := fun {b o} e n z => by
      rw [z, hp] at e
      exact n (Option.some.inj e).symm
    have hF1 : FormAt H1 fm F := by
      have kt : ∀ b xs, H b = some (.tup xs) → H1 b = some (.tup xs) := fun b xs e => k1 _ _ e (by simpa using np e (fun z => nomatch z))
      have kz : ∀ b xs, _root_.K18.PlainT H b xs → _root_.K18.PlainT H1 b xs := fun b xs ⟨o, e, e2⟩ => ⟨o, k1 _ _ e (by simpa using np e (fun z => nomatch z)), e2⟩
      exact ⟨kt _ _ hF.fm, kt _ _ hF.tabs, ⟨kt _ _ hF.a.at_, kz _ _ hF.a.k, kt _ _ hF.a.pa, kt _ _ hF.a.pb, kt _ _ hF.a.qa, kt _ _ hF.a.qb, hF.a.ne, hF.a.lt⟩, ⟨kt _ _ hF.b.at_, kz _ _ hF.b.k, kt _ _ hF.b.pa, kt _ _ hF.b.pb, kt _ _ hF.b.qa, kt _ _ hF.b.qb, hF.b.ne, hF.b.lt⟩, hF.ne, hF.sa, hF.sb, hF.ka, hF.kb⟩
    -- behind the sheets' making
    have rest : ∀ (sh sa sb : Addr) H2, Same H1 H2 → ShAt H2 sh F sa sb ((cA F T).L T.ks) ((cB F T).L T.ks) (cA F T).X (cA F T).Y (cB F T).X (cB F T).Y →
        sFld K (tVar 0) (fun _ H' Q' => Q' (.ref sh) H') "sheets" { nx := tSeq (tDrop (tCl spTwice (tCons (tVar 1) (tCons (tFld K (tVar 0) "sheets") tNil)))) (tDrop (tClX (spNowhere CN) (fun cls d _ H' => E cls d H') (tCons (tVar 1) (tCons (tFld K (tVar 0) "sheets") tNil)))) { nx := fun _ H' => Q .non H', rt := Q }, rt := Q }
          [some (.ref p), some (.ref fm), some tv] H2 := fun sh sa sb H2 s2 S => by
      have hp2 := s2 _ _ hp1
      refine ⟨_, rfl, p, C, dx, _, rfl, hp2, T0.cl, T0.nH, (by show 1 < 1000; decide), ?_⟩
      rw [put_sheets]
      generalize hH3 : upd H2 p (.ins C dx (flds fm sh)) = H3
      have k3 : Keep [p] H2 H3 := by rw [← hH3]; exact keep_upd
      have hp3 : H3 p = some (.ins C dx (flds fm sh)) := by rw [← hH3]; exact upd_same
      have np2 : ∀ {b : Addr} {o : HO}, H2 b = some o → o ≠ .ins C dx [(("shape" : Str), V.ref fm)] → b ≠ p := fun {b o} e n z => by
        rw [z, hp2] at e
        exact n (Option.some.inj e).symm
      have hF2 := hF1.same s2
      have hF3 : FormAt H3 fm F := by
        have kt : ∀ b xs, H2 b = some (.tup xs) → H3 b = some (.tup xs) := fun b xs e => k3 _ _ e (by simpa using np2 e (fun z => nomatch z))
        have kz : ∀ b xs, _root_.K18.PlainT H2 b xs → _root_.K18.PlainT H3 b xs := fun b xs ⟨o, e, e2⟩ => ⟨o, k3 _ _ e (by simpa using np2 e (fun z => nomatch z)), e2⟩
        exact ⟨kt _ _ hF2.fm, kt _ _ hF2.tabs, ⟨kt _ _ hF2.a.at_, kz _ _ hF2.a.k, kt _ _ hF2.a.pa, kt _ _ hF2.a.pb, kt _ _ hF2.a.qa, kt _ _ hF2.a.qb, hF.a.ne, hF.a.lt⟩, ⟨kt _ _ hF2.b.at_, kz _ _ hF2.b.k, kt _ _ hF2.b.pa, kt _ _ hF2.b.pb, kt _ _ hF2.b.qa, kt _ _ hF2.b.qb, hF.b.ne, hF.b.lt⟩, hF.ne, hF.sa, hF.sb, hF.ka, hF.kb⟩
      have S3 : ShAt H3 sh F sa sb ((cA F T).L T.ks) ((cB F T).L T.ks) (cA F T).X (cA F T).Y (cB F T).X (cB F T).Y := by
        have ks : ∀ b, b ∈ [p] → ∀ o, H2 b = some o → o = .ins C dx [(("shape" : Str), V.ref fm)] := fun b hb o e => by
          rw [List.mem_singleton.mp hb, hp2] at e
          exact (Option.some.inj e).symm
        refine ⟨k3 _ _ S.sh (by simpa using np2 S.sh (fun z => nomatch z)), S.a.keep k3 (fun z => ?_) fun b hb x y e => (nomatch ks b hb _ e), S.b.keep k3 (fun z => ?_) fun b hb x y e => (nomatch ks b hb _ e), S.la, S.lb⟩
        · obtain ⟨kvs, e⟩ := S.a.isT
          exact nomatch ks _ z _ e
        · obtain ⟨kvs, e⟩ := S.b.isT
          exact nomatch ks _ z _ e
      have kk : Keep [p] H H3 := (k1.trans (Keep.of_same s2)).trans k3
      refine ⟨_, rfl, _, rfl, p, C, dx, _, _, rfl, hp3, T0.cl, T0.nH, flds_sheets, fm, F, sh, sa, sb, _, _, _, _, _, _, rfl, hF3, S3, fun H4 s4 => ?_⟩
      refine ⟨_, rfl, _, rfl, p, C, dx, _, _, rfl, s4 _ _ hp3, T0.cl, T0.nH, flds_sheets, fm, F, sh, sa, sb, _, _, _, _, _, _, rfl, hF3.same s4, S3.same s4, ptrs F T, fun hd H5 s5 => ?_, fun nm g hd d H5 s5 hx => ?_⟩
      · have s45 := s4.trans s5
        exact q hd sh sa sb H5 (kk.trans (Keep.of_same s45)) (s45 _ _ hp3) (S3.same s45)
      · exact qE nm g hd d H5 (kk.trans (Keep.of_same (s4.trans s5))) hx
    refine ⟨_, rfl, rfl, _, rfl, ?_⟩
    rcases htv with ⟨rfl, hks⟩ | ⟨th, rfl, hT⟩
    · refine ifY rfl ?_
      refine ⟨_, rfl, fun d hd => ?_⟩
      have sd : Same H1 (upd H1 d (.dK [])) := same_upd hd
      refine ⟨fm, F, d, T, rfl, hF1.same sd, ⟨⟨[], upd_same, by rw [hks]; rfl, fun k hk => by rw [hks] at hk; cases hk⟩, by rw [hks]; exact List.nodup_nil⟩, nA, nB, fun sh sa sb H2 s2 _ S => ?_⟩
      exact rest sh sa sb H2 (sd.trans s2) S
    · refine ifN (fun z => nomatch z) ?_
      have hT1 : ThingsAt H1 th F T := by
        have kp : ∀ b o, H b = some o → o ≠ .ins C dx [] → H1 b = some o := fun b o e n => k1 _ _ e (by simpa using np e n)
        have kd : ∀ b, b ∈ [p] → ∀ o, H b = some o → o = .ins C dx [] := fun b hb o e => by
          rw [List.mem_singleton.mp hb, hp] at e
          exact (Option.some.inj e).symm
        obtain ⟨kvs, e1, e2, e3⟩ := hT.ex
        refine ⟨⟨kvs, kp _ _ e1 (fun z => nomatch z), e2, fun k hk => ?_⟩, hT.nd⟩
        obtain ⟨pc, la, lb, g1, g2, g3, g4⟩ := e3 k hk
        exact ⟨pc, la, lb, g1, kp _ _ g2 (fun z => nomatch z), g3.keep k1 (fun b hb xs e => nomatch kd b hb _ e) (fun b hb xs e => nomatch kd b hb _ e), g4.keep k1 (fun b hb xs e => nomatch kd b hb _ e) (fun b hb xs e => nomatch kd b hb _ e)⟩
      exact ⟨_, rfl, _, rfl, fm, F, th, T, rfl, hF1, hT1, nA, nB, fun sh sa sb H2 s2 _ S => rest sh sa sb H2 s2 S⟩
end K18
end L2
namespace L2
open PySem PySem.Spec PyProof.Rows
namespace K18
open _root_.K18 (spotK spotK_inj hashT)

/-! ### the rows of both sheets, and what a run of steps makes of them -/
structure Sts where
  La : List Spot
  Lb : List Spot
  Xa : Spot → V
  Ya : Spot → V
  Xb : Spot → V
  Yb : Spot → V
def Sts.step (F : Frm) (S : Sts) (st : Stp) : Sts :=
  if st.t.nm = F.a.nm then ⟨stL st S.La, S.Lb, stX st S.Xa, stY st S.Ya, S.Xb, S.Yb⟩ else ⟨S.La, stL st S.Lb, S.Xa, S.Ya, stX st S.Xb, stY st S.Yb⟩
def Sts.run (F : Frm) (S : Sts) (sts : List Stp) : Sts := sts.foldl (Sts.step F) S
def ShS (H : Hp) (sh : Addr) (F : Frm) (sa sb : Addr) (S : Sts) : Prop := ShAt H sh F sa sb S.La S.Lb S.Xa S.Ya S.Xb S.Yb
def PtrS (S : Sts) : Prop := Ptr S.La S.Xa ∧ Ptr S.La S.Ya ∧ Ptr S.Lb S.Xb
def dueS (F : Frm) (S : Sts) : Option (Str × Spot) := dueP F S.La S.Lb S.Xa S.Ya S.Xb
structure OkS (F : Frm) (S : Sts) (st : Stp) : Prop where
  t : Of F st.t
  so : SpotOk F st.t st.k st.p
  rv : st.op ≠ .cut → RowV F st.t st.x st.y
  can : Can st (if st.t.nm = F.a.nm then S.La else S.Lb)
def Runs (F : Frm) : Sts → List Stp → Prop
  | _, [] => True
  | S, st :: r => OkS F S st ∧ Runs F (S.step F st) r
theorem Runs.at_ {F : Frm} : ∀ {sts : List Stp} {S : Sts} {i : Nat} {st : Stp}, Runs F S sts → sts[i]? = some st → OkS F (S.run F (sts.take i)) st
  | _ :: _, _, 0, _, h, e => by cases Option.some.inj e; exact h.1
  | _ :: r, S, i + 1, st, h, e => by
    have g := Runs.at_ (i := i) h.2 (by simpa using e)
    exact g
theorem Runs.append {F : Frm} : ∀ {l m : List Stp} {S : Sts}, Runs F S l → Runs F (S.run F l) m → Runs F S (l ++ m)
  | [], _, _, _, h => h
  | _ :: _, _, _, h1, h2 => ⟨h1.1, Runs.append h1.2 h2⟩
theorem run_append {F : Frm} {S : Sts} {l m : List Stp} : S.run F (l ++ m) = (S.run F l).run F m := List.foldl_append ..
theorem run_snoc {F : Frm} {S : Sts} {l : List Stp} {st : Stp} : S.run F (l ++ [st]) = (S.run F l).step F st := by
  rw [run_append]
  rfl
theorem stL_le (st : Stp) (L : List Spot) : (stL st L).length ≤ L.length + 1 := by
  unfold stL
  split
  · simp
  · omega
  · have := List.length_filter_le (fun p => decide (p ≠ st.q)) L
    omega
theorem step_le (F : Frm) (S : Sts) (st : Stp) : (S.step F st).La.length ≤ S.La.length + 1 ∧ (S.step F st).Lb.length ≤ S.Lb.length + 1 := by
  unfold Sts.step
  split
  · exact ⟨stL_le _ _, Nat.le_succ _⟩
  · exact ⟨Nat.le_succ _, stL_le _ _⟩
theorem run_le (F : Frm) : ∀ (sts : List Stp) (S : Sts), (S.run F sts).La.length ≤ S.La.length + sts.length ∧ (S.run F sts).Lb.length ≤ S.Lb.length + sts.length
  | [], S => ⟨Nat.le_refl _, Nat.le_refl _⟩
  | st :: r, S => by
    have h := run_le F r (S.step F st)
    have g := step_le F S st
    have e : S.run F (st :: r) = (S.step F st).run F r := rfl
    rw [e, List.length_cons]
    omega
/-! ### the keys that steps name, once each -/
def addK (ks : List Int) (k : Int) : List Int := if k ∈ ks then ks else ks ++ [k]
def namedOf (sts : List Stp) : List Int := sts.foldl (fun acc st => addK acc st.k) []
theorem named_snoc (l : List Stp) (st : Stp) : namedOf (l ++ [st]) = addK (namedOf l) st.k := by
  unfold namedOf
  rw [List.foldl_append]
  rfl
def bls (ks : List Int) : List (Key × V) := ks.map fun k => ((Sum.inl k : Key), V.bl true)
theorem bls_keys (ks : List Int) : (bls ks).map (·.1) = ks.map Sum.inl := by
  unfold bls
  rw [List.map_map]
  rfl
theorem bls_put (ks : List Int) (k : Int) : putK (bls ks) (Sum.inl k) (.bl true) = bls (addK ks k) := by
  unfold addK
  by_cases h : k ∈ ks
  · rw [if_pos h]
    obtain ⟨v, hv⟩ := valV_some_of_mem (kvs := bls ks) (k := Sum.inl k) (by rw [bls_keys]; exact List.mem_map.mpr ⟨k, h, rfl⟩)
    unfold putK
    rw [valV_any, hv, if_pos (show (some v).isSome = true from rfl)]
    unfold bls
    rw [List.map_map]
    refine List.map_congr_left fun x _ => ?_
    show (if (Sum.inl x : Key) = Sum.inl k then ((Sum.inl x : Key), V.bl true) else (Sum.inl x, V.bl true)) = _
    split <;> rfl
  · rw [if_neg h, putK_new _ (valV_none_of (kvs := bls ks) (by rw [bls_keys]; simpa using h))]
    unfold bls
    rw [List.map_append]
    rfl
theorem bls_row {ks : List Int} {t : Tab} {x y : V} : bls ks ≠ rowOf t x y := fun z => by
  have e := congrArg (List.map (·.1)) z
  rw [bls_keys] at e
  cases ks with
  | nil => simp [rowOf] at e
  | cons k r => simp [rowOf] at e
/-! ### sheets that are locked, copied, put in -/
theorem SheetAt.keepP {H H' : Hp} {s : Addr} {t : Tab} {L : List Spot} {X Y : Spot → V} {l : List Addr} (h : SheetAt H s t L X Y) (k : Keep l H H') (hs : ¬ s ∈ l) (hl : ∀ b, b ∈ l → ∀ q ∈ L, H b ≠ some (.dK (rowOf t (X q) (Y q)))) : SheetAt H' s t L X Y := by
  obtain ⟨kvs, h1, h2, h3⟩ := h.ex
  refine ⟨⟨kvs, k _ _ h1 hs, h2, fun q hq => ?_⟩, h.nd⟩
  obtain ⟨r, e1, e2⟩ := h3 q hq
  exact ⟨r, e1, k _ _ e2 fun z => hl _ z _ hq e2⟩
theorem SheetAt.lock {H : Hp} {s d : Addr} {t : Tab} {L : List Spot} {X Y : Spot → V} {x y : Str} {u : Addr} {v : V} {o : HO} (h : SheetAt H s t L X Y) (hp : Ptr L X) (hd : H d = some (.dK [(Sum.inr x, .ref u), (Sum.inr y, v)])) : SheetAt (upd H d o) s t L X Y := by
  refine h.keepP (l := [d]) keep_upd (fun z => ?_) fun b hb q hq e => ?_
  · obtain ⟨kvs, e⟩ := h.isT
    rw [List.mem_singleton.mp z, hd] at e
    cases e
  · rw [List.mem_singleton.mp hb, hd] at e
    obtain ⟨g, hg⟩ := hp q hq
    unfold rowOf at e
    rw [hg] at e
    have e1 := HO.dK.inj (Option.some.inj e)
    have e2 := (Prod.mk.inj (List.cons.inj e1).1).2
    cases g <;> cases e2
/-- a copy of a sheet -/
theorem SheetAt.copy {H : Hp} {s s2 : Addr} {t : Tab} {L : List Spot} {X Y : Spot → V} {kvs : List (List Key × V)} (h : SheetAt H s t L X Y) (hs : H s = some (.dT kvs)) (h2 : H s2 = none) : SheetAt (upd H s2 (.dT kvs)) s2 t L X Y := by
  obtain ⟨kvs0, e1, e2, e3⟩ := h.ex
  rw [hs] at e1
  cases e1
  refine ⟨⟨kvs, upd_same, e2, fun q hq => ?_⟩, h.nd⟩
  obtain ⟨r, g1, g2⟩ := e3 q hq
  exact ⟨r, g1, same_upd h2 _ _ g2⟩
theorem ShS.lenA {H : Hp} {sh : Addr} {F : Frm} {sa sb : Addr} {S : Sts} (h : ShS H sh F sa sb S) : S.La.length ≤ 1000 := h.la
def HashOk (w : World) (L : List Spot) : Prop := (L.map fun q => hashT w (spotK q)).Nodup
theorem HashOk.of {w : World} {L : List Spot} {kvs : List (List Key × V)} (h : HashOk w L) (e : kvs.map (·.1) = L.map spotK) : (kvs.map fun p => hashT w p.1).Nodup := by
  have e1 := congrArg (List.map (hashT w)) e
  rw [List.map_map, List.map_map] at e1
  have e2 : (kvs.map fun p => hashT w p.1) = L.map (hashT w ∘ spotK) := e1
  rw [e2]
  exact h
end K18
end L2
namespace L2
open PySem PySem.Spec PyProof.Rows
namespace K18
open _root_.K18 (spotK spotK_inj hashT)
variable {P : Program} {w : World} {K : PySem.W.Frag} {mg : Str → Option Value} {base : Heap}

/-! ### Plain.write -/
abbrev sWrite : Stmt := inClass (top 35) 1
def spWrite (w : World) (C CN : Addr) : Sp := fun vs H Q E => ∃ (p dx fm sh sa sb l : Addr) (F : Frm) (S : Sts) (sts : List Stp) (as : List Addr), vs = [.ref p, .ref l] ∧ H p = some (.ins C dx (flds fm sh)) ∧ FormAt H fm F ∧ ShS H sh F sa sb S ∧
  H l = some (.lst (as.map V.ref)) ∧ as.length = sts.length ∧ (∀ (i : Nat) (a : Addr) (st : Stp), as[i]? = some a → sts[i]? = some st → StpAt H a st) ∧ (HashOk w S.La ∧ HashOk w S.Lb) ∧ (S.La.length + sts.length ≤ 1000 ∧ S.Lb.length + sts.length ≤ 1000) ∧ Runs F S sts ∧
  (namedOf sts).length < 64 ∧ (∀ k ∈ namedOf sts, Whole (S.run F sts).La (S.run F sts).Lb k) ∧ (PtrS S ∧ PtrS (S.run F sts)) ∧
  (dueS F (S.run F sts) = none → ∀ sh2 sa2 sb2 kl H', Keep [p] H H' → H' p = some (.ins C dx (flds fm sh2)) → ShS H' sh2 F sa2 sb2 (S.run F sts) → H' kl = some (.lst ((srtI (namedOf sts)).map V.int)) → Q (.ref kl) H') ∧
  (∀ nm q, dueS F (S.run F sts) = some (nm, q) → ∀ d H', Same H H' → H' d = some (.xd (errF nm q)) → E (.ref CN) (some d) H')
theorem sc_write : FnScope ["self", "steps", "sheets", "table", "named", "step", "keys", "key"] ["self", "steps"] (defScope sWrite) := ⟨rfl, rfl, rfl, by decide +kernel, rfl, by decide +kernel, by decide +kernel⟩
theorem fn_write {C CN f : Addr} {fd : FuncData} (F0 : L2.Fun K "write" "Plain.write" sWrite f fd) (T0 : PlCls K mg C) (G : Gs mg)
    (C7 : Cl P w K mg base 7 "do_step" spDoStep) (CL : Cl P w K mg base 3 "look_at_thing" spLookThing) (C3 : Cl P w K mg base 4 "look_for_twice" spTwice) (C4 : ClX P w K mg base 4 "look_for_nowhere" (spNowhere CN)) :
    FnOk P w K mg base (L2.CX P w) 8 f fd ["self", "steps"] (spWrite w C CN) := by
  refine F0.okX sc_write (fun vs H Q E h => ?_) (fun cdv A outer s H vs Q E hr h => ?_)
  · obtain ⟨p, dx, fm, sh, sa, sb, l, F, S, sts, as, rfl, _⟩ := h
    rfl
  · obtain ⟨p, dx, fm, sh, sa, sb, l, F, S, sts, as, rfl, hp, hF, hS, hl, hlen, hst, ⟨hhA, hhB⟩, ⟨hnA, hnB⟩, hruns, h64, hwhole, ⟨hptr, hptr2⟩, q, qE⟩ := h
    have nd := sc_write.nd
    have hu := hu_of hr
    have hu8 : (A.deeper (envOfC "Plain.write" (defScope sWrite) s.heap.objs.size f cdv)).units + 8 < cLine := by
      have := hr.units
      omega
    refine ⟨_, pss_cons (ps_set (i := 2) nd rfl (Or.inl rfl) pe_dnewK)
      (pss_cons (ps_lock (ps_for (passes_of rfl) rfl (pi_keys (pe_fld (pv 0) rfl)) (pg_name (i := 3) nd rfl (Or.inl rfl))
        (pss_one (ps_dput hu (pv 2) (pv 3) (pe_callTy (_root_.K18.call_copyT hu8) (by rfl) G.dict PyProof.Rows.boot_dict (pa_cons (pe_dget hu (pe_fld (pv 0) rfl) (pv 3) (fun _ _ => rfl)) pa_nil)) rfl))))
      (pss_cons (ps_set (i := 4) nd rfl (Or.inl rfl) pe_dnewK)
      (pss_cons (ps_for (passes_of rfl) rfl (pi_list (pv 1)) (pg_name (i := 5) nd rfl (Or.inl rfl))
        (pss_cons (ps_expr (pe_cl C7 hr (by decide) (by rfl) (pa_cons (pe_fld (pv 0) rfl) (pa_cons (pv 2) (pa_cons (pv 5) pa_nil)))))
        (pss_one (ps_dput hu (pv 4) (pe_ix ix_tup (pv 5) pe_int (fun _ _ => rfl)) pe_bl rfl))))
      (pss_cons (ps_set (i := 6) nd rfl (Or.inl rfl) (pe_callB (call_sortedDI rfl) (by rfl) G.sorted PyProof.Rows.boot_sorted (pa_cons (pv 4) pa_nil)))
      (pss_cons (ps_for (passes_of rfl) rfl (pi_list (pv 6)) (pg_name (i := 7) nd rfl (Or.inl rfl))
        (pss_one (ps_expr (pe_cl CL hr (by decide) (by rfl) (pa_cons (pe_fld (pv 0) rfl) (pa_cons (pv 2) (pa_cons (pv 7) pa_nil)))))))
      (pss_cons (ps_expr (pe_cl C3 hr (by decide) (by rfl) (pa_cons (pe_fld (pv 0) rfl) (pa_cons (pv 2) pa_nil))))
      (pss_cons (ps_expr (pe_clX C4 hr (by decide) (takes_of rfl rfl rfl rfl) (by rfl) (pa_cons (pe_fld (pv 0) rfl) (pa_cons (pv 2) pa_nil))))
      (pss_cons (ps_fld (pv 0) (pv 2) rfl)
      (pss_one (ps_ret (pv 6))))))))))), ?_⟩
    intro sh2 hsh2
    have s1 : Same H (upd H sh2 (.dK [])) := same_upd hsh2
    generalize hH1 : upd H sh2 (.dK []) = H1 at s1
    have h1sh2 : H1 sh2 = some (.dK []) := by rw [← hH1]; exact upd_same
    have nsh : ∀ {b : Addr} {o : HO}, H b = some o → b ≠ sh2 := fun e => ne_of_none e hsh2
    have hsh := hS.sh
    refine ⟨sh, _, s1 _ _ hsh, True.intro, fun od => ?_⟩
    -- the heap with the sheets' dict locked
    have kL : Keep [sh] H1 (upd H1 sh (.frz od (.dK [(Sum.inr F.a.nm, .ref sa), (Sum.inr F.b.nm, .ref sb)]))) := keep_upd
    have SAl := (hS.a.same s1).lock (o := .frz od (.dK [(Sum.inr F.a.nm, .ref sa), (Sum.inr F.b.nm, .ref sb)])) hptr.1 (s1 _ _ hsh)
    have SBl := (hS.b.same s1).lock (o := .frz od (.dK [(Sum.inr F.a.nm, .ref sa), (Sum.inr F.b.nm, .ref sb)])) hptr.2.2 (s1 _ _ hsh)
    generalize hHl : upd H1 sh (.frz od (.dK [(Sum.inr F.a.nm, .ref sa), (Sum.inr F.b.nm, .ref sb)])) = Hl at kL SAl SBl
    have hlsh : Hl sh = some (.frz od (.dK [(Sum.inr F.a.nm, .ref sa), (Sum.inr F.b.nm, .ref sb)])) := by rw [← hHl]; exact upd_same
    have hlsh2 : Hl sh2 = some (.dK []) := kL _ _ h1sh2 (by simpa using (nsh hsh).symm)
    have hpl : Hl p = some (.ins C dx (flds fm sh)) := kL _ _ (s1 _ _ hp) (fun z => by
      rw [List.mem_singleton.mp z, hsh] at hp
      cases hp)
    have sfl : ∀ {H' : Hp}, Keep [sh2] Hl H' → H' sh = some (.frz od (.dK [(Sum.inr F.a.nm, .ref sa), (Sum.inr F.b.nm, .ref sb)])) ∧ H' p = some (.ins C dx (flds fm sh)) := fun {H'} k =>
      ⟨k _ _ hlsh (by simpa using nsh hsh), k _ _ hpl (by simpa using nsh hp)⟩
    refine ⟨_, rfl, p, C, dx, _, _, rfl, hpl, T0.cl, T0.nH, flds_sheets, sh, od, rfl, .inl ⟨_, hlsh, ?_⟩⟩
    refine for_it walk_keys (fun i σ H' => Keep [sh2] Hl H' ∧ (∃ o3, σ = [some (.ref p), some (.ref l), some (.ref sh2), o3, none, none, none, none]) ∧
      ((i = 0 ∧ H' sh2 = some (.dK [])) ∨ (i = 1 ∧ ∃ sa2, H sa2 = none ∧ H' sh2 = some (.dK [(Sum.inr F.a.nm, .ref sa2)]) ∧ SheetAt H' sa2 F.a S.La S.Xa S.Ya) ∨
        (i = 2 ∧ ∃ sa2 sb2, H sa2 = none ∧ H sb2 = none ∧ sa2 ≠ sb2 ∧ ShS H' sh2 F sa2 sb2 S)))
      ⟨Keep.refl _, ⟨_, rfl⟩, .inl ⟨rfl, hlsh2⟩⟩ (fun i σ H' _ pp => (sfl pp.1).1) ?_ ?_
    · rintro i x σ H2 H2' hi ⟨k2, ⟨o3, rfl⟩, hcase⟩ ⟨rfl, kk, vv, hkk, rfl⟩
      obtain ⟨f1, f2⟩ := sfl k2
      obtain ⟨t, s0, L, X, Y, kv0, he, hget, SA, hh, hs2, hnew, hkv, hfin⟩ : ∃ (t : Tab) (s0 : Addr) (L : List Spot) (X Y : Spot → V) (kv0 : List (Key × V)), kk = Sum.inr t.nm ∧ valV ([(Sum.inr F.a.nm, .ref sa), (Sum.inr F.b.nm, .ref sb)] : List (Key × V)) (Sum.inr t.nm) = some (.ref s0) ∧
          SheetAt Hl s0 t L X Y ∧ HashOk w L ∧ H2' sh2 = some (.dK kv0) ∧ valV kv0 (Sum.inr t.nm) = none ∧ kv0.length ≤ 2 ∧
          (∀ s H3, H s = none → H2' s = none → Keep [sh2] H2' H3 → H3 sh2 = some (.dK (kv0 ++ [(Sum.inr t.nm, .ref s)])) → SheetAt H3 s t L X Y →
            ((i + 1 = 0 ∧ H3 sh2 = some (.dK [])) ∨ (i + 1 = 1 ∧ ∃ sa2, H sa2 = none ∧ H3 sh2 = some (.dK [(Sum.inr F.a.nm, .ref sa2)]) ∧ SheetAt H3 sa2 F.a S.La S.Xa S.Ya) ∨
              (i + 1 = 2 ∧ ∃ sa2 sb2, H sa2 = none ∧ H sb2 = none ∧ sa2 ≠ sb2 ∧ ShS H3 sh2 F sa2 sb2 S))) := by
        rcases hcase with ⟨rfl, h0⟩ | ⟨rfl, sa2, n2, h0, h1⟩ | ⟨rfl, _⟩
        · refine ⟨F.a, sa, _, _, _, [], ?_, two_a, SAl, hhA, h0, rfl, by decide, fun s H3 n _ kp g1 g2 => .inr (.inl ⟨rfl, s, n, g1, g2⟩)⟩
          exact ((Prod.mk.inj (Option.some.inj hkk)).1).symm
        · refine ⟨F.b, sb, _, _, _, _, ?_, two_b hF.ne, SBl, hhB, h0, ?_, by show 1 ≤ 2; decide, fun s H3 n n3 kp g1 g2 => .inr (.inr ⟨rfl, sa2, s, n2, n, ?_, ⟨g1, ?_, g2, hS.la, hS.lb⟩⟩)⟩
          · exact ((Prod.mk.inj (Option.some.inj hkk)).1).symm
          · rw [valV_neg (p := (Sum.inr F.a.nm, .ref sa2)) (fun z => hF.ne (Sum.inr.inj z))]
            rfl
          · obtain ⟨kvs, e⟩ := h1.isT
            exact ne_of_none e n3
          · refine h1.keep kp (fun z => ?_) fun b hb x y e => ?_
            · obtain ⟨kvs, e⟩ := h1.isT
              rw [List.mem_singleton.mp z, h0] at e
              cases e
            · rw [List.mem_singleton.mp hb, h0] at e
              have e2 := congrArg List.length (HO.dK.inj (Option.some.inj e))
              simp [rowOf] at e2
        · exact absurd hi (by simp)
      subst he
      have g1 : DGet H2' sh (.str t.nm) (some (.ref s0)) := .inl ⟨_, Sum.inr t.nm, .inr ⟨od, f1⟩, rfl, hget.symm⟩
      have SA2 : SheetAt H2' s0 t L X Y := SA.keep k2 (fun z => by
        obtain ⟨kvs, e⟩ := SA.isT
        rw [List.mem_singleton.mp z, hlsh2] at e
        cases e) fun b hb x y e => by
          rw [List.mem_singleton.mp hb, hlsh2] at e
          have e2 := congrArg List.length (HO.dK.inj (Option.some.inj e))
          simp [rowOf] at e2
      obtain ⟨kvs, hk1, hk2, _⟩ := SA2.ex
      refine ⟨_, rfl, p, C, dx, _, _, rfl, f2, T0.cl, T0.nH, flds_sheets, _, rfl, sh, _, rfl, g1, ?_⟩
      refine ⟨s0, kvs, rfl, .inl hk1, hh.of hk2, fun s hs => ?_⟩
      have hss : s ≠ sh2 := fun z => by
        rw [z, hs2] at hs
        cases hs
      have u1 : Same H2' (upd H2' s (.dT kvs)) := same_upd hs
      have SC := SA2.copy hk1 hs
      refine ⟨_, rfl, _, rfl, sh2, _, rfl, DPut.k (k := Sum.inr t.nm) (u1 _ _ hs2) (Nat.lt_of_le_of_lt hkv (by decide)), ?_⟩
      rw [putK_new _ hnew]
      have kq : Keep [sh2] H2' (upd (upd H2' s (.dT kvs)) sh2 (.dK (kv0 ++ [(Sum.inr t.nm, .ref s)]))) := (Keep.of_same u1).trans keep_upd
      have h0s : H s = none := by
        cases e : H s with
        | none => rfl
        | some o =>
          by_cases z : s = sh
          · rw [z, f1] at hs
            cases hs
          · rw [k2 _ _ (kL _ _ (s1 _ _ e) (by simpa using z)) (by simpa using nsh e)] at hs
            cases hs
      refine ⟨k2.trans kq, ⟨_, rfl⟩, hfin s _ h0s hs kq upd_same ?_⟩
      refine SC.keep (l := [sh2]) keep_upd (by simpa using hss) fun b hb x y e => ?_
      rw [List.mem_singleton.mp hb, u1 _ _ hs2] at e
      rcases hcase with ⟨rfl, h0⟩ | ⟨rfl, sa2, n2, h0, h1⟩ | ⟨rfl, _⟩
      · rw [hs2] at h0
        rw [Option.some.inj h0] at e
        have e2 := congrArg List.length (HO.dK.inj (Option.some.inj e))
        simp [rowOf] at e2
      · rw [hs2] at h0
        rw [Option.some.inj h0] at e
        have e2 := congrArg List.length (HO.dK.inj (Option.some.inj e))
        simp [rowOf] at e2
      · exact absurd hi (by simp)
    · rintro σ H2 ⟨k2, ⟨o3, rfl⟩, hcase⟩
      obtain ⟨sa2, sb2, na2, nb2, nab, S2⟩ : ∃ sa2 sb2, H sa2 = none ∧ H sb2 = none ∧ sa2 ≠ sb2 ∧ ShS H2 sh2 F sa2 sb2 S := by
        rcases hcase with ⟨h, _⟩ | ⟨h, _⟩ | ⟨_, h⟩
        · exact absurd h (by simp)
        · exact absurd h (by simp)
        · exact h
      obtain ⟨f1, f2⟩ := sfl k2
      refine ⟨f1, ?_⟩
      rw [← hHl] at k2
      have k3 : Keep [sh2] H1 (upd H2 sh (.dK [(Sum.inr F.a.nm, .ref sa), (Sum.inr F.b.nm, .ref sb)])) := unlock_keep (s1 _ _ hsh) k2
      have S3 : ShS (upd H2 sh (.dK [(Sum.inr F.a.nm, .ref sa), (Sum.inr F.b.nm, .ref sb)])) sh2 F sa2 sb2 S := ⟨by rw [upd_ne (nsh hsh).symm]; exact S2.sh, S2.a.unlock f1, S2.b.unlock f1, S2.la, S2.lb⟩
      generalize upd H2 sh (.dK [(Sum.inr F.a.nm, .ref sa), (Sum.inr F.b.nm, .ref sb)]) = H3 at k3 S3
      have s3 : Same H H3 := fun b o e => k3 _ _ (s1 _ _ e) (by simpa using nsh e)
      intro nm hnm
      have s4 : Same H3 (upd H3 nm (.dK [])) := same_upd hnm
      have hnmsh : nm ≠ sh2 := fun z => by
        rw [z, S3.sh] at hnm
        cases hnm
      have h0nm : H nm = none := by
        cases e : H nm with
        | none => rfl
        | some o =>
          rw [s3 _ _ e] at hnm
          cases hnm
      refine ⟨_, rfl, l, rfl, ⟨_, SqL.of ((s3.trans s4) _ _ hl)⟩, ?_⟩
      -- the steps
      refine for_list (K := K) (a := l) (xs := as.map V.ref) (fun i σ H' => Same H H' ∧ (∃ o3 o5, σ = [some (.ref p), some (.ref l), some (.ref sh2), o3, some (.ref nm), o5, none, none]) ∧ ShS H' sh2 F sa2 sb2 (S.run F (sts.take i)) ∧ H' nm = some (.dK (bls (namedOf (sts.take i)))))
        ⟨s3.trans s4, ⟨_, _, rfl⟩, by rw [List.take_zero]; exact ShAt.same S3 s4, by rw [List.take_zero]; exact upd_same⟩ (fun i σ H' _ pp => SqL.of (pp.1 _ _ hl)) ?_ ?_
      · rintro i x σ H5 hx ⟨s5, ⟨o3, o5, rfl⟩, S5, hn5⟩
        rw [List.getElem?_map] at hx
        obtain ⟨a, ha, rfl⟩ := Option.map_eq_some_iff.mp hx
        have hilt : i < sts.length := by
          rw [← hlen]
          exact (List.getElem?_eq_some_iff.mp ha).1
        obtain ⟨st, hsti⟩ : ∃ st, sts[i]? = some st := ⟨sts[i], List.getElem?_eq_getElem hilt⟩
        have hok := hruns.at_ hsti
        have hstp := (hst i a st ha hsti).keep (l := []) (Keep.of_same s5) (fun _ z => nomatch z) (fun _ z => nomatch z)
        have hF5 := hF.same s5
        have f5 := s5 _ _ hp
        obtain ⟨sl1, sl2⟩ := run_le F (sts.take i) S
        have sl3 : (sts.take i).length ≤ sts.length := by rw [List.length_take]; omega
        have htk : S.run F (sts.take (i + 1)) = (S.run F (sts.take i)).step F st := by rw [take_at hsti, run_snoc]
        have hnk : namedOf (sts.take (i + 1)) = addK (namedOf (sts.take i)) st.k := by rw [take_at hsti, named_snoc]
        obtain ⟨more, hat, _⟩ := id hstp
        -- the step's own sheet
        obtain ⟨s0, L, X, Y, hget, SA, hL, hcan, hn0, hfin⟩ : ∃ (s0 : Addr) (L : List Spot) (X Y : Spot → V), valV ([(Sum.inr F.a.nm, .ref sa2), (Sum.inr F.b.nm, .ref sb2)] : List (Key × V)) (Sum.inr st.t.nm) = some (.ref s0) ∧ SheetAt H5 s0 st.t L X Y ∧ L.length ≤ 1000 ∧ Can st L ∧ H s0 = none ∧
            (∀ H', Keep [s0] H5 H' → SheetAt H' s0 st.t (stL st L) (stX st X) (stY st Y) → ShS H' sh2 F sa2 sb2 ((S.run F (sts.take i)).step F st)) := by
          have can := hok.can
          have notA : ∀ {s : Addr} {t : Tab} {L : List Spot} {X Y : Spot → V}, SheetAt H5 s t L X Y → ∀ b, b ∈ [s] → ∀ ks, H5 b ≠ some (.dK ks) := fun h b hb ks e => by
            obtain ⟨kvs, e1⟩ := h.isT
            rw [List.mem_singleton.mp hb, e1] at e
            cases e
          have len := step_le F (S.run F (sts.take i)) st
          rcases hok.t with e | e
          · have en : st.t.nm = F.a.nm := by rw [e]
            rw [if_pos en] at can
            refine ⟨sa2, _, _, _, by rw [e]; exact two_a, by rw [e]; exact S5.a, S5.la, can, na2, fun H' kp g => ?_⟩
            have es : (S.run F (sts.take i)).step F st = ⟨stL st (S.run F (sts.take i)).La, (S.run F (sts.take i)).Lb, stX st (S.run F (sts.take i)).Xa, stY st (S.run F (sts.take i)).Ya, (S.run F (sts.take i)).Xb, (S.run F (sts.take i)).Yb⟩ := if_pos en
            rw [es] at len ⊢
            refine ⟨kp _ _ S5.sh fun z => notA S5.a _ z _ S5.sh, by rw [e] at g; exact g, S5.b.keep kp (by simpa using nab.symm) fun b hb x y => notA S5.a b hb _, ?_, S5.lb⟩
            have := len.1
            show (stL st (S.run F (sts.take i)).La).length ≤ 1000
            have h1 : (stL st (S.run F (sts.take i)).La).length ≤ (S.run F (sts.take i)).La.length + 1 := len.1
            have h2 : (sts.take i).length < sts.length := by rw [List.length_take]; omega
            omega
          · have en : ¬ st.t.nm = F.a.nm := by rw [e]; exact fun z => hF.ne z.symm
            rw [if_neg en] at can
            refine ⟨sb2, _, _, _, by rw [e]; exact two_b hF.ne, by rw [e]; exact S5.b, S5.lb, can, nb2, fun H' kp g => ?_⟩
            have es : (S.run F (sts.take i)).step F st = ⟨(S.run F (sts.take i)).La, stL st (S.run F (sts.take i)).Lb, (S.run F (sts.take i)).Xa, (S.run F (sts.take i)).Ya, stX st (S.run F (sts.take i)).Xb, stY st (S.run F (sts.take i)).Yb⟩ := if_neg en
            rw [es] at len ⊢
            refine ⟨kp _ _ S5.sh fun z => notA S5.b _ z _ S5.sh, S5.a.keep kp (by simpa using nab) fun b hb x y => notA S5.b b hb _, by rw [e] at g; exact g, S5.la, ?_⟩
            show (stL st (S.run F (sts.take i)).Lb).length ≤ 1000
            have h1 : (stL st (S.run F (sts.take i)).Lb).length ≤ (S.run F (sts.take i)).Lb.length + 1 := len.2
            have h2 : (sts.take i).length < sts.length := by rw [List.length_take]; omega
            omega
        refine ⟨_, rfl, p, C, dx, _, _, rfl, f5, T0.cl, T0.nS, flds_shape, _, rfl, _, rfl, fm, F, sh2, _, a, st, s0, L, X, Y, rfl, hF5, S5.sh, hstp, hget, SA, ⟨hok.t, hok.so, hok.rv, hcan, hL⟩, fun H6 k6 SA6 => ?_⟩
        have S6 := hfin H6 k6 SA6
        have s6 : Same H H6 := fun b o e => k6 _ _ (s5 _ _ e) (by simpa using ne_of_none e hn0)
        have nmT : ∀ {H' : Hp} {s : Addr} {ks : List (Key × V)}, H' nm = some (.dK ks) → (∃ kvs, H' s = some (.dT kvs)) → nm ≠ s := fun {H' s ks} e1 ⟨kvs, e2⟩ z => by
          rw [z, e2] at e1
          cases e1
        have hn6 := k6 _ _ hn5 (by simpa using nmT hn5 SA.isT)
        have hat6 := (hst i a st ha hsti).keep (l := []) (Keep.of_same s6) (fun _ z => nomatch z) (fun _ z => nomatch z)
        obtain ⟨more6, hat6, _⟩ := hat6
        have hnl : (bls (namedOf (sts.take i))).length < sizeLine := by
          unfold bls
          rw [List.length_map]
          have e1 : (namedOf (sts.take i)).length ≤ (sts.take i).length := by
            have : ∀ (l : List Stp) (acc : List Int), (l.foldl (fun acc st => addK acc st.k) acc).length ≤ acc.length + l.length := by
              intro l
              induction l with
              | nil => intro acc; simp
              | cons s r ih =>
                intro acc
                have e2 := ih (addK acc s.k)
                have e3 : (addK acc s.k).length ≤ acc.length + 1 := by
                  unfold addK
                  split <;> simp
                simp only [List.foldl_cons, List.length_cons]
                omega
            have e4 := this (sts.take i) []
            simpa [namedOf] using e4
          have e5 : sts.length ≤ 1000 := by omega
          exact Nat.lt_of_le_of_lt (Nat.le_trans e1 (Nat.le_trans sl3 e5)) (by decide)
        refine ⟨_, rfl, _, rfl, a, _, _, _, rfl, rfl, SqT.of hat6, atI_nat (j := 2) rfl, nm, _, rfl, DPut.k (k := Sum.inl st.k) hn6 hnl, ?_⟩
        rw [bls_put]
        have k7 : Keep [nm] H6 (upd H6 nm (.dK (bls (addK (namedOf (sts.take i)) st.k)))) := keep_upd
        have notN : ∀ b, b ∈ [nm] → ∀ (t : Tab) x y, H6 b ≠ some (.dK (rowOf t x y)) := fun b hb t x y e => by
          rw [List.mem_singleton.mp hb, hn6] at e
          exact bls_row (HO.dK.inj (Option.some.inj e))
        refine ⟨fun b o e => k7 _ _ (s6 _ _ e) (by simpa using ne_of_none e h0nm), ⟨_, _, rfl⟩, ?_, ?_⟩
        · rw [htk]
          refine ⟨k7 _ _ S6.sh (by simpa using hnmsh.symm), S6.a.keep k7 (by simpa using (nmT hn6 S6.a.isT).symm) fun b hb x y => notN b hb _ x y, S6.b.keep k7 (by simpa using (nmT hn6 S6.b.isT).symm) fun b hb x y => notN b hb _ x y, S6.la, S6.lb⟩
        · rw [hnk]
          exact upd_same
      · rintro σ H5 ⟨s5, ⟨o3, o5, rfl⟩, S5, hn5⟩
        rw [List.length_map, hlen, List.take_length] at S5 hn5
        refine ⟨_, rfl, nm, _, namedOf sts, rfl, .inl hn5, bls_keys _, h64, fun ys kl hperm hsort hkl => ?_⟩
        rw [srtI_uniq hperm hsort]
        have s6 : Same H5 (upd H5 kl (.lst ((srtI (namedOf sts)).map V.int))) := same_upd hkl
        have hk6 : (upd H5 kl (.lst ((srtI (namedOf sts)).map V.int))) kl = some (.lst ((srtI (namedOf sts)).map V.int)) := upd_same
        generalize upd H5 kl (.lst ((srtI (namedOf sts)).map V.int)) = H6 at s6 hk6
        have s06 := s5.trans s6
        refine ⟨_, rfl, kl, rfl, ⟨_, SqL.of hk6⟩, ?_⟩
        refine for_list (K := K) (a := kl) (xs := (srtI (namedOf sts)).map V.int) (fun i σ H' => Same H6 H' ∧ ∃ o3 o5 o7, σ = [some (.ref p), some (.ref l), some (.ref sh2), o3, some (.ref nm), o5, some (.ref kl), o7])
          ⟨Same.refl _, _, _, _, rfl⟩ (fun i σ H' _ pp => SqL.of (pp.1 _ _ hk6)) ?_ ?_
        · rintro i x σ H7 hx ⟨s7, o3, o5, o7, rfl⟩
          rw [List.getElem?_map] at hx
          obtain ⟨k, hk, rfl⟩ := Option.map_eq_some_iff.mp hx
          have hkm : k ∈ namedOf sts := (srtI_perm _).mem_iff.mp (List.mem_of_getElem? hk)
          refine ⟨_, rfl, p, C, dx, _, _, rfl, (s06.trans s7) _ _ hp, T0.cl, T0.nS, flds_shape, _, rfl, _, rfl, fm, F, sh2, k, sa2, sb2, _, _, _, _, _, _, rfl, hF.same (s06.trans s7), ShAt.same S5 (s6.trans s7), hwhole k hkm, fun H8 s8 => ⟨s7.trans s8, _, _, _, rfl⟩⟩
        · rintro σ H7 ⟨s7, o3, o5, o7, rfl⟩
          have s07 := s06.trans s7
          refine ⟨_, rfl, p, C, dx, _, _, rfl, s07 _ _ hp, T0.cl, T0.nS, flds_shape, _, rfl, fm, F, sh2, sa2, sb2, _, _, _, _, _, _, rfl, hF.same s07, ShAt.same S5 (s6.trans s7), fun H8 s8 => ?_⟩
          have s08 := s07.trans s8
          have s58 := (s6.trans s7).trans s8
          refine ⟨_, rfl, p, C, dx, _, _, rfl, s08 _ _ hp, T0.cl, T0.nS, flds_shape, _, rfl, fm, F, sh2, sa2, sb2, _, _, _, _, _, _, rfl, hF.same s08, ShAt.same S5 s58, hptr2, fun hd H9 s9 => ?_, fun n g hd d H9 s9 hx => ?_⟩
          · have s09 := s08.trans s9
            have hp9 := s09 _ _ hp
            have S9 : ShS H9 sh2 F sa2 sb2 (S.run F sts) := ShAt.same S5 (s58.trans s9)
            have hk9 := ((s7.trans s8).trans s9) _ _ hk6
            refine ⟨_, rfl, _, rfl, p, C, dx, _, rfl, hp9, T0.cl, T0.nH, (by show 2 < 1000; decide), ?_⟩
            rw [put_again]
            have k10 : Keep [p] H9 (upd H9 p (.ins C dx (flds fm sh2))) := keep_upd
            have np : ∀ {b : Addr} {o : HO}, H9 b = some o → o ≠ .ins C dx (flds fm sh) → b ≠ p := fun {b o} e n z => by
              rw [z, hp9] at e
              exact n (Option.some.inj e).symm
            have kd : ∀ b, b ∈ [p] → ∀ o, H9 b = some o → o = .ins C dx (flds fm sh) := fun b hb o e => by
              rw [List.mem_singleton.mp hb, hp9] at e
              exact (Option.some.inj e).symm
            refine ⟨_, rfl, q hd sh2 sa2 sb2 kl _ ((Keep.of_same s09).trans k10) upd_same ⟨k10 _ _ S9.sh (by simpa using np S9.sh (fun z => nomatch z)), S9.a.keep k10 (fun z => ?_) fun b hb x y e => (nomatch kd b hb _ e), S9.b.keep k10 (fun z => ?_) fun b hb x y e => (nomatch kd b hb _ e), S9.la, S9.lb⟩ (k10 _ _ hk9 (by simpa using np hk9 (fun z => nomatch z)))⟩
            · obtain ⟨kvs, e⟩ := S9.a.isT
              exact nomatch kd _ z _ e
            · obtain ⟨kvs, e⟩ := S9.b.isT
              exact nomatch kd _ z _ e
          · exact qE n g hd d H9 (s08.trans s9) hx
end K18
end L2
namespace L2
open PySem PySem.Spec PyProof.Rows
namespace K18
open _root_.K18 (spotK spotK_inj hashT)
variable {P : Program} {w : World} {K : PySem.W.Frag} {mg : Str → Option Value} {base : Heap}

/-! ### a plain table that holds what T tells -/
structure PlAt (H : Hp) (p C fm : Addr) (F : Frm) (T : Tb) : Prop where
  ex : ∃ dx sh sa sb La Lb, H p = some (.ins C dx (flds fm sh)) ∧ ShAt H sh F sa sb La Lb (cA F T).X (cA F T).Y (cB F T).X (cB F T).Y ∧ La.Perm ((cA F T).L T.ks) ∧ Lb.Perm ((cB F T).L T.ks)
  F : FormAt H fm F
  nd : T.ks.Nodup
theorem PlAt.same {H H' : Hp} {p C fm : Addr} {F : Frm} {T : Tb} (s : Same H H') (h : PlAt H p C fm F T) : PlAt H' p C fm F T := by
  obtain ⟨dx, sh, sa, sb, La, Lb, h1, h2, h3, h4⟩ := h.ex
  exact ⟨⟨dx, sh, sa, sb, La, Lb, s _ _ h1, h2.same s, h3, h4⟩, h.F.same s, h.nd⟩
theorem plc_perm {L M : List Spot} (h : L.Perm M) (k : Int) : (plc L k).Perm (plc M k) := (h.filter _).map _
theorem plc_spots {n : Int → Nat} {ks : List Int} {k : Int} (nd : ks.Nodup) (hk : k ∈ ks) : plc (spots n ks) k = rangeI (n k) := by
  induction ks with
  | nil => cases hk
  | cons j r ih =>
    have e1 : plc (spots n (j :: r)) k = plc (spotsOf j (n j)) k ++ plc (spots n r) k := by
      unfold plc spots
      rw [List.flatMap_cons, List.filter_append, List.map_append]
    have no : ∀ (j : Int) (m : Nat), ¬ j = k → plc (spotsOf j m) k = [] := fun j m h => by
      unfold plc
      rw [List.map_eq_nil_iff, List.filter_eq_nil_iff]
      intro q hq
      rw [(spotsOf_mem.mp hq).1]
      simpa using h
    have nos : ∀ ks : List Int, ¬ k ∈ ks → plc (spots n ks) k = [] := fun ks h => by
      unfold plc
      rw [List.map_eq_nil_iff, List.filter_eq_nil_iff]
      intro q hq
      have := (spots_mem.mp hq).1
      simp only [decide_eq_true_eq]
      exact fun z => h (z ▸ this)
    have yes : ∀ m : Nat, plc (spotsOf k m) k = rangeI m := fun m => by
      unfold plc
      rw [List.filter_eq_self.mpr fun q hq => by rw [(spotsOf_mem.mp hq).1]; simp]
      unfold spotsOf rangeI
      rw [List.map_map]
      rfl
    obtain ⟨hj, hr⟩ := List.nodup_cons.mp nd
    rw [e1]
    rcases List.mem_cons.mp hk with rfl | hk'
    · rw [yes, nos r hj, List.append_nil]
    · rw [no j _ (fun z => hj (z ▸ hk')), ih hr hk', List.nil_append]
theorem rangeI_le (n : Nat) : (rangeI n).Pairwise (· ≤ ·) := by
  unfold rangeI
  refine List.pairwise_map.mpr ((List.pairwise_lt_range (n := n)).imp fun {a b} h => ?_)
  omega
theorem srt_plc {n : Int → Nat} {ks : List Int} {k : Int} {L : List Spot} (nd : ks.Nodup) (hk : k ∈ ks) (h : L.Perm (spots n ks)) : srtI (plc L k) = rangeI (n k) := by
  refine (srtI_uniq ?_ (rangeI_le _)).symm
  rw [← plc_spots nd hk]
  exact (plc_perm h k).symm
theorem LstAt.keepR {H H' : Hp} {l : Addr} {c : Cnt} {k : Int} {m : List Addr} (h : LstAt H l c k) (kp : Keep m H H') (n1 : ∀ b, b ∈ m → ∀ xs, H b ≠ some (.lst xs)) (n2 : ∀ b, b ∈ m → ∀ t x y, H b ≠ some (.dK (rowOf t x y))) : LstAt H' l c k := by
  obtain ⟨rs, e1, e2, e3⟩ := h
  exact ⟨rs, kp _ _ e1 fun z => n1 _ z _ e1, e2, fun i r hr => kp _ _ (e3 i r hr) fun z => n2 _ z _ _ _ (e3 i r hr)⟩

/-! ### piece -/
abbrev sPiece : Stmt := inClass (top 35) 4
def spPiece (C : Addr) : Sp := fun vs H Q _ => ∃ (p fm : Addr) (F : Frm) (T : Tb) (key : Int), vs = [.ref p, .int key] ∧ PlAt H p C fm F T ∧ key ∈ T.ks ∧
  ∀ pc la lb H', Same H H' → H' pc = some (.dK [(Sum.inr F.a.nm, .ref la), (Sum.inr F.b.nm, .ref lb)]) → LstAt H' la (cA F T) key → LstAt H' lb (cB F T) key → Q (.ref pc) H'
theorem sc_piece : FnScope ["self", "key", "head", "found", "table", "sheet", "place"] ["self", "key"] (defScope sPiece) := ⟨rfl, rfl, rfl, by decide +kernel, rfl, by decide +kernel, by decide +kernel⟩
theorem fn_piece {C f : Addr} {fd : FuncData} (F0 : L2.Fun K "piece" "Plain.piece" sPiece f fd) (T0 : PlCls K mg C) (G : Gs mg)
    (C0 : Cl P w K mg base 1 "head_of" spHeadOf) (C1 : Cl P w K mg base 1 "tables_of" spTablesOf) (C2 : Cl P w K mg base 1 "places_of" spPlacesOf) :
    FnOk P w K mg base CX0 2 f fd ["self", "key"] (spPiece C) := by
  refine F0.ok sc_piece (fun vs H Q E h => ?_) (fun cdv A outer s H vs Q E hr h => ?_)
  · obtain ⟨p, fm, F, T, key, rfl, _⟩ := h
    rfl
  · obtain ⟨p, fm, F, T, key, rfl, hP, hkey, q⟩ := h
    have nd := sc_piece.nd
    have hu := hu_of hr
    obtain ⟨dx, sh, sa, sb, La, Lb, hp, S, pA, pB⟩ := hP.ex
    have hF := hP.F
    refine ⟨_, pss_cons (ps_set (i := 2) nd rfl (Or.inl rfl) (pe_cl C0 hr (by decide) (by rfl) (pa_cons (pe_fld (pv 0) rfl) pa_nil)))
      (pss_cons (ps_if (pt_cmp (pc_dnotin hu (pe_tup (pa_cons (pv 1) (pa_cons pe_int pa_nil))) (pe_dget hu (pe_fld (pv 0) rfl) (pv 2) (fun _ _ => rfl)))) pss_never pss_nil)
      (pss_cons (ps_set (i := 3) nd rfl (Or.inl rfl) pe_dnewK)
      (pss_cons (ps_for PassesOwn.never rfl (pi_list (pe_cl C1 hr (by decide) (by rfl) (pa_cons (pe_fld (pv 0) rfl) pa_nil))) (pg_name (i := 4) nd rfl (Or.inl rfl))
        (pss_cons (ps_set (i := 5) nd rfl (Or.inr rfl) (pe_dget hu (pe_fld (pv 0) rfl) (pv 4) (fun _ _ => rfl)))
        (pss_one (ps_dput hu (pv 3) (pv 4) (pe_lc (own := [("place", 6)]) (g := gName 6) (tt := tYes) rfl nd (pi_list (pe_cl C2 hr (by decide) (by rfl) (pa_cons (pv 5) (pa_cons (pv 1) pa_nil)))) (blkOk_by (N := ["self", "key", "head", "found", "table", "sheet", "place"]) (sc := defScope sPiece) (by decide +kernel))
          (fun _ _ _ _ _ => pg_name (i := 6) nd rfl (Or.inl rfl)) (fun _ _ _ _ _ => pts_nil)
          (fun _ _ _ _ _ => pe_callTy call_dictD (by rfl) G.dict PyProof.Rows.boot_dict (pa_cons (pe_dget hu (pv 5) (pe_tup (pa_cons (pv 1) (pa_cons (pv 6) pa_nil))) (fun _ _ => rfl)) pa_nil))) rfl))))
      (pss_one (ps_ret (pv 3)))))), ?_⟩
    refine ⟨_, rfl, p, C, dx, _, _, rfl, hp, T0.cl, T0.nS, flds_shape, fm, F, rfl, hF, ?_⟩
    refine ⟨_, rfl, (by show 2 ≤ sizeLine; decide), fun b hb => ?_⟩
    have s1 : Same H (upd H b (.tup [.int key, .int 0])) := same_upd hb
    obtain ⟨kva, ha1, ha2, _⟩ := (S.a.same s1).ex
    refine ⟨_, rfl, p, C, dx, _, _, rfl, s1 _ _ hp, T0.cl, T0.nH, flds_sheets, _, rfl, sh, _, rfl, (S.same s1).ga, sa, _, rfl, DGet.t (k := spotK (key, 0)) ha1 upd_same, _, rfl, ?_⟩
    have hin : ((key, 0) : Spot) ∈ La := pA.mem_iff.mpr (spots_mem.mpr ⟨hkey, by show (0 : Int) ≤ 0; omega, by show (0 : Int) < ((1 : Nat) : Int); omega⟩)
    refine ifNTe (by rw [sheet_has ha2]; exact decide_eq_true hin) ?_
    intro fd0 hfd
    have s2 := s1.trans (same_upd (o := .dK []) hfd)
    generalize hH2 : upd (upd H b (.tup [.int key, .int 0])) fd0 (.dK []) = H2 at s2
    have hfd2 : H2 fd0 = some (.dK []) := by rw [← hH2]; exact upd_same
    have h0fd : H fd0 = none := by
      cases e : H fd0 with
      | none => rfl
      | some o =>
        rw [s1 _ _ e] at hfd
        cases hfd
    refine ⟨_, rfl, p, C, dx, _, _, rfl, s2 _ _ hp, T0.cl, T0.nS, flds_shape, fm, F, rfl, hF.same s2, fun pT hpT => ⟨pT, rfl, ⟨_, SqL.of upd_same⟩, ?_⟩⟩
    have s3 := s2.trans (same_upd (o := .lst [.str F.a.nm, .str F.b.nm]) hpT)
    have hfd3 : (upd H2 pT (.lst [.str F.a.nm, .str F.b.nm])) fd0 = some (.dK []) := same_upd hpT _ _ hfd2
    have hT3 : (upd H2 pT (.lst [.str F.a.nm, .str F.b.nm])) pT = some (.lst [.str F.a.nm, .str F.b.nm]) := upd_same
    generalize upd H2 pT (.lst [.str F.a.nm, .str F.b.nm]) = H3 at s3 hfd3 hT3
    have nfT : fd0 ≠ pT := fun z => by
      rw [z, hT3] at hfd3
      cases hfd3
    refine for_list (K := K) (a := pT) (xs := [.str F.a.nm, .str F.b.nm]) (fun i σ H' => Same H H' ∧ H' pT = some (.lst [.str F.a.nm, .str F.b.nm]) ∧ (∃ o4 o5, σ = [some (.ref p), some (.int key), some (.str F.a.nm), some (.ref fd0), o4, o5, none]) ∧
      ((i = 0 ∧ H' fd0 = some (.dK [])) ∨ (i = 1 ∧ ∃ la, H' fd0 = some (.dK [(Sum.inr F.a.nm, .ref la)]) ∧ LstAt H' la (cA F T) key) ∨ (i = 2 ∧ ∃ la lb, H' fd0 = some (.dK [(Sum.inr F.a.nm, .ref la), (Sum.inr F.b.nm, .ref lb)]) ∧ LstAt H' la (cA F T) key ∧ LstAt H' lb (cB F T) key)))
      ⟨s3, hT3, ⟨_, _, rfl⟩, .inl ⟨rfl, hfd3⟩⟩ (fun i σ H' _ pp => SqL.of pp.2.1) ?_ ?_
    · rintro i x σ H4 hx ⟨s4, hT4, ⟨o4, o5, rfl⟩, hcase⟩
      have S4 := S.same s4
      obtain ⟨c, s0, L, kv0, rfl, hget, SA, hL, hsrt, hkv, hlen, hnew, hfin⟩ : ∃ (c : Cnt) (s0 : Addr) (L : List Spot) (kv0 : List (Key × V)), x = .str c.t.nm ∧ DGet H4 sh (.str c.t.nm) (some (.ref s0)) ∧ SheetAt H4 s0 c.t L c.X c.Y ∧ L.length ≤ 1000 ∧ srtI (plc L key) = rangeI (c.n key) ∧
          H4 fd0 = some (.dK kv0) ∧ kv0.length ≤ 1 ∧ valV kv0 (Sum.inr c.t.nm) = none ∧
          (∀ l H5, Keep [fd0] H4 H5 → H5 fd0 = some (.dK (kv0 ++ [(Sum.inr c.t.nm, .ref l)])) → LstAt H5 l c key →
            ((i + 1 = 0 ∧ H5 fd0 = some (.dK [])) ∨ (i + 1 = 1 ∧ ∃ la, H5 fd0 = some (.dK [(Sum.inr F.a.nm, .ref la)]) ∧ LstAt H5 la (cA F T) key) ∨ (i + 1 = 2 ∧ ∃ la lb, H5 fd0 = some (.dK [(Sum.inr F.a.nm, .ref la), (Sum.inr F.b.nm, .ref lb)]) ∧ LstAt H5 la (cA F T) key ∧ LstAt H5 lb (cB F T) key))) := by
        rcases hcase with ⟨rfl, h0⟩ | ⟨rfl, la, h0, h1⟩ | ⟨rfl, _⟩
        · exact ⟨cA F T, sa, La, [], (Option.some.inj hx).symm, S4.ga, S4.a, S4.la, srt_plc hP.nd hkey pA, h0, by decide, rfl, fun l H5 kp g1 g2 => .inr (.inl ⟨rfl, l, g1, g2⟩)⟩
        · refine ⟨cB F T, sb, Lb, _, (Option.some.inj hx).symm, S4.gb hF.ne, S4.b, S4.lb, srt_plc hP.nd hkey pB, h0, by show 1 ≤ 1; decide, ?_, fun l H5 kp g1 g2 => .inr (.inr ⟨rfl, la, l, g1, ?_, g2⟩)⟩
          · show valV [(Sum.inr F.a.nm, V.ref la)] (Sum.inr F.b.nm) = none
            rw [valV_neg (p := (Sum.inr F.a.nm, .ref la)) (fun z => hF.ne (Sum.inr.inj z))]
            rfl
          · refine h1.keepR kp (fun b hb xs e => ?_) fun b hb t x y e => ?_
            · rw [List.mem_singleton.mp hb, h0] at e
              cases e
            · rw [List.mem_singleton.mp hb, h0] at e
              have e2 := congrArg List.length (HO.dK.inj (Option.some.inj e))
              simp [rowOf] at e2
        · exact absurd hx (by simp)
      refine ⟨_, rfl, p, C, dx, _, _, rfl, s4 _ _ hp, T0.cl, T0.nH, flds_sheets, _, rfl, sh, _, rfl, hget, ?_⟩
      refine ⟨_, rfl, _, rfl, s0, key, c.t, L, c.X, c.Y, rfl, SA, hL, fun pp H5 s5 hpn hl5 => ⟨pp, rfl, ⟨_, SqL.of hl5⟩, fun D hD => ?_⟩⟩
      rw [hsrt] at hl5
      obtain ⟨kvs, hk1, hk2, hrows⟩ := SA.ex
      refine lc_list (K := K) (a := pp) (xs := (rangeI (c.n key)).map V.int) (fun j H' => Same H5 H' ∧ ∃ rs : List Addr, H' D = some (.lst (rs.map V.ref)) ∧ rs.length = j ∧ ∀ (m : Nat) r, rs[m]? = some r → H' r = some (.dK (rowOf c.t (c.X (key, (m : Int))) (c.Y (key, (m : Int))))))
        ⟨same_upd hD, [], upd_same, rfl, fun m r h => absurd h (by simp)⟩ (fun j H' _ g => SqL.of (g.1 _ _ hl5)) ?_ ?_
      · rintro j x H6 hx6 ⟨s6, rs, hr1, hr2, hr3⟩
        rw [List.getElem?_map] at hx6
        obtain ⟨z, hz, rfl⟩ := Option.map_eq_some_iff.mp hx6
        have hj : j < c.n key := by
          have := (List.getElem?_eq_some_iff.mp hz).1
          rw [rangeI_len] at this
          exact this
        rw [rangeI_at hj] at hz
        cases Option.some.inj hz
        have hqL : ((key, (j : Int)) : Spot) ∈ L := by
          have h1 : ((j : Nat) : Int) ∈ srtI (plc L key) := by
            rw [hsrt]
            exact List.mem_of_getElem? (rangeI_at hj)
          have h2 := (srtI_perm _).mem_iff.mp h1
          unfold plc at h2
          obtain ⟨g, hg1, hg2⟩ := List.mem_map.mp h2
          obtain ⟨hg3, hg4⟩ := List.mem_filter.mp hg1
          have e : g = (key, (j : Int)) := Prod.ext (of_decide_eq_true hg4) hg2
          rw [← e]
          exact hg3
        obtain ⟨r, e1, e2⟩ := hrows _ hqL
        have s46 := s5.trans s6
        refine lcY rfl ?_
        refine ⟨_, rfl, _, rfl, _, rfl, (by show 2 ≤ sizeLine; decide), fun tb htb => ?_⟩
        have s7 := s46.trans (same_upd (o := .tup [.int key, .int (j : Nat)]) htb)
        have g1 := DGet.t (k := spotK (key, (j : Int))) (s7 _ _ hk1) (upd_same (H := H6) (a := tb) (o := .tup [.int key, .int (j : Nat)]))
        rw [e1] at g1
        refine ⟨s0, _, rfl, g1, r, _, rfl, .inl (s7 _ _ e2), fun n hn => ?_⟩
        have s8 : Same H6 (upd (upd H6 tb (.tup [.int key, .int (j : Nat)])) n (.dK (rowOf c.t (c.X (key, (j : Int))) (c.Y (key, (j : Int)))))) := (same_upd htb).trans (same_upd hn)
        have hnD : n ≠ D := fun z => by
          rw [z, same_upd htb _ _ hr1] at hn
          cases hn
        have hlt : (rs.map V.ref).length < sizeLine := by
          rw [List.length_map, hr2]
          have h3 := plc_le L key
          have h4 := len_srt (plc L key)
          rw [hsrt, rangeI_len] at h4
          exact Nat.lt_of_lt_of_le hj (Nat.le_trans (by omega : c.n key ≤ 1000) (by decide))
        refine ⟨_, s8 _ _ hr1, hlt, same_updD (s6.trans s8) hD, rs ++ [n], ?_, by rw [List.length_append, hr2]; rfl, fun m r' hm => ?_⟩
        · rw [upd_same, List.map_append]
          rfl
        · by_cases hmj : m < j
          · rw [List.getElem?_append_left (by omega)] at hm
            have h6 := hr3 m r' hm
            have hrD : r' ≠ D := fun z => by
              rw [z, hr1] at h6
              cases h6
            rw [upd_ne hrD]
            exact s8 _ _ h6
          · have hmj2 : m = j := by
              have := (List.getElem?_eq_some_iff.mp hm).1
              rw [List.length_append, hr2] at this
              have : m < j + 1 := this
              omega
            subst hmj2
            rw [List.getElem?_append_right (by omega), hr2, Nat.sub_self] at hm
            cases Option.some.inj hm
            rw [upd_ne hnD]
            exact upd_same
      · rintro H6 ⟨s6, rs, hr1, hr2, hr3⟩
        rw [List.length_map, rangeI_len] at hr2
        have s46 := s5.trans s6
        have hfd6 := s46 _ _ hkv
        refine ⟨_, rfl, _, rfl, fd0, _, rfl, DPut.k (k := Sum.inr c.t.nm) hfd6 (Nat.lt_of_le_of_lt hlen (by decide)), ?_⟩
        rw [putK_new _ hnew]
        have kq : Keep [fd0] H6 (upd H6 fd0 (.dK (kv0 ++ [(Sum.inr c.t.nm, .ref D)]))) := keep_upd
        have kk : Keep [fd0] H4 (upd H6 fd0 (.dK (kv0 ++ [(Sum.inr c.t.nm, .ref D)]))) := (Keep.of_same s46).trans kq
        have hlst : LstAt H6 D c key := ⟨rs, hr1, hr2, hr3⟩
        refine ⟨fun y o e => kk _ _ (s4 _ _ e) (by simpa using ne_of_none e h0fd), kk _ _ hT4 (by simpa using fun z => by rw [z, hkv] at hT4; cases hT4), ⟨_, _, rfl⟩, hfin D _ kk upd_same ?_⟩
        refine hlst.keepR kq (fun y hy xs e => ?_) fun y hy t x1 y1 e => ?_
        · rw [List.mem_singleton.mp hy, hfd6] at e
          cases e
        · rw [List.mem_singleton.mp hy, hfd6] at e
          have e2 := congrArg List.length (HO.dK.inj (Option.some.inj e))
          simp [rowOf] at e2
          omega
    · rintro σ H4 ⟨s4, hT4, ⟨o4, o5, rfl⟩, hcase⟩
      rcases hcase with ⟨h, _⟩ | ⟨h, _⟩ | ⟨_, la, lb, g1, g2, g3⟩
      · exact absurd h (by simp)
      · exact absurd h (by simp)
      · exact ⟨_, rfl, q fd0 la lb H4 s4 g1 g2 g3⟩

/-! ### held -/
abbrev sHeld : Stmt := inClass (top 35) 5
def spHeld (C : Addr) : Sp := fun vs H Q _ => ∃ (p fm : Addr) (F : Frm) (T : Tb), vs = [.ref p] ∧ PlAt H p C fm F T ∧ ∀ (l : Addr) H', Same H H' → H' l = some (.lst ((srtI T.ks).map V.int)) → Q (.ref l) H'
theorem sc_held : FnScope ["self", "spot"] ["self"] (defScope sHeld) := ⟨rfl, rfl, rfl, by decide +kernel, rfl, by decide +kernel, by decide +kernel⟩
theorem heads_keys (ks : List Int) (n : Int → Nat) (h : ∀ k ∈ ks, n k = 1) : (spots n ks).map (·.1) = ks := by
  induction ks with
  | nil => rfl
  | cons k r ih =>
    have e : spots n (k :: r) = spotsOf k (n k) ++ spots n r := by
      unfold spots
      rw [List.flatMap_cons]
    rw [e, h k List.mem_cons_self, List.map_append, ih fun j hj => h j (List.mem_cons_of_mem _ hj)]
    rfl
theorem fn_held {C f : Addr} {fd : FuncData} (F0 : L2.Fun K "held" "Plain.held" sHeld f fd) (T0 : PlCls K mg C) (G : Gs mg)
    (C0 : Cl P w K mg base 1 "head_of" spHeadOf) : FnOk P w K mg base CX0 2 f fd ["self"] (spHeld C) := by
  refine F0.ok sc_held (fun vs H Q E h => ?_) (fun cdv A outer s H vs Q E hr h => ?_)
  · obtain ⟨p, fm, F, T, rfl, _⟩ := h
    rfl
  · obtain ⟨p, fm, F, T, rfl, hP, q⟩ := h
    have nd := sc_held.nd
    have hu := hu_of hr
    obtain ⟨dx, sh, sa, sb, La, Lb, hp, S, pA, pB⟩ := hP.ex
    have hF := hP.F
    obtain ⟨kvs, hs, hk, _⟩ := S.a.ex
    have hlen : kvs.length = La.length := sheet_len S.a hs
    refine ⟨_, pss_one (ps_ret (pe_callB cr_sortedI (by rfl) G.sorted PyProof.Rows.boot_sorted (pa_cons (pe_lock (pe_lc (own := [("spot", 1)]) (g := gName 1) (tt := tYes) rfl nd (pi_keys (pe_dget hu (pe_fld (pv 0) rfl) (pe_cl C0 hr (by decide) (by rfl) (pa_cons (pe_fld (pv 0) rfl) pa_nil)) (fun _ _ => rfl))) (blkOk_by (N := ["self", "spot"]) (sc := defScope sHeld) (by decide +kernel))
      (fun _ _ _ _ _ => pg_name (i := 1) nd rfl (Or.inl rfl)) (fun _ _ _ _ _ => pts_nil) (fun _ _ _ _ _ => pe_ix (ixT (K := K) rfl) (pv 1) pe_int (fun _ _ => rfl)))) pa_nil))), ?_⟩
    refine ⟨sa, _, hs, True.intro, fun od => ?_⟩
    have nds : ∀ {b : Addr} {o : HO}, H b = some o → o ≠ .dT kvs → (upd H sa (.frz od (.dT kvs))) b = some o := fun {b o} e n => by
      rw [upd_ne fun z => by
        rw [z, hs] at e
        exact n (Option.some.inj e).symm]
      exact e
    have kz : ∀ b xs, _root_.K18.PlainT H b xs → _root_.K18.PlainT (upd H sa (.frz od (.dT kvs))) b xs := fun b xs ⟨o, e, e2⟩ => ⟨o, nds e (fun z => nomatch z), e2⟩
    have kt : ∀ b xs, H b = some (.tup xs) → (upd H sa (.frz od (.dT kvs))) b = some (.tup xs) := fun b xs e => nds e (fun z => nomatch z)
    have hFl : FormAt (upd H sa (.frz od (.dT kvs))) fm F := ⟨kt _ _ hF.fm, kt _ _ hF.tabs, ⟨kt _ _ hF.a.at_, kz _ _ hF.a.k, kt _ _ hF.a.pa, kt _ _ hF.a.pb, kt _ _ hF.a.qa, kt _ _ hF.a.qb, hF.a.ne, hF.a.lt⟩, ⟨kt _ _ hF.b.at_, kz _ _ hF.b.k, kt _ _ hF.b.pa, kt _ _ hF.b.pb, kt _ _ hF.b.qa, kt _ _ hF.b.qb, hF.b.ne, hF.b.lt⟩, hF.ne, hF.sa, hF.sb, hF.ka, hF.kb⟩
    have g1 : DGet (upd H sa (.frz od (.dT kvs))) sh (.str F.a.nm) (some (.ref sa)) := by
      have g := DGet.k (k := Sum.inr F.a.nm) (nds S.sh (fun z => nomatch z))
      rw [two_a] at g
      exact g
    have hpl := nds hp (fun z => nomatch z)
    refine ⟨_, rfl, p, C, dx, _, _, rfl, hpl, T0.cl, T0.nH, flds_sheets, _, rfl, p, C, dx, _, _, rfl, hpl, T0.cl, T0.nS, flds_shape, fm, F, rfl, hFl, sh, _, rfl, g1, sa, od, rfl, .inr ⟨kvs, upd_same, fun D hD => ?_⟩⟩
    have hDs : sa ≠ D := ne_of_none (upd_same (H := H) (a := sa) (o := .frz od (.dT kvs))) hD
    have hD0 : H D = none := by rw [upd_ne (Ne.symm hDs)] at hD; exact hD
    refine lc_it walk_keysT (fun i H' => H' = upd (upd H sa (.frz od (.dT kvs))) D (.lst (((La.take i).map (·.1)).map V.int))) rfl (fun i H' _ p => by rw [p, upd_ne hDs]; exact upd_same) ?_ ?_
    · rintro i x H1 H2 hi rfl ⟨rfl, k, v, b, e1, rfl, e2⟩
      obtain ⟨g, hg, rfl⟩ := spots_at hk e1
      have lt : (((La.take i).map (·.1)).map V.int).length < sizeLine := by
        rw [List.length_map, List.length_map, List.length_take]
        exact Nat.lt_of_le_of_lt (Nat.le_trans (Nat.min_le_right _ _) S.la) (by decide)
      refine lcY rfl ⟨_, rfl, b, _, _, _, rfl, rfl, SqT.of e2, atI_nat (j := 0) rfl, _, upd_same, lt, ?_⟩
      rw [upd_upd, take_at hg, List.map_append, List.map_append]
      rfl
    · rintro H1 rfl
      rw [hlen, List.take_length]
      refine ⟨by rw [upd_ne hDs]; exact upd_same, D, La.map (·.1), rfl, SqL.of (by rw [upd_ne (Ne.symm hDs)]; exact upd_same), fun ns' l hperm hsort hln => ?_⟩
      have hk1 : (La.map (·.1)).Perm T.ks := by
        have h1 : (La.map (·.1)).Perm ((spots (fun _ => 1) T.ks).map (·.1)) := pA.map (·.1)
        rw [heads_keys T.ks _ (fun _ _ => rfl)] at h1
        exact h1
      rw [srtI_uniq (hperm.trans hk1) hsort]
      refine q l _ (fun c o e => ?_) upd_same
      by_cases ecs : c = sa
      · subst ecs
        rw [hs] at e
        cases e
        rw [upd_ne (ne_of_none (upd_same) hln)]
        exact upd_same
      · have hcl : c ≠ l := ne_of_none (H := upd (upd (upd H sa (.frz od (.dT kvs))) D (.lst ((La.map (·.1)).map V.int))) sa (.dT kvs)) (o := o) (by rw [upd_ne ecs, upd_ne (ne_of_none e hD0), upd_ne ecs]; exact e) hln
        rw [upd_ne hcl, upd_ne ecs, upd_ne (ne_of_none e hD0), upd_ne ecs]
        exact e
end K18
end L2
namespace L2
open PySem PySem.Spec PyProof.Rows
namespace K18
variable {P : Program} {w : World} {K : PySem.W.Frag} {mg : Str → Option Value} {base : Heap}

/-! ### a text times a number -/
def rMulS : V → V → Hp → VK → Prop := fun x y H Q => ∃ z n, x = .str z ∧ y = .int n ∧ MulOk z n ∧ Q (.str (Txt.mul z n)) H
theorem op_mulS {X : Cx} : OpR X (binaryOp .Mult) rMulS := by
  intro pins s σ H x y v u Q I rx ry h
  obtain ⟨z, n, rfl, rfl, hc, q⟩ := h
  obtain ⟨t, rfl⟩ := rx
  obtain ⟨t', rfl⟩ := ry
  exact PySem.SB.mul hc fun t' tk => ⟨.str (Txt.mul z n), H, I.tok _, ⟨_, rfl⟩, q⟩
def rep (c k : Nat) : Str := ⟨(List.replicate k c).toArray⟩
theorem mul_rep {c k : Nat} (h : k < 4) : Txt.mul ⟨#[c]⟩ (k : Int) = rep c k ∧ MulOk ⟨#[c]⟩ (k : Int) := by
  have hk : k = 0 ∨ k = 1 ∨ k = 2 ∨ k = 3 := by omega
  rcases hk with rfl | rfl | rfl | rfl
  · exact ⟨rfl, by decide, fun h => absurd (by decide) h, fun h => absurd (by decide) h⟩
  · exact ⟨rfl, by decide, fun _ h => absurd h (by simp), fun _ h => absurd h (by simp)⟩
  · exact ⟨rfl, by decide, fun _ _ => by show ¬ ((1 : Int) > (2 ^ 63 - 1) / 2); decide, fun _ _ => by show decide (1 * 2 > sizeLine) = false; decide⟩
  · exact ⟨rfl, by decide, fun _ _ => by show ¬ ((1 : Int) > (2 ^ 63 - 1) / 3); decide, fun _ _ => by show decide (1 * 3 > sizeLine) = false; decide⟩

/-! ### the order of texts -/
abbrev ltS (x y : Str) : Prop := ltCps x.cps.toList y.cps.toList = true
theorem cps_app (x y : Str) : (x ++ y).cps.toList = x.cps.toList ++ y.cps.toList := Array.toList_append
theorem ltCps_pre (p a b : List Nat) : ltCps (p ++ a) (p ++ b) = ltCps a b := by
  induction p with
  | nil => rfl
  | cons c r ih =>
    show (decide (c < c) || (c == c && ltCps (r ++ a) (r ++ b))) = _
    rw [ih]
    simp
theorem ltCps_rep (c : Nat) : ∀ {i j : Nat}, i < j → ltCps (List.replicate i c) (List.replicate j c) = true
  | 0, j + 1, _ => rfl
  | i + 1, j + 1, h => by
    show (decide (c < c) || (c == c && ltCps (List.replicate i c) (List.replicate j c))) = true
    rw [ltCps_rep c (i := i) (j := j) (by omega)]
    simp
theorem ltCps_irr : ∀ x : List Nat, ltCps x x = false
  | [] => rfl
  | c :: r => by
    show (decide (c < c) || (c == c && ltCps r r)) = false
    rw [ltCps_irr r]
    simp
theorem ltS_ne {x y : Str} (h : ltS x y) : ¬ x = y := fun z => by
  unfold ltS at h
  rw [z, ltCps_irr] at h
  cases h
theorem letter_at {i : Int} (h0 : 0 ≤ i) (h1 : i < 26) : atI ("abcdefghijklmnopqrstuvwxyz" : Str).cps.toList i = some (97 + i.toNat) := by
  have h : ∀ n : Fin 26, atI ("abcdefghijklmnopqrstuvwxyz" : Str).cps.toList ((n.val : Nat) : Int) = some (97 + n.val) := by decide +kernel
  obtain ⟨n, rfl⟩ := Int.eq_ofNat_of_zero_le h0
  exact h ⟨n, by omega⟩
theorem letters_len : ("abcdefghijklmnopqrstuvwxyz" : Str).length ≤ sizeLine := by decide +kernel

/-! ### texts of code points -/
theorem ok_iff (x : Str) : PyData.strOk x = true ↔ ∀ c ∈ x.cps.toList, c < 1114112 := by
  unfold PyData.strOk
  rw [← Array.all_toList, List.all_eq_true]
  simp
theorem ok_app {x y : Str} (h1 : PyData.strOk x = true) (h2 : PyData.strOk y = true) : PyData.strOk (x ++ y) = true := by
  rw [ok_iff] at *
  intro c hc
  rw [cps_app] at hc
  exact (List.mem_append.mp hc).elim (h1 c) (h2 c)
theorem ok_one {c : Nat} (h : c < 1114112) : PyData.strOk ⟨#[c]⟩ = true := by
  rw [ok_iff]
  intro d hd
  rw [List.mem_singleton.mp hd]
  exact h
theorem ok_rep {c : Nat} (k : Nat) (h : c < 1114112) : PyData.strOk (rep c k) = true := by
  rw [ok_iff]
  intro d hd
  have hd' : d ∈ List.replicate k c := hd
  rw [(List.mem_replicate.mp hd').2]
  exact h
theorem ok_cut {x : Str} (lo hi : Option Int) (h : PyData.strOk x = true) : PyData.strOk (cutS x lo hi) = true := by
  rw [ok_iff] at *
  intro d hd
  have hd' : d ∈ (x.cps.toList.drop (HT.sIx x.length 0 lo)).take (HT.sIx x.length x.length hi - HT.sIx x.length 0 lo) := hd
  exact h d (List.mem_of_mem_drop (List.mem_of_mem_take hd'))

/-! ### _law_cell -/
def spCell (K : PySem.W.Frag) : Sp := fun vs H Q _ => ∃ (a : Addr) (ns : List Int) (k : Nat), vs = [.ref a, .int k] ∧ SqL K H a (ns.map V.int) ∧ ∀ c : Int, Q (.int c) H
theorem sc_cell : FnScope ["_law_script", "_law_k"] ["_law_script", "_law_k"] (defScope (top 37)) := ⟨rfl, rfl, rfl, by decide +kernel, rfl, by decide +kernel, by decide +kernel⟩
theorem cl_cell (D : DefAt K mg "_law_cell" (top 37)) (G : Gs mg) : Cl P w K mg base 1 "_law_cell" (spCell K) := by
  refine cl_mk D sc_cell (fun _ _ _ _ _ _ us hl => match us, hl with | [_, _], _ => rfl) (fun vs H Q E h => ?_) (fun f cdv A outer s H vs Q E hr h => ?_)
  · obtain ⟨a, ns, k, rfl, _⟩ := h
    rfl
  · obtain ⟨a, ns, k, rfl, hS, q⟩ := h
    refine ⟨_, pss_cons (ps_if (pt_cmpR op_lt (pv 1) (pe_callB call_len_seq (by rfl) G.len PySem.boot_len (pa_cons (pv 0) pa_nil)) (nomark _)) (pss_one (ps_ret (pe_ix ix_list (pv 0) (pv 1) (fun _ _ => rfl)))) pss_nil)
      (pss_one (ps_ret pe_int)), ?_⟩
    refine ⟨_, rfl, _, rfl, a, _, rfl, .inl hS, _, _, rfl, rfl, _, rfl, ?_⟩
    by_cases h : (k : Int) < ((ns.map V.int).length : Nat)
    · refine ifY h ?_
      have hk : k < ns.length := by
        rw [List.length_map] at h
        omega
      exact ⟨_, rfl, _, rfl, a, _, k, V.int ns[k], rfl, rfl, hS, atI_nat (by rw [List.getElem?_map, List.getElem?_eq_getElem hk]; rfl), q _⟩
    · exact ifN h (q 0)

/-! ### _law_names -/
def spNames : Sp := fun vs H Q _ => ∃ (c : Int) (m : Nat), vs = [.int c, .int m] ∧ m ≤ 4 ∧ ∀ (ns : List Str) p H', Same H H' → H' p = some (.lst (ns.map V.str)) → ns.length = m → ns.Pairwise ltS → (∀ n ∈ ns, PyData.strOk n = true) → Q (.ref p) H'
theorem sc_names : FnScope ["_law_cell_here", "_law_many", "_law_letters", "_law_word", "_law_k", "_law_at", "_law_start", "_law_step"] ["_law_cell_here", "_law_many"] (defScope (top 38)) := ⟨rfl, rfl, rfl, by decide +kernel, rfl, by decide +kernel, by decide +kernel⟩
theorem rng_snoc {α : Type} (f : Nat → α) (i : Nat) : (List.range (i + 1)).map f = (List.range i).map f ++ [f i] := by
  rw [List.range_succ, List.map_append]
  rfl
theorem pair_rng {f : Nat → Str} (m : Nat) (h : ∀ i j, i < j → ltS (f i) (f j)) : ((List.range m).map f).Pairwise ltS :=
  List.pairwise_map.mpr ((List.pairwise_lt_range (n := m)).imp fun {a b} hab => h a b hab)
theorem cl_names (D : DefAt K mg "_law_names" (top 38)) (G : Gs mg) : Cl P w K mg base 1 "_law_names" spNames := by
  refine cl_mk D sc_names (fun _ _ _ _ _ _ us hl => match us, hl with | [_, _], _ => rfl) (fun vs H Q E h => ?_) (fun f cdv A outer s H vs Q E hr h => ?_)
  · obtain ⟨c, m, rfl, _⟩ := h
    rfl
  · obtain ⟨c, m, rfl, hm, q⟩ := h
    have nd := sc_names.nd
    refine ⟨_, pss_cons (ps_set (i := 2) nd rfl (Or.inr rfl) pe_str)
      (pss_cons (ps_set (i := 3) nd rfl (Or.inr rfl) pe_str)
      (pss_cons (ps_for PassesOwn.never rfl (pi_range1 (by rfl) G.range (pa_cons (pe_op op_add pe_int (pe_op op_mod (pv 0) pe_int)) pa_nil)) (pg_name (i := 4) nd rfl (Or.inl rfl))
        (pss_one (ps_set (i := 3) nd rfl (Or.inr rfl) (pe_op op_add_str (pv 3) (pe_ix ix_str (pv 2) (pe_op op_mod (pe_op op_add (pe_op op_fdiv (pv 0) pe_int) (pe_op op_mul pe_int (pv 4))) pe_int) (fun _ _ => rfl))))))
      (pss_cons (ps_if (pt_cmpR op_eq (pe_op op_mod (pe_op op_fdiv (pv 0) pe_int) pe_int) pe_int (nomark _))
        (pss_one (ps_ret (pe_lc (own := [("_law_k", 4)]) (g := gName 4) (tt := tYes) rfl nd (pi_range1 (by rfl) G.range (pa_cons (pv 1) pa_nil)) (blkOk_by (N := ["_law_cell_here", "_law_many", "_law_letters", "_law_word", "_law_k", "_law_at", "_law_start", "_law_step"]) (sc := defScope (top 38)) (by decide +kernel))
          (fun _ _ _ _ _ => pg_name (i := 4) nd rfl (Or.inl rfl)) (fun _ _ _ _ _ => pts_nil)
          (fun _ _ _ _ _ => pe_op op_add_str (pv 3) (pe_op op_mulS (pe_ix ix_str (pv 2) (pe_op op_mod (pe_op op_fdiv (pv 0) pe_int) pe_int) (fun _ _ => rfl)) (pv 4)))))) pss_nil)
      (pss_cons (ps_set (i := 5) nd rfl (Or.inr rfl) (pe_op op_mod (pe_op op_fdiv (pv 0) pe_int) (pe_callB call_len_str (by rfl) G.len PySem.boot_len (pa_cons (pv 3) pa_nil))))
      (pss_cons (ps_set (i := 6) nd rfl (Or.inr rfl) (pe_op op_mod (pe_op op_fdiv (pv 0) pe_int) pe_int))
      (pss_cons (ps_set (i := 7) nd rfl (Or.inr rfl) (pe_op op_add pe_int (pe_op op_mod (pe_op op_fdiv (pv 0) pe_int) pe_int)))
      (pss_one (ps_ret (pe_lc (own := [("_law_k", 4)]) (g := gName 4) (tt := tYes) rfl nd (pi_range1 (by rfl) G.range (pa_cons (pv 1) pa_nil)) (blkOk_by (N := ["_law_cell_here", "_law_many", "_law_letters", "_law_word", "_law_k", "_law_at", "_law_start", "_law_step"]) (sc := defScope (top 38)) (by decide +kernel))
          (fun _ _ _ _ _ => pg_name (i := 4) nd rfl (Or.inl rfl)) (fun _ _ _ _ _ => pts_nil)
          (fun _ _ _ _ _ => pe_op op_add_str (pe_op op_add_str (pe_slice sl_str (pv 3) po_none (po_some (pv 5))) (pe_ix ix_str (pv 2) (pe_op op_add (pv 6) (pe_op op_mul (pv 7) (pv 4))) (fun _ _ => rfl))) (pe_slice sl_str (pv 3) (po_some (pe_op op_add (pv 5) pe_int)) po_none))))))))))), ?_⟩
    refine ⟨_, rfl, _, _, rfl, rfl, (by show (0 : Int) < 4; decide), _, _, rfl, rfl, _, rfl, (by omega), (by omega), ?_⟩
    have hn : (1 + c % 4).toNat ≤ 4 ∧ 1 ≤ (1 + c % 4).toNat := by omega
    generalize (1 + c % 4).toNat = n at hn
    obtain ⟨hn4, hn1⟩ := hn
    have line : ∀ k : Nat, k ≤ 1000 → k ≤ sizeLine := fun k h => Nat.le_trans h (by decide)
    refine for_range (fun i σ H' => H' = H ∧ ∃ (wd : Str) (o : Option V), (wd.length = i ∧ PyData.strOk wd = true) ∧ σ = [some (.int c), some (.int m), some (.str "abcdefghijklmnopqrstuvwxyz"), some (.str wd), o, none, none, none]) ⟨rfl, _, _, ⟨rfl, by decide +kernel⟩, rfl⟩ ?_ ?_
    · rintro i σ H' hi ⟨rfl, wd, o, ⟨hwd, hok⟩, rfl⟩
      refine ⟨_, rfl, _, rfl, _, rfl, _, _, rfl, rfl, ⟨by decide, by decide⟩, _, rfl, _, _, rfl, rfl, .inl ⟨by decide, by decide⟩, _, _, rfl, rfl, _, _, rfl, rfl, (by show (0 : Int) < 26; decide), ?_⟩
      refine ⟨_, _, _, rfl, rfl, letters_len, letter_at (by omega) (by omega), _, _, rfl, rfl, line _ (by show wd.length + 1 ≤ 1000; omega), rfl, _, _, ⟨?_, ok_app hok (ok_one (by omega))⟩, rfl⟩
      rw [Str.length_append, hwd]
      rfl
    · rintro σ H' ⟨rfl, wd, o, ⟨hwd, hok⟩, rfl⟩
      refine ⟨_, rfl, _, _, rfl, rfl, ⟨by decide, by decide⟩, _, _, rfl, rfl, (by show (0 : Int) < 2; decide), rfl, _, rfl, ?_⟩
      by_cases hcase : c / 8 % 2 = 1
      · refine ifY (congrArg V.int hcase) ?_
        refine ⟨_, rfl, _, rfl, (by omega), (by omega), fun D hD => ?_⟩
        have hc26 : (0 : Int) ≤ c / 16 % 26 ∧ c / 16 % 26 < 26 := by omega
        refine lc_range (fun i H'' => H'' = upd H' D (.lst (((List.range i).map fun k => wd ++ rep (97 + (c / 16 % 26).toNat) k).map V.str))) rfl ?_ ?_
        · rintro i H'' hi rfl
          have hi4 : i < 4 := by omega
          have hmr := mul_rep (c := 97 + (c / 16 % 26).toNat) hi4
          refine lcY rfl ⟨_, rfl, _, rfl, _, rfl, _, _, rfl, rfl, ⟨by decide, by decide⟩, _, _, rfl, rfl, (by show (0 : Int) < 26; decide), ?_⟩
          refine ⟨_, _, _, rfl, rfl, letters_len, letter_at hc26.1 hc26.2, _, rfl, _, _, rfl, rfl, (by rw [Int.zero_add]; exact hmr.2), _, _, rfl, rfl, ?_, ?_⟩
          · rw [Int.zero_add, hmr.1]
            refine line _ ?_
            show wd.length + (List.replicate i (97 + (c / 16 % 26).toNat)).toArray.size ≤ 1000
            rw [List.size_toArray, List.length_replicate]
            omega
          · refine ⟨_, upd_same, ?_, ?_⟩
            · rw [List.length_map, List.length_map, List.length_range]
              exact Nat.lt_of_lt_of_le hi4 (by decide)
            · rw [upd_upd, rng_snoc, List.map_append, Int.zero_add, hmr.1]
              rfl
        · rintro H'' rfl
          refine q _ D _ (same_upd hD) upd_same (by rw [List.length_map, List.length_range]; omega) (pair_rng _ fun i j hij => ?_) (fun n hn => ?_)
          · unfold ltS
            rw [cps_app, cps_app, ltCps_pre]
            exact ltCps_rep _ hij
          · obtain ⟨k, _, rfl⟩ := List.mem_map.mp hn
            exact ok_app hok (ok_rep _ (by omega))
      · refine ifN (fun z => hcase (V.int.inj z)) ?_
        refine ⟨_, rfl, _, _, rfl, rfl, ⟨by decide, by decide⟩, _, rfl, _, rfl, line _ (by omega), _, _, rfl, rfl, (by rw [hwd]; omega), ?_⟩
        refine ⟨_, rfl, _, _, rfl, rfl, ⟨by decide, by decide⟩, _, _, rfl, rfl, (by show (0 : Int) < 6; decide), ?_⟩
        refine ⟨_, rfl, _, _, rfl, rfl, ⟨by decide, by decide⟩, _, _, rfl, rfl, (by show (0 : Int) < 4; decide), _, _, rfl, rfl, ?_⟩
        have h6 : (0 : Int) ≤ c / 64 % 6 ∧ c / 64 % 6 < 6 := by omega
        have h4 : (1 : Int) ≤ 1 + c / 512 % 4 ∧ 1 + c / 512 % 4 ≤ 4 := by omega
        have hat : (0 : Int) ≤ c / 16 % wd.length := Int.emod_nonneg _ (by omega)
        refine ⟨_, rfl, _, rfl, (by omega), (by omega), fun D hD => ?_⟩
        refine lc_range (fun i H'' => H'' = upd H' D (.lst (((List.range i).map fun k => (cutS wd none (some (c / 16 % (wd.length : Int))) ++ ⟨#[97 + ((c / 64 % 6) + (1 + c / 512 % 4) * (k : Int)).toNat]⟩) ++ cutS wd (some ((c / 16 % (wd.length : Int)) + 1)) none).map V.str))) rfl ?_ ?_
        · rintro i H'' hi rfl
          have hi4 : i < 4 := by omega
          have hb : (0 : Int) ≤ (c / 64 % 6) + (1 + c / 512 % 4) * (i : Int) ∧ (c / 64 % 6) + (1 + c / 512 % 4) * (i : Int) < 26 := by
            have hi' : i = 0 ∨ i = 1 ∨ i = 2 ∨ i = 3 := by omega
            rcases hi' with rfl | rfl | rfl | rfl <;> omega
          have c1 := cutS_length wd none (some (c / 16 % (wd.length : Int)))
          have c2 := cutS_length wd (some ((c / 16 % (wd.length : Int)) + 1)) none
          refine lcY rfl ⟨_, rfl, _, rfl, _, rfl, _, rfl, line _ (by omega), _, rfl, _, rfl, _, rfl, _, rfl, _, _, rfl, rfl, .inl ⟨by omega, by omega⟩, _, _, rfl, rfl, ?_⟩
          refine ⟨_, _, _, rfl, rfl, letters_len, letter_at (by rw [Int.zero_add]; exact hb.1) (by rw [Int.zero_add]; exact hb.2), _, _, rfl, rfl, line _ (by show (cutS wd none (some (c / 16 % (wd.length : Int)))).length + 1 ≤ 1000; omega), ?_⟩
          refine ⟨_, rfl, _, rfl, _, _, rfl, rfl, _, rfl, _, rfl, line _ (by omega), _, _, rfl, rfl, line _ ?_, ?_⟩
          · rw [Str.length_append]
            show (cutS wd none (some (c / 16 % (wd.length : Int)))).length + 1 + (cutS wd (some ((c / 16 % (wd.length : Int)) + 1)) none).length ≤ 1000
            omega
          · refine ⟨_, upd_same, ?_, ?_⟩
            · rw [List.length_map, List.length_map, List.length_range]
              exact Nat.lt_of_lt_of_le hi4 (by decide)
            · rw [upd_upd, rng_snoc, List.map_append, Int.zero_add]
              rfl
        · rintro H'' rfl
          refine q _ D _ (same_upd hD) upd_same (by rw [List.length_map, List.length_range]; omega) (pair_rng _ fun i j hij => ?_) (fun n hn => ?_)
          · unfold ltS
            rw [cps_app, cps_app, cps_app, cps_app, List.append_assoc, List.append_assoc, ltCps_pre]
            have e : (1 + c / 512 % 4) * (i : Int) < (1 + c / 512 % 4) * (j : Int) := Int.mul_lt_mul_of_pos_left (by omega) (by omega)
            have e0 : 0 ≤ (1 + c / 512 % 4) * (i : Int) := Int.mul_nonneg (by omega) (by omega)
            have lt : 97 + ((c / 64 % 6) + (1 + c / 512 % 4) * (i : Int)).toNat < 97 + ((c / 64 % 6) + (1 + c / 512 % 4) * (j : Int)).toNat := by omega
            show (decide (97 + ((c / 64 % 6) + (1 + c / 512 % 4) * (i : Int)).toNat < 97 + ((c / 64 % 6) + (1 + c / 512 % 4) * (j : Int)).toNat) || _) = true
            rw [decide_eq_true lt]
            rfl
          · obtain ⟨k, hk, rfl⟩ := List.mem_map.mp hn
            have hk4 : k < 4 := by
              have := List.mem_range.mp hk
              omega
            have hi' : k = 0 ∨ k = 1 ∨ k = 2 ∨ k = 3 := by omega
            refine ok_app (ok_app (ok_cut _ _ hok) (ok_one ?_)) (ok_cut _ _ hok)
            rcases hi' with rfl | rfl | rfl | rfl <;> omega
end K18
end L2
namespace L2
open PySem PySem.Spec PyProof.Rows
namespace K18
open _root_.K18 (spotK spotK_inj hashT spots_apart)

/-! ### rows that are what T tells -/
structure Rep (F : Frm) (S : Sts) (T : Tb) : Prop where
  na : S.La.Nodup
  nb : S.Lb.Nodup
  la : ∀ q, q ∈ S.La ↔ q.1 ∈ T.ks ∧ q.2 = 0
  lb : ∀ q, q ∈ S.Lb ↔ q.1 ∈ T.ks ∧ 0 ≤ q.2 ∧ q.2 < ((T.so q.1).length : Nat)
  xa : ∀ q ∈ S.La, S.Xa q = (cA F T).X q ∧ S.Ya q = (cA F T).Y q
  xb : ∀ q ∈ S.Lb, S.Xb q = (cB F T).X q ∧ S.Yb q = (cB F T).Y q
def InW (b : Int) (g : Option Int) : Prop := ∀ i, g = some i → b ≤ i ∧ i ≤ b + 4
def setF {α : Type} (f : Int → α) (k : Int) (v : α) : Int → α := fun j => if j = k then v else f j
theorem setF_same {α : Type} {f : Int → α} {k : Int} {v : α} : setF f k v k = v := if_pos rfl
theorem setF_ne {α : Type} {f : Int → α} {k j : Int} {v : α} (h : ¬ j = k) : setF f k v j = f j := if_neg h
def Tb.put (T : Tb) (k : Int) (g0 g1 g2 : Option Int) : Tb :=
  if k ∈ T.ks then ⟨T.ks, setF T.h0 k g0, setF T.h1 k g1, T.so⟩ else ⟨T.ks ++ [k], setF T.h0 k g0, setF T.h1 k g1, setF T.so k [g2]⟩
def Tb.cut (T : Tb) (k : Int) : Tb := ⟨T.ks.filter fun j => decide (j ≠ k), T.h0, T.h1, T.so⟩
def Tb.app (T : Tb) (k : Int) (g : Option Int) : Tb := ⟨T.ks, T.h0, T.h1, setF T.so k (T.so k ++ [g])⟩
def putSts (F : Frm) (T : Tb) (k : Int) (g0 g1 g2 : Option Int) : List Stp :=
  if k ∈ T.ks then [⟨.set, F.a, k, 0, gV g0, gV g1⟩] else [⟨.add, F.a, k, 0, gV g0, gV g1⟩, ⟨.add, F.b, k, 0, gV g2, .int 0⟩]
def cutB (F : Frm) (k : Int) (i : Nat) : Stp := ⟨.cut, F.b, k, (i : Int), .non, .non⟩
def cutSts (F : Frm) (T : Tb) (k : Int) : List Stp := ⟨.cut, F.a, k, 0, .non, .non⟩ :: (List.range (T.so k).length).map (cutB F k)
def appSts (F : Frm) (T : Tb) (k : Int) (g : Option Int) : List Stp := [⟨.add, F.b, k, ((T.so k).length : Nat), gV g, .int ((T.so k).length : Nat)⟩]
/-- steps that lead from T to T' -/
def Mv (F : Frm) (T : Tb) (sts : List Stp) (T' : Tb) : Prop := ∀ S, Rep F S T → Runs F S sts ∧ Rep F (S.run F sts) T'
theorem Mv.trans {F : Frm} {T T1 T2 : Tb} {l m : List Stp} (a : Mv F T l T1) (b : Mv F T1 m T2) : Mv F T (l ++ m) T2 := fun S h => by
  obtain ⟨a1, a2⟩ := a S h
  obtain ⟨b1, b2⟩ := b _ a2
  rw [run_append]
  exact ⟨a1.append b1, b2⟩
section
variable {F : Frm} {b : Int} {T : Tb} {k : Int} {g0 g1 g2 g : Option Int}
theorem goal_of {S : Int} (h0 : 0 ≤ b) (h1 : b + 4 < S) (h : InW b g) : GoalV S (gV g) := ⟨g, rfl, fun i e => by
  have := h i e
  omega⟩
theorem step_a {S : Sts} {st : Stp} (e : st.t = F.a) : S.step F st = ⟨stL st S.La, S.Lb, stX st S.Xa, stY st S.Ya, S.Xb, S.Yb⟩ := if_pos (by rw [e])
theorem step_b {S : Sts} {st : Stp} (ne : ¬ F.a.nm = F.b.nm) (e : st.t = F.b) : S.step F st = ⟨S.La, stL st S.Lb, S.Xa, S.Ya, stX st S.Xb, stY st S.Yb⟩ := if_neg (by rw [e]; exact fun z => ne z.symm)
theorem rowV_a (h0 : 0 ≤ b) (h1 : b + 4 < F.size) (tn : ¬ F.a = F.b) (i0 : InW b g0) (i1 : InW b g1) : RowV F F.a (gV g0) (gV g1) := ⟨goal_of h0 h1 i0, fun _ => goal_of h0 h1 i1, fun z => absurd z tn⟩
theorem rowV_b (h0 : 0 ≤ b) (h1 : b + 4 < F.size) (tn : ¬ F.a = F.b) (i0 : InW b g) (i : Int) : RowV F F.b (gV g) (.int i) := ⟨goal_of h0 h1 i0, fun z => absurd z.symm tn, fun _ => ⟨i, rfl⟩⟩
theorem mv_put (ne : ¬ F.a.nm = F.b.nm) (h0 : 0 ≤ b) (h1 : b + 4 < F.size) (hk : b ≤ k ∧ k ≤ b + 4) (i0 : InW b g0) (i1 : InW b g1) (i2 : InW b g2) : Mv F T (putSts F T k g0 g1 g2) (T.put k g0 g1 g2) := by
  intro S R
  have tn : ¬ F.a = F.b := fun z => ne (by rw [z])
  have hso : SpotOk F F.a k 0 := ⟨by omega, by omega, by omega, .inl rfl⟩
  have hsb : SpotOk F F.b k 0 := ⟨by omega, by omega, by omega, .inl rfl⟩
  have val : ∀ q : Spot, q.1 ∈ T.ks ∧ q.2 = 0 → q ≠ (k, 0) → ¬ q.1 = k := fun q h n z => n (Prod.ext z h.2)
  unfold putSts Tb.put
  by_cases hin : k ∈ T.ks
  · rw [if_pos hin, if_pos hin]
    have hq : ((k, 0) : Spot) ∈ S.La := (R.la _).mpr ⟨hin, rfl⟩
    refine ⟨⟨⟨.inl rfl, hso, fun _ => rowV_a h0 h1 tn i0 i1, ?_⟩, True.intro⟩, ?_⟩
    · rw [if_pos rfl]
      exact hq
    · show Rep F (S.step F ⟨.set, F.a, k, 0, gV g0, gV g1⟩) _
      rw [step_a rfl]
      refine ⟨R.na, R.nb, R.la, R.lb, fun q hq' => ?_, R.xb⟩
      show setAt S.Xa (k, 0) (gV g0) q = gV (setF T.h0 k g0 q.1) ∧ setAt S.Ya (k, 0) (gV g1) q = gV (setF T.h1 k g1 q.1)
      by_cases e : q = (k, 0)
      · rw [e, setAt_same, setAt_same, setF_same, setF_same]
        exact ⟨rfl, rfl⟩
      · have n := val q ((R.la q).mp hq') e
        rw [setAt_ne e, setAt_ne e, setF_ne n, setF_ne n]
        exact R.xa q hq'
  · rw [if_neg hin, if_neg hin]
    have hqa : ¬ ((k, 0) : Spot) ∈ S.La := fun z => hin ((R.la _).mp z).1
    have hqb : ¬ ((k, 0) : Spot) ∈ S.Lb := fun z => hin ((R.lb _).mp z).1
    refine ⟨⟨⟨.inl rfl, hso, fun _ => rowV_a h0 h1 tn i0 i1, ?_⟩, ⟨.inr rfl, hsb, fun _ => rowV_b h0 h1 tn i2 0, ?_⟩, True.intro⟩, ?_⟩
    · rw [if_pos rfl]
      exact hqa
    · rw [if_neg (fun z : F.b.nm = F.a.nm => ne z.symm), step_a (st := ⟨.add, F.a, k, 0, gV g0, gV g1⟩) rfl]
      exact hqb
    · show Rep F ((S.step F ⟨.add, F.a, k, 0, gV g0, gV g1⟩).step F ⟨.add, F.b, k, 0, gV g2, .int 0⟩) _
      rw [step_a (st := ⟨.add, F.a, k, 0, gV g0, gV g1⟩) rfl, step_b ne rfl]
      refine ⟨nd_snoc R.na hqa, nd_snoc R.nb hqb, fun q => ?_, fun q => ?_, fun q hq' => ?_, fun q hq' => ?_⟩
      · show q ∈ S.La ++ [(k, 0)] ↔ q.1 ∈ T.ks ++ [k] ∧ q.2 = 0
        rw [List.mem_append, List.mem_append, List.mem_singleton, List.mem_singleton, R.la]
        constructor
        · rintro (⟨a, c⟩ | rfl)
          · exact ⟨.inl a, c⟩
          · exact ⟨.inr rfl, rfl⟩
        · rintro ⟨a | a, c⟩
          · exact .inl ⟨a, c⟩
          · exact .inr (Prod.ext a c)
      · show q ∈ S.Lb ++ [(k, 0)] ↔ q.1 ∈ T.ks ++ [k] ∧ 0 ≤ q.2 ∧ q.2 < ((setF T.so k [g2] q.1).length : Nat)
        rw [List.mem_append, List.mem_append, List.mem_singleton, List.mem_singleton, R.lb]
        constructor
        · rintro (⟨a, c1, c2⟩ | rfl)
          · rw [setF_ne fun z : q.1 = k => hin (z ▸ a)]
            exact ⟨.inl a, c1, c2⟩
          · show (k ∈ T.ks ∨ k = k) ∧ (0 : Int) ≤ 0 ∧ (0 : Int) < ((setF T.so k [g2] k).length : Nat)
            rw [setF_same]
            exact ⟨.inr rfl, Int.le_refl _, by show (0 : Int) < ((1 : Nat) : Int); omega⟩
        · rintro ⟨a | a, c1, c2⟩
          · rw [setF_ne fun z : q.1 = k => hin (z ▸ a)] at c2
            exact .inl ⟨a, c1, c2⟩
          · rw [a, setF_same] at c2
            have c3 : q.2 < ((1 : Nat) : Int) := c2
            exact .inr (Prod.ext a (by show q.2 = 0; omega))
      · show setAt S.Xa (k, 0) (gV g0) q = gV (setF T.h0 k g0 q.1) ∧ setAt S.Ya (k, 0) (gV g1) q = gV (setF T.h1 k g1 q.1)
        have hq'' : q ∈ S.La ++ [(k, 0)] := hq'
        rcases List.mem_append.mp hq'' with h | h
        · have e : q ≠ (k, 0) := fun z => hqa (z ▸ h)
          have n := val q ((R.la q).mp h) e
          rw [setAt_ne e, setAt_ne e, setF_ne n, setF_ne n]
          exact R.xa q h
        · rw [List.mem_singleton.mp h, setAt_same, setAt_same, setF_same, setF_same]
          exact ⟨rfl, rfl⟩
      · show setAt S.Xb (k, 0) (gV g2) q = gV ((setF T.so k [g2] q.1).getD q.2.toNat none) ∧ setAt S.Yb (k, 0) (.int 0) q = V.int q.2
        have hq'' : q ∈ S.Lb ++ [(k, 0)] := hq'
        rcases List.mem_append.mp hq'' with h | h
        · have e : q ≠ (k, 0) := fun z => hqb (z ▸ h)
          have n : ¬ q.1 = k := fun z => hin (z ▸ ((R.lb q).mp h).1)
          rw [setAt_ne e, setAt_ne e, setF_ne n]
          exact R.xb q h
        · rw [List.mem_singleton.mp h, setAt_same, setAt_same, setF_same]
          exact ⟨rfl, rfl⟩
theorem mv_app (ne : ¬ F.a.nm = F.b.nm) (h0 : 0 ≤ b) (h1 : b + 4 < F.size) (hk : b ≤ k ∧ k ≤ b + 4) (hin : k ∈ T.ks) (i0 : InW b g) : Mv F T (appSts F T k g) (T.app k g) := by
  intro S R
  have tn : ¬ F.a = F.b := fun z => ne (by rw [z])
  have hq : ¬ ((k, ((T.so k).length : Nat)) : Spot) ∈ S.Lb := fun z => by
    have h := ((R.lb _).mp z).2.2
    have h2 : (((T.so k).length : Nat) : Int) < ((T.so k).length : Nat) := h
    omega
  refine ⟨⟨⟨.inr rfl, ⟨by show 0 ≤ k; omega, by show k < F.size; omega, by show (0 : Int) ≤ ((T.so k).length : Nat); omega, .inr rfl⟩, fun _ => rowV_b h0 h1 tn i0 _, ?_⟩, True.intro⟩, ?_⟩
  · rw [if_neg (fun z : F.b.nm = F.a.nm => ne z.symm)]
    exact hq
  · show Rep F (S.step F ⟨.add, F.b, k, ((T.so k).length : Nat), gV g, .int ((T.so k).length : Nat)⟩) _
    rw [step_b ne rfl]
    refine ⟨R.na, nd_snoc R.nb hq, R.la, fun q => ?_, R.xa, fun q hq' => ?_⟩
    · show q ∈ S.Lb ++ [((k, (((T.so k).length : Nat) : Int)) : Spot)] ↔ q.1 ∈ T.ks ∧ 0 ≤ q.2 ∧ q.2 < ((setF T.so k (T.so k ++ [g]) q.1).length : Nat)
      rw [List.mem_append, List.mem_singleton, R.lb]
      by_cases e : q.1 = k
      · rw [e, setF_same, List.length_append]
        have e1 : ((T.so k).length + [g].length : Nat) = (T.so k).length + 1 := rfl
        rw [e1]
        constructor
        · rintro (⟨a, c1, c2⟩ | a)
          · exact ⟨a, c1, by omega⟩
          · rw [a]
            exact ⟨hin, by show (0 : Int) ≤ ((T.so k).length : Nat); omega, by show (((T.so k).length : Nat) : Int) < _; omega⟩
        · rintro ⟨a, c1, c2⟩
          by_cases e2 : q.2 = ((T.so k).length : Nat)
          · exact .inr (Prod.ext e e2)
          · exact .inl ⟨a, c1, by omega⟩
      · rw [setF_ne e]
        exact ⟨fun z => z.resolve_right fun z => e (by rw [z]), .inl⟩
    · show setAt S.Xb (k, ((T.so k).length : Nat)) (gV g) q = gV ((setF T.so k (T.so k ++ [g]) q.1).getD q.2.toNat none) ∧ setAt S.Yb (k, ((T.so k).length : Nat)) (.int ((T.so k).length : Nat)) q = V.int q.2
      have hq'' : q ∈ S.Lb ++ [((k, (((T.so k).length : Nat) : Int)) : Spot)] := hq'
      rcases List.mem_append.mp hq'' with h | h
      · have e : q ≠ ((k, (((T.so k).length : Nat) : Int)) : Spot) := fun z => hq (z ▸ h)
        obtain ⟨x1, x2⟩ := R.xb q h
        have x1' : S.Xb q = gV ((T.so q.1).getD q.2.toNat none) := x1
        rw [setAt_ne e, setAt_ne e, x1']
        refine ⟨congrArg gV ?_, x2⟩
        by_cases e3 : q.1 = k
        · have h2 := ((R.lb q).mp h).2
          rw [e3] at h2 ⊢
          rw [setF_same, List.getD_eq_getElem?_getD, List.getD_eq_getElem?_getD, List.getElem?_append_left (by omega)]
        · rw [setF_ne e3]
      · rw [List.mem_singleton.mp h, setAt_same, setAt_same, setF_same, Int.toNat_natCast, List.getD_eq_getElem?_getD, List.getElem?_append_right (Nat.le_refl _), Nat.sub_self]
        exact ⟨rfl, rfl⟩
theorem cut_runs (ne : ¬ F.a.nm = F.b.nm) (hk0 : 0 ≤ k ∧ k < F.size) {S : Sts} {n : Nat} (nb : S.Lb.Nodup) (hin : ∀ i : Nat, i < n → ((k, (i : Int)) : Spot) ∈ S.Lb) : ∀ m : Nat, m ≤ n →
    Runs F S ((List.range m).map (cutB F k)) ∧ ∃ L : List Spot, S.run F ((List.range m).map (cutB F k)) = ⟨S.La, L, S.Xa, S.Ya, S.Xb, S.Yb⟩ ∧ L.Nodup ∧ ∀ q, q ∈ L ↔ q ∈ S.Lb ∧ ¬ (q.1 = k ∧ 0 ≤ q.2 ∧ q.2 < (m : Int)) := by
  intro m
  induction m with
  | zero => exact fun _ => ⟨True.intro, S.Lb, rfl, nb, fun q => ⟨fun h => ⟨h, fun z => by omega⟩, fun h => h.1⟩⟩
  | succ m ih =>
    intro hm
    obtain ⟨r, L, e, nl, hl⟩ := ih (by omega)
    rw [rng_snoc, run_append, e]
    have hq : ((k, (m : Int)) : Spot) ∈ L := (hl _).mpr ⟨hin m (by omega), fun z => by
      have h : (m : Int) < (m : Int) := z.2.2
      omega⟩
    refine ⟨r.append ?_, L.filter fun q => decide (q ≠ (k, (m : Int))), ?_, nl.filter _, fun q => ?_⟩
    · rw [e]
      refine ⟨⟨.inr rfl, ⟨hk0.1, hk0.2, by show (0 : Int) ≤ (m : Int); omega, .inr rfl⟩, fun z => absurd rfl z, ?_⟩, True.intro⟩
      rw [if_neg (fun z : (cutB F k m).t.nm = F.a.nm => ne (show F.b.nm = F.a.nm from z).symm)]
      exact hq
    · show (Sts.mk S.La L S.Xa S.Ya S.Xb S.Yb).step F (cutB F k m) = _
      rw [step_b ne rfl]
      rfl
    · rw [List.mem_filter, hl, decide_eq_true_eq]
      constructor
      · rintro ⟨⟨a, c⟩, d⟩
        refine ⟨a, fun z => ?_⟩
        by_cases e2 : q.2 = (m : Int)
        · exact d (Prod.ext z.1 e2)
        · exact c ⟨z.1, z.2.1, by have := z.2.2; omega⟩
      · rintro ⟨a, c⟩
        refine ⟨⟨a, fun z => c ⟨z.1, z.2.1, by have := z.2.2; omega⟩⟩, fun z => c ?_⟩
        rw [z]
        exact ⟨rfl, by show (0 : Int) ≤ (m : Int); omega, by show (m : Int) < ((m + 1 : Nat) : Int); omega⟩
theorem mv_cut (ne : ¬ F.a.nm = F.b.nm) (h0 : 0 ≤ b) (h1 : b + 4 < F.size) (hk : b ≤ k ∧ k ≤ b + 4) (hin : k ∈ T.ks) : Mv F T (cutSts F T k) (T.cut k) := by
  intro S R
  have hq : ((k, 0) : Spot) ∈ S.La := (R.la _).mpr ⟨hin, rfl⟩
  have hst : S.step F ⟨.cut, F.a, k, 0, .non, .non⟩ = ⟨S.La.filter fun p => decide (p ≠ (k, 0)), S.Lb, S.Xa, S.Ya, S.Xb, S.Yb⟩ := step_a rfl
  obtain ⟨r, L, e, nl, hl⟩ := cut_runs (F := F) (k := k) ne ⟨by omega, by omega⟩ (S := ⟨S.La.filter fun p => decide (p ≠ (k, 0)), S.Lb, S.Xa, S.Ya, S.Xb, S.Yb⟩) (n := (T.so k).length) R.nb
    (fun i hi => (R.lb _).mpr ⟨hin, by show (0 : Int) ≤ (i : Int); omega, by show (i : Int) < ((T.so k).length : Nat); omega⟩) (T.so k).length (Nat.le_refl _)
  have em : ∀ j, j ∈ T.ks.filter (fun j => decide (j ≠ k)) ↔ j ∈ T.ks ∧ ¬ j = k := fun j => by rw [List.mem_filter, decide_eq_true_eq]
  refine ⟨⟨⟨.inl rfl, ⟨by show 0 ≤ k; omega, by show k < F.size; omega, by show (0 : Int) ≤ 0; omega, .inl rfl⟩, fun z => absurd rfl z, ?_⟩, ?_⟩, ?_⟩
  · rw [if_pos rfl]
    exact hq
  · rw [hst]
    exact r
  · show Rep F ((S.step F ⟨.cut, F.a, k, 0, .non, .non⟩).run F ((List.range (T.so k).length).map (cutB F k))) _
    rw [hst, e]
    refine ⟨R.na.filter _, nl, fun q => ?_, fun q => ?_, fun q hq' => R.xa q (List.mem_filter.mp hq').1, fun q hq' => R.xb q ((hl q).mp hq').1⟩
    · show q ∈ S.La.filter _ ↔ q.1 ∈ T.ks.filter _ ∧ q.2 = 0
      rw [List.mem_filter, em, R.la, decide_eq_true_eq]
      constructor
      · rintro ⟨⟨a, c⟩, d⟩
        exact ⟨⟨a, fun z => d (Prod.ext z c)⟩, c⟩
      · rintro ⟨⟨a, d⟩, c⟩
        exact ⟨⟨a, c⟩, fun z => d (by rw [z])⟩
    · show q ∈ L ↔ q.1 ∈ T.ks.filter _ ∧ 0 ≤ q.2 ∧ q.2 < ((T.so q.1).length : Nat)
      rw [hl, em]
      show (q ∈ S.Lb ∧ _) ↔ _
      rw [R.lb]
      constructor
      · rintro ⟨⟨a, c1, c2⟩, d⟩
        exact ⟨⟨a, fun z => d ⟨z, c1, by rw [z] at c2; exact c2⟩⟩, c1, c2⟩
      · rintro ⟨⟨a, d⟩, c1, c2⟩
        exact ⟨⟨a, c1, c2⟩, fun z => d z.1⟩
end
end K18
end L2
namespace L2
open PySem PySem.Spec PyProof.Rows
namespace K18
open _root_.K18 (spotK spotK_inj hashT spots_apart)

/-! ### bounds -/
structure TbOk (b : Int) (n : Nat) (T : Tb) : Prop where
  nd : T.ks.Nodup
  win : ∀ k ∈ T.ks, b ≤ k ∧ k ≤ b + 4
  so : ∀ k ∈ T.ks, 1 ≤ (T.so k).length ∧ (T.so k).length ≤ n
theorem TbOk.put {b : Int} {n m : Nat} {T : Tb} {k : Int} {g0 g1 g2 : Option Int} (h : TbOk b n T) (hk : b ≤ k ∧ k ≤ b + 4) (h1 : 1 ≤ m) (hnm : n ≤ m) : TbOk b m (T.put k g0 g1 g2) := by
  unfold Tb.put
  by_cases hin : k ∈ T.ks
  · rw [if_pos hin]
    exact ⟨h.nd, h.win, fun j hj => ⟨(h.so j hj).1, Nat.le_trans (h.so j hj).2 hnm⟩⟩
  · rw [if_neg hin]
    refine ⟨nd_snoc h.nd hin, fun j hj => ?_, fun j hj => ?_⟩
    · have hj' : j ∈ T.ks ++ [k] := hj
      rcases List.mem_append.mp hj' with z | z
      · exact h.win j z
      · rw [List.mem_singleton.mp z]
        exact hk
    · have hj' : j ∈ T.ks ++ [k] := hj
      show 1 ≤ (setF T.so k [g2] j).length ∧ (setF T.so k [g2] j).length ≤ m
      rcases List.mem_append.mp hj' with z | z
      · rw [setF_ne fun e : j = k => hin (e ▸ z)]
        exact ⟨(h.so j z).1, Nat.le_trans (h.so j z).2 hnm⟩
      · rw [List.mem_singleton.mp z, setF_same]
        exact ⟨Nat.le_refl _, h1⟩
theorem TbOk.cut {b : Int} {n : Nat} {T : Tb} {k : Int} (h : TbOk b n T) : TbOk b n (T.cut k) :=
  ⟨h.nd.filter _, fun j hj => h.win j (List.mem_filter.mp hj).1, fun j hj => h.so j (List.mem_filter.mp hj).1⟩
theorem TbOk.app {b : Int} {n : Nat} {T : Tb} {k : Int} {g : Option Int} (h : TbOk b n T) : TbOk b (n + 1) (T.app k g) := by
  refine ⟨h.nd, h.win, fun j hj => ?_⟩
  show 1 ≤ (setF T.so k (T.so k ++ [g]) j).length ∧ (setF T.so k (T.so k ++ [g]) j).length ≤ n + 1
  have hj' := h.so j hj
  by_cases e : j = k
  · rw [e, setF_same, List.length_append]
    rw [e] at hj'
    have : ([g] : List (Option Int)).length = 1 := rfl
    omega
  · rw [setF_ne e]
    omega
theorem TbOk.mono {b : Int} {n m : Nat} {T : Tb} (h : TbOk b n T) (hnm : n ≤ m) : TbOk b m T := ⟨h.nd, h.win, fun j hj => ⟨(h.so j hj).1, Nat.le_trans (h.so j hj).2 hnm⟩⟩
theorem few_in (b : Int) : ∀ (n : Nat) (ks : List Int), ks.Nodup → (∀ k ∈ ks, b ≤ k ∧ k < b + n) → ks.length ≤ n
  | 0, [], _, _ => Nat.le_refl _
  | 0, k :: _, _, h => by
    have := h k List.mem_cons_self
    omega
  | n + 1, ks, nd, h => by
    by_cases hc : b + n ∈ ks
    · have h1 := few_in b n (ks.erase (b + n)) (nd.erase _) fun k hk => by
        obtain ⟨h2, h3⟩ := (nd.mem_erase_iff).mp hk
        have h4 := h k h3
        omega
      have h2 := List.length_erase_of_mem hc
      omega
    · have h1 := few_in b n ks nd fun k hk => by
        have h4 := h k hk
        have h5 : k ≠ b + n := fun z => hc (z ▸ hk)
        omega
      omega
theorem TbOk.few {b : Int} {n : Nat} {T : Tb} (h : TbOk b n T) : T.ks.length ≤ 5 := few_in b 5 T.ks h.nd fun k hk => by
  have := h.win k hk
  omega
theorem spots_len {n : Int → Nat} {m : Nat} : ∀ {ks : List Int}, (∀ k ∈ ks, n k ≤ m) → (spots n ks).length ≤ ks.length * m
  | [], _ => by simp [spots]
  | k :: r, h => by
    have e : spots n (k :: r) = spotsOf k (n k) ++ spots n r := by
      unfold spots
      rw [List.flatMap_cons]
    have e2 : (spotsOf k (n k)).length = n k := by
      unfold spotsOf
      rw [List.length_map, List.length_range]
    have h1 := spots_len (n := n) (m := m) (ks := r) fun j hj => h j (List.mem_cons_of_mem _ hj)
    have h2 := h k List.mem_cons_self
    rw [e, List.length_append, e2, List.length_cons, Nat.succ_mul]
    omega
theorem TbOk.lenA {b : Int} {n : Nat} {T : Tb} (F : Frm) (h : TbOk b n T) : ((cA F T).L T.ks).length ≤ 5 := by
  have h1 : ((cA F T).L T.ks).length ≤ _ := spots_len (n := (cA F T).n) (m := 1) (ks := T.ks) fun _ _ => Nat.le_refl _
  have h2 := h.few
  omega
theorem TbOk.lenB {b : Int} {n : Nat} {T : Tb} (F : Frm) (h : TbOk b n T) (hn : n ≤ 30) : ((cB F T).L T.ks).length ≤ 150 := by
  have h1 : ((cB F T).L T.ks).length ≤ _ := spots_len (n := (cB F T).n) (m := n) (ks := T.ks) fun k hk => (h.so k hk).2
  have h2 := h.few
  have h3 : T.ks.length * n ≤ 5 * 30 := Nat.mul_le_mul h2 hn
  omega

/-! ### spots, once each, in order -/
theorem spotsOf_pair (k : Int) (n : Nat) : (spotsOf k n).Pairwise fun p q => p.1 = q.1 ∧ p.2 < q.2 := by
  unfold spotsOf
  refine List.pairwise_map.mpr ((List.pairwise_lt_range (n := n)).imp fun {a c} h => ⟨rfl, ?_⟩)
  show (a : Int) < (c : Int)
  omega
theorem spots_nodup {n : Int → Nat} {ks : List Int} (nd : ks.Nodup) : (spots n ks).Nodup := by
  unfold spots List.Nodup
  rw [List.pairwise_flatMap]
  refine ⟨fun k _ => (spotsOf_pair k (n k)).imp fun {p q} h z => ?_, nd.imp fun {j k} h p hp q hq z => ?_⟩
  · have := h.2
    rw [z] at this
    omega
  · rw [z] at hp
    exact h ((spotsOf_mem.mp hp).1.symm.trans (spotsOf_mem.mp hq).1)
theorem srtI_lt {ks : List Int} (nd : ks.Nodup) : (srtI ks).Pairwise fun a c => a < c := by
  have h1 := srtI_le ks
  have h2 : (srtI ks).Nodup := (srtI_perm ks).nodup_iff.mpr nd
  refine (h1.and h2).imp fun {a c} h => ?_
  have h3 : a ≤ c := of_decide_eq_true h.1
  have h4 := h.2
  omega
theorem srtS_spots {n : Int → Nat} {ks : List Int} (nd : ks.Nodup) : srtS (spots n ks) = spots n (srtI ks) := by
  refine (srtS_uniq ?_ ?_).symm
  · unfold spots
    exact (srtI_perm ks).flatMap_right _
  · unfold spots
    rw [List.pairwise_flatMap]
    refine ⟨fun k _ => (spotsOf_pair k (n k)).imp fun {p q} h => ?_, (srtI_lt nd).imp fun {j k} h p hp q hq => ?_⟩
    · rw [leS_iff]
      omega
    · rw [leS_iff]
      have e1 := (spotsOf_mem.mp hp).1
      have e2 := (spotsOf_mem.mp hq).1
      omega
theorem Rep.pa {F : Frm} {S : Sts} {T : Tb} (R : Rep F S T) (nd : T.ks.Nodup) : S.La.Perm ((cA F T).L T.ks) := by
  refine (List.perm_ext_iff_of_nodup R.na (spots_nodup nd)).mpr fun q => ?_
  rw [R.la, spots_mem]
  have e : ((((cA F T).n q.1 : Nat)) : Int) = 1 := rfl
  rw [e]
  constructor
  · rintro ⟨a, c⟩
    exact ⟨a, by omega, by omega⟩
  · rintro ⟨a, c, d⟩
    exact ⟨a, by omega⟩
theorem Rep.pb {F : Frm} {S : Sts} {T : Tb} (R : Rep F S T) (nd : T.ks.Nodup) : S.Lb.Perm ((cB F T).L T.ks) := by
  refine (List.perm_ext_iff_of_nodup R.nb (spots_nodup nd)).mpr fun q => ?_
  rw [R.lb, spots_mem]
  rfl
theorem Rep.ptr {F : Frm} {S : Sts} {T : Tb} (R : Rep F S T) : PtrS S :=
  ⟨fun q hq => ⟨_, (R.xa q hq).1⟩, fun q hq => ⟨_, (R.xa q hq).2⟩, fun q hq => ⟨_, (R.xb q hq).1⟩⟩
theorem plc_none {L : List Spot} {k : Int} (h : ∀ q ∈ L, ¬ q.1 = k) : plc L k = [] := by
  unfold plc
  rw [List.map_eq_nil_iff, List.filter_eq_nil_iff]
  intro q hq
  simpa using h q hq
theorem Rep.whole {F : Frm} {S : Sts} {T : Tb} {b : Int} {n : Nat} (R : Rep F S T) (ok : TbOk b n T) (k : Int) : Whole S.La S.Lb k := by
  by_cases hk : k ∈ T.ks
  · refine .inr ⟨fun z => ?_, (T.so k).length, (ok.so k hk).1, srt_plc (n := (cB F T).n) ok.nd hk (R.pb ok.nd)⟩
    have h := srt_plc (n := (cA F T).n) ok.nd hk (R.pa ok.nd)
    have e := congrArg List.length h
    rw [len_srt, z, rangeI_len] at e
    exact absurd e (show ¬ (0 = 1) by decide)
  · exact .inl ⟨plc_none fun q hq z => hk (z ▸ ((R.la q).mp hq).1), plc_none fun q hq z => hk (z ▸ ((R.lb q).mp hq).1)⟩
theorem Rep.hash {F : Frm} {S : Sts} {T : Tb} {b : Int} {n : Nat} (w : World) (R : Rep F S T) (ok : TbOk b n T) (hn : n ≤ 60) (h0 : 0 ≤ b) (h1 : b + 4 < 2 ^ 60) : HashOk w S.La ∧ HashOk w S.Lb := by
  have key : ∀ {L : List Spot}, L.Nodup → (∀ q ∈ L, (b ≤ q.1 ∧ q.1 ≤ b + 4) ∧ 0 ≤ q.2 ∧ q.2 < 64) → HashOk w L := fun {L} nd h => by
    unfold HashOk List.Nodup
    refine List.pairwise_map.mpr (List.Pairwise.imp_of_mem (fun {p q} hp hq hpq e => ?_) nd)
    obtain ⟨a1, a2, a3⟩ := h p hp
    obtain ⟨c1, c2, c3⟩ := h q hq
    exact spots_apart (a := p.1) (a' := q.1) (b := p.2) (b' := q.2) (by omega) (by omega) (by omega) (by omega) (by omega) (by omega) ⟨a2, a3⟩ ⟨c2, c3⟩ (fun z => hpq (Prod.ext z.1 z.2)) e
  refine ⟨key R.na fun q hq => ?_, key R.nb fun q hq => ?_⟩
  · obtain ⟨h2, h3⟩ := (R.la q).mp hq
    exact ⟨ok.win _ h2, by omega, by omega⟩
  · obtain ⟨h2, h3, h4⟩ := (R.lb q).mp hq
    have h5 := (ok.so _ h2).2
    exact ⟨ok.win _ h2, h3, by omega⟩

/-! ### the first row that points to nothing -/
def badK (ks : List Int) : V → Bool
  | .int i => !decide (i ∈ ks)
  | _ => false
def fst_ (ks : List Int) (qs : List Spot) (Z : Spot → V) : Option Spot := qs.find? fun q => badK ks (Z q)
def dueK (F : Frm) (T : Tb) : Option (Str × Spot) :=
  match fst_ T.ks ((srtI T.ks).map fun k => (k, 0)) (cA F T).X with
  | some q => some (F.a.nm, q)
  | none => match fst_ T.ks ((srtI T.ks).map fun k => (k, 0)) (cA F T).Y with
    | some q => some (F.a.nm, q)
    | none => (fst_ T.ks (spots (cB F T).n (srtI T.ks)) (cB F T).X).map fun q => (F.b.nm, q)
theorem find_congr {α : Type} {p p' : α → Bool} : ∀ {l : List α}, (∀ q ∈ l, p q = p' q) → l.find? p = l.find? p'
  | [], _ => rfl
  | x :: r, h => by
    rw [List.find?_cons, List.find?_cons, h x List.mem_cons_self, find_congr fun q hq => h q (List.mem_cons_of_mem _ hq)]
theorem bad_badK {L : List Spot} {ks : List Int} (h : ∀ q : Spot, q ∈ L ↔ q.1 ∈ ks ∧ q.2 = 0) (v : V) : bad L v = badK ks v := by
  cases v with
  | int i =>
    show (!decide ((i, 0) ∈ L)) = (!decide (i ∈ ks))
    have e : ((i, 0) : Spot) ∈ L ↔ i ∈ ks := by
      rw [h]
      exact ⟨fun z => z.1, fun z => ⟨z, rfl⟩⟩
    by_cases hi : i ∈ ks
    · rw [decide_eq_true hi, decide_eq_true (e.mpr hi)]
    · rw [decide_eq_false hi, decide_eq_false fun z => hi (e.mp z)]
  | _ => rfl
theorem heads_spots (ks : List Int) : spots (fun _ => 1) ks = ks.map fun k => (k, 0) := by
  unfold spots
  induction ks with
  | nil => rfl
  | cons k r ih =>
    rw [List.flatMap_cons, ih]
    rfl
theorem dueS_eq {F : Frm} {S : Sts} {T : Tb} (R : Rep F S T) (nd : T.ks.Nodup) : dueS F S = dueK F T := by
  have eA : srtS S.La = (srtI T.ks).map fun k => ((k, 0) : Spot) := by
    have h1 : srtS S.La = srtS ((cA F T).L T.ks) := srtS_uniq ((srtS_perm _).trans (R.pa nd)) (srtS_le _)
    rw [h1]
    have h2 : srtS (spots (fun _ => 1) T.ks) = spots (fun _ => 1) (srtI T.ks) := srtS_spots nd
    rw [heads_spots (srtI T.ks)] at h2
    exact h2
  have eB : srtS S.Lb = spots (cB F T).n (srtI T.ks) := by
    have h1 : srtS S.Lb = srtS ((cB F T).L T.ks) := srtS_uniq ((srtS_perm _).trans (R.pb nd)) (srtS_le _)
    rw [h1]
    exact srtS_spots nd
  have fA : ∀ (Z Z' : Spot → V), (∀ q ∈ S.La, Z q = Z' q) → (srtS S.La).find? (fun q => bad S.La (Z q)) = fst_ T.ks ((srtI T.ks).map fun k => (k, 0)) Z' := fun Z Z' h => by
    unfold fst_
    rw [← eA]
    refine find_congr fun q hq => ?_
    rw [h q ((srtS_perm _).mem_iff.mp hq), bad_badK R.la]
  have fB : (srtS S.Lb).find? (fun q => bad S.La (S.Xb q)) = fst_ T.ks (spots (cB F T).n (srtI T.ks)) (cB F T).X := by
    unfold fst_
    rw [← eB]
    refine find_congr fun q hq => ?_
    rw [(R.xb q ((srtS_perm _).mem_iff.mp hq)).1, bad_badK R.la]
  unfold dueS dueP dueZ dueK
  rw [List.findSome?_cons, List.findSome?_cons, List.findSome?_nil, fA S.Xa (cA F T).X fun q hq => (R.xa q hq).1, fA S.Ya (cA F T).Y fun q hq => (R.xa q hq).2, List.findSome?_cons, List.findSome?_nil, fB]
  cases fst_ T.ks ((srtI T.ks).map fun k => (k, 0)) (cA F T).X with
  | some q => rfl
  | none =>
    cases fst_ T.ks ((srtI T.ks).map fun k => (k, 0)) (cA F T).Y with
    | some q => rfl
    | none =>
      cases fst_ T.ks (spots (cB F T).n (srtI T.ks)) (cB F T).X with
      | some q => rfl
      | none => rfl
/-- T's own rows -/
def ownS (F : Frm) (T : Tb) : Sts := ⟨(cA F T).L T.ks, (cB F T).L T.ks, (cA F T).X, (cA F T).Y, (cB F T).X, (cB F T).Y⟩
theorem own_rep {F : Frm} {T : Tb} (nd : T.ks.Nodup) : Rep F (ownS F T) T := by
  refine ⟨spots_nodup nd, spots_nodup nd, fun q => ?_, fun q => spots_mem, fun _ _ => ⟨rfl, rfl⟩, fun _ _ => ⟨rfl, rfl⟩⟩
  show q ∈ spots (fun _ => 1) T.ks ↔ _
  rw [heads_spots, List.mem_map]
  constructor
  · rintro ⟨k, hk, rfl⟩
    exact ⟨hk, rfl⟩
  · rintro ⟨h1, h2⟩
    exact ⟨q.1, h1, Prod.ext rfl h2.symm⟩
theorem dueT_eq {F : Frm} {T : Tb} (nd : T.ks.Nodup) : dueT F T = dueK F T := dueS_eq (own_rep nd) nd

/-! ### the keys that steps name -/
theorem addK_mem {ks : List Int} {k j : Int} : j ∈ addK ks k ↔ j ∈ ks ∨ j = k := by
  unfold addK
  split
  · rename_i h
    exact ⟨.inl, fun z => z.elim id fun z => z ▸ h⟩
  · rw [List.mem_append, List.mem_singleton]
theorem addK_nd {ks : List Int} {k : Int} (nd : ks.Nodup) : (addK ks k).Nodup := by
  unfold addK
  split
  · exact nd
  · rename_i h
    exact nd_snoc nd h
theorem named_all (sts : List Stp) : ∀ acc : List Int, acc.Nodup → (sts.foldl (fun acc st => addK acc st.k) acc).Nodup ∧ (∀ j, j ∈ sts.foldl (fun acc st => addK acc st.k) acc ↔ j ∈ acc ∨ j ∈ sts.map (·.k)) ∧
    (sts.foldl (fun acc st => addK acc st.k) acc).length ≤ acc.length + sts.length := by
  induction sts with
  | nil => exact fun acc nd => ⟨nd, fun j => by simp, Nat.le_refl _⟩
  | cons st r ih =>
    intro acc nd
    obtain ⟨h1, h2, h3⟩ := ih (addK acc st.k) (addK_nd nd)
    refine ⟨h1, fun j => ?_, ?_⟩
    · rw [List.foldl_cons, h2, addK_mem, List.map_cons, List.mem_cons, or_assoc]
    · have h4 : (addK acc st.k).length ≤ acc.length + 1 := by
        unfold addK
        split <;> simp
      rw [List.foldl_cons, List.length_cons]
      omega
theorem named_nd (sts : List Stp) : (namedOf sts).Nodup := (named_all sts [] List.nodup_nil).1
theorem named_mem (sts : List Stp) (j : Int) : j ∈ namedOf sts ↔ j ∈ sts.map (·.k) := by
  have h := (named_all sts [] List.nodup_nil).2.1 j
  unfold namedOf
  rw [h]
  simp
theorem named_len (sts : List Stp) : (namedOf sts).length ≤ sts.length := by
  have h := (named_all sts [] List.nodup_nil).2.2
  unfold namedOf
  simpa using h
end K18
end L2
namespace L2
open PySem PySem.Spec PyProof.Rows
namespace K18
variable {P : Program} {w : World} {K : PySem.W.Frag} {mg : Str → Option Value} {base : Heap}

/-! ### the law's own data -/
structure MapsAt (H : Hp) (hd sd : Addr) (T : Tb) : Prop where
  ne : hd ≠ sd
  nd : T.ks.Nodup
  h : ∃ kvs : List (Key × V), H hd = some (.dK kvs) ∧ kvs.map (·.1) = T.ks.map Sum.inl ∧ ∀ k ∈ T.ks, ∃ l g2, valV kvs (Sum.inl k) = some (.ref l) ∧ H l = some (.lst [gV (T.h0 k), gV (T.h1 k), g2])
  s : ∃ kvs : List (Key × V), H sd = some (.dK kvs) ∧ kvs.map (·.1) = T.ks.map Sum.inl ∧ ∀ k ∈ T.ks, ∃ l, valV kvs (Sum.inl k) = some (.ref l) ∧ H l = some (.lst ((T.so k).map gV))
theorem MapsAt.same {H H' : Hp} {hd sd : Addr} {T : Tb} (m : MapsAt H hd sd T) (s : Same H H') : MapsAt H' hd sd T := by
  obtain ⟨kvh, a1, a2, a3⟩ := m.h
  obtain ⟨kvs, c1, c2, c3⟩ := m.s
  refine ⟨m.ne, m.nd, ⟨kvh, s _ _ a1, a2, fun k hk => ?_⟩, ⟨kvs, s _ _ c1, c2, fun k hk => ?_⟩⟩
  · obtain ⟨l, g2, e1, e2⟩ := a3 k hk
    exact ⟨l, g2, e1, s _ _ e2⟩
  · obtain ⟨l, e1, e2⟩ := c3 k hk
    exact ⟨l, e1, s _ _ e2⟩
def NamesAt (H : Hp) (nl : Addr) (F : Frm) : Prop := H nl = some (.lst [.str F.a.nm, .str F.b.nm])
def ColsAt (H : Hp) (cl : Addr) (F : Frm) : Prop := H cl = some (.lst [.str F.a.ca, .str F.a.cb, .str F.b.ca, .str F.b.cb])
def KeysAt (H : Hp) (kl : Addr) (b : Int) : Prop := H kl = some (.lst [.int (b + 3), .int b, .int (b + 4), .int (b + 1), .int (b + 2)])
def GoalsAt (H : Hp) (gl : Addr) (g0 g1 g2 : Option Int) : Prop := H gl = some (.lst [gV g0, gV g1, gV g2])
structure NeF (F : Frm) : Prop where
  a : ¬ F.a.ca = F.a.cb
  b : ¬ F.b.ca = F.b.cb
  n : ¬ F.a.nm = F.b.nm
  oa : PyData.strOk F.a.nm = true
  ob : PyData.strOk F.b.nm = true
def StepsAt (H : Hp) (l : Addr) (sts : List Stp) : Prop := ∃ as : List Addr, H l = some (.lst (as.map V.ref)) ∧ as.length = sts.length ∧ ∀ (i : Nat) (a : Addr) (st : Stp), as[i]? = some a → sts[i]? = some st → StpAt H a st
theorem StpAt.keepR {H H' : Hp} {a : Addr} {st : Stp} {l : List Addr} (h : StpAt H a st) (k : Keep l H H') (h1 : ∀ b, b ∈ l → ∀ xs, H b ≠ some (.tup xs)) (h2 : ∀ b, b ∈ l → ∀ t x y, H b ≠ some (.dK (rowOf t x y))) : StpAt H' a st := by
  obtain ⟨more, e1, e2⟩ := h
  refine ⟨more, k _ _ e1 fun z => h1 _ z _ e1, fun n => ?_⟩
  obtain ⟨r, e3, e4⟩ := e2 n
  exact ⟨r, e3, k _ _ e4 fun z => h2 _ z _ _ _ e4⟩
theorem intk_row {kvs : List (Key × V)} {ks : List Int} (h : kvs.map (·.1) = ks.map Sum.inl) {t : Tab} {x y : V} : kvs ≠ rowOf t x y := fun z => by
  rw [z] at h
  cases ks with
  | nil => simp [rowOf] at h
  | cons k r => simp [rowOf] at h
theorem MapsAt.no {H : Hp} {hd sd : Addr} {T : Tb} (m : MapsAt H hd sd T) : ∀ b, b ∈ [hd, sd] → (∃ kvs, H b = some (.dK kvs)) ∧ ∀ t x y, H b ≠ some (.dK (rowOf t x y)) := fun b hb => by
  obtain ⟨kvh, a1, a2, a3⟩ := m.h
  obtain ⟨kvs, c1, c2, c3⟩ := m.s
  rcases List.mem_cons.mp hb with rfl | hb
  · refine ⟨⟨_, a1⟩, fun t x y e => ?_⟩
    rw [a1] at e
    exact intk_row a2 (HO.dK.inj (Option.some.inj e))
  · rw [List.mem_singleton.mp hb]
    refine ⟨⟨_, c1⟩, fun t x y e => ?_⟩
    rw [c1] at e
    exact intk_row c2 (HO.dK.inj (Option.some.inj e))
theorem StepsAt.keep {H H' : Hp} {l hd sd : Addr} {T : Tb} {sts : List Stp} (h : StepsAt H l sts) (m : MapsAt H hd sd T) (k : Keep [hd, sd] H H') : StepsAt H' l sts := by
  obtain ⟨as, e1, e2, e3⟩ := h
  have no : ∀ b, b ∈ [hd, sd] → ∀ o, (∀ kvs, o ≠ .dK kvs) → H b ≠ some o := fun b hb o n e => by
    obtain ⟨⟨kvs, e4⟩, _⟩ := m.no b hb
    rw [e4] at e
    exact n kvs (Option.some.inj e).symm
  refine ⟨as, k _ _ e1 fun z => no _ z (.lst (as.map V.ref)) (fun _ z => nomatch z) e1, e2, fun i a st h1 h2 => (e3 i a st h1 h2).keepR k (fun b hb xs => no b hb (.tup xs) (fun _ z => nomatch z)) fun b hb => (m.no b hb).2⟩
theorem StepsAt.same {H H' : Hp} {l : Addr} {sts : List Stp} (h : StepsAt H l sts) (s : Same H H') : StepsAt H' l sts := by
  obtain ⟨as, e1, e2, e3⟩ := h
  exact ⟨as, s _ _ e1, e2, fun i a st h1 h2 => (e3 i a st h1 h2).keep (l := []) (Keep.of_same s) (fun _ z => nomatch z) (fun _ z => nomatch z)⟩
/-- a lookup by an int key, among keys that are all ints -/
theorem intk_has {kvs : List (Key × V)} {ks : List Int} (h : kvs.map (·.1) = ks.map Sum.inl) (k : Int) : (valV kvs (Sum.inl k)).isSome = decide (k ∈ ks) := by
  by_cases e : k ∈ ks
  · obtain ⟨v, hv⟩ := valV_some_of_mem (kvs := kvs) (k := Sum.inl k) (by rw [h]; exact List.mem_map.mpr ⟨k, e, rfl⟩)
    rw [hv, decide_eq_true e]
    rfl
  · rw [valV_none_of (by rw [h]; simpa using e), decide_eq_false e]
    rfl
theorem intk_len {kvs : List (Key × V)} {ks : List Int} (h : kvs.map (·.1) = ks.map Sum.inl) : kvs.length = ks.length := by
  have e := congrArg List.length h
  rw [List.length_map, List.length_map] at e
  exact e
theorem intk_put {kvs : List (Key × V)} {ks : List Int} (h : kvs.map (·.1) = ks.map Sum.inl) (k : Int) (v : V) : (putK kvs (Sum.inl k) v).map (·.1) = (if k ∈ ks then ks else ks ++ [k]).map Sum.inl := by
  have e := intk_has h k
  by_cases hk : k ∈ ks
  · rw [if_pos hk, keys_put_old v (by rw [e]; exact decide_eq_true hk)]
    exact h
  · rw [if_neg hk, keys_put_new v, h, List.map_append]
    · rfl
    · rw [decide_eq_false hk] at e
      cases e2 : valV kvs (Sum.inl k) with
      | none => rfl
      | some v => rw [e2] at e; cases e
/-- what a put makes of the law's dicts -/
theorem MapsAt.put {H H' : Hp} {hd sd gl : Addr} {T : Tb} {k : Int} {g0 g1 g2 : Option Int} {kvh kvs : List (Key × V)} (m : MapsAt H hd sd T) (eh : H hd = some (.dK kvh)) (es : H sd = some (.dK kvs)) (kp : Keep [hd, sd] H H')
    (h1 : H' hd = some (.dK (putK kvh (Sum.inl k) (.ref gl)))) (h2 : GoalsAt H' gl g0 g1 g2) (h3 : (k ∈ T.ks ∧ H' sd = some (.dK kvs)) ∨ (¬ k ∈ T.ks ∧ ∃ nl, H' sd = some (.dK (putK kvs (Sum.inl k) (.ref nl))) ∧ H' nl = some (.lst [gV g2]))) :
    MapsAt H' hd sd (T.put k g0 g1 g2) := by
  obtain ⟨kvh0, a1, a2, a3⟩ := m.h
  obtain ⟨kvs0, c1, c2, c3⟩ := m.s
  rw [eh] at a1
  cases a1
  rw [es] at c1
  cases c1
  have kl : ∀ {b : Addr} {xs : List V}, H b = some (.lst xs) → H' b = some (.lst xs) := fun {b xs} e => kp _ _ e fun z => by
    rcases List.mem_cons.mp z with rfl | z
    · rw [eh] at e
      cases e
    · rw [List.mem_singleton.mp z, es] at e
      cases e
  have inj : ∀ {j : Int}, ¬ j = k → ¬ (Sum.inl j : Key) = Sum.inl k := fun n z => n (Sum.inl.inj z)
  unfold Tb.put
  have hv : ∀ j, ¬ j = k → j ∈ T.ks → ∃ l g2', valV (putK kvh (Sum.inl k) (.ref gl)) (Sum.inl j) = some (.ref l) ∧ H' l = some (.lst [gV (setF T.h0 k g0 j), gV (setF T.h1 k g1 j), g2']) := fun j n hj => by
    obtain ⟨l, g2', e1, e2⟩ := a3 j hj
    rw [setF_ne n, setF_ne n, valV_put, if_neg (inj n)]
    exact ⟨l, g2', e1, kl e2⟩
  have hv2 : ∃ l g2', valV (putK kvh (Sum.inl k) (.ref gl)) (Sum.inl k) = some (.ref l) ∧ H' l = some (.lst [gV (setF T.h0 k g0 k), gV (setF T.h1 k g1 k), g2']) := by
    rw [setF_same, setF_same, valV_put, if_pos rfl]
    exact ⟨gl, _, rfl, h2⟩
  rcases h3 with ⟨hin, h4⟩ | ⟨hin, nl, h4, h5⟩
  · rw [if_pos hin]
    refine ⟨m.ne, m.nd, ⟨_, h1, by rw [intk_put a2, if_pos hin], fun j hj => ?_⟩, ⟨kvs, h4, c2, fun j hj => ?_⟩⟩
    · by_cases n : j = k
      · rw [n]
        exact hv2
      · exact hv j n hj
    · obtain ⟨l, e1, e2⟩ := c3 j hj
      exact ⟨l, e1, kl e2⟩
  · rw [if_neg hin]
    refine ⟨m.ne, nd_snoc m.nd hin, ⟨_, h1, by rw [intk_put a2, if_neg hin], fun j hj => ?_⟩, ⟨_, h4, by rw [intk_put c2, if_neg hin], fun j hj => ?_⟩⟩
    · by_cases n : j = k
      · rw [n]
        exact hv2
      · have hj' : j ∈ T.ks ++ [k] := hj
        exact hv j n ((List.mem_append.mp hj').resolve_right fun z => n (List.mem_singleton.mp z))
    · show ∃ l, valV (putK kvs (Sum.inl k) (.ref nl)) (Sum.inl j) = some (.ref l) ∧ H' l = some (.lst ((setF T.so k [g2] j).map gV))
      by_cases n : j = k
      · rw [n, setF_same, valV_put, if_pos rfl]
        exact ⟨nl, rfl, h5⟩
      · have hj' : j ∈ T.ks ++ [k] := hj
        obtain ⟨l, e1, e2⟩ := c3 j ((List.mem_append.mp hj').resolve_right fun z => n (List.mem_singleton.mp z))
        rw [setF_ne n, valV_put, if_neg (inj n)]
        exact ⟨l, e1, kl e2⟩
theorem keys_cut {kvs : List (Key × V)} {ks : List Int} (h : kvs.map (·.1) = ks.map Sum.inl) (k : Int) : (dropK kvs (Sum.inl k)).map (·.1) = (ks.filter fun j => decide (j ≠ k)).map Sum.inl := by
  rw [keys_drop, h, List.filter_map]
  refine congrArg (List.map Sum.inl) (List.filter_congr fun j _ => ?_)
  show decide ((Sum.inl j : Key) ≠ Sum.inl k) = decide (j ≠ k)
  by_cases e : j = k
  · rw [e]
    simp
  · simp [e]
theorem MapsAt.cut {H H' : Hp} {hd sd : Addr} {T : Tb} {k : Int} {kvh kvs : List (Key × V)} (m : MapsAt H hd sd T) (eh : H hd = some (.dK kvh)) (es : H sd = some (.dK kvs)) (kp : Keep [hd, sd] H H')
    (h1 : H' hd = some (.dK (dropK kvh (Sum.inl k)))) (h2 : H' sd = some (.dK (dropK kvs (Sum.inl k)))) : MapsAt H' hd sd (T.cut k) := by
  obtain ⟨kvh0, a1, a2, a3⟩ := m.h
  obtain ⟨kvs0, c1, c2, c3⟩ := m.s
  rw [eh] at a1
  cases a1
  rw [es] at c1
  cases c1
  have kl : ∀ {b : Addr} {xs : List V}, H b = some (.lst xs) → H' b = some (.lst xs) := fun {b xs} e => kp _ _ e fun z => by
    rcases List.mem_cons.mp z with rfl | z
    · rw [eh] at e
      cases e
    · rw [List.mem_singleton.mp z, es] at e
      cases e
  have nf : ∀ {j : Int}, j ∈ T.ks.filter (fun j => decide (j ≠ k)) → j ∈ T.ks ∧ ¬ (Sum.inl j : Key) = Sum.inl k := fun h => ⟨(List.mem_filter.mp h).1, fun z => (of_decide_eq_true (List.mem_filter.mp h).2 : _ ≠ k) (Sum.inl.inj z)⟩
  refine ⟨m.ne, m.nd.filter _, ⟨_, h1, keys_cut a2 k, fun j hj => ?_⟩, ⟨_, h2, keys_cut c2 k, fun j hj => ?_⟩⟩
  · obtain ⟨h3, h4⟩ := nf hj
    obtain ⟨l, g2, e1, e2⟩ := a3 j h3
    exact ⟨l, g2, by rw [valV_drop, if_neg h4]; exact e1, kl e2⟩
  · obtain ⟨h3, h4⟩ := nf hj
    obtain ⟨l, e1, e2⟩ := c3 j h3
    exact ⟨l, by rw [valV_drop, if_neg h4]; exact e1, kl e2⟩
theorem MapsAt.app {H H' : Hp} {hd sd nl : Addr} {T : Tb} {k : Int} {g : Option Int} {kvs : List (Key × V)} (m : MapsAt H hd sd T) (hin : k ∈ T.ks) (es : H sd = some (.dK kvs)) (kp : Keep [sd] H H')
    (h2 : H' sd = some (.dK (putK kvs (Sum.inl k) (.ref nl)))) (h3 : H' nl = some (.lst ((T.so k ++ [g]).map gV))) : MapsAt H' hd sd (T.app k g) := by
  obtain ⟨kvh, a1, a2, a3⟩ := m.h
  obtain ⟨kvs0, c1, c2, c3⟩ := m.s
  rw [es] at c1
  cases c1
  have kl : ∀ {b : Addr} {xs : List V}, H b = some (.lst xs) → H' b = some (.lst xs) := fun {b xs} e => kp _ _ e fun z => by
    rw [List.mem_singleton.mp z, es] at e
    cases e
  refine ⟨m.ne, m.nd, ⟨kvh, kp _ _ a1 (by simpa using m.ne), a2, fun j hj => ?_⟩, ⟨_, h2, by rw [intk_put c2, if_pos hin]; rfl, fun j hj => ?_⟩⟩
  · obtain ⟨l, g2, e1, e2⟩ := a3 j hj
    exact ⟨l, g2, e1, kl e2⟩
  · show ∃ l, valV (putK kvs (Sum.inl k) (.ref nl)) (Sum.inl j) = some (.ref l) ∧ H' l = some (.lst ((setF T.so k (T.so k ++ [g]) j).map gV))
    by_cases n : j = k
    · rw [n, setF_same, valV_put, if_pos rfl]
      exact ⟨nl, rfl, h3⟩
    · obtain ⟨l, e1, e2⟩ := c3 j hj
      rw [setF_ne n, valV_put, if_neg fun z => n (Sum.inl.inj z)]
      exact ⟨l, e1, kl e2⟩

/-! ### _law_some_row -/
def spSomeRow (K : PySem.W.Frag) : Sp := fun vs H Q _ => ∃ (cl : Addr) (F : Frm) (x y : V), vs = [.ref cl, x, y] ∧ ColsAt H cl F ∧ NeF F ∧ ∀ p, H p = none → Q (.ref p) (upd H p (.dK (rowOf F.b x y)))
theorem sc_someRow : FnScope ["_law_columns", "_law_goal", "_law_place"] ["_law_columns", "_law_goal", "_law_place"] (defScope (top 40)) := ⟨rfl, rfl, rfl, by decide +kernel, rfl, by decide +kernel, by decide +kernel⟩
theorem cl_someRow (D : DefAt K mg "_law_some_row" (top 40)) : Cl P w K mg base 1 "_law_some_row" (spSomeRow K) := by
  refine cl_mk D sc_someRow (fun _ _ _ _ _ _ us hl => match us, hl with | [_, _, _], _ => rfl) (fun vs H Q E h => ?_) (fun f cdv A outer s H vs Q E hr h => ?_)
  · obtain ⟨cl, F, x, y, rfl, _⟩ := h
    rfl
  · obtain ⟨cl, F, x, y, rfl, hC, ne, q⟩ := h
    refine ⟨_, pss_one (ps_ret (pe_disp (pps_cons (pe_ix ix_list (pv 0) pe_int (fun _ _ => rfl)) (pv 1) (pps_cons (pe_ix ix_list (pv 0) pe_int (fun _ _ => rfl)) (pv 2) pps_nil)) rfl rfl (fun z => nomatch z) (by decide))), ?_⟩
    intro p hp
    have hC2 := SqL.of (K := K) ((same_upd (o := .dK []) hp) _ _ hC)
    refine ⟨_, rfl, cl, _, _, _, rfl, rfl, hC2, atI_nat (j := 2) rfl, _, rfl, _, rfl, cl, _, _, _, rfl, rfl, hC2, atI_nat (j := 3) rfl, _, rfl, upd_same, rowOf F.b x y, rfl, by show 2 ≤ 15; decide, ?_⟩
    rw [upd_upd]
    have e : mergeK [] (rowOf F.b x y) = rowOf F.b x y := merge_two ne.b
    rw [e]
    exact q p hp

/-! ### _law_put -/
def spPut (K : PySem.W.Frag) : Sp := fun vs H Q _ => ∃ (nl cl hd sd gl : Addr) (k : Int) (F : Frm) (T : Tb) (g0 g1 g2 : Option Int), vs = [.ref nl, .ref cl, .ref hd, .ref sd, .int k, .ref gl] ∧ NamesAt H nl F ∧ ColsAt H cl F ∧ NeF F ∧ MapsAt H hd sd T ∧ T.ks.length ≤ 1000 ∧
  GoalsAt H gl g0 g1 g2 ∧ ∀ l H', Keep [hd, sd] H H' → MapsAt H' hd sd (T.put k g0 g1 g2) → StepsAt H' l (putSts F T k g0 g1 g2) → Q (.ref l) H'
theorem sc_put : FnScope ["_law_names_here", "_law_columns", "_law_heads", "_law_some", "_law_key", "_law_goals_here", "_law_row"] ["_law_names_here", "_law_columns", "_law_heads", "_law_some", "_law_key", "_law_goals_here"] (defScope (top 41)) := ⟨rfl, rfl, rfl, by decide +kernel, rfl, by decide +kernel, by decide +kernel⟩
theorem cl_put (D : DefAt K mg "_law_put" (top 41)) (C1 : Cl P w K mg base 1 "_law_some_row" (spSomeRow K)) : Cl P w K mg base 2 "_law_put" (spPut K) := by
  refine cl_mk D sc_put (fun _ _ _ _ _ _ us hl => match us, hl with | [_, _, _, _, _, _], _ => rfl) (fun vs H Q E h => ?_) (fun f cdv A outer s H vs Q E hr h => ?_)
  · obtain ⟨nl, cl, hd, sd, gl, k, F, T, g0, g1, g2, rfl, _⟩ := h
    rfl
  · obtain ⟨nl, cl, hd, sd, gl, k, F, T, g0, g1, g2, rfl, hN, hC, ne, M, hT, hG, q⟩ := h
    have nd := sc_put.nd
    have hu := hu_of hr
    refine ⟨_, pss_cons (ps_set (i := 6) nd rfl (Or.inl rfl) (pe_disp (pps_cons (pe_ix ix_list (pv 1) pe_int (fun _ _ => rfl)) (pe_ix ix_list (pv 5) pe_int (fun _ _ => rfl)) (pps_cons (pe_ix ix_list (pv 1) pe_int (fun _ _ => rfl)) (pe_ix ix_list (pv 5) pe_int (fun _ _ => rfl)) pps_nil)) rfl rfl (fun z => nomatch z) (by decide)))
      (pss_cons (ps_if (pt_cmp (pc_din hu (pv 4) (pv 2)))
        (pss_cons (ps_dput hu (pv 2) (pv 4) (pv 5) rfl)
        (pss_one (ps_ret (pe_lst (pa_cons (pe_tup (pa_cons pe_str (pa_cons (pe_ix ix_list (pv 0) pe_int (fun _ _ => rfl)) (pa_cons (pv 4) (pa_cons pe_int (pa_cons (pv 6) pa_nil)))))) pa_nil))))) pss_nil)
      (pss_cons (ps_dput hu (pv 2) (pv 4) (pv 5) rfl)
      (pss_cons (ps_dput hu (pv 3) (pv 4) (pe_lst (pa_cons (pe_ix ix_list (pv 5) pe_int (fun _ _ => rfl)) pa_nil)) rfl)
      (pss_one (ps_ret (pe_lst (pa_cons (pe_tup (pa_cons pe_str (pa_cons (pe_ix ix_list (pv 0) pe_int (fun _ _ => rfl)) (pa_cons (pv 4) (pa_cons pe_int (pa_cons (pv 6) pa_nil))))))
        (pa_cons (pe_tup (pa_cons pe_str (pa_cons (pe_ix ix_list (pv 0) pe_int (fun _ _ => rfl)) (pa_cons (pv 4) (pa_cons pe_int (pa_cons (pe_cl C1 hr (by decide) (by rfl) (pa_cons (pv 1) (pa_cons (pe_ix ix_list (pv 5) pe_int (fun _ _ => rfl)) (pa_cons pe_int pa_nil)))) pa_nil)))))) pa_nil)))))))), ?_⟩
    intro r hr0
    have u0 := same_upd (o := .dK []) hr0
    have hC1 := SqL.of (K := K) (u0 _ _ hC)
    have hG1 := SqL.of (K := K) (u0 _ _ hG)
    refine ⟨_, rfl, cl, _, _, _, rfl, rfl, hC1, atI_nat (j := 0) rfl, _, rfl, gl, _, _, _, rfl, rfl, hG1, atI_nat (j := 0) rfl, _, rfl, cl, _, _, _, rfl, rfl, hC1, atI_nat (j := 1) rfl, _, rfl, gl, _, _, _, rfl, rfl, hG1, atI_nat (j := 1) rfl, upd_same, rowOf F.a (gV g0) (gV g1), rfl, by show 2 ≤ 15; decide, ?_⟩
    rw [upd_upd, show mergeK [] (rowOf F.a (gV g0) (gV g1)) = rowOf F.a (gV g0) (gV g1) from merge_two ne.a]
    have s1 : Same H (upd H r (.dK (rowOf F.a (gV g0) (gV g1)))) := same_upd hr0
    have hr1 : (upd H r (.dK (rowOf F.a (gV g0) (gV g1)))) r = some (.dK (rowOf F.a (gV g0) (gV g1))) := upd_same
    generalize upd H r (.dK (rowOf F.a (gV g0) (gV g1))) = H1 at s1 hr1
    have M1 := M.same s1
    obtain ⟨kvh, a1, a2, a3⟩ := id M1.h
    obtain ⟨kvs, c1, c2, c3⟩ := id M1.s
    have lh : kvh.length < sizeLine := Nat.lt_of_le_of_lt (by rw [intk_len a2]; exact hT) (by decide)
    have ls : kvs.length < sizeLine := Nat.lt_of_le_of_lt (by rw [intk_len c2]; exact hT) (by decide)
    have rne : ∀ b, b ∈ [hd, sd] → r ≠ b := fun b hb z => (M1.no b hb).2 _ _ _ (z ▸ hr1)
    refine ⟨_, rfl, _, rfl, hd, _, rfl, DGet.k (k := Sum.inl k) a1, _, rfl, ?_⟩
    -- the list that is kept under the key
    have g1' : H1 gl = some (.lst [gV g0, gV g1, gV g2]) := s1 _ _ hG
    have glne : ∀ b, b ∈ [hd, sd] → gl ≠ b := fun b hb z => by
      obtain ⟨⟨kk, e⟩, _⟩ := M1.no b hb
      rw [z, e] at g1'
      cases g1'
    have hmem : ∀ {b : Addr}, b ≠ hd → b ≠ sd → ¬ b ∈ [hd, sd] := fun h1 h2 z => by
      rcases List.mem_cons.mp z with e | e
      · exact h1 e
      · exact h2 (List.mem_singleton.mp e)
    by_cases hin : k ∈ T.ks
    · refine ifTe (by rw [intk_has a2]; exact decide_eq_true hin) ?_
      refine ⟨_, rfl, _, rfl, _, rfl, hd, _, rfl, DPut.k (k := Sum.inl k) a1 lh, ?_⟩
      have k2 : Keep [hd] H1 (upd H1 hd (.dK (putK kvh (Sum.inl k) (.ref gl)))) := keep_upd
      have e2 : (upd H1 hd (.dK (putK kvh (Sum.inl k) (.ref gl)))) hd = some (.dK (putK kvh (Sum.inl k) (.ref gl))) := upd_same
      generalize upd H1 hd (.dK (putK kvh (Sum.inl k) (.ref gl))) = H2 at k2 e2
      have k2' : Keep [hd, sd] H1 H2 := k2.mono fun b hb => by rw [List.mem_singleton.mp hb]; exact List.mem_cons_self
      have hN2 : H2 nl = some (.lst [.str F.a.nm, .str F.b.nm]) := k2 _ _ (s1 _ _ hN) fun z => by
        have e := s1 _ _ hN
        rw [List.mem_singleton.mp z, a1] at e
        cases e
      refine ⟨_, rfl, nl, _, _, _, rfl, rfl, SqL.of hN2, atI_nat (j := 0) rfl, _, rfl, _, rfl, (by show 5 ≤ sizeLine; decide), fun a ha => ⟨(by show 1 ≤ sizeLine; decide), fun l hl => ?_⟩⟩
      have s3 := (same_upd (o := .tup [.str "set", .str F.a.nm, .int k, .int 0, .ref r]) ha).trans (same_upd (o := .lst [.ref a]) hl)
      have ea : (upd (upd H2 a (.tup [.str "set", .str F.a.nm, .int k, .int 0, .ref r])) l (.lst [.ref a])) a = some (.tup [.str "set", .str F.a.nm, .int k, .int 0, .ref r]) := same_upd hl _ _ upd_same
      have hl3 : (upd (upd H2 a (.tup [.str "set", .str F.a.nm, .int k, .int 0, .ref r])) l (.lst [.ref a])) l = some (.lst [.ref a]) := upd_same
      refine q l _ ((Keep.of_same s1).trans (k2'.trans (Keep.of_same s3))) (MapsAt.put M1 a1 c1 (k2'.trans (Keep.of_same s3)) (s3 _ _ e2) (s3 _ _ (k2 _ _ g1' (by simpa using glne hd List.mem_cons_self))) (.inl ⟨hin, s3 _ _ (k2 _ _ c1 (by simpa using M1.ne.symm))⟩)) ?_
      unfold putSts
      rw [if_pos hin]
      refine ⟨[a], hl3, rfl, fun i a' st h1 h2 => ?_⟩
      match i, h1, h2 with
      | 0, h1, h2 =>
        cases Option.some.inj h1
        cases Option.some.inj h2
        exact ⟨[.ref r], ea, fun _ => ⟨r, rfl, s3 _ _ (k2 _ _ hr1 (by simpa using rne hd List.mem_cons_self))⟩⟩
      | i + 1, h1, _ => exact absurd h1 (by simp)
    · refine ifFe (by rw [intk_has a2]; exact decide_eq_false hin) ?_
      refine ⟨_, rfl, _, rfl, _, rfl, hd, _, rfl, DPut.k (k := Sum.inl k) a1 lh, ?_⟩
      have k2 : Keep [hd] H1 (upd H1 hd (.dK (putK kvh (Sum.inl k) (.ref gl)))) := keep_upd
      have e2 : (upd H1 hd (.dK (putK kvh (Sum.inl k) (.ref gl)))) hd = some (.dK (putK kvh (Sum.inl k) (.ref gl))) := upd_same
      generalize upd H1 hd (.dK (putK kvh (Sum.inl k) (.ref gl))) = H2 at k2 e2
      have k2' : Keep [hd, sd] H1 H2 := k2.mono fun b hb => by rw [List.mem_singleton.mp hb]; exact List.mem_cons_self
      have g2' := k2 _ _ g1' (by simpa using glne hd List.mem_cons_self)
      have c1' := k2 _ _ c1 (by simpa using M1.ne.symm)
      refine ⟨_, rfl, gl, _, _, _, rfl, rfl, SqL.of g2', atI_nat (j := 2) rfl, (by show 1 ≤ sizeLine; decide), fun ln hln => ?_⟩
      have s3 : Same H2 (upd H2 ln (.lst [gV g2])) := same_upd hln
      have eln : (upd H2 ln (.lst [gV g2])) ln = some (.lst [gV g2]) := upd_same
      generalize upd H2 ln (.lst [gV g2]) = H3 at s3 eln
      refine ⟨_, rfl, _, rfl, sd, _, rfl, DPut.k (k := Sum.inl k) (s3 _ _ c1') ls, ?_⟩
      have k4 : Keep [sd] H3 (upd H3 sd (.dK (putK kvs (Sum.inl k) (.ref ln)))) := keep_upd
      have e4 : (upd H3 sd (.dK (putK kvs (Sum.inl k) (.ref ln)))) sd = some (.dK (putK kvs (Sum.inl k) (.ref ln))) := upd_same
      generalize upd H3 sd (.dK (putK kvs (Sum.inl k) (.ref ln))) = H4 at k4 e4
      have k4' : Keep [hd, sd] H3 H4 := k4.mono fun b hb => by rw [List.mem_singleton.mp hb]; exact List.mem_cons_of_mem _ List.mem_cons_self
      have k14 : Keep [hd, sd] H1 H4 := k2'.trans ((Keep.of_same s3).trans k4')
      have eln4 : H4 ln = some (.lst [gV g2]) := k4 _ _ eln fun z => by
        rw [List.mem_singleton.mp z, s3 _ _ c1'] at eln
        cases eln
      have l4 : ∀ {b : Addr} {xs : List V}, H1 b = some (.lst xs) → H4 b = some (.lst xs) := fun {b xs} e => k14 _ _ e fun z => by
        obtain ⟨⟨kk, e3⟩, _⟩ := M1.no _ z
        rw [e3] at e
        cases e
      have hN4 := l4 (s1 _ _ hN)
      have hC4 := l4 (s1 _ _ hC)
      have hG4 := l4 g1'
      have hr4 := k14 _ _ hr1 (hmem (rne hd List.mem_cons_self) (rne sd (List.mem_cons_of_mem _ List.mem_cons_self)))
      have eh4 : H4 hd = some (.dK (putK kvh (Sum.inl k) (.ref gl))) := k4 _ _ (s3 _ _ e2) (by simpa using M1.ne)
      refine ⟨_, rfl, nl, _, _, _, rfl, rfl, SqL.of hN4, atI_nat (j := 0) rfl, _, rfl, _, rfl, (by show 5 ≤ sizeLine; decide), fun a ha => ?_⟩
      have s5 : Same H4 (upd H4 a (.tup [.str "add", .str F.a.nm, .int k, .int 0, .ref r])) := same_upd ha
      have ea : (upd H4 a (.tup [.str "add", .str F.a.nm, .int k, .int 0, .ref r])) a = some (.tup [.str "add", .str F.a.nm, .int k, .int 0, .ref r]) := upd_same
      generalize upd H4 a (.tup [.str "add", .str F.a.nm, .int k, .int 0, .ref r]) = H5 at s5 ea
      refine ⟨_, rfl, nl, _, _, _, rfl, rfl, SqL.of (s5 _ _ hN4), atI_nat (j := 1) rfl, _, rfl, _, rfl, _, rfl, gl, _, _, _, rfl, rfl, SqL.of (s5 _ _ hG4), atI_nat (j := 2) rfl, cl, F, _, _, rfl, s5 _ _ hC4, ne, fun r2 hr2 => ?_⟩
      have s6 : Same H5 (upd H5 r2 (.dK (rowOf F.b (gV g2) (.int 0)))) := same_upd hr2
      have er2 : (upd H5 r2 (.dK (rowOf F.b (gV g2) (.int 0)))) r2 = some (.dK (rowOf F.b (gV g2) (.int 0))) := upd_same
      generalize upd H5 r2 (.dK (rowOf F.b (gV g2) (.int 0))) = H6 at s6 er2
      refine ⟨(by show 5 ≤ sizeLine; decide), fun a2' ha2 => ⟨(by show 2 ≤ sizeLine; decide), fun l hl => ?_⟩⟩
      have s7 := (same_upd (o := .tup [.str "add", .str F.b.nm, .int k, .int 0, .ref r2]) ha2).trans (same_upd (o := .lst [.ref a, .ref a2']) hl)
      have ea2 : (upd (upd H6 a2' (.tup [.str "add", .str F.b.nm, .int k, .int 0, .ref r2])) l (.lst [.ref a, .ref a2'])) a2' = some (.tup [.str "add", .str F.b.nm, .int k, .int 0, .ref r2]) := same_upd hl _ _ upd_same
      have hl7 : (upd (upd H6 a2' (.tup [.str "add", .str F.b.nm, .int k, .int 0, .ref r2])) l (.lst [.ref a, .ref a2'])) l = some (.lst [.ref a, .ref a2']) := upd_same
      generalize upd (upd H6 a2' (.tup [.str "add", .str F.b.nm, .int k, .int 0, .ref r2])) l (.lst [.ref a, .ref a2']) = H7 at s7 ea2 hl7
      have s47 := (s5.trans s6).trans s7
      refine q l _ ((Keep.of_same s1).trans (k14.trans (Keep.of_same s47))) (MapsAt.put M1 a1 c1 (k14.trans (Keep.of_same s47)) (s47 _ _ eh4) (s47 _ _ hG4) (.inr ⟨hin, ln, s47 _ _ e4, s47 _ _ eln4⟩)) ?_
      unfold putSts
      rw [if_neg hin]
      refine ⟨[a, a2'], hl7, rfl, fun i a' st h1 h2 => ?_⟩
      match i, h1, h2 with
      | 0, h1, h2 =>
        cases Option.some.inj h1
        cases Option.some.inj h2
        exact ⟨[.ref r], (s6.trans s7) _ _ ea, fun _ => ⟨r, rfl, s47 _ _ hr4⟩⟩
      | 1, h1, h2 =>
        cases Option.some.inj h1
        cases Option.some.inj h2
        exact ⟨[.ref r2], ea2, fun _ => ⟨r2, rfl, s7 _ _ er2⟩⟩
      | i + 2, h1, _ => exact absurd h1 (by simp)
end K18
end L2
namespace L2
open PySem PySem.Spec PyProof.Rows
namespace K18
variable {P : Program} {w : World} {K : PySem.W.Frag} {mg : Str → Option Value} {base : Heap}

/-! ### _law_goals -/
theorem inw_none (b : Int) : InW b none := fun _ e => by cases e
theorem goal_at (b : Int) {i : Int} (h0 : 0 ≤ i) (h1 : i < 7) : ∃ g, InW b g ∧ atI ([.int (b + 3), .int b, .int (b + 4), .int (b + 1), .int (b + 2), .non, .non] : List V) i = some (gV g) := by
  have inw : ∀ j : Int, b ≤ j ∧ j ≤ b + 4 → InW b (some j) := fun j h i e => by
    cases e
    exact h
  have hi : i = 0 ∨ i = 1 ∨ i = 2 ∨ i = 3 ∨ i = 4 ∨ i = 5 ∨ i = 6 := by omega
  rcases hi with rfl | rfl | rfl | rfl | rfl | rfl | rfl
  · exact ⟨some (b + 3), inw _ (by omega), atI_nat (j := 0) rfl⟩
  · exact ⟨some b, inw _ (by omega), atI_nat (j := 1) rfl⟩
  · exact ⟨some (b + 4), inw _ (by omega), atI_nat (j := 2) rfl⟩
  · exact ⟨some (b + 1), inw _ (by omega), atI_nat (j := 3) rfl⟩
  · exact ⟨some (b + 2), inw _ (by omega), atI_nat (j := 4) rfl⟩
  · exact ⟨none, inw_none b, atI_nat (j := 5) rfl⟩
  · exact ⟨none, inw_none b, atI_nat (j := 6) rfl⟩
theorem key_at (b : Int) {i : Int} (h0 : 0 ≤ i) (h1 : i < 4) : ∃ k, (b ≤ k ∧ k ≤ b + 4) ∧ atI ([.int (b + 3), .int b, .int (b + 4), .int (b + 1), .int (b + 2)] : List V) i = some (.int k) := by
  have hi : i = 0 ∨ i = 1 ∨ i = 2 ∨ i = 3 := by omega
  rcases hi with rfl | rfl | rfl | rfl
  · exact ⟨b + 3, by omega, atI_nat (j := 0) rfl⟩
  · exact ⟨b, by omega, atI_nat (j := 1) rfl⟩
  · exact ⟨b + 4, by omega, atI_nat (j := 2) rfl⟩
  · exact ⟨b + 1, by omega, atI_nat (j := 3) rfl⟩
def spGoals : Sp := fun vs H Q _ => ∃ (kl : Addr) (b c : Int), vs = [.ref kl, .int c] ∧ KeysAt H kl b ∧ ∀ g0 g1 g2 p H', InW b g0 → InW b g1 → InW b g2 → Same H H' → GoalsAt H' p g0 g1 g2 → Q (.ref p) H'
theorem sc_goals : FnScope ["_law_keys", "_law_number", "_law_goals_here"] ["_law_keys", "_law_number"] (defScope (top 39)) := ⟨rfl, rfl, rfl, by decide +kernel, rfl, by decide +kernel, by decide +kernel⟩
theorem cl_goals (D : DefAt K mg "_law_goals" (top 39)) : Cl P w K mg base 1 "_law_goals" spGoals := by
  refine cl_mk D sc_goals (fun _ _ _ _ _ _ us hl => match us, hl with | [_, _], _ => rfl) (fun vs H Q E h => ?_) (fun f cdv A outer s H vs Q E hr h => ?_)
  · obtain ⟨kl, b, c, rfl, _⟩ := h
    rfl
  · obtain ⟨kl, b, c, rfl, hK, q⟩ := h
    have nd := sc_goals.nd
    refine ⟨_, pss_cons (ps_set (i := 2) nd rfl (Or.inl rfl) (pe_op op_cat (pv 0) (pe_lst (pa_cons pe_non (pa_cons pe_non pa_nil)))))
      (pss_one (ps_ret (pe_lst (pa_cons (pe_ix ix_list (pv 2) (pe_op op_mod (pv 1) pe_int) (fun _ _ => rfl)) (pa_cons (pe_ix ix_list (pv 2) (pe_op op_mod (pe_op op_fdiv (pv 1) pe_int) pe_int) (fun _ _ => rfl)) (pa_cons (pe_ix ix_list (pv 2) (pe_op op_mod (pe_op op_fdiv (pv 1) pe_int) pe_int) (fun _ _ => rfl)) pa_nil)))))), ?_⟩
    refine ⟨_, rfl, (by show 2 ≤ sizeLine; decide), fun nn hn => ?_⟩
    have s1 : Same H (upd H nn (.lst [.non, .non])) := same_upd hn
    refine ⟨kl, nn, _, _, rfl, rfl, s1 _ _ hK, upd_same, (by show 7 ≤ sizeLine; decide), fun gl hgl => ?_⟩
    have s2 := s1.trans (same_upd (o := .lst ([.int (b + 3), .int b, .int (b + 4), .int (b + 1), .int (b + 2)] ++ [.non, .non])) hgl)
    have hG : (upd (upd H nn (.lst [.non, .non])) gl (.lst ([.int (b + 3), .int b, .int (b + 4), .int (b + 1), .int (b + 2)] ++ [.non, .non]))) gl = some (.lst [.int (b + 3), .int b, .int (b + 4), .int (b + 1), .int (b + 2), .non, .non]) := upd_same
    generalize upd (upd H nn (.lst [.non, .non])) gl (.lst ([.int (b + 3), .int b, .int (b + 4), .int (b + 1), .int (b + 2)] ++ [.non, .non])) = H2 at s2 hG
    obtain ⟨g0, i0, e0⟩ := goal_at b (i := c % 7) (by omega) (by omega)
    obtain ⟨g1, i1, e1⟩ := goal_at b (i := c / 7 % 7) (by omega) (by omega)
    obtain ⟨g2, i2, e2⟩ := goal_at b (i := c / 49 % 7) (by omega) (by omega)
    refine ⟨_, rfl, _, rfl, _, _, rfl, rfl, (by show (0 : Int) < 7; decide), gl, _, _, _, rfl, rfl, SqL.of hG, e0, ?_⟩
    refine ⟨_, rfl, _, rfl, _, _, rfl, rfl, ⟨by decide, by decide⟩, _, _, rfl, rfl, (by show (0 : Int) < 7; decide), gl, _, _, _, rfl, rfl, SqL.of hG, e1, ?_⟩
    refine ⟨_, rfl, _, rfl, _, _, rfl, rfl, ⟨by decide, by decide⟩, _, _, rfl, rfl, (by show (0 : Int) < 7; decide), gl, _, _, _, rfl, rfl, SqL.of hG, e2, ?_⟩
    exact ⟨(by show 3 ≤ sizeLine; decide), fun p hp => q g0 g1 g2 p _ i0 i1 i2 (s2.trans (same_upd hp)) upd_same⟩

/-! ### lists of steps -/
theorem StepsAt.snoc {H H' : Hp} {l a : Addr} {sts : List Stp} {st : Stp} {xs : List V} (h : StepsAt H l sts) (hl : H l = some (.lst xs)) (k : Keep [l] H H') (hl' : H' l = some (.lst (xs ++ [.ref a]))) (ha : StpAt H' a st) : StepsAt H' l (sts ++ [st]) := by
  obtain ⟨as, e1, e2, e3⟩ := h
  rw [hl] at e1
  cases e1
  refine ⟨as ++ [a], by rw [hl', List.map_append]; rfl, by rw [List.length_append, List.length_append, e2]; rfl, fun i a' st' h1 h2 => ?_⟩
  have no : ∀ b, b ∈ [l] → ∀ o, (∀ xs, o ≠ .lst xs) → H b ≠ some o := fun b hb o n e => by
    rw [List.mem_singleton.mp hb, hl] at e
    exact n _ (Option.some.inj e).symm
  by_cases hi : i < as.length
  · rw [List.getElem?_append_left hi] at h1
    rw [List.getElem?_append_left (by omega)] at h2
    exact (e3 i a' st' h1 h2).keep k (fun b hb xs => no b hb (.tup xs) (fun _ z => nomatch z)) (fun b hb ks => no b hb (.dK ks) (fun _ z => nomatch z))
  · have hi2 : i = as.length := by
      have := (List.getElem?_eq_some_iff.mp h1).1
      rw [List.length_append] at this
      have : i < as.length + 1 := this
      omega
    subst hi2
    rw [List.getElem?_append_right (Nat.le_refl _), Nat.sub_self] at h1
    rw [e2, List.getElem?_append_right (Nat.le_refl _), Nat.sub_self] at h2
    cases Option.some.inj h1
    cases Option.some.inj h2
    exact ha
theorem StepsAt.append {H : Hp} {l m p : Addr} {ss ts : List Stp} {xs zs : List V} (h1 : StepsAt H l ss) (h2 : StepsAt H m ts) (e1 : H l = some (.lst xs)) (e2 : H m = some (.lst zs)) (hp : H p = none) : StepsAt (upd H p (.lst (xs ++ zs))) p (ss ++ ts) := by
  obtain ⟨as, a1, a2, a3⟩ := h1.same (same_upd (o := .lst (xs ++ zs)) hp)
  obtain ⟨cs, c1, c2, c3⟩ := h2.same (same_upd (o := .lst (xs ++ zs)) hp)
  rw [same_upd hp _ _ e1] at a1
  rw [same_upd hp _ _ e2] at c1
  cases a1
  cases c1
  refine ⟨as ++ cs, by rw [upd_same, List.map_append], by rw [List.length_append, List.length_append, a2, c2], fun i a st g1 g2 => ?_⟩
  by_cases hi : i < as.length
  · rw [List.getElem?_append_left hi] at g1
    rw [List.getElem?_append_left (by omega)] at g2
    exact a3 i a st g1 g2
  · rw [List.getElem?_append_right (by omega)] at g1
    rw [List.getElem?_append_right (by omega), ← a2] at g2
    exact c3 _ a st g1 g2

/-! ### _law_cut -/
def spLawCut (K : PySem.W.Frag) : Sp := fun vs H Q _ => ∃ (nl hd sd : Addr) (k : Int) (F : Frm) (T : Tb), vs = [.ref nl, .ref hd, .ref sd, .int k] ∧ NamesAt H nl F ∧ MapsAt H hd sd T ∧ k ∈ T.ks ∧ (T.so k).length ≤ 1000 ∧
  ∀ l H', Keep [hd, sd] H H' → MapsAt H' hd sd (T.cut k) → StepsAt H' l (cutSts F T k) → Q (.ref l) H'
theorem sc_lawCut : FnScope ["_law_names_here", "_law_heads", "_law_some", "_law_key", "_law_steps_here", "_law_place"] ["_law_names_here", "_law_heads", "_law_some", "_law_key"] (defScope (top 42)) := ⟨rfl, rfl, rfl, by decide +kernel, rfl, by decide +kernel, by decide +kernel⟩
theorem cl_lawCut (D : DefAt K mg "_law_cut" (top 42)) (G : Gs mg) : Cl P w K mg base 1 "_law_cut" (spLawCut K) := by
  refine cl_mk D sc_lawCut (fun _ _ _ _ _ _ us hl => match us, hl with | [_, _, _, _], _ => rfl) (fun vs H Q E h => ?_) (fun f cdv A outer s H vs Q E hr h => ?_)
  · obtain ⟨nl, hd, sd, k, F, T, rfl, _⟩ := h
    rfl
  · obtain ⟨nl, hd, sd, k, F, T, rfl, hN, M, hin, hlen, q⟩ := h
    have nd := sc_lawCut.nd
    have hu := hu_of hr
    refine ⟨_, pss_cons (ps_set (i := 4) nd rfl (Or.inl rfl) (pe_lst (pa_cons (pe_tup (pa_cons pe_str (pa_cons (pe_ix ix_list (pv 0) pe_int (fun _ _ => rfl)) (pa_cons (pv 3) (pa_cons pe_int pa_nil))))) pa_nil)))
      (pss_cons (ps_for PassesOwn.never rfl (pi_range1 (by rfl) G.range (pa_cons (pe_callB call_len_seq (by rfl) G.len PySem.boot_len (pa_cons (pe_dget hu (pv 2) (pv 3) (fun _ _ => rfl)) pa_nil)) pa_nil)) (pg_name (i := 5) nd rfl (Or.inl rfl))
        (pss_one (ps_expr (pe_bm PySem.F.plainAttrs_list PySem.F.slot_list_append PySem.F.type_list_append mt_append (pv 4) (pa_cons (pe_tup (pa_cons pe_str (pa_cons (pe_ix ix_list (pv 0) pe_int (fun _ _ => rfl)) (pa_cons (pv 3) (pa_cons (pv 5) pa_nil))))) pa_nil)))))
      (pss_cons (ps_expr (pe_dpop1 (pv 1) (pv 3) ⟨rfl, rfl, rfl, rfl⟩))
      (pss_cons (ps_expr (pe_dpop1 (pv 2) (pv 3) ⟨rfl, rfl, rfl, rfl⟩))
      (pss_one (ps_ret (pv 4)))))), ?_⟩
    refine ⟨_, rfl, nl, _, _, _, rfl, rfl, SqL.of hN, atI_nat (j := 0) rfl, _, rfl, (by show 4 ≤ sizeLine; decide), fun a ha => ⟨(by show 1 ≤ sizeLine; decide), fun l hl => ?_⟩⟩
    have s1 : Same H (upd (upd H a (.tup [.str "cut", .str F.a.nm, .int k, .int 0])) l (.lst [.ref a])) := (same_upd ha).trans (same_upd hl)
    have hl1 : (upd (upd H a (.tup [.str "cut", .str F.a.nm, .int k, .int 0])) l (.lst [.ref a])) l = some (.lst [.ref a]) := upd_same
    have ha1 : (upd (upd H a (.tup [.str "cut", .str F.a.nm, .int k, .int 0])) l (.lst [.ref a])) a = some (.tup [.str "cut", .str F.a.nm, .int k, .int 0]) := same_upd hl _ _ upd_same
    have h0l : H l = none := by
      cases e : H l with
      | none => rfl
      | some o =>
        rw [same_upd ha _ _ e] at hl
        cases hl
    generalize upd (upd H a (.tup [.str "cut", .str F.a.nm, .int k, .int 0])) l (.lst [.ref a]) = H1 at s1 hl1 ha1
    have st1 : StepsAt H1 l [⟨.cut, F.a, k, 0, .non, .non⟩] := by
      refine ⟨[a], hl1, rfl, fun i a' st h1 h2 => ?_⟩
      match i, h1, h2 with
      | 0, h1, h2 =>
        cases Option.some.inj h1
        cases Option.some.inj h2
        exact ⟨[], ha1, fun z => absurd rfl z⟩
      | i + 1, h1, _ => exact absurd h1 (by simp)
    obtain ⟨kvh, m1, m2, m3⟩ := id M.h
    obtain ⟨kvs, c1, c2, c3⟩ := id M.s
    obtain ⟨ls, v1, v2⟩ := c3 k hin
    have gs : DGet H1 sd (.int k) (some (.ref ls)) := by
      have g := DGet.k (k := Sum.inl k) (s1 _ _ c1)
      rw [v1] at g
      exact g
    refine ⟨_, rfl, _, rfl, sd, _, rfl, gs, ls, _, rfl, .inl (SqL.of (s1 _ _ v2)), _, rfl, ?_, ?_, ?_⟩
    · rw [List.length_map]
      omega
    · rw [List.length_map]
      omega
    rw [List.length_map, Int.toNat_natCast]
    refine for_range (fun i σ H' => Same H H' ∧ StepsAt H' l (⟨.cut, F.a, k, 0, .non, .non⟩ :: (List.range i).map (cutB F k)) ∧ ∃ o, σ = [some (.ref nl), some (.ref hd), some (.ref sd), some (.int k), some (.ref l), o]) ⟨s1, st1, _, rfl⟩ ?_ ?_
    · rintro i σ H2 hi ⟨s2, st2, o, rfl⟩
      obtain ⟨as, e1, e2, e3⟩ := id st2
      refine ⟨_, rfl, .inl ⟨rfl, _, SqL.of e1⟩, _, rfl, nl, _, _, _, rfl, rfl, SqL.of (s2 _ _ hN), atI_nat (j := 1) rfl, _, rfl, _, rfl, (by show 4 ≤ sizeLine; decide), fun b hb => ?_⟩
      have s3 : Same H2 (upd H2 b (.tup [.str "cut", .str F.b.nm, .int k, .int (0 + (i : Int))])) := same_upd hb
      have hlt : (as.map V.ref).length < sizeLine := by
        rw [List.length_map, e2, List.length_cons, List.length_map, List.length_range]
        exact Nat.lt_of_le_of_lt (by omega : i + 1 ≤ 1001) (by decide)
      refine ⟨l, _, _, rfl, rfl, s3 _ _ e1, hlt, ?_⟩
      have k4 : Keep [l] H2 (upd (upd H2 b (.tup [.str "cut", .str F.b.nm, .int k, .int (0 + (i : Int))])) l (.lst (as.map V.ref ++ [.ref b]))) := (Keep.of_same s3).trans keep_upd
      have hbl : b ≠ l := fun z => by
        rw [z, e1] at hb
        cases hb
      refine ⟨fun x o e => k4 _ _ (s2 _ _ e) (by simpa using ne_of_none e h0l), ?_, _, rfl⟩
      rw [rng_snoc]
      refine StepsAt.snoc (a := b) (st := cutB F k i) st2 e1 k4 upd_same ⟨[], ?_, fun z => absurd rfl z⟩
      rw [upd_ne hbl, upd_same, Int.zero_add]
      rfl
    · rintro σ H2 ⟨s2, st2, o, rfl⟩
      have M2 := M.same s2
      obtain ⟨lh, g2, x1, x2⟩ := m3 k hin
      refine ⟨_, rfl, hd, rfl, .inl ⟨_, .inl (s2 _ _ m1)⟩, _, rfl, kvh, Sum.inl k, _, s2 _ _ m1, rfl, x1, ?_⟩
      have k3 : Keep [hd] H2 (upd H2 hd (.dK (dropK kvh (Sum.inl k)))) := keep_upd
      have e3 : (upd H2 hd (.dK (dropK kvh (Sum.inl k)))) hd = some (.dK (dropK kvh (Sum.inl k))) := upd_same
      generalize upd H2 hd (.dK (dropK kvh (Sum.inl k))) = H3 at k3 e3
      have c4 := k3 _ _ (s2 _ _ c1) (by simpa using M.ne.symm)
      refine ⟨_, rfl, sd, rfl, .inl ⟨_, .inl c4⟩, _, rfl, kvs, Sum.inl k, _, c4, rfl, v1, ?_⟩
      have k4 : Keep [sd] H3 (upd H3 sd (.dK (dropK kvs (Sum.inl k)))) := keep_upd
      have e4 : (upd H3 sd (.dK (dropK kvs (Sum.inl k)))) sd = some (.dK (dropK kvs (Sum.inl k))) := upd_same
      have e5 : (upd H3 sd (.dK (dropK kvs (Sum.inl k)))) hd = some (.dK (dropK kvh (Sum.inl k))) := by
        rw [upd_ne M.ne]
        exact e3
      generalize upd H3 sd (.dK (dropK kvs (Sum.inl k))) = H4 at k4 e4 e5
      have k24 : Keep [hd, sd] H2 H4 := (k3.mono fun b hb => by rw [List.mem_singleton.mp hb]; exact List.mem_cons_self).trans (k4.mono fun b hb => by rw [List.mem_singleton.mp hb]; exact List.mem_cons_of_mem _ List.mem_cons_self)
      exact ⟨_, rfl, q l _ ((Keep.of_same s2).trans k24) (MapsAt.cut M2 (s2 _ _ m1) (s2 _ _ c1) k24 e5 e4) (st2.keep M2 k24)⟩
end K18
end L2
namespace L2
open PySem PySem.Spec PyProof.Rows
namespace K18
variable {P : Program} {w : World} {K : PySem.W.Frag} {mg : Str → Option Value} {base : Heap}

/-! ### _law_steps -/
theorem inw_some {b k : Int} (h : b ≤ k ∧ k ≤ b + 4) : InW b (some k) := fun i e => by
  cases e
  exact h
theorem putSts_len (F : Frm) (T : Tb) (k : Int) (g0 g1 g2 : Option Int) : (putSts F T k g0 g1 g2).length ≤ 2 := by
  unfold putSts
  split
  · show 1 ≤ 2
    decide
  · exact Nat.le_refl _
def spLawSteps : Sp := fun vs H Q _ => ∃ (nl cl kl hd sd : Addr) (c b : Int) (F : Frm) (T : Tb) (n : Nat), vs = [.ref nl, .ref cl, .ref kl, .ref hd, .ref sd, .int c] ∧ (NamesAt H nl F ∧ ColsAt H cl F ∧ KeysAt H kl b ∧ NeF F) ∧ MapsAt H hd sd T ∧ (TbOk b n T ∧ n ≤ 24) ∧ (0 ≤ b ∧ b + 4 < F.size) ∧
  ∀ l H' T' sts, Keep [hd, sd] H H' → MapsAt H' hd sd T' → StepsAt H' l sts → Mv F T sts T' → TbOk b (n + 1) T' → sts.length ≤ 30 → Q (.ref l) H'
theorem sc_lawSteps : FnScope ["_law_names_here", "_law_columns", "_law_keys", "_law_heads", "_law_some", "_law_cell_here", "_law_key", "_law_other", "_law_goals_here", "_law_steps_here", "_law_place"] ["_law_names_here", "_law_columns", "_law_keys", "_law_heads", "_law_some", "_law_cell_here"] (defScope (top 43)) := ⟨rfl, rfl, rfl, by decide +kernel, rfl, by decide +kernel, by decide +kernel⟩
theorem cl_lawSteps (D : DefAt K mg "_law_steps" (top 43)) (G : Gs mg) (C0 : Cl P w K mg base 1 "_law_goals" spGoals) (C1 : Cl P w K mg base 2 "_law_put" (spPut K)) (C2 : Cl P w K mg base 1 "_law_cut" (spLawCut K)) (C3 : Cl P w K mg base 1 "_law_some_row" (spSomeRow K)) :
    Cl P w K mg base 3 "_law_steps" spLawSteps := by
  refine cl_mk D sc_lawSteps (fun _ _ _ _ _ _ us hl => match us, hl with | [_, _, _, _, _, _], _ => rfl) (fun vs H Q E h => ?_) (fun f cdv A outer s H vs Q E hr h => ?_)
  · obtain ⟨nl, cl, kl, hd, sd, c, b, F, T, n, rfl, _⟩ := h
    rfl
  · obtain ⟨nl, cl, kl, hd, sd, c, b, F, T, n, rfl, ⟨hN, hC, hK, ne⟩, M, ⟨ok, hn⟩, ⟨h0, h1⟩, q⟩ := h
    have nd := sc_lawSteps.nd
    have hu := hu_of hr
    refine ⟨_, pss_cons (ps_set (i := 6) nd rfl (Or.inl rfl) (pe_ix ix_list (pv 2) (pe_op op_mod (pe_op op_fdiv (pv 5) pe_int) pe_int) (fun _ _ => rfl)))
      (pss_cons (ps_set (i := 7) nd rfl (Or.inl rfl) (pe_ix ix_list (pv 2) (pe_op op_mod (pe_op op_fdiv (pv 5) pe_int) pe_int) (fun _ _ => rfl)))
      (pss_cons (ps_set (i := 8) nd rfl (Or.inl rfl) (pe_cl C0 hr (by decide) (by rfl) (pa_cons (pv 2) (pa_cons (pe_op op_fdiv (pv 5) pe_int) pa_nil))))
      (pss_cons (ps_if (pt_cmpR op_lt (pe_op op_mod (pv 5) pe_int) pe_int (nomark _)) (pss_one (ps_ret (pe_cl C1 hr (by decide) (by rfl) (pa_cons (pv 0) (pa_cons (pv 1) (pa_cons (pv 3) (pa_cons (pv 4) (pa_cons (pv 6) (pa_cons (pv 8) pa_nil))))))))) pss_nil)
      (pss_cons (ps_if (pt_cmpR op_eq (pe_op op_mod (pv 5) pe_int) pe_int (nomark _))
        (pss_cons (ps_set (i := 9) nd rfl (Or.inl rfl) (pe_cl C1 hr (by decide) (by rfl) (pa_cons (pv 0) (pa_cons (pv 1) (pa_cons (pv 3) (pa_cons (pv 4) (pa_cons (pv 6) (pa_cons (pe_lst (pa_cons (pv 7) (pa_cons pe_non (pa_cons (pv 6) pa_nil)))) pa_nil))))))))
        (pss_one (ps_ret (pe_op op_cat (pv 9) (pe_cl C1 hr (by decide) (by rfl) (pa_cons (pv 0) (pa_cons (pv 1) (pa_cons (pv 3) (pa_cons (pv 4) (pa_cons (pv 7) (pa_cons (pe_lst (pa_cons (pv 6) (pa_cons (pv 6) (pa_cons (pv 7) pa_nil)))) pa_nil))))))))))) pss_nil)
      (pss_cons (ps_if (pt_cmp (pc_dnotin hu (pv 6) (pv 3))) (pss_one (ps_ret (pe_cl C1 hr (by decide) (by rfl) (pa_cons (pv 0) (pa_cons (pv 1) (pa_cons (pv 3) (pa_cons (pv 4) (pa_cons (pv 6) (pa_cons (pe_lst (pa_cons (pv 6) (pa_cons pe_non (pa_cons pe_non pa_nil)))) pa_nil))))))))) pss_nil)
      (pss_cons (ps_if (pt_cmpR op_eq (pe_op op_mod (pv 5) pe_int) pe_int (nomark _)) (pss_one (ps_ret (pe_cl C2 hr (by decide) (by rfl) (pa_cons (pv 0) (pa_cons (pv 3) (pa_cons (pv 4) (pa_cons (pv 6) pa_nil))))))) pss_nil)
      (pss_cons (ps_dput hu (pv 4) (pv 6) (pe_op op_cat (pe_dget hu (pv 4) (pv 6) (fun _ _ => rfl)) (pe_lst (pa_cons (pe_ix ix_list (pv 8) pe_int (fun _ _ => rfl)) pa_nil))) rfl)
      (pss_cons (ps_set (i := 10) nd rfl (Or.inl rfl) (pe_op op_sub (pe_callB call_len_seq (by rfl) G.len PySem.boot_len (pa_cons (pe_dget hu (pv 4) (pv 6) (fun _ _ => rfl)) pa_nil)) pe_int))
      (pss_one (ps_ret (pe_lst (pa_cons (pe_tup (pa_cons pe_str (pa_cons (pe_ix ix_list (pv 0) pe_int (fun _ _ => rfl)) (pa_cons (pv 6) (pa_cons (pv 10) (pa_cons (pe_cl C3 hr (by decide) (by rfl) (pa_cons (pv 1) (pa_cons (pe_ix ix_list (pv 8) pe_int (fun _ _ => rfl)) (pa_cons (pv 10) pa_nil)))) pa_nil)))))) pa_nil)))))))))))), ?_⟩
    obtain ⟨k, hk, ek⟩ := key_at b (i := c / 6 % 4) (by omega) (by omega)
    obtain ⟨o, ho, eo⟩ := key_at b (i := c / 24 % 4) (by omega) (by omega)
    have ksz : T.ks.length ≤ 1000 := Nat.le_trans ok.few (by decide)
    refine ⟨_, rfl, _, rfl, _, _, rfl, rfl, ⟨by decide, by decide⟩, _, _, rfl, rfl, (by show (0 : Int) < 4; decide), kl, _, _, _, rfl, rfl, SqL.of hK, ek, ?_⟩
    refine ⟨_, rfl, _, rfl, _, _, rfl, rfl, ⟨by decide, by decide⟩, _, _, rfl, rfl, (by show (0 : Int) < 4; decide), kl, _, _, _, rfl, rfl, SqL.of hK, eo, ?_⟩
    refine ⟨_, rfl, _, rfl, _, _, rfl, rfl, ⟨by decide, by decide⟩, kl, b, _, rfl, hK, fun g0 g1 g2 gl H1 i0 i1 i2 s1 hG => ?_⟩
    have M1 := M.same s1
    have hN1 : NamesAt H1 nl F := s1 _ _ hN
    have hC1 : ColsAt H1 cl F := s1 _ _ hC
    refine ⟨_, rfl, _, _, rfl, rfl, (by show (0 : Int) < 6; decide), _, _, rfl, rfl, _, rfl, ?_⟩
    have put1 : ∀ (x : Int) (T0 : Tb), TbOk b n T0 → ∀ g0 g1 g2 : Option Int, TbOk b (n + 1) (T.put k g0 g1 g2) := fun _ _ _ g0 g1 g2 => ok.put hk (by omega) (by omega)
    by_cases c2 : c % 6 < 2
    · refine ifY c2 ?_
      refine ⟨_, rfl, _, rfl, _, rfl, _, rfl, _, rfl, _, rfl, nl, cl, hd, sd, gl, k, F, T, g0, g1, g2, rfl, hN1, hC1, ne, M1, ksz, hG, fun l H2 k2 M2 st2 => ?_⟩
      exact q l H2 _ _ ((Keep.of_same s1).trans k2) M2 st2 (mv_put ne.n h0 h1 hk i0 i1 i2) (ok.put hk (by omega) (by omega)) (Nat.le_trans (putSts_len ..) (by decide))
    refine ifN c2 ?_
    refine ⟨_, rfl, _, _, rfl, rfl, (by show (0 : Int) < 6; decide), rfl, _, rfl, ?_⟩
    by_cases c3 : c % 6 = 2
    · refine ifY (congrArg V.int c3) ?_
      have ik := inw_some hk
      have io := inw_some ho
      refine ⟨_, rfl, _, rfl, _, rfl, _, rfl, _, rfl, _, rfl, _, rfl, (by show 3 ≤ sizeLine; decide), fun ga hga => ?_⟩
      have s2 : Same H1 (upd H1 ga (.lst [.int o, .non, .int k])) := same_upd hga
      have hGa : GoalsAt (upd H1 ga (.lst [.int o, .non, .int k])) ga (some o) none (some k) := upd_same
      generalize upd H1 ga (.lst [.int o, .non, .int k]) = H2 at s2 hGa
      refine ⟨nl, cl, hd, sd, ga, k, F, T, some o, none, some k, rfl, s2 _ _ hN1, s2 _ _ hC1, ne, M1.same s2, ksz, hGa, fun l1 H3 k3 M3 st3 => ?_⟩
      have ok1 : TbOk b (n + 1) (T.put k (some o) none (some k)) := ok.put hk (by omega) (by omega)
      have M2 := M1.same s2
      have lk : ∀ {x : Addr} {xs : List V}, H2 x = some (.lst xs) → H3 x = some (.lst xs) := fun {x xs} e => k3 _ _ e fun z => by
        obtain ⟨⟨kk, e3⟩, _⟩ := M2.no _ z
        rw [e3] at e
        cases e
      refine ⟨_, rfl, _, rfl, _, rfl, _, rfl, _, rfl, _, rfl, _, rfl, _, rfl, _, rfl, (by show 3 ≤ sizeLine; decide), fun gb hgb => ?_⟩
      have s4 : Same H3 (upd H3 gb (.lst [.int k, .int k, .int o])) := same_upd hgb
      have hGb : GoalsAt (upd H3 gb (.lst [.int k, .int k, .int o])) gb (some k) (some k) (some o) := upd_same
      generalize upd H3 gb (.lst [.int k, .int k, .int o]) = H4 at s4 hGb
      have M4 := M3.same s4
      refine ⟨nl, cl, hd, sd, gb, o, F, _, some k, some k, some o, rfl, s4 _ _ (lk (s2 _ _ hN1)), s4 _ _ (lk (s2 _ _ hC1)), ne, M4, Nat.le_trans ok1.few (by decide), hGb, fun l2 H5 k5 M5 st5 => ?_⟩
      have st5' := (st3.same s4).keep M4 k5
      obtain ⟨as, a1, a2, a3⟩ := id st5'
      obtain ⟨bs, b1, b2, b3⟩ := id st5
      have len1 := putSts_len F T k (some o) none (some k)
      have len2 := putSts_len F (T.put k (some o) none (some k)) o (some k) (some k) (some o)
      refine ⟨l1, l2, _, _, rfl, rfl, a1, b1, ?_, fun p hp => ?_⟩
      · rw [List.length_map, List.length_map, a2, b2]
        exact Nat.le_trans (by omega : _ ≤ 4) (by decide)
      · have s6 : Same H5 (upd H5 p (.lst (as.map V.ref ++ bs.map V.ref))) := same_upd hp
        refine q p _ _ _ ((Keep.of_same (s1.trans s2)).trans (k3.trans ((Keep.of_same s4).trans (k5.trans (Keep.of_same s6))))) (M5.same s6) (StepsAt.append st5' st5 a1 b1 hp) ((mv_put ne.n h0 h1 hk io (inw_none b) ik).trans (mv_put ne.n h0 h1 ho ik ik io)) (ok1.put ho (by omega) (Nat.le_refl _)) ?_
        rw [List.length_append]
        omega
    refine ifN (fun z => c3 (V.int.inj z)) ?_
    obtain ⟨kvh, m1, m2, m3⟩ := id M1.h
    obtain ⟨kvs, v1, v2, v3⟩ := id M1.s
    refine ⟨_, rfl, _, rfl, hd, _, rfl, DGet.k (k := Sum.inl k) m1, _, rfl, ?_⟩
    by_cases hin : k ∈ T.ks
    · refine ifNTe (by rw [intk_has m2]; exact decide_eq_true hin) ?_
      refine ⟨_, rfl, _, _, rfl, rfl, (by show (0 : Int) < 6; decide), rfl, _, rfl, ?_⟩
      have hso := ok.so k hin
      by_cases c4 : c % 6 = 3
      · refine ifY (congrArg V.int c4) ?_
        refine ⟨_, rfl, _, rfl, _, rfl, _, rfl, nl, hd, sd, k, F, T, rfl, hN1, M1, hin, by omega, fun l H2 k2 M2 st2 => ?_⟩
        refine q l H2 _ _ ((Keep.of_same s1).trans k2) M2 st2 (mv_cut ne.n h0 h1 hk hin) (ok.cut.mono (by omega)) ?_
        unfold cutSts
        rw [List.length_cons, List.length_map, List.length_range]
        omega
      · refine ifN (fun z => c4 (V.int.inj z)) ?_
        obtain ⟨ls, x1, x2⟩ := v3 k hin
        have gs : ∀ {H' : Hp}, H' sd = some (.dK kvs) → DGet H' sd (.int k) (some (.ref ls)) := fun {H'} e => by
          have g := DGet.k (k := Sum.inl k) e
          rw [x1] at g
          exact g
        refine ⟨_, rfl, _, rfl, sd, _, rfl, gs v1, ?_⟩
        refine ⟨_, rfl, gl, _, _, _, rfl, rfl, SqL.of hG, atI_nat (j := 0) rfl, (by show 1 ≤ sizeLine; decide), fun gn hgn => ?_⟩
        have s2 : Same H1 (upd H1 gn (.lst [gV g0])) := same_upd hgn
        have hgn2 : (upd H1 gn (.lst [gV g0])) gn = some (.lst [gV g0]) := upd_same
        generalize upd H1 gn (.lst [gV g0]) = H2 at s2 hgn2
        refine ⟨ls, gn, _, _, rfl, rfl, s2 _ _ x2, hgn2, ?_, fun ln hln => ?_⟩
        · rw [List.length_map]
          exact Nat.le_trans (by show (T.so k).length + 1 ≤ 1000; omega) (by decide)
        have s3 : Same H2 (upd H2 ln (.lst ((T.so k).map gV ++ [gV g0]))) := same_upd hln
        have hln3 : (upd H2 ln (.lst ((T.so k).map gV ++ [gV g0]))) ln = some (.lst ((T.so k ++ [g0]).map gV)) := by
          rw [upd_same, List.map_append]
          rfl
        generalize upd H2 ln (.lst ((T.so k).map gV ++ [gV g0])) = H3 at s3 hln3
        have s13 := s2.trans s3
        have v13 := s13 _ _ v1
        have lsz : kvs.length < sizeLine := Nat.lt_of_le_of_lt (by rw [intk_len v2]; exact ksz) (by decide)
        refine ⟨_, rfl, _, rfl, sd, _, rfl, DPut.k (k := Sum.inl k) v13 lsz, ?_⟩
        have k4 : Keep [sd] H3 (upd H3 sd (.dK (putK kvs (Sum.inl k) (.ref ln)))) := keep_upd
        have e4 : (upd H3 sd (.dK (putK kvs (Sum.inl k) (.ref ln)))) sd = some (.dK (putK kvs (Sum.inl k) (.ref ln))) := upd_same
        generalize upd H3 sd (.dK (putK kvs (Sum.inl k) (.ref ln))) = H4 at k4 e4
        have lk : ∀ {x : Addr} {xs : List V}, H3 x = some (.lst xs) → H4 x = some (.lst xs) := fun {x xs} e => k4 _ _ e fun z => by
          rw [List.mem_singleton.mp z, v13] at e
          cases e
        have M4 : MapsAt H4 hd sd (T.app k g0) := MapsAt.app (M1.same s13) hin v13 k4 e4 (lk hln3)
        have g4 : DGet H4 sd (.int k) (some (.ref ln)) := by
          have g := DGet.k (k := Sum.inl k) e4
          rw [valV_put, if_pos rfl] at g
          exact g
        refine ⟨_, rfl, _, rfl, sd, _, rfl, g4, ln, _, rfl, .inl (SqL.of (lk hln3)), _, _, rfl, rfl, ?_⟩
        have epl : (((((T.so k ++ [g0]).map gV).length : Nat) : Int) - 1) = ((T.so k).length : Nat) := by
          rw [List.length_map, List.length_append]
          have : ([g0] : List (Option Int)).length = 1 := rfl
          omega
        refine ⟨_, rfl, nl, _, _, _, rfl, rfl, SqL.of (lk (s13 _ _ hN1)), atI_nat (j := 1) rfl, _, rfl, _, rfl, _, rfl, _, rfl, gl, _, _, _, rfl, rfl, SqL.of (lk (s13 _ _ hG)), atI_nat (j := 0) rfl, _, rfl, cl, F, _, _, rfl, lk (s13 _ _ hC1), ne, fun r hr0 => ?_⟩
        have s5 := same_upd (o := .dK (rowOf F.b (gV g0) (.int (((((T.so k ++ [g0]).map gV).length : Nat) : Int) - 1)))) hr0
        have er : (upd H4 r (.dK (rowOf F.b (gV g0) (.int (((((T.so k ++ [g0]).map gV).length : Nat) : Int) - 1))))) r = some (.dK (rowOf F.b (gV g0) (.int ((T.so k).length : Nat)))) := by
          rw [upd_same, epl]
        refine ⟨(by show 5 ≤ sizeLine; decide), fun a ha => ⟨(by show 1 ≤ sizeLine; decide), fun l hl => ?_⟩⟩
        have s6 := same_upd (o := .tup [.str "add", .str F.b.nm, .int k, .int (((((T.so k ++ [g0]).map gV).length : Nat) : Int) - 1), .ref r]) ha
        have s7 := same_upd (o := .lst [.ref a]) hl
        have ea := s7 _ _ (upd_same (a := a) (o := .tup [.str "add", .str F.b.nm, .int k, .int (((((T.so k ++ [g0]).map gV).length : Nat) : Int) - 1), .ref r]))
        have s57 := (s5.trans s6).trans s7
        refine q l _ _ _ ((Keep.of_same (s1.trans s13)).trans ((k4.mono fun b hb => by rw [List.mem_singleton.mp hb]; exact List.mem_cons_of_mem _ List.mem_cons_self).trans (Keep.of_same s57))) (M4.same s57) ⟨[a], upd_same, rfl, fun i a' st h1' h2' => ?_⟩ (mv_app ne.n h0 h1 hk hin i0) ok.app (by show 1 ≤ 30; decide)
        match i, h1', h2' with
        | 0, h1', h2' =>
          cases Option.some.inj h1'
          cases Option.some.inj h2'
          refine ⟨[.ref r], ?_, fun _ => ⟨r, rfl, (s6.trans s7) _ _ er⟩⟩
          refine Eq.trans ea ?_
          rw [epl]
          rfl
        | i + 1, h1', _ => exact absurd h1' (by simp)
    · refine ifNFe (by rw [intk_has m2]; exact decide_eq_false hin) ?_
      refine ⟨_, rfl, _, rfl, _, rfl, _, rfl, _, rfl, _, rfl, (by show 3 ≤ sizeLine; decide), fun ga hga => ?_⟩
      have s2 : Same H1 (upd H1 ga (.lst [.int k, .non, .non])) := same_upd hga
      have hGa : GoalsAt (upd H1 ga (.lst [.int k, .non, .non])) ga (some k) none none := upd_same
      refine ⟨nl, cl, hd, sd, ga, k, F, T, some k, none, none, rfl, s2 _ _ hN1, s2 _ _ hC1, ne, M1.same s2, ksz, hGa, fun l H3 k3 M3 st3 => ?_⟩
      exact q l H3 _ _ ((Keep.of_same (s1.trans s2)).trans k3) M3 st3 (mv_put ne.n h0 h1 hk (inw_some hk) (inw_none b) (inw_none b)) (ok.put hk (by omega) (by omega)) (Nat.le_trans (putSts_len ..) (by decide))
end K18
end L2
namespace L2
open PySem PySem.Spec PyProof.Rows
namespace K18
variable {P : Program} {w : World} {K : PySem.W.Frag} {mg : Str → Option Value} {base : Heap}

/-! ### rows as the law lists them -/
def RowsAt (H : Hp) (l : Addr) (qs : List Spot) (Z : Spot → V) : Prop := ∃ rs : List Addr, H l = some (.lst (rs.map V.ref)) ∧ rs.length = qs.length ∧ ∀ (i : Nat) (r : Addr) (q : Spot), rs[i]? = some r → qs[i]? = some q → H r = some (.tup [.int q.1, .int q.2, Z q])
theorem RowsAt.same {H H' : Hp} {l : Addr} {qs : List Spot} {Z : Spot → V} (h : RowsAt H l qs Z) (s : Same H H') : RowsAt H' l qs Z := by
  obtain ⟨rs, e1, e2, e3⟩ := h
  exact ⟨rs, s _ _ e1, e2, fun i r q h1 h2 => s _ _ (e3 i r q h1 h2)⟩
theorem RowsAt.snoc {H H' : Hp} {l a : Addr} {qs : List Spot} {Z : Spot → V} {q : Spot} {xs : List V} (h : RowsAt H l qs Z) (hl : H l = some (.lst xs)) (k : Keep [l] H H') (hl' : H' l = some (.lst (xs ++ [.ref a]))) (ha : H' a = some (.tup [.int q.1, .int q.2, Z q])) : RowsAt H' l (qs ++ [q]) Z := by
  obtain ⟨rs, e1, e2, e3⟩ := h
  rw [hl] at e1
  cases e1
  refine ⟨rs ++ [a], by rw [hl', List.map_append]; rfl, by rw [List.length_append, List.length_append, e2]; rfl, fun i r g h1 h2 => ?_⟩
  by_cases hi : i < rs.length
  · rw [List.getElem?_append_left hi] at h1
    rw [List.getElem?_append_left (by omega)] at h2
    have e := e3 i r g h1 h2
    refine k _ _ e fun z => ?_
    rw [List.mem_singleton.mp z, hl] at e
    cases e
  · have hi2 : i = rs.length := by
      have := (List.getElem?_eq_some_iff.mp h1).1
      rw [List.length_append] at this
      have : i < rs.length + 1 := this
      omega
    subst hi2
    rw [List.getElem?_append_right (Nat.le_refl _), Nat.sub_self] at h1
    rw [e2, List.getElem?_append_right (Nat.le_refl _), Nat.sub_self] at h2
    cases Option.some.inj h1
    cases Option.some.inj h2
    exact ha

/-! ### _law_first -/
def spFirst (K : PySem.W.Frag) : Sp := fun vs H Q _ => ∃ (rl hd : Addr) (ks : List Int) (kvs : List (Key × V)) (qs : List Spot) (Z : Spot → V), vs = [.ref rl, .ref hd] ∧ RowsAt H rl qs Z ∧ (∀ q ∈ qs, ∃ g, Z q = gV g) ∧ H hd = some (.dK kvs) ∧ kvs.map (·.1) = ks.map Sum.inl ∧
  (fst_ ks qs Z = none → Q .non H) ∧ ∀ q, fst_ ks qs Z = some q → ∀ p H', Same H H' → H' p = some (.tup [.int q.1, .int q.2]) → Q (.ref p) H'
theorem sc_first : FnScope ["_law_rows", "_law_heads", "_law_key", "_law_place", "_law_goal"] ["_law_rows", "_law_heads"] (defScope (top 44)) := ⟨rfl, rfl, rfl, by decide +kernel, rfl, by decide +kernel, by decide +kernel⟩
theorem cl_first (D : DefAt K mg "_law_first" (top 44)) : Cl P w K mg base 1 "_law_first" (spFirst K) := by
  refine cl_mk D sc_first (fun _ _ _ _ _ _ us hl => match us, hl with | [_, _], _ => rfl) (fun vs H Q E h => ?_) (fun f cdv A outer s H vs Q E hr h => ?_)
  · obtain ⟨rl, hd, ks, kvs, qs, Z, rfl, _⟩ := h
    rfl
  · obtain ⟨rl, hd, ks, kvs, qs, Z, rfl, ⟨rs, hR, hl, hrow⟩, hZ, hh, hk, q0, q1⟩ := h
    have nd := sc_first.nd
    have hu := hu_of hr
    refine ⟨_, pss_cons (ps_for PassesOwn.never rfl (pi_list (pv 0)) (pg_tup rfl (pgs_cons (pg_name (i := 2) nd rfl (Or.inl rfl)) (pgs_cons (pg_name (i := 3) nd rfl (Or.inl rfl)) (pgs_cons (pg_name (i := 4) nd rfl (Or.inl rfl)) pgs_nil))))
      (pss_one (ps_if (PW.pt (pw_and (pt_cmpR op_notN (pv 4) pe_non (nomark _)) (pw_and1 (pt_cmp (pc_dnotin hu (pv 4) (pv 1)))))) (pss_one (ps_ret (pe_tup (pa_cons (pv 2) (pa_cons (pv 3) pa_nil))))) pss_nil)))
      (pss_one (ps_ret pe_non)), ?_⟩
    refine ⟨_, rfl, rl, rfl, ⟨_, SqL.of hR⟩, ?_⟩
    refine for_list (K := K) (a := rl) (xs := rs.map V.ref) (fun i σ H' => H' = H ∧ (∀ q ∈ qs.take i, badK ks (Z q) = false) ∧ ∃ o2 o3 o4, σ = [some (.ref rl), some (.ref hd), o2, o3, o4]) ⟨rfl, fun q h => absurd h (by simp), _, _, _, rfl⟩ (fun i σ H' _ pp => by rw [pp.1]; exact SqL.of hR) ?_ ?_
    · rintro i x σ H' hx ⟨rfl, hb, o2, o3, o4, rfl⟩
      rw [List.getElem?_map] at hx
      obtain ⟨r, hr1, rfl⟩ := Option.map_eq_some_iff.mp hx
      have hi : i < qs.length := by
        rw [← hl]
        exact (List.getElem?_eq_some_iff.mp hr1).1
      obtain ⟨q, hq⟩ : ∃ q, qs[i]? = some q := ⟨qs[i], List.getElem?_eq_getElem hi⟩
      have ht := hrow i r q hr1 hq
      obtain ⟨g, hg⟩ := hZ q (List.mem_of_getElem? hq)
      have step : badK ks (Z q) = false → ∀ q' ∈ qs.take (i + 1), badK ks (Z q') = false := fun h q' hq' => by
        rw [take_at hq] at hq'
        rcases List.mem_append.mp hq' with z | z
        · exact hb q' z
        · rw [List.mem_singleton.mp z]
          exact h
      refine ⟨r, _, rfl, SqT.of ht, rfl, _, _, rfl, _, _, rfl, _, _, rfl, rfl, ?_⟩
      cases g with
      | none =>
        refine ⟨_, rfl, rfl, _, rfl, ifNY hg (iteF ?_)⟩
        exact ⟨rfl, step (by rw [hg]; rfl), _, _, _, rfl⟩
      | some k =>
        refine ⟨_, rfl, rfl, _, rfl, ifNN (fun z => by rw [hg] at z; cases z) ?_⟩
        refine ⟨_, rfl, _, rfl, hd, _, rfl, (by rw [hg]; exact DGet.k (k := Sum.inl k) hh), _, rfl, ?_⟩
        by_cases hin : k ∈ ks
        · refine ifNTe (by rw [intk_has hk]; exact decide_eq_true hin) ?_
          exact ⟨rfl, step (by rw [hg]; show (!decide (k ∈ ks)) = false; rw [decide_eq_true hin]; rfl), _, _, _, rfl⟩
        · refine ifNFe (by rw [intk_has hk]; exact decide_eq_false hin) ?_
          refine ⟨_, rfl, _, rfl, (by show 2 ≤ sizeLine; decide), fun p hp => q1 q ?_ p _ (same_upd hp) upd_same⟩
          exact find_at hq (by rw [hg]; show (!decide (k ∈ ks)) = true; rw [decide_eq_false hin]; rfl) hb
    · rintro σ H' ⟨rfl, hb, _⟩
      refine q0 (List.find?_eq_none.mpr fun q hq => ?_)
      rw [List.length_map, hl, List.take_length] at hb
      rw [hb q hq]
      decide

/-! ### _law_due -/
def spDue : Sp := fun vs H Q _ => ∃ (nl hd sd : Addr) (F : Frm) (T : Tb), vs = [.ref nl, .ref hd, .ref sd] ∧ NamesAt H nl F ∧ MapsAt H hd sd T ∧ T.ks.length ≤ 60 ∧ ((cB F T).L T.ks).length ≤ 1000 ∧
  (dueK F T = none → ∀ p l H', Same H H' → H' p = some (.tup [.str "done", .ref l]) → H' l = some (.lst []) → Q (.ref p) H') ∧
  (∀ nm q, dueK F T = some (nm, q) → ∀ p H', Same H H' → H' p = some (.tup [.str "Nowhere", .str nm, .int q.1, .int q.2]) → Q (.ref p) H')
theorem sc_due : FnScope ["_law_names_here", "_law_heads", "_law_some", "_law_k", "_law_key", "_law_found", "_law_rows", "_law_place", "_law_goal"] ["_law_names_here", "_law_heads", "_law_some"] (defScope (top 45)) := ⟨rfl, rfl, rfl, by decide +kernel, rfl, by decide +kernel, by decide +kernel⟩
theorem cl_due (D : DefAt K mg "_law_due" (top 45)) (G : Gs mg) (C1 : Cl P w K mg base 1 "_law_first" (spFirst K)) : Cl P w K mg base 2 "_law_due" spDue := by
  refine cl_mk D sc_due (fun _ _ _ _ _ _ us hl => match us, hl with | [_, _, _], _ => rfl) (fun vs H Q E h => ?_) (fun f cdv A outer s H vs Q E hr h => ?_)
  · obtain ⟨nl, hd, sd, F, T, rfl, _⟩ := h
    rfl
  · obtain ⟨nl, hd, sd, F, T, rfl, hN, M, h60, h1000, q0, q1⟩ := h
    have nd := sc_due.nd
    have hu := hu_of hr
    refine ⟨_, pss_cons (ps_for PassesOwn.never rfl (pi_range1 (by rfl) G.range (pa_cons pe_int pa_nil)) (pg_name (i := 3) nd rfl (Or.inr rfl))
        (pss_cons (ps_set (i := 5) nd rfl (Or.inl rfl) (pe_cl C1 hr (by decide) (by rfl) (pa_cons (pe_lc (own := [("_law_key", 4)]) (g := gName 4) (tt := tYes) rfl nd (pi_list (pe_callB (call_sortedDI rfl) (by rfl) G.sorted PyProof.Rows.boot_sorted (pa_cons (pv 1) pa_nil)))
            (blkOk_by (N := ["_law_names_here", "_law_heads", "_law_some", "_law_k", "_law_key", "_law_found", "_law_rows", "_law_place", "_law_goal"]) (sc := defScope (top 45)) (by decide +kernel))
            (fun _ _ _ _ _ => pg_name (i := 4) nd rfl (Or.inl rfl)) (fun _ _ _ _ _ => pts_nil)
            (fun _ _ _ _ _ => pe_tup (pa_cons (pv 4) (pa_cons pe_int (pa_cons (pe_ix (ixL (K := K) rfl) (pe_dget hu (pv 1) (pv 4) (fun _ _ => rfl)) (pv 3) (fun _ _ => rfl)) pa_nil))))) (pa_cons (pv 1) pa_nil))))
        (pss_one (ps_if (pt_cmpR op_notN (pv 5) pe_non (nomark _)) (pss_one (ps_ret (pe_tup (pa_cons pe_str (pa_cons (pe_ix ix_list (pv 0) pe_int (fun _ _ => rfl)) (pa_cons (pe_ix ix_tup (pv 5) pe_int (fun _ _ => rfl)) (pa_cons (pe_ix ix_tup (pv 5) pe_int (fun _ _ => rfl)) pa_nil))))))) pss_nil))))
      (pss_cons (ps_set (i := 6) nd rfl (Or.inl rfl) (pe_lst pa_nil))
      (pss_cons (ps_for PassesOwn.never rfl (pi_list (pe_callB (call_sortedDI rfl) (by rfl) G.sorted PyProof.Rows.boot_sorted (pa_cons (pv 2) pa_nil))) (pg_name (i := 4) nd rfl (Or.inl rfl))
        (pss_one (ps_for PassesOwn.never rfl (pi_enum (by rfl) G.enumerate (pa_cons (pe_dget hu (pv 2) (pv 4) (fun _ _ => rfl)) pa_nil)) (pg_tup rfl (pgs_cons (pg_name (i := 7) nd rfl (Or.inl rfl)) (pgs_cons (pg_name (i := 8) nd rfl (Or.inl rfl)) pgs_nil)))
          (pss_one (ps_expr (pe_bm PySem.F.plainAttrs_list PySem.F.slot_list_append PySem.F.type_list_append mt_append (pv 6) (pa_cons (pe_tup (pa_cons (pv 4) (pa_cons (pv 7) (pa_cons (pv 8) pa_nil)))) pa_nil)))))))
      (pss_cons (ps_set (i := 5) nd rfl (Or.inl rfl) (pe_cl C1 hr (by decide) (by rfl) (pa_cons (pv 6) (pa_cons (pv 1) pa_nil))))
      (pss_cons (ps_if (pt_cmpR op_notN (pv 5) pe_non (nomark _)) (pss_one (ps_ret (pe_tup (pa_cons pe_str (pa_cons (pe_ix ix_list (pv 0) pe_int (fun _ _ => rfl)) (pa_cons (pe_ix ix_tup (pv 5) pe_int (fun _ _ => rfl)) (pa_cons (pe_ix ix_tup (pv 5) pe_int (fun _ _ => rfl)) pa_nil))))))) pss_nil)
      (pss_one (ps_ret (pe_tup (pa_cons pe_str (pa_cons (pe_lst pa_nil) pa_nil))))))))), ?_⟩
    obtain ⟨kvh, m1, m2, m3⟩ := id M.h
    obtain ⟨kvs, c1, c2, c3⟩ := id M.s
    have klen : (srtI T.ks).length = T.ks.length := len_srt _
    have kmem : ∀ k, k ∈ srtI T.ks → k ∈ T.ks := fun k h => (srtI_perm _).mem_iff.mp h
    refine ⟨2, rfl, by decide, by decide, ?_⟩
    refine for_range (fun i σ H' => Same H H' ∧ ((1 ≤ i → fst_ T.ks ((srtI T.ks).map fun k => (k, 0)) (cA F T).X = none) ∧ (2 ≤ i → fst_ T.ks ((srtI T.ks).map fun k => (k, 0)) (cA F T).Y = none)) ∧ ∃ o3 o4 o5, σ = [some (.ref nl), some (.ref hd), some (.ref sd), o3, o4, o5, none, none, none])
      ⟨Same.refl _, ⟨fun h => absurd h (by decide), fun h => absurd h (by decide)⟩, _, _, _, rfl⟩ ?_ ?_
    · rintro i σ H1 hi ⟨s1, hpr, o3, o4, o5, rfl⟩
      have hi2 : i < 2 := hi
      obtain ⟨Z, hZp, hZv, hdue, hnext⟩ : ∃ Z : Spot → V, (∀ q, ∃ g, Z q = gV g) ∧ (∀ k g2, ([gV (T.h0 k), gV (T.h1 k), g2] : List V)[i]? = some (Z (k, 0))) ∧ (∀ q, fst_ T.ks ((srtI T.ks).map fun k => (k, 0)) Z = some q → dueK F T = some (F.a.nm, q)) ∧
          (fst_ T.ks ((srtI T.ks).map fun k => (k, 0)) Z = none → (1 ≤ i + 1 → fst_ T.ks ((srtI T.ks).map fun k => (k, 0)) (cA F T).X = none) ∧ (2 ≤ i + 1 → fst_ T.ks ((srtI T.ks).map fun k => (k, 0)) (cA F T).Y = none)) := by
        have hi3 : i = 0 ∨ i = 1 := by omega
        rcases hi3 with rfl | rfl
        · refine ⟨(cA F T).X, fun q => ⟨_, rfl⟩, fun k g2 => rfl, fun q h => ?_, fun h => ⟨fun _ => h, fun z => absurd z (by decide)⟩⟩
          unfold dueK
          rw [h]
        · refine ⟨(cA F T).Y, fun q => ⟨_, rfl⟩, fun k g2 => rfl, fun q h => ?_, fun h => ⟨fun _ => hpr.1 (Nat.le_refl _), fun _ => h⟩⟩
          unfold dueK
          rw [hpr.1 (Nat.le_refl _), h]
      refine ⟨_, rfl, hd, kvh, T.ks, rfl, .inl (s1 _ _ m1), m2, by omega, fun ys ps hperm hsort hps => ?_⟩
      rw [srtI_uniq hperm hsort]
      have s2 : Same H1 (upd H1 ps (.lst ((srtI T.ks).map V.int))) := same_upd hps
      have hps2 : (upd H1 ps (.lst ((srtI T.ks).map V.int))) ps = some (.lst ((srtI T.ks).map V.int)) := upd_same
      generalize upd H1 ps (.lst ((srtI T.ks).map V.int)) = H2 at s2 hps2
      refine ⟨ps, rfl, ⟨_, SqL.of hps2⟩, fun D hD => ?_⟩
      refine lc_list (K := K) (a := ps) (xs := (srtI T.ks).map V.int) (fun j H' => Same H2 H' ∧ RowsAt H' D (((srtI T.ks).take j).map fun k => (k, 0)) Z) ⟨same_upd hD, [], upd_same, rfl, fun i r q h => absurd h (by simp)⟩ (fun j H' _ p => SqL.of (p.1 _ _ hps2)) ?_ ?_
      · rintro j x H3 hx ⟨s3, R3⟩
        rw [List.getElem?_map] at hx
        obtain ⟨k, hk, rfl⟩ := Option.map_eq_some_iff.mp hx
        have hkm := kmem k (List.mem_of_getElem? hk)
        obtain ⟨lh, g2, v1, v2⟩ := m3 k hkm
        have s13 := (s1.trans s2).trans s3
        have gh : DGet H3 hd (.int k) (some (.ref lh)) := by
          have g := DGet.k (k := Sum.inl k) (s13 _ _ m1)
          rw [v1] at g
          exact g
        obtain ⟨rs, e1, e2, e3⟩ := id R3
        refine lcY rfl ⟨_, rfl, _, rfl, _, rfl, hd, _, rfl, gh, _, rfl, lh, _, _, _, rfl, rfl, SqL.of (s13 _ _ v2), (by rw [Int.zero_add]; exact atI_nat (hZv k g2)), (by show 3 ≤ sizeLine; decide), fun p hp => ?_⟩
        have s4 : Same H3 (upd H3 p (.tup [.int k, .int 0, Z (k, 0)])) := same_upd hp
        have hlt : (rs.map V.ref).length < sizeLine := by
          rw [List.length_map, e2, List.length_map, List.length_take]
          exact Nat.lt_of_le_of_lt (Nat.le_trans (Nat.min_le_right _ _) (by rw [klen]; exact h60)) (by decide)
        have hpD : p ≠ D := fun z => by
          rw [z, e1] at hp
          cases hp
        refine ⟨_, s4 _ _ e1, hlt, same_updD (s3.trans s4) hD, ?_⟩
        rw [take_at hk, List.map_append]
        refine RowsAt.snoc (a := p) (q := (k, 0)) R3 e1 ((Keep.of_same s4).trans keep_upd) upd_same ?_
        rw [upd_ne hpD]
        exact upd_same
      · rintro H3 ⟨s3, R3⟩
        rw [List.length_map, List.take_length] at R3
        have s13 := (s1.trans s2).trans s3
        refine ⟨_, rfl, D, hd, T.ks, kvh, _, Z, rfl, R3, fun q _ => hZp q, s13 _ _ m1, m2, fun hf => ?_, fun q hf p H4 s4 hp => ?_⟩
        · refine ⟨_, rfl, rfl, _, rfl, ifNY rfl ?_⟩
          exact ⟨s13, hnext hf, _, _, _, rfl⟩
        · refine ⟨_, rfl, rfl, _, rfl, ifNN (fun z => nomatch z) ?_⟩
          refine ⟨_, rfl, nl, _, _, _, rfl, rfl, SqL.of ((s13.trans s4) _ _ hN), atI_nat (j := 0) rfl, _, rfl, p, _, _, _, rfl, rfl, SqT.of hp, atI_nat (j := 0) rfl, _, rfl, p, _, _, _, rfl, rfl, SqT.of hp, atI_nat (j := 1) rfl, (by show 4 ≤ sizeLine; decide), fun a ha => ?_⟩
          exact q1 F.a.nm q (hdue q hf) a _ ((s13.trans s4).trans (same_upd ha)) upd_same
    · rintro σ H1 ⟨s1, hpr, o3, o4, o5, rfl⟩
      have hX := hpr.1 (by decide)
      have hY := hpr.2 (by decide)
      refine ⟨(by show 0 ≤ sizeLine; decide), fun rl hrl => ?_⟩
      have s2 : Same H1 (upd H1 rl (.lst [])) := same_upd hrl
      have hrl2 : (upd H1 rl (.lst [])) rl = some (.lst []) := upd_same
      generalize upd H1 rl (.lst []) = H2 at s2 hrl2
      have h0rl : H rl = none := by
        cases e : H rl with
        | none => rfl
        | some o =>
          rw [s1 _ _ e] at hrl
          cases hrl
      have s12 := s1.trans s2
      refine ⟨_, rfl, sd, kvs, T.ks, rfl, .inl (s12 _ _ c1), c2, by omega, fun ys ps hperm hsort hps => ?_⟩
      rw [srtI_uniq hperm hsort]
      have s3 : Same H2 (upd H2 ps (.lst ((srtI T.ks).map V.int))) := same_upd hps
      have hps3 : (upd H2 ps (.lst ((srtI T.ks).map V.int))) ps = some (.lst ((srtI T.ks).map V.int)) := upd_same
      generalize upd H2 ps (.lst ((srtI T.ks).map V.int)) = H3 at s3 hps3
      have psrl : ps ≠ rl := fun z => by
        rw [z, hrl2] at hps
        cases hps
      refine ⟨ps, rfl, ⟨_, SqL.of hps3⟩, ?_⟩
      have total : ∀ j k, (srtI T.ks)[j]? = some k → (spots (cB F T).n ((srtI T.ks).take j)).length + (T.so k).length ≤ 1000 := fun j k hk => by
        have h1 := spots_pre (n := (cB F T).n) hk
        have h2 : (spots (cB F T).n (srtI T.ks)).length = ((cB F T).L T.ks).length := by
          have e : (spots (cB F T).n (srtI T.ks)).Perm (spots (cB F T).n T.ks) := by
            unfold spots
            exact (srtI_perm T.ks).flatMap_right _
          exact e.length_eq
        have h3 : (cB F T).n k = (T.so k).length := rfl
        omega
      refine for_list (K := K) (a := ps) (xs := (srtI T.ks).map V.int) (fun j σ H' => Same H H' ∧ H' ps = some (.lst ((srtI T.ks).map V.int)) ∧ RowsAt H' rl (spots (cB F T).n ((srtI T.ks).take j)) (cB F T).X ∧ ∃ o3 o4 o5 o7 o8, σ = [some (.ref nl), some (.ref hd), some (.ref sd), o3, o4, o5, some (.ref rl), o7, o8])
        ⟨s12.trans s3, hps3, ⟨[], s3 _ _ hrl2, rfl, fun i r q h => absurd h (by simp)⟩, _, _, _, _, _, rfl⟩ (fun j σ H' _ p => SqL.of p.2.1) ?_ ?_
      · rintro j x σ H4 hx ⟨s4, hps4, R4, o3, o4, o5, o7, o8, rfl⟩
        rw [List.getElem?_map] at hx
        obtain ⟨k, hk, rfl⟩ := Option.map_eq_some_iff.mp hx
        have hkm := kmem k (List.mem_of_getElem? hk)
        obtain ⟨ls, v1, v2⟩ := c3 k hkm
        have gs : DGet H4 sd (.int k) (some (.ref ls)) := by
          have g := DGet.k (k := Sum.inl k) (s4 _ _ c1)
          rw [v1] at g
          exact g
        have tot := total j k hk
        refine ⟨_, rfl, _, rfl, sd, _, rfl, gs, ls, _, rfl, SqL.of (s4 _ _ v2), ?_⟩
        refine for_it walk_enum (fun m σ H' => Same H H' ∧ H' ps = some (.lst ((srtI T.ks).map V.int)) ∧ RowsAt H' rl (spots (cB F T).n ((srtI T.ks).take j) ++ spotsOf k m) (cB F T).X ∧ ∃ o3 o5 o7 o8, σ = [some (.ref nl), some (.ref hd), some (.ref sd), o3, some (.int k), o5, some (.ref rl), o7, o8])
          ⟨s4, hps4, by simpa [spotsOf] using R4, _, _, _, _, rfl⟩ (fun m σ H' _ p => SqL.of (p.1 _ _ v2)) ?_ ?_
        · rintro m z σ H5 H6 hm ⟨s5, hps5, R5, o3, o5, o7, o8, rfl⟩ ⟨Tu, y, x, rfl, hTu, rfl, ey, ex⟩
          cases Option.some.inj ey
          have ex2 : ((T.so k).map gV)[m]? = some x := ex
          rw [List.getElem?_map] at ex2
          obtain ⟨g, hg, rfl⟩ := Option.map_eq_some_iff.mp ex2
          rw [List.length_map] at hm
          have s6 : Same H5 (upd H5 Tu (.tup [.int (m : Nat), gV g])) := same_upd hTu
          obtain ⟨rs, e1, e2, e3⟩ := id R5
          refine ⟨Tu, _, rfl, SqT.of upd_same, rfl, _, _, rfl, _, _, rfl, rfl, ?_⟩
          refine ⟨_, rfl, .inl ⟨rfl, _, SqL.of (s6 _ _ e1)⟩, _, rfl, _, rfl, _, rfl, (by show 3 ≤ sizeLine; decide), fun a ha => ?_⟩
          have s7 : Same H5 (upd (upd H5 Tu (.tup [.int (m : Nat), gV g])) a (.tup [.int k, .int (m : Nat), gV g])) := s6.trans (same_upd ha)
          have hlt : (rs.map V.ref).length < sizeLine := by
            rw [List.length_map, e2, List.length_append]
            have e4 : (spotsOf k m).length = m := by
              unfold spotsOf
              rw [List.length_map, List.length_range]
            exact Nat.lt_of_le_of_lt (by omega : _ ≤ 1000) (by decide)
          have harl : a ≠ rl := fun z => by
            rw [z, s6 _ _ e1] at ha
            cases ha
          refine ⟨rl, _, _, rfl, rfl, s7 _ _ e1, hlt, ?_⟩
          have k8 : Keep [rl] H5 (upd (upd (upd H5 Tu (.tup [.int (m : Nat), gV g])) a (.tup [.int k, .int (m : Nat), gV g])) rl (.lst (rs.map V.ref ++ [.ref a]))) := (Keep.of_same s7).trans keep_upd
          refine ⟨fun b o e => k8 _ _ (s5 _ _ e) (by simpa using ne_of_none e h0rl), k8 _ _ hps5 (by simpa using psrl), ?_, _, _, _, _, rfl⟩
          rw [spotsOf_succ, ← List.append_assoc]
          refine RowsAt.snoc (a := a) (q := (k, (m : Int))) R5 e1 k8 upd_same ?_
          rw [upd_ne harl, upd_same]
          show some (HO.tup [V.int k, V.int (m : Int), gV g]) = some (HO.tup [V.int k, V.int (m : Int), gV ((T.so k).getD ((m : Int)).toNat none)])
          rw [Int.toNat_natCast, List.getD_eq_getElem?_getD, hg]
          rfl
        · rintro σ H5 ⟨s5, hps5, R5, o3, o5, o7, o8, rfl⟩
          rw [List.length_map] at R5
          refine ⟨s5, hps5, ?_, _, _, _, _, _, rfl⟩
          rw [take_at hk, spots_snoc]
          exact R5
      · rintro σ H4 ⟨s4, hps4, R4, o3, o4, o5, o7, o8, rfl⟩
        rw [List.length_map, List.take_length] at R4
        refine ⟨_, rfl, _, rfl, rl, hd, T.ks, kvh, _, _, rfl, R4, fun q _ => ⟨_, rfl⟩, s4 _ _ m1, m2, fun hf => ?_, fun q hf p H5 s5 hp => ?_⟩
        · refine ⟨_, rfl, rfl, _, rfl, ifNY rfl ?_⟩
          refine ⟨(by show 0 ≤ sizeLine; decide), fun e he => ⟨(by show 2 ≤ sizeLine; decide), fun p hp => ?_⟩⟩
          refine q0 ?_ p e _ ((s4.trans (same_upd he)).trans (same_upd hp)) upd_same (same_upd hp _ _ upd_same)
          unfold dueK
          rw [hX, hY, hf]
          rfl
        · refine ⟨_, rfl, rfl, _, rfl, ifNN (fun z => nomatch z) ?_⟩
          refine ⟨_, rfl, nl, _, _, _, rfl, rfl, SqL.of ((s4.trans s5) _ _ hN), atI_nat (j := 1) rfl, _, rfl, p, _, _, _, rfl, rfl, SqT.of hp, atI_nat (j := 0) rfl, _, rfl, p, _, _, _, rfl, rfl, SqT.of hp, atI_nat (j := 1) rfl, (by show 4 ≤ sizeLine; decide), fun a ha => ?_⟩
          refine q1 F.b.nm q ?_ a _ ((s4.trans s5).trans (same_upd ha)) upd_same
          unfold dueK
          rw [hX, hY, hf]
          rfl
end K18
end L2
namespace L2
open PySem PySem.Spec PyProof.Rows
namespace K18
variable {P : Program} {w : World} {K : PySem.W.Frag} {mg : Str → Option Value} {base : Heap}

/-! ### _law_things -/
def spThings (K : PySem.W.Frag) : Sp := fun vs H Q _ => ∃ (nl cl hd sd : Addr) (F : Frm) (T : Tb), vs = [.ref nl, .ref cl, .ref hd, .ref sd] ∧ NamesAt H nl F ∧ ColsAt H cl F ∧ NeF F ∧ MapsAt H hd sd T ∧ T.ks.length ≤ 1000 ∧ (∀ k ∈ T.ks, (T.so k).length ≤ 1000) ∧
  ∀ th H', Same H H' → ThingsAt H' th F T → Q (.ref th) H'
theorem sc_things : FnScope ["_law_names_here", "_law_columns", "_law_heads", "_law_some", "_law_things_here", "_law_key", "_law_place", "_law_goal", "_law_rows"] ["_law_names_here", "_law_columns", "_law_heads", "_law_some"] (defScope (top 46)) := ⟨rfl, rfl, rfl, by decide +kernel, rfl, by decide +kernel, by decide +kernel⟩
/-- the things of a prefix of the keys -/
structure PartAt (H : Hp) (th : Addr) (F : Frm) (T : Tb) (ks : List Int) : Prop where
  ex : ∃ kvs : List (Key × V), H th = some (.dK kvs) ∧ kvs.map (·.1) = ks.map Sum.inl ∧ ∀ k ∈ ks, ∃ pc la lb, valV kvs (Sum.inl k) = some (.ref pc) ∧ H pc = some (.dK [(Sum.inr F.a.nm, .ref la), (Sum.inr F.b.nm, .ref lb)]) ∧ LstAt H la (cA F T) k ∧ LstAt H lb (cB F T) k
theorem PartAt.keep {H H' : Hp} {th d : Addr} {F : Frm} {T : Tb} {ks js : List Int} {kvd : List (Key × V)} {od : Obj} (h : PartAt H th F T ks) (hd : H d = some (.frz od (.dK kvd))) (hk : kvd.map (·.1) = js.map Sum.inl) (k : Keep [d] H H') : PartAt H' th F T ks := by
  obtain ⟨kvs, e1, e2, e3⟩ := h.ex
  have no : ∀ b o, H b = some o → (∀ u, o ≠ .frz od u) → H' b = some o := fun b o e n => k _ _ e fun z => by
    rw [List.mem_singleton.mp z, hd] at e
    exact n _ (Option.some.inj e).symm
  refine ⟨kvs, no _ _ e1 (fun _ z => nomatch z), e2, fun j hj => ?_⟩
  obtain ⟨pc, la, lb, g1, g2, ⟨rs, a1, a2, a3⟩, ⟨ts, b1, b2, b3⟩⟩ := e3 j hj
  exact ⟨pc, la, lb, g1, no _ _ g2 (fun _ z => nomatch z), ⟨rs, no _ _ a1 (fun _ z => nomatch z), a2, fun i r hr => no _ _ (a3 i r hr) (fun _ z => nomatch z)⟩, ⟨ts, no _ _ b1 (fun _ z => nomatch z), b2, fun i r hr => no _ _ (b3 i r hr) (fun _ z => nomatch z)⟩⟩
theorem cl_things (D : DefAt K mg "_law_things" (top 46)) (G : Gs mg) (C1 : Cl P w K mg base 1 "_law_some_row" (spSomeRow K)) : Cl P w K mg base 2 "_law_things" (spThings K) := by
  refine cl_mk D sc_things (fun _ _ _ _ _ _ us hl => match us, hl with | [_, _, _, _], _ => rfl) (fun vs H Q E h => ?_) (fun f cdv A outer s H vs Q E hr h => ?_)
  · obtain ⟨nl, cl, hd, sd, F, T, rfl, _⟩ := h
    rfl
  · obtain ⟨nl, cl, hd, sd, F, T, rfl, hN, hC, ne, M, hks, hso, q⟩ := h
    have nd := sc_things.nd
    have hu := hu_of hr
    refine ⟨_, pss_cons (ps_set (i := 4) nd rfl (Or.inl rfl) pe_dnewK)
      (pss_cons (ps_lock (ps_for PassesOwn.never rfl (pi_keys (pv 2)) (pg_name (i := 5) nd rfl (Or.inl rfl))
        (pss_cons (ps_setLc (i := 8) (own := [("_law_place", 6), ("_law_goal", 7)]) (g := gTup K 2 (gCons (gName 6) (gCons (gName 7) gNil))) (tt := tYes) rfl nd rfl rfl rfl (pi_enum (by rfl) G.enumerate (pa_cons (pe_dget hu (pv 3) (pv 5) (fun _ _ => rfl)) pa_nil))
            (blkOk_by (N := ["_law_names_here", "_law_columns", "_law_heads", "_law_some", "_law_things_here", "_law_key", "_law_place", "_law_goal", "_law_rows"]) (sc := defScope (top 46)) (by decide +kernel))
            (fun _ _ _ _ _ => pg_tup rfl (pgs_cons (pg_name (i := 6) nd rfl (Or.inl rfl)) (pgs_cons (pg_name (i := 7) nd rfl (Or.inl rfl)) pgs_nil))) (fun _ _ _ _ _ => pts_nil)
            (fun _ _ _ _ _ => pe_cl C1 hr (by decide) (by rfl) (pa_cons (pv 1) (pa_cons (pv 7) (pa_cons (pv 6) pa_nil)))))
        (pss_one (ps_dput hu (pv 4) (pv 5) (pe_disp (pps_cons (pe_ix ix_list (pv 0) pe_int (fun _ _ => rfl))
            (pe_lst (pa_cons (pe_disp (pps_cons (pe_ix ix_list (pv 1) pe_int (fun _ _ => rfl)) (pe_ix ix_list (pe_dget hu (pv 2) (pv 5) (fun _ _ => rfl)) pe_int (fun _ _ => rfl))
              (pps_cons (pe_ix ix_list (pv 1) pe_int (fun _ _ => rfl)) (pe_ix ix_list (pe_dget hu (pv 2) (pv 5) (fun _ _ => rfl)) pe_int (fun _ _ => rfl)) pps_nil)) rfl rfl (fun z => nomatch z) (by decide)) pa_nil))
            (pps_cons (pe_ix ix_list (pv 0) pe_int (fun _ _ => rfl)) (pv 8) pps_nil)) rfl rfl (fun z => nomatch z) (by decide)) rfl)))))
      (pss_one (ps_ret (pv 4)))), ?_⟩
    obtain ⟨kvh, m1, m2, m3⟩ := id M.h
    obtain ⟨kvs, c1, c2, c3⟩ := id M.s
    have klen := intk_len m2
    intro th hth
    have s1 : Same H (upd H th (.dK [])) := same_upd hth
    have hth1 : (upd H th (.dK [])) th = some (.dK []) := upd_same
    generalize upd H th (.dK []) = H1 at s1 hth1
    refine ⟨hd, _, s1 _ _ m1, True.intro, fun od => ?_⟩
    have kL : Keep [hd] H1 (upd H1 hd (.frz od (.dK kvh))) := keep_upd
    have hhl : (upd H1 hd (.frz od (.dK kvh))) hd = some (.frz od (.dK kvh)) := upd_same
    have hhth : hd ≠ th := ne_of_none m1 hth
    have hthl : (upd H1 hd (.frz od (.dK kvh))) th = some (.dK []) := kL _ _ hth1 (by simpa using hhth.symm)
    have lkl : ∀ {b : Addr} {xs : List V}, H b = some (.lst xs) → (upd H1 hd (.frz od (.dK kvh))) b = some (.lst xs) := fun {b xs} e => kL _ _ (s1 _ _ e) fun z => by
      rw [List.mem_singleton.mp z, m1] at e
      cases e
    have sdl : (upd H1 hd (.frz od (.dK kvh))) sd = some (.dK kvs) := kL _ _ (s1 _ _ c1) (by simpa using M.ne.symm)
    have hun : ∀ {H' : Hp}, Keep [th] (upd H1 hd (.frz od (.dK kvh))) H' → Keep [th] H1 (upd H' hd (.dK kvh)) := fun {H'} k => unlock_keep (s1 _ _ m1) k
    generalize upd H1 hd (.frz od (.dK kvh)) = Hl at kL hhl hthl lkl sdl hun
    refine ⟨_, rfl, hd, od, rfl, .inl ⟨kvh, hhl, ?_⟩⟩
    refine for_it walk_keys (fun j σ H' => Keep [th] Hl H' ∧ PartAt H' th F T (T.ks.take j) ∧ ∃ o5 o8, σ = [some (.ref nl), some (.ref cl), some (.ref hd), some (.ref sd), some (.ref th), o5, none, none, o8])
      ⟨Keep.refl _, ⟨[], hthl, rfl, fun k hk => absurd hk (by simp)⟩, _, _, rfl⟩ (fun j σ H' _ p => p.1 _ _ hhl (by simpa using hhth)) ?_ ?_
    · rintro j x σ H2 H2' hj ⟨k2, PA, o5, o8, rfl⟩ ⟨rfl, kk, vv, hkk, rfl⟩
      have e1 : (kvh.map (·.1))[j]? = some kk := by rw [List.getElem?_map, hkk]; rfl
      rw [m2, List.getElem?_map] at e1
      obtain ⟨key, hkey, rfl⟩ := Option.map_eq_some_iff.mp e1
      have hkm : key ∈ T.ks := List.mem_of_getElem? hkey
      obtain ⟨lh, g2, v1, v2⟩ := m3 key hkm
      obtain ⟨ls, u1, u2⟩ := c3 key hkm
      have k02 : ∀ {b : Addr} {o : HO}, Hl b = some o → b ≠ th → H2' b = some o := fun e n => k2 _ _ e (by simpa using n)
      have nth : ∀ {b : Addr} {o : HO}, H b = some o → b ≠ th := fun e => ne_of_none e hth
      have lst2 : ∀ {b : Addr} {xs : List V}, H b = some (.lst xs) → H2' b = some (.lst xs) := fun e => k02 (lkl e) (nth e)
      have hd2 := k02 hhl hhth
      have sd2 := k02 sdl (nth c1)
      have gh : ∀ {H' : Hp}, H' hd = some (.frz od (.dK kvh)) → DGet H' hd (.int key) (some (.ref lh)) := fun {H'} e => .inl ⟨kvh, Sum.inl key, .inr ⟨od, e⟩, rfl, v1.symm⟩
      have gs : DGet H2' sd (.int key) (some (.ref ls)) := by
        have g := DGet.k (k := Sum.inl key) sd2
        rw [u1] at g
        exact g
      refine ⟨_, rfl, _, rfl, sd, _, rfl, gs, ls, _, rfl, SqL.of (lst2 u2), fun D hD => ?_⟩
      have hDth : D ≠ th := fun z => by
        obtain ⟨kk, e, _⟩ := PA.ex
        rw [z, e] at hD
        cases hD
      refine lc_it walk_enum (fun m H' => Same H2' H' ∧ ∃ rs : List Addr, H' D = some (.lst (rs.map V.ref)) ∧ rs.length = m ∧ ∀ (i : Nat) r, rs[i]? = some r → H' r = some (.dK (rowOf F.b ((cB F T).X (key, (i : Int))) ((cB F T).Y (key, (i : Int))))))
        ⟨same_upd hD, [], upd_same, rfl, fun i r h => absurd h (by simp)⟩ (fun m H' _ p => SqL.of (p.1 _ _ (lst2 u2))) ?_ ?_
      · rintro m z H3 H4 hm ⟨s3, rs, r1, r2, r3⟩ ⟨Tu, y, x, rfl, hTu, rfl, ey, ex⟩
        cases Option.some.inj ey
        have ex2 : ((T.so key).map gV)[m]? = some x := ex
        rw [List.getElem?_map] at ex2
        obtain ⟨g, hg, rfl⟩ := Option.map_eq_some_iff.mp ex2
        rw [List.length_map] at hm
        have s4 : Same H3 (upd H3 Tu (.tup [.int (m : Nat), gV g])) := same_upd hTu
        have s24 := s3.trans s4
        refine ⟨Tu, _, rfl, SqT.of upd_same, rfl, _, _, rfl, _, _, rfl, rfl, lcY rfl ?_⟩
        refine ⟨_, rfl, _, rfl, _, rfl, cl, F, _, _, rfl, s24 _ _ (lst2 hC), ne, fun r hr0 => ?_⟩
        have s5 : Same H3 (upd (upd H3 Tu (.tup [.int (m : Nat), gV g])) r (.dK (rowOf F.b (gV g) (.int (m : Nat))))) := s4.trans (same_upd hr0)
        have hrD : r ≠ D := fun z => by
          rw [z, s4 _ _ r1] at hr0
          cases hr0
        have hlt : (rs.map V.ref).length < sizeLine := by
          rw [List.length_map, r2]
          exact Nat.lt_of_lt_of_le hm (Nat.le_trans (hso key hkm) (by decide))
        refine ⟨_, s5 _ _ r1, hlt, same_updD (s3.trans s5) hD, rs ++ [r], by rw [upd_same, List.map_append]; rfl, by rw [List.length_append, r2]; rfl, fun i r' hi => ?_⟩
        by_cases hmj : i < m
        · rw [List.getElem?_append_left (by omega)] at hi
          have h6 := r3 i r' hi
          have hrD' : r' ≠ D := fun z => by
            rw [z, r1] at h6
            cases h6
          rw [upd_ne hrD']
          exact s5 _ _ h6
        · have hmj2 : i = m := by
            have := (List.getElem?_eq_some_iff.mp hi).1
            rw [List.length_append, r2] at this
            have : i < m + 1 := this
            omega
          subst hmj2
          rw [List.getElem?_append_right (by omega), r2, Nat.sub_self] at hi
          cases Option.some.inj hi
          rw [upd_ne hrD, upd_same]
          show some (HO.dK (rowOf F.b (gV g) (V.int (i : Int)))) = some (HO.dK (rowOf F.b (gV ((T.so key).getD ((i : Int)).toNat none)) (V.int (i : Int))))
          rw [Int.toNat_natCast, List.getD_eq_getElem?_getD, hg]
          rfl
      · rintro H3 ⟨s3, rs, r1, r2, r3⟩
        rw [List.length_map] at r2
        have hN3 := s3 _ _ (lst2 hN)
        have hC3 := s3 _ _ (lst2 hC)
        have hl3 := s3 _ _ (lst2 v2)
        have LB : LstAt H3 D (cB F T) key := ⟨rs, r1, r2, r3⟩
        intro pc hpc
        have t1 : Same H3 (upd H3 pc (.dK [])) := same_upd hpc
        refine ⟨_, rfl, nl, _, _, _, rfl, rfl, SqL.of (t1 _ _ hN3), atI_nat (j := 0) rfl, fun ra hra => ?_⟩
        have t2 := t1.trans (same_upd (o := .dK []) hra)
        have hpcra : pc ≠ ra := ne_of_none (upd_same (H := H3) (a := pc) (o := .dK [])) hra
        refine ⟨_, rfl, cl, _, _, _, rfl, rfl, SqL.of (t2 _ _ hC3), atI_nat (j := 0) rfl, _, rfl, _, rfl, hd, _, rfl, gh (t2 _ _ (s3 _ _ hd2)), lh, _, _, _, rfl, rfl, SqL.of (t2 _ _ hl3), atI_nat (j := 0) rfl, ?_⟩
        refine ⟨_, rfl, cl, _, _, _, rfl, rfl, SqL.of (t2 _ _ hC3), atI_nat (j := 1) rfl, _, rfl, _, rfl, hd, _, rfl, gh (t2 _ _ (s3 _ _ hd2)), lh, _, _, _, rfl, rfl, SqL.of (t2 _ _ hl3), atI_nat (j := 1) rfl, ?_⟩
        refine ⟨upd_same, rowOf F.a (gV (T.h0 key)) (gV (T.h1 key)), rfl, by show 2 ≤ 15; decide, ?_⟩
        rw [upd_upd, show mergeK [] (rowOf F.a (gV (T.h0 key)) (gV (T.h1 key))) = rowOf F.a (gV (T.h0 key)) (gV (T.h1 key)) from merge_two ne.a]
        have t3 : Same H3 (upd (upd H3 pc (.dK [])) ra (.dK (rowOf F.a (gV (T.h0 key)) (gV (T.h1 key))))) := t1.trans (same_upd hra)
        have pc3 : (upd (upd H3 pc (.dK [])) ra (.dK (rowOf F.a (gV (T.h0 key)) (gV (T.h1 key))))) pc = some (.dK []) := by
          rw [upd_ne hpcra]
          exact upd_same
        have ra3 : (upd (upd H3 pc (.dK [])) ra (.dK (rowOf F.a (gV (T.h0 key)) (gV (T.h1 key))))) ra = some (.dK (rowOf F.a (gV (T.h0 key)) (gV (T.h1 key)))) := upd_same
        generalize upd (upd H3 pc (.dK [])) ra (.dK (rowOf F.a (gV (T.h0 key)) (gV (T.h1 key)))) = H5 at t3 pc3 ra3
        refine ⟨(by show 1 ≤ sizeLine; decide), fun la hla => ?_⟩
        have t4 : Same H5 (upd H5 la (.lst [.ref ra])) := same_upd hla
        have la4 : (upd H5 la (.lst [.ref ra])) la = some (.lst [.ref ra]) := upd_same
        generalize upd H5 la (.lst [.ref ra]) = H6 at t4 la4
        have t36 := t3.trans t4
        refine ⟨_, rfl, nl, _, _, _, rfl, rfl, SqL.of (t36 _ _ hN3), atI_nat (j := 1) rfl, _, rfl, t4 _ _ pc3, [(Sum.inr F.a.nm, .ref la), (Sum.inr F.b.nm, .ref D)], rfl, by show 2 ≤ 15; decide, ?_⟩
        rw [merge_two ne.n]
        have k7 : Keep [pc] H6 (upd H6 pc (.dK [(Sum.inr F.a.nm, .ref la), (Sum.inr F.b.nm, .ref D)])) := keep_upd
        have pc7 : (upd H6 pc (.dK [(Sum.inr F.a.nm, .ref la), (Sum.inr F.b.nm, .ref D)])) pc = some (.dK [(Sum.inr F.a.nm, .ref la), (Sum.inr F.b.nm, .ref D)]) := upd_same
        have pcn : H6 pc = some (.dK []) := t4 _ _ pc3
        generalize upd H6 pc (.dK [(Sum.inr F.a.nm, .ref la), (Sum.inr F.b.nm, .ref D)]) = H7 at k7 pc7
        have s37 : Same H3 H7 := fun b o e => k7 _ _ (t36 _ _ e) (by simpa using ne_of_none e hpc)
        have rowne : ∀ {b : Addr} {t : Tab} {x y : V}, H6 b = some (.dK (rowOf t x y)) → b ≠ pc := fun {b t x y} e z => by
          rw [z, pcn] at e
          have e2 := congrArg List.length (HO.dK.inj (Option.some.inj e))
          simp [rowOf] at e2
        have la7 : H7 la = some (.lst [.ref ra]) := k7 _ _ la4 fun z => by
          rw [List.mem_singleton.mp z, pcn] at la4
          cases la4
        have ra7 : H7 ra = some (.dK (rowOf F.a (gV (T.h0 key)) (gV (T.h1 key)))) := k7 _ _ (t4 _ _ ra3) (by simpa using rowne (t4 _ _ ra3))
        have LB7 : LstAt H7 D (cB F T) key := LB.keep (m := []) (Keep.of_same s37) (fun _ z => nomatch z) (fun _ z => nomatch z)
        have LA7 : LstAt H7 la (cA F T) key := by
          refine ⟨[ra], la7, rfl, fun i r hr' => ?_⟩
          match i, hr' with
          | 0, hr' =>
            cases Option.some.inj hr'
            exact ra7
          | i + 1, hr' => exact absurd hr' (by simp)
        -- things[key] = ..
        have PA7 : PartAt H7 th F T (T.ks.take j) := PA.keep (d := hd) (od := od) hd2 m2 (Keep.of_same (s3.trans s37))
        obtain ⟨kvt, p1, p2, p3⟩ := PA7.ex
        have hnot := not_take M.nd hkey
        have hlen : kvt.length < sizeLine := by
          rw [intk_len p2, List.length_take]
          exact Nat.lt_of_le_of_lt (Nat.le_trans (Nat.min_le_right _ _) hks) (by decide)
        refine ⟨_, rfl, _, rfl, th, _, rfl, DPut.k (k := Sum.inl key) p1 hlen, ?_⟩
        have k8 : Keep [th] H7 (upd H7 th (.dK (putK kvt (Sum.inl key) (.ref pc)))) := keep_upd
        have th8 : (upd H7 th (.dK (putK kvt (Sum.inl key) (.ref pc)))) th = some (.dK (putK kvt (Sum.inl key) (.ref pc))) := upd_same
        generalize upd H7 th (.dK (putK kvt (Sum.inl key) (.ref pc))) = H8 at k8 th8
        have noL : ∀ b, b ∈ [th] → ∀ xs, H7 b ≠ some (.lst xs) := fun b hb xs e => by
          rw [List.mem_singleton.mp hb, p1] at e
          cases e
        have noR : ∀ b, b ∈ [th] → ∀ t x y, H7 b ≠ some (.dK (rowOf t x y)) := fun b hb t x y e => by
          rw [List.mem_singleton.mp hb, p1] at e
          exact intk_row p2 (HO.dK.inj (Option.some.inj e))
        refine ⟨(k2.trans (Keep.of_same (s3.trans s37))).trans k8, ⟨_, th8, ?_, fun k hk => ?_⟩, _, _, rfl⟩
        · rw [intk_put p2, if_neg hnot, take_at hkey]
        · rw [take_at hkey] at hk
          rcases List.mem_append.mp hk with hk | hk
          · obtain ⟨pc', la', lb', g1, g2, g3, g4⟩ := p3 k hk
            refine ⟨pc', la', lb', ?_, k8 _ _ g2 (by simpa using ne_things p1 p2 g2), g3.keepR k8 noL noR, g4.keepR k8 noL noR⟩
            rw [valV_put, if_neg fun z => hnot (by rw [← Sum.inl.inj z]; exact hk)]
            exact g1
          · rw [List.mem_singleton.mp hk]
            refine ⟨pc, la, D, ?_, k8 _ _ pc7 (by simpa using ne_things p1 p2 pc7), LA7.keepR k8 noL noR, LB7.keepR k8 noL noR⟩
            rw [valV_put, if_pos rfl]
    · rintro σ H2 ⟨k2, PA, o5, o8, rfl⟩
      rw [klen, List.take_length] at PA
      have hd2 := k2 _ _ hhl (by simpa using hhth)
      refine ⟨hd2, ?_⟩
      have k3 := hun k2
      have PA3 : PartAt (upd H2 hd (.dK kvh)) th F T T.ks := PA.keep (d := hd) (od := od) hd2 m2 keep_upd
      have sF : Same H (upd H2 hd (.dK kvh)) := fun b o e => k3 _ _ (s1 _ _ e) (by simpa using ne_of_none e hth)
      exact ⟨_, rfl, q th _ sF ⟨PA3.ex, M.nd⟩⟩
end K18
end L2
namespace L2
open PySem PySem.Spec PyProof.Rows
namespace K18
variable {P : Program} {w : World} {K : PySem.W.Frag} {mg : Str → Option Value} {base : Heap}

/-! ### data that are equal -/
theorem eqvAll_ints : ∀ ns : List Int, PyData.eqvAll (ns.map PyData.int) (ns.map PyData.int) = true
  | [] => rfl
  | n :: r => by
    rw [List.map_cons]
    simp [PyData.eqvAll, PyData.eqv, eqvAll_ints r]
theorem eqv_ints (ns : List Int) : PyData.eqv (.list (ns.map PyData.int)) (.list (ns.map PyData.int)) = true := by
  rw [PyData.eqv]
  exact eqvAll_ints ns
theorem paired_of {E : V → V → Prop} : ∀ {rs ts : List Addr}, rs.length = ts.length → (∀ (i : Nat) r t, rs[i]? = some r → ts[i]? = some t → E (.ref r) (.ref t)) → Paired E (rs.map V.ref) (ts.map V.ref)
  | [], [], _, _ => .nil
  | r :: rs, t :: ts, hl, h => .cons (h 0 r t rfl rfl) (paired_of (by simpa using hl) fun i r' t' h1 h2 => h (i + 1) r' t' (by simpa using h1) (by simpa using h2))
  | [], _ :: _, hl, _ => absurd hl (by simp)
  | _ :: _, [], hl, _ => absurd hl (by simp)
theorem flat_gV (g : Option Int) : flatB (gV g) = true := by
  cases g <;> rfl
theorem row_eqv {H : Hp} {r t : Addr} {tb : Tab} {x y : V} (ne : ¬ tb.ca = tb.cb) (fx : flatB x = true) (fy : flatB y = true) (h1 : H r = some (.dK (rowOf tb x y))) (h2 : H t = some (.dK (rowOf tb x y))) : EqV K H 2 (.ref r) (.ref t) := by
  refine .inr (.inr (.inr ⟨r, t, _, _, rfl, rfl, h1, h2, rfl, fun p hp => ?_⟩))
  rcases List.mem_cons.mp hp with rfl | hp
  · exact ⟨x, rowOf_a, .inl ⟨rfl, fx⟩⟩
  · rw [List.mem_singleton.mp hp]
    exact ⟨y, rowOf_b ne, .inl ⟨rfl, fy⟩⟩
theorem lst_eqv {H : Hp} {l m : Addr} {c : Cnt} {k : Int} (ne : ¬ c.t.ca = c.t.cb) (f : ∀ q, flatB (c.X q) = true ∧ flatB (c.Y q) = true) (h1 : LstAt H l c k) (h2 : LstAt H m c k) : EqV K H 3 (.ref l) (.ref m) := by
  obtain ⟨rs, a1, a2, a3⟩ := h1
  obtain ⟨ts, b1, b2, b3⟩ := h2
  exact .inr (.inr (.inl ⟨l, m, _, _, rfl, rfl, SqL.of a1, SqL.of b1, paired_of (a2.trans b2.symm) fun i r t hr ht => row_eqv ne (f _).1 (f _).2 (a3 i r hr) (b3 i t ht)⟩))

/-! ### a plain table, a dict of int keys changed or locked -/
theorem FormAt.keepN {H H' : Hp} {fm : Addr} {F : Frm} (hF : FormAt H fm F) (kt : ∀ b xs, H b = some (.tup xs) → H' b = some (.tup xs)) (kz : ∀ b xs, _root_.K18.PlainT H b xs → _root_.K18.PlainT H' b xs) : FormAt H' fm F :=
  ⟨kt _ _ hF.fm, kt _ _ hF.tabs, ⟨kt _ _ hF.a.at_, kz _ _ hF.a.k, kt _ _ hF.a.pa, kt _ _ hF.a.pb, kt _ _ hF.a.qa, kt _ _ hF.a.qb, hF.a.ne, hF.a.lt⟩, ⟨kt _ _ hF.b.at_, kz _ _ hF.b.k, kt _ _ hF.b.pa, kt _ _ hF.b.pb, kt _ _ hF.b.qa, kt _ _ hF.b.qb, hF.b.ne, hF.b.lt⟩, hF.ne, hF.sa, hF.sb, hF.ka, hF.kb⟩
theorem FormAt.keepI {H H' : Hp} {fm d : Addr} {F : Frm} {kvd : List (Key × V)} (h : FormAt H fm F) (hd : H d = some (.dK kvd)) (k : Keep [d] H H') : FormAt H' fm F := by
  have no : ∀ b o, H b = some o → (∀ kvs, o ≠ .dK kvs) → H' b = some o := fun b o e n => k _ _ e fun z => by
    rw [List.mem_singleton.mp z, hd] at e
    exact n _ (Option.some.inj e).symm
  exact h.keepN (fun b xs e => no b (.tup xs) e (fun _ z => nomatch z)) fun b xs ⟨o, e, e2⟩ => ⟨o, no b _ e (fun _ z => nomatch z), e2⟩
theorem PlAt.keepI {H H' : Hp} {p C fm d : Addr} {F : Frm} {T : Tb} {kvd : List (Key × V)} {js : List Int} (h : PlAt H p C fm F T) (hd : H d = some (.dK kvd)) (hk : kvd.map (·.1) = js.map Sum.inl) (k : Keep [d] H H') : PlAt H' p C fm F T := by
  obtain ⟨dx, sh, sa, sb, La, Lb, h1, h2, h3, h4⟩ := h.ex
  have no : ∀ b o, H b = some o → (∀ kvs, o ≠ .dK kvs) → H' b = some o := fun b o e n => k _ _ e fun z => by
    rw [List.mem_singleton.mp z, hd] at e
    exact n _ (Option.some.inj e).symm
  have noT : ∀ {s : Addr} {t : Tab} {L : List Spot} {X Y : Spot → V}, SheetAt H s t L X Y → SheetAt H' s t L X Y := fun g => by
    refine g.keep k (fun z => ?_) fun b hb x y e => ?_
    · obtain ⟨kvs, e⟩ := g.isT
      rw [List.mem_singleton.mp z, hd] at e
      cases e
    · rw [List.mem_singleton.mp hb, hd] at e
      exact intk_row hk (HO.dK.inj (Option.some.inj e))
  exact ⟨⟨dx, sh, sa, sb, La, Lb, no _ _ h1 (fun _ z => nomatch z), ⟨k _ _ h2.sh (by simpa using ne_things hd hk h2.sh), noT h2.a, noT h2.b, h2.la, h2.lb⟩, h3, h4⟩, h.F.keepI hd k, h.nd⟩

/-! ### _law_tells -/
theorem flds_held {fm sh : Addr} : (flds fm sh).lookup ("held" : Str) = none := flds_no (by decide +kernel) (by decide +kernel)
theorem flds_piece {fm sh : Addr} : (flds fm sh).lookup ("piece" : Str) = none := flds_no (by decide +kernel) (by decide +kernel)
theorem flds_write {fm sh : Addr} : (flds fm sh).lookup ("write" : Str) = none := flds_no (by decide +kernel) (by decide +kernel)
theorem PlAt.ins {H : Hp} {p C fm : Addr} {F : Frm} {T : Tb} (h : PlAt H p C fm F T) : ∃ dx sh, H p = some (.ins C dx (flds fm sh)) := by
  obtain ⟨dx, sh, sa, sb, La, Lb, h1, _⟩ := h.ex
  exact ⟨dx, sh, h1⟩
/-- the methods of Plain, as the law calls them -/
structure Meths (P : Program) (w : World) (K : PySem.W.Frag) (mg : Str → Option Value) (base : Heap) (C CN : Addr) : Prop where
  held : ∃ (f : Addr) (fd : FuncData), Meth K C "held" f ∧ FnOk P w K mg base CX0 2 f fd ["self"] (spHeld C) ∧ Binds K fd ["self"] []
  piece : ∃ (f : Addr) (fd : FuncData), Meth K C "piece" f ∧ FnOk P w K mg base CX0 2 f fd ["self", "key"] (spPiece C) ∧ Binds K fd ["self", "key"] []
  write : ∃ (f : Addr) (fd : FuncData), Meth K C "write" f ∧ FnOk P w K mg base (L2.CX P w) 8 f fd ["self", "steps"] (spWrite w C CN) ∧ Binds K fd ["self", "steps"] []
def spTells (C : Addr) : Sp := fun vs H Q _ => ∃ (p th fm : Addr) (F : Frm) (T : Tb), vs = [.ref p, .ref th] ∧ PlAt H p C fm F T ∧ ThingsAt H th F T ∧ T.ks.length ≤ 60 ∧ ∀ H', Same H H' → Q (.bl true) H'
theorem sc_tells : FnScope ["_law_plain", "_law_things_here", "_law_key"] ["_law_plain", "_law_things_here"] (defScope (top 49)) := ⟨rfl, rfl, rfl, by decide +kernel, rfl, by decide +kernel, by decide +kernel⟩
theorem ne_ints {H : Hp} {a c : Addr} {ns : List Int} {Q : VK} (h1 : H a = some (.lst (ns.map V.int))) (h2 : H c = some (.lst (ns.map V.int))) (q : Q (.bl false) H) : rNeD K (.ref a) (.ref c) H Q := by
  refine ⟨_, _, .lst (SqL.of h1) (dpAll_ints ns), .lst (SqL.of h2) (dpAll_ints ns), shaped_ints' ns, shaped_ints' ns, ?_⟩
  rw [eqv_ints]
  exact q
theorem cl_tells {C CN : Addr} (D : DefAt K mg "_law_tells" (top 49)) (G : Gs mg) (T0 : PlCls K mg C) (MM : Meths P w K mg base C CN) : Cl P w K mg base 3 "_law_tells" (spTells C) := by
  refine cl_mk D sc_tells (fun _ _ _ _ _ _ us hl => match us, hl with | [_, _], _ => rfl) (fun vs H Q E h => ?_) (fun f cdv A outer s H vs Q E hr h => ?_)
  · obtain ⟨p, th, fm, F, T, rfl, _⟩ := h
    rfl
  · obtain ⟨p, th, fm, F, T, rfl, hP, hT, h60, q⟩ := h
    have nd := sc_tells.nd
    have hu := hu_of hr
    have hu64 := hr.units
    obtain ⟨f1, fd1, m1, F1, b1⟩ := MM.held
    obtain ⟨f2, fd2, m2, F2, b2⟩ := MM.piece
    refine ⟨_, pss_cons (ps_if (pt_cmpR (op_neD hu64) (pe_meth0 (pv 0) T0.cl m1 F1 (hr.mono (by decide)) b1 .nil pass0) (pe_callB (call_sortedDI rfl) (by rfl) G.sorted PyProof.Rows.boot_sorted (pa_cons (pv 1) pa_nil)) (nomark _)) (pss_one (ps_ret pe_bl)) pss_nil)
      (pss_cons (ps_lock (ps_for PassesOwn.never rfl (pi_keys (pv 1)) (pg_name (i := 2) nd rfl (Or.inl rfl))
        (pss_one (ps_if (pt_cmpR (k18_neV hu64) (pe_meth (pv 0) T0.cl m2 F2 (hr.mono (by decide)) b2 .nil pass0 (pa_cons (pv 2) pa_nil)) (pe_dget hu (pv 1) (pv 2) (fun _ _ => rfl)) (nomark _)) (pss_one (ps_ret pe_bl)) pss_nil))))
      (pss_one (ps_ret pe_bl))), ?_⟩
    obtain ⟨dx, sh, hp⟩ := hP.ins
    obtain ⟨kvs, hth, hk, hth2⟩ := hT.ex
    refine ⟨_, rfl, p, dx, _, rfl, hp, flds_held, p, fm, F, T, rfl, hP, fun l H1 s1 hl => ?_⟩
    refine ⟨_, rfl, th, kvs, T.ks, rfl, .inl (s1 _ _ hth), hk, by omega, fun ys l2 hperm hsort hl2 => ?_⟩
    rw [srtI_uniq hperm hsort]
    have s2 : Same H1 (upd H1 l2 (.lst ((srtI T.ks).map V.int))) := same_upd hl2
    refine ne_ints (s2 _ _ hl) upd_same ⟨_, rfl, iteF ?_⟩
    have s12 := s1.trans s2
    generalize upd H1 l2 (.lst ((srtI T.ks).map V.int)) = H2 at s12
    refine ⟨th, _, s12 _ _ hth, True.intro, fun od => ?_⟩
    have kL : Keep [th] H2 (upd H2 th (.frz od (.dK kvs))) := keep_upd
    have hthl : (upd H2 th (.frz od (.dK kvs))) th = some (.frz od (.dK kvs)) := upd_same
    have hPl := (hP.same s12).keepI (s12 _ _ hth) hk kL
    have hun : ∀ {H' : Hp}, Same (upd H2 th (.frz od (.dK kvs))) H' → Keep [] H2 (upd H' th (.dK kvs)) := fun {H'} k => unlock_keep (s12 _ _ hth) (Keep.of_same k)
    have kR : ∀ {b : Addr} {t : Tab} {x y : V}, H2 b = some (.dK (rowOf t x y)) → (upd H2 th (.frz od (.dK kvs))) b = some (.dK (rowOf t x y)) := fun {b t x y} e => kL _ _ e fun z => by
      rw [List.mem_singleton.mp z, s12 _ _ hth] at e
      exact intk_row hk (HO.dK.inj (Option.some.inj e))
    have kP : ∀ {b : Addr} {x : Str} {v : V} {r : List (Key × V)}, H2 b = some (.dK ((Sum.inr x, v) :: r)) → (upd H2 th (.frz od (.dK kvs))) b = some (.dK ((Sum.inr x, v) :: r)) := fun {b x v r} e => kL _ _ e (by simpa using ne_things (s12 _ _ hth) hk e)
    have kT : ∀ {b : Addr} {xs : List V}, H2 b = some (.lst xs) → (upd H2 th (.frz od (.dK kvs))) b = some (.lst xs) := fun {b xs} e => kL _ _ e fun z => by
      rw [List.mem_singleton.mp z, s12 _ _ hth] at e
      cases e
    generalize upd H2 th (.frz od (.dK kvs)) = Hl at kL hthl hPl hun kR kP kT
    refine ⟨_, rfl, th, od, rfl, .inl ⟨kvs, hthl, ?_⟩⟩
    refine for_it walk_keys (fun i σ H' => Same Hl H' ∧ ∃ o, σ = [some (.ref p), some (.ref th), o]) ⟨Same.refl _, _, rfl⟩ (fun i σ H' _ pp => pp.1 _ _ hthl) ?_ ?_
    · rintro i x σ H3 H3' hi ⟨s3, o, rfl⟩ ⟨rfl, kk, vv, hkk, rfl⟩
      have e1 : (kvs.map (·.1))[i]? = some kk := by rw [List.getElem?_map, hkk]; rfl
      rw [hk, List.getElem?_map] at e1
      obtain ⟨key, hkey, rfl⟩ := Option.map_eq_some_iff.mp e1
      have hkm : key ∈ T.ks := List.mem_of_getElem? hkey
      obtain ⟨pc, la, lb, g1, g2, g3, g4⟩ := hth2 key hkm
      have hP3 := hPl.same s3
      obtain ⟨dx', sh', hp3⟩ := hP3.ins
      refine ⟨_, rfl, p, dx', _, rfl, hp3, flds_piece, _, rfl, p, fm, F, T, key, rfl, hP3, hkm, fun pc1 la1 lb1 H4 s4 c1 c2 c3 => ?_⟩
      have s34 := s3.trans s4
      have gd : DGet H4 th (.int key) (some (.ref pc)) := .inl ⟨kvs, Sum.inl key, .inr ⟨od, s34 _ _ hthl⟩, rfl, g1.symm⟩
      refine ⟨_, rfl, _, rfl, th, _, rfl, gd, ?_⟩
      have lk : ∀ {l : Addr} {c : Cnt}, LstAt H l c key → LstAt H4 l c key := fun {l c} ⟨rs, a1, a2, a3⟩ => ⟨rs, s34 _ _ (kT (s12 _ _ a1)), a2, fun i r hr => s34 _ _ (kR (s12 _ _ (a3 i r hr)))⟩
      refine ⟨4, by decide, ⟨pc1, pc, _, _, rfl, rfl, c1, s34 _ _ (kP (s12 _ _ g2)), rfl, fun q hq => ?_⟩, _, rfl, iteF ?_⟩
      · rcases List.mem_cons.mp hq with rfl | hq
        · exact ⟨_, two_a, .inr (.inr (.inl (by
            obtain ⟨rs, a1, a2, a3⟩ := c2
            obtain ⟨ts, b1, b2, b3⟩ := lk g3
            exact ⟨_, _, _, _, rfl, rfl, SqL.of a1, SqL.of b1, paired_of (a2.trans b2.symm) fun i r t hr ht => .inr (.inr (.inr ⟨r, t, _, _, rfl, rfl, a3 i r hr, b3 i t ht, rfl, fun u hu2 => by
              rcases List.mem_cons.mp hu2 with rfl | hu2
              · exact ⟨_, rowOf_a, .inl ⟨rfl, flat_gV _⟩⟩
              · rw [List.mem_singleton.mp hu2]
                exact ⟨_, rowOf_b hP.F.a.ne, .inl ⟨rfl, flat_gV _⟩⟩⟩))⟩)))⟩
        · rw [List.mem_singleton.mp hq]
          exact ⟨_, two_b hP.F.ne, .inr (.inr (.inl (by
            obtain ⟨rs, a1, a2, a3⟩ := c3
            obtain ⟨ts, b1, b2, b3⟩ := lk g4
            exact ⟨_, _, _, _, rfl, rfl, SqL.of a1, SqL.of b1, paired_of (a2.trans b2.symm) fun i r t hr ht => .inr (.inr (.inr ⟨r, t, _, _, rfl, rfl, a3 i r hr, b3 i t ht, rfl, fun u hu2 => by
              rcases List.mem_cons.mp hu2 with rfl | hu2
              · exact ⟨_, rowOf_a, .inl ⟨rfl, flat_gV _⟩⟩
              · rw [List.mem_singleton.mp hu2]
                exact ⟨_, rowOf_b hP.F.b.ne, .inl ⟨rfl, rfl⟩⟩⟩))⟩)))⟩
      · exact ⟨s34, _, rfl⟩
    · rintro σ H3 ⟨s3, o, rfl⟩
      refine ⟨s3 _ _ hthl, ?_⟩
      exact q _ (s12.trans (hun s3).same)
end K18
end L2
namespace L2
open PySem PySem.Spec PyProof.Rows
namespace K18
variable {P : Program} {w : World} {K : PySem.W.Frag} {mg : Str → Option Value} {base : Heap}

theorem PlAt.raw {H : Hp} {p C fm : Addr} {F : Frm} {T : Tb} (h : PlAt H p C fm F T) : ∃ dx sh sa sb S, H p = some (.ins C dx (flds fm sh)) ∧ ShS H sh F sa sb S ∧ Rep F S T := by
  obtain ⟨dx, sh, sa, sb, La, Lb, h1, h2, h3, h4⟩ := h.ex
  have R := own_rep (F := F) h.nd
  exact ⟨dx, sh, sa, sb, ⟨La, Lb, (cA F T).X, (cA F T).Y, (cB F T).X, (cB F T).Y⟩, h1, h2, ⟨h2.a.nd, h2.b.nd, fun q => h3.mem_iff.trans (R.la q), fun q => h4.mem_iff.trans (R.lb q), fun _ _ => ⟨rfl, rfl⟩, fun _ _ => ⟨rfl, rfl⟩⟩⟩
theorem plAt_of {H : Hp} {p C fm dx sh sa sb : Addr} {F : Frm} {T : Tb} {S : Sts} (hp : H p = some (.ins C dx (flds fm sh))) (hS : ShS H sh F sa sb S) (R : Rep F S T) (hF : FormAt H fm F) (nd : T.ks.Nodup) : PlAt H p C fm F T :=
  ⟨⟨dx, sh, sa, sb, S.La, S.Lb, hp, ⟨hS.sh, hS.a.congr R.xa, hS.b.congr R.xb, hS.la, hS.lb⟩, R.pa nd, R.pb nd⟩, hF, nd⟩
theorem FormAt.keepP {H H' : Hp} {fm p C dx : Addr} {fs : List (Str × V)} {F : Frm} (h : FormAt H fm F) (hp : H p = some (.ins C dx fs)) (k : Keep [p] H H') : FormAt H' fm F := by
  have no : ∀ b o, H b = some o → o ≠ .ins C dx fs → H' b = some o := fun b o e n => k _ _ e fun z => by
    rw [List.mem_singleton.mp z, hp] at e
    exact n (Option.some.inj e).symm
  exact h.keepN (fun b xs e => no b (.tup xs) e (fun z => nomatch z)) fun b xs ⟨o, e, e2⟩ => ⟨o, no b _ e (fun z => nomatch z), e2⟩
theorem err_table (nm : Str) (q : Spot) : (errF nm q).lookup ("table" : Str) = some (.str nm) := by
  unfold errF
  rw [List.lookup_cons, show (("table" : Str) == ("place" : Str)) = false by decide +kernel, List.lookup_cons, show (("table" : Str) == ("key" : Str)) = false by decide +kernel, List.lookup_cons, show (("table" : Str) == ("table" : Str)) = true by decide +kernel]
theorem err_key (nm : Str) (q : Spot) : (errF nm q).lookup ("key" : Str) = some (.int q.1) := by
  unfold errF
  rw [List.lookup_cons, show (("key" : Str) == ("place" : Str)) = false by decide +kernel, List.lookup_cons, show (("key" : Str) == ("key" : Str)) = true by decide +kernel]
theorem err_place (nm : Str) (q : Spot) : (errF nm q).lookup ("place" : Str) = some (.int q.2) := by
  unfold errF
  rw [List.lookup_cons, show (("place" : Str) == ("place" : Str)) = true by decide +kernel]
/-- what the clause of Nowhere makes of an error in slot i -/
def tSuite (CN : Addr) (i j : Nat) (a : Addr) (cls : Value) (d : Option Addr) : TS :=
  tAsg (tTup (tCons (tC (.str "Nowhere")) (tCons (tXf a cls d CN "table" (tVar i)) (tCons (tXf a cls d CN "key" (tVar i)) (tCons (tXf a cls d CN "place" (tVar i)) tNil))))) (gName j)

/-! ### _law_written -/
def spWritten (C : Addr) : Sp := fun vs H Q _ => ∃ (p l fm : Addr) (F : Frm) (T T' : Tb) (sts : List Stp) (b : Int) (n m : Nat), vs = [.ref p, .ref l] ∧ PlAt H p C fm F T ∧ StepsAt H l sts ∧ Mv F T sts T' ∧ (TbOk b n T ∧ TbOk b m T' ∧ n ≤ 30 ∧ m ≤ 30 ∧ sts.length ≤ 30) ∧ (0 ≤ b ∧ b + 4 < 2 ^ 60) ∧
  (dueK F T' = none → ∀ t e H', Keep [p] H H' → PlAt H' p C fm F T' → H' t = some (.tup [.str "done", .ref e]) → H' e = some (.lst []) → Q (.ref t) H') ∧
  (∀ nm q, dueK F T' = some (nm, q) → ∀ t H', Same H H' → H' t = some (.tup [.str "Nowhere", .str nm, .int q.1, .int q.2]) → Q (.ref t) H')
theorem sc_written : FnScope ["_law_plain", "_law_steps_here", "_law_found", "_law_keys", "_law_step", "e"] ["_law_plain", "_law_steps_here"] (defScope (top 47)) := ⟨rfl, rfl, rfl, by decide +kernel, rfl, by decide +kernel, by decide +kernel⟩
theorem srt_named {sts : List Stp} {ns : List Int} (hlt : ns.Pairwise (· < ·)) (hm : ∀ k : Int, k ∈ ns ↔ decide (k ∈ sts.map (·.k)) = true) : ns = srtI (namedOf sts) := by
  refine srtI_uniq ((List.perm_ext_iff_of_nodup (hlt.imp fun {a c} h => by omega) (named_nd sts)).mpr fun k => ?_) (hlt.imp fun {a c} h => by omega)
  rw [hm, named_mem, decide_eq_true_eq]
theorem cl_written {C CN : Addr} (D : DefAt K mg "_law_written" (top 47)) (G : Gs mg) (T0 : PlCls K mg C) (N : NwAt K mg CN) (MM : Meths P w K mg base C CN) : Cl P w K mg base 9 "_law_written" (spWritten C) := by
  refine cl_mk D sc_written (fun _ _ _ _ _ _ us hl => match us, hl with | [_, _], _ => rfl) (fun vs H Q E h => ?_) (fun f cdv A outer s H vs Q E hr h => ?_)
  · obtain ⟨p, l, fm, F, T, T', sts, b, n, m, rfl, _⟩ := h
    rfl
  · obtain ⟨p, l, fm, F, T, T', sts, b, n, m, rfl, hP, hSt, hMv, ⟨ok, ok', hn, hm, hlen⟩, ⟨h0, h1⟩, q0, q1⟩ := h
    have nd := sc_written.nd
    have hu := hu_of hr
    have hu64 := hr.units
    obtain ⟨f3, fd3, m3, F3, b3⟩ := MM.write
    refine ⟨_, pss_cons (ps_set (i := 2) nd rfl (Or.inl rfl) pe_non)
      (pss_cons (k18_try_asE (i := 5) (tb := fun W => tAsg (tMethX C "write" (spWrite w C CN) W (tVar 0) (tCons (tVar 1) tNil)) (gName 3)) (ts := tSuite CN 5 2) (Wout := fun _ _ _ _ => False)
          (pss_cons (ps_set (i := 2) nd rfl (Or.inl rfl) (pe_tup (pa_cons pe_str (pa_cons (pe_lst pa_nil) pa_nil))))
            (pss_one (ps_if (pt_cmpR (op_neD hu64) (pv 3) (pe_callB (cr_sortedSet rfl) (by rfl) G.sorted PyProof.Rows.boot_sorted (pa_cons (pe_callTy (k18_setL rfl) (by rfl) G.set PyProof.Rows.boot_set (pa_cons
                (pe_lc (own := [("_law_step", 4)]) (g := gName 4) (tt := tYes) rfl nd (pi_list (pv 1)) (blkOk_by (N := ["_law_plain", "_law_steps_here", "_law_found", "_law_keys", "_law_step", "e"]) (sc := defScope (top 47)) (by decide +kernel))
                  (fun _ _ _ _ _ => pg_name (i := 4) nd rfl (Or.inl rfl)) (fun _ _ _ _ _ => pts_nil) (fun _ _ _ _ _ => pe_ix (ixT (K := K) rfl) (pv 4) pe_int (fun _ _ => rfl))) pa_nil)) pa_nil)) (nomark _))
              (pss_one (ps_set (i := 2) nd rfl (Or.inl rfl) (pe_tup (pa_cons pe_str (pa_cons (pv 3) pa_nil))))) pss_nil)))
          rfl rfl nd rfl rfl ⟨rfl, by decide +kernel, .inl N.gC⟩ takes0
          (fun W pn xe tk _ => pss_one (ps_set (i := 3) nd rfl (Or.inl rfl) (by exact (pe_methX (pv 0) T0.cl m3 F3 hr b3 tk (by exact (pa_cons (pv 1) pa_nil))))))
          (fun a oe cls d pn hz hf => pss_one (ps_set (i := 2) nd rfl (Or.inl rfl) (by exact (pe_tup (pa_cons pe_str (pa_cons (pe_xf N.xf N.nT hz hf (pv 5)) (pa_cons (pe_xf N.xf N.nK hz hf (pv 5)) (pa_cons (pe_xf N.xf N.nP hz hf (pv 5)) pa_nil)))))))))
      (pss_one (ps_ret (pv 2)))), ?_⟩
    obtain ⟨dx, sh, sa, sb, S, hp, hS, R⟩ := hP.raw
    obtain ⟨as, hl1, hl2, hl3⟩ := id hSt
    obtain ⟨hruns, R'⟩ := hMv S R
    have la5 : S.La.length ≤ 5 := by
      rw [(R.pa ok.nd).length_eq]
      exact ok.lenA F
    have lb150 : S.Lb.length ≤ 150 := by
      rw [(R.pb ok.nd).length_eq]
      exact ok.lenB F hn
    have n64 : (namedOf sts).length < 64 := by
      have := named_len sts
      omega
    have hdue := dueS_eq R' ok'.nd
    refine ⟨_, rfl, p, dx, _, rfl, hp, flds_write, _, rfl, p, dx, fm, sh, sa, sb, l, F, S, sts, as, rfl, hp, hP.F, hS, hl1, hl2, hl3, R.hash w ok (by omega) h0 h1, ⟨by omega, by omega⟩, hruns, n64, fun k _ => R'.whole ok' k, ⟨R.ptr, R'.ptr⟩, fun hd sh2 sa2 sb2 kl H1 k1 hp1 hS1 hkl => ?_, fun nm q hd d H1 s1 hx => ?_⟩
    · -- done
      rw [hdue] at hd
      have hF1 := hP.F.keepP hp k1
      have hP1 := plAt_of hp1 hS1 R' hF1 ok'.nd
      refine ⟨(by show 0 ≤ sizeLine; decide), fun e he => ⟨(by show 2 ≤ sizeLine; decide), fun t ht => ?_⟩⟩
      have s2 : Same H1 (upd (upd H1 e (.lst [])) t (.tup [.str "done", .ref e])) := (same_upd he).trans (same_upd ht)
      have he2 : (upd (upd H1 e (.lst [])) t (.tup [.str "done", .ref e])) e = some (.lst []) := same_upd ht _ _ upd_same
      have ht2 : (upd (upd H1 e (.lst [])) t (.tup [.str "done", .ref e])) t = some (.tup [.str "done", .ref e]) := upd_same
      generalize upd (upd H1 e (.lst [])) t (.tup [.str "done", .ref e]) = H2 at s2 he2 ht2
      have stk : ∀ {x : Addr} {xs : List V}, H x = some (.lst xs) → H1 x = some (.lst xs) := fun {x xs} e => k1 _ _ e fun z => by
        rw [List.mem_singleton.mp z, hp] at e
        cases e
      have noP : ∀ x, x ∈ [p] → ∀ o, H x = some o → o = .ins C dx (flds fm sh) := fun x hx o e => by
        rw [List.mem_singleton.mp hx, hp] at e
        exact (Option.some.inj e).symm
      have hst2 : ∀ (i : Nat) (a : Addr) (st : Stp), as[i]? = some a → sts[i]? = some st → StpAt H2 a st := fun i a st g1 g2 =>
        ((hl3 i a st g1 g2).keep k1 (fun x hx xs e => nomatch noP x hx _ e) (fun x hx ks e => nomatch noP x hx _ e)).keep (l := []) (Keep.of_same s2) (fun _ z => nomatch z) (fun _ z => nomatch z)
      have hl12 := s2 _ _ (stk hl1)
      refine ⟨_, rfl, _, rfl, l, rfl, ⟨_, SqL.of hl12⟩, fun D hD => ?_⟩
      refine lc_list (K := K) (a := l) (xs := as.map V.ref) (fun i H' => H' = upd H2 D (.lst (((sts.map (·.k)).take i).map V.int))) rfl (fun i H' _ p => by rw [p]; exact SqL.of (same_upd hD _ _ hl12)) ?_ ?_
      · rintro i x H3 hx rfl
        rw [List.getElem?_map] at hx
        obtain ⟨a, ha, rfl⟩ := Option.map_eq_some_iff.mp hx
        have hilt : i < sts.length := by
          rw [← hl2]
          exact (List.getElem?_eq_some_iff.mp ha).1
        obtain ⟨st, hsti⟩ : ∃ st, sts[i]? = some st := ⟨sts[i], List.getElem?_eq_getElem hilt⟩
        obtain ⟨more, hat, _⟩ := (hst2 i a st ha hsti).keep (l := []) (Keep.of_same (same_upd (o := .lst (((sts.map (·.k)).take i).map V.int)) hD)) (fun _ z => nomatch z) (fun _ z => nomatch z)
        have hk : (sts.map (·.k))[i]? = some st.k := by rw [List.getElem?_map, hsti]; rfl
        refine lcY rfl ⟨_, rfl, a, _, _, _, rfl, rfl, SqT.of hat, atI_nat (j := 2) rfl, _, upd_same, ?_, ?_⟩
        · rw [List.length_map, List.length_take, List.length_map]
          exact Nat.lt_of_le_of_lt (Nat.le_trans (Nat.min_le_right _ _) hlen) (by decide)
        · rw [upd_upd, take_at hk, List.map_append]
          rfl
      · rintro H3 rfl
        rw [List.length_map, hl2, show sts.length = (sts.map (·.k)).length from (List.length_map ..).symm, List.take_length]
        have s3 : Same H2 (upd H2 D (.lst ((sts.map (·.k)).map V.int))) := same_upd hD
        have hD3 : (upd H2 D (.lst ((sts.map (·.k)).map V.int))) D = some (.lst ((sts.map (·.k)).map V.int)) := upd_same
        generalize upd H2 D (.lst ((sts.map (·.k)).map V.int)) = H3 at s3 hD3
        refine ⟨D, sts.map (·.k), rfl, SqL.of hD3, by rw [List.length_map]; omega, fun ps c hps hc => ?_⟩
        rw [List.length_map] at hc
        refine ⟨ps, _, c, rfl, upd_same, by omega, fun ns pn hlt hmem hln hpn => ?_⟩
        rw [srt_named hlt hmem]
        have s4 : Same H3 (upd (upd H3 ps (SetO w ps (fun j => decide (j ∈ sts.map (·.k))) c)) pn (.lst ((srtI (namedOf sts)).map V.int))) := (same_upd hps).trans (same_upd hpn)
        have s24 := s2.trans (s3.trans s4)
        refine ne_ints (s24 _ _ hkl) upd_same ⟨_, rfl, iteF ?_⟩
        exact ⟨_, rfl, q0 hd t e _ (k1.trans (Keep.of_same s24)) (hP1.same s24) ((s3.trans s4) _ _ ht2) ((s3.trans s4) _ _ he2)⟩
    · -- refused
      rw [hdue] at hd
      refine ⟨true, N.te, fun _ a ha => ?_, fun z => Bool.noConfusion z⟩
      refine ⟨_, rfl, rfl, rfl, d, _, _, rfl, hx, err_table nm q, _, rfl, rfl, rfl, d, _, _, rfl, hx, err_key nm q, _, rfl, rfl, rfl, d, _, _, rfl, hx, err_place nm q, (by show 4 ≤ sizeLine; decide), fun t ht => ?_⟩
      exact ⟨_, rfl, q1 nm q hd t _ (s1.trans (same_upd ht)) upd_same⟩
end K18
end L2
namespace L2
open PySem PySem.Spec PyProof.Rows
namespace K18
variable {P : Program} {w : World} {K : PySem.W.Frag} {mg : Str → Option Value} {base : Heap}

/-! ### _law_made -/
structure Makes (P : Program) (w : World) (K : PySem.W.Frag) (mg : Str → Option Value) (base : Heap) (C CN : Addr) : Prop where
  ex : ∃ (f : Addr) (fd : FuncData), Mk K C f ∧ FnOk P w K mg base (L2.CX P w) 5 f fd ["self", "form", "things"] (spInit C CN) ∧ Binds K fd ["self", "form", "things"] [] ∧ ∃ ds, Vals [V.non] ds ∧ Binds K fd ["self", "form", "things"] ds
def spMade : Sp := fun vs H Q _ => ∃ (fm th : Addr) (F : Frm) (T : Tb) (b : Int) (n : Nat), vs = [.ref fm, .ref th] ∧ FormAt H fm F ∧ ThingsAt H th F T ∧ TbOk b n T ∧ n ≤ 30 ∧
  (dueK F T = none → ∀ t e H', Same H H' → H' t = some (.tup [.str "done", .ref e]) → H' e = some (.lst []) → Q (.ref t) H') ∧
  (∀ nm q, dueK F T = some (nm, q) → ∀ t H', Same H H' → H' t = some (.tup [.str "Nowhere", .str nm, .int q.1, .int q.2]) → Q (.ref t) H')
theorem sc_made : FnScope ["_law_form", "_law_things_here", "_law_found", "_law_plain", "e"] ["_law_form", "_law_things_here"] (defScope (top 48)) := ⟨rfl, rfl, rfl, by decide +kernel, rfl, by decide +kernel, by decide +kernel⟩
theorem cl_made {C CN : Addr} (D : DefAt K mg "_law_made" (top 48)) (G : Gs mg) (T0 : PlCls K mg C) (N : NwAt K mg CN) (MM : Meths P w K mg base C CN) (MK : Makes P w K mg base C CN) : Cl P w K mg base 7 "_law_made" spMade := by
  refine cl_mk D sc_made (fun _ _ _ _ _ _ us hl => match us, hl with | [_, _], _ => rfl) (fun vs H Q E h => ?_) (fun f cdv A outer s H vs Q E hr h => ?_)
  · obtain ⟨fm, th, F, T, b, n, rfl, _⟩ := h
    rfl
  · obtain ⟨fm, th, F, T, b, n, rfl, hF, hT, ok, hn, q0, q1⟩ := h
    have nd := sc_made.nd
    have hu64 := hr.units
    obtain ⟨f1, fd1, m1, F1, b1⟩ := MM.held
    obtain ⟨fI, fdI, mI, FI, bI, _⟩ := MK.ex
    refine ⟨_, pss_cons (ps_set (i := 2) nd rfl (Or.inl rfl) pe_non)
      (pss_cons (k18_try_asE (i := 4) (tb := fun W => tAsg (tMakeX C (spInit C CN) [] W (tCons (tVar 0) (tCons (tVar 1) tNil))) (gName 3)) (ts := tSuite CN 4 2) (Wout := fun _ _ _ _ => False)
          (pss_cons (ps_set (i := 2) nd rfl (Or.inl rfl) (pe_tup (pa_cons pe_str (pa_cons (pe_lst pa_nil) pa_nil))))
            (pss_one (ps_if (pt_cmpR (op_neD hu64) (pe_meth0 (pv 3) T0.cl m1 F1 (hr.mono (by decide)) b1 .nil pass0) (pe_callB (call_sortedDI rfl) (by rfl) G.sorted PyProof.Rows.boot_sorted (pa_cons (pv 1) pa_nil)) (nomark _))
              (pss_one (ps_set (i := 2) nd rfl (Or.inl rfl) (pe_tup (pa_cons pe_str (pa_cons (pe_meth0 (pv 3) T0.cl m1 F1 (hr.mono (by decide)) b1 .nil pass0) pa_nil))))) pss_nil)))
          rfl rfl nd rfl rfl ⟨rfl, by decide +kernel, .inl N.gC⟩ takes0
          (fun W pn xe tk _ => pss_one (ps_set (i := 3) nd rfl (Or.inl rfl) (by exact (pe_makeX (dvs := []) mI FI hr rfl T0.gC bI .nil tk (by exact (pa_cons (pv 0) (pa_cons (pv 1) pa_nil)))))))
          (fun a oe cls d pn hz hf => pss_one (ps_set (i := 2) nd rfl (Or.inl rfl) (by exact (pe_tup (pa_cons pe_str (pa_cons (pe_xf N.xf N.nT hz hf (pv 4)) (pa_cons (pe_xf N.xf N.nK hz hf (pv 4)) (pa_cons (pe_xf N.xf N.nP hz hf (pv 4)) pa_nil)))))))))
      (pss_one (ps_ret (pv 2)))), ?_⟩
    have lenB := ok.lenB F hn
    have lenA := ok.lenA F
    refine ⟨_, rfl, _, rfl, fun x dx hx hdx hne => ?_⟩
    have s1 : Same H (upd (upd H dx (.own x)) x (.ins C dx [])) := fun y o e => by
      rw [upd_ne (ne_of_none e hx), upd_ne (ne_of_none e hdx)]
      exact e
    have hx1 : (upd (upd H dx (.own x)) x (.ins C dx [])) x = some (.ins C dx []) := upd_same
    generalize upd (upd H dx (.own x)) x (.ins C dx []) = H1 at s1 hx1
    have kS : ∀ {H' : Hp}, Keep [x] H1 H' → Same H H' := fun {H'} k y o e => k _ _ (s1 _ _ e) (by simpa using ne_of_none e hx)
    refine ⟨x, dx, fm, .ref th, F, T, rfl, hx1, hF.same s1, .inr ⟨th, rfl, hT.same s1⟩, by omega, by omega, fun hd sh sa sb H2 k2 hx2 S2 => ⟨rfl, ?_⟩, fun nm q hd d H2 k2 hxd => ?_⟩
    · rw [dueT_eq ok.nd] at hd
      have s2 := kS k2
      have hP2 : PlAt H2 x C fm F T := ⟨⟨dx, sh, sa, sb, _, _, hx2, S2, List.Perm.refl _, List.Perm.refl _⟩, hF.same s2, ok.nd⟩
      refine ⟨(by show 0 ≤ sizeLine; decide), fun e he => ⟨(by show 2 ≤ sizeLine; decide), fun t ht => ?_⟩⟩
      have s3 : Same H2 (upd (upd H2 e (.lst [])) t (.tup [.str "done", .ref e])) := (same_upd he).trans (same_upd ht)
      have he3 : (upd (upd H2 e (.lst [])) t (.tup [.str "done", .ref e])) e = some (.lst []) := same_upd ht _ _ upd_same
      have ht3 : (upd (upd H2 e (.lst [])) t (.tup [.str "done", .ref e])) t = some (.tup [.str "done", .ref e]) := upd_same
      generalize upd (upd H2 e (.lst [])) t (.tup [.str "done", .ref e]) = H3 at s3 he3 ht3
      have s03 := s2.trans s3
      obtain ⟨kvs, hth, hk, _⟩ := hT.ex
      have few := ok.few
      refine ⟨_, rfl, x, dx, _, rfl, s3 _ _ hx2, flds_held, x, fm, F, T, rfl, hP2.same s3, fun l H4 s4 hl => ?_⟩
      refine ⟨_, rfl, th, kvs, T.ks, rfl, .inl ((s03.trans s4) _ _ hth), hk, by omega, fun ys l2 hperm hsort hl2 => ?_⟩
      rw [srtI_uniq hperm hsort]
      have s5 : Same H4 (upd H4 l2 (.lst ((srtI T.ks).map V.int))) := same_upd hl2
      refine ne_ints (s5 _ _ hl) upd_same ⟨_, rfl, iteF ?_⟩
      exact ⟨_, rfl, q0 hd t e _ ((s03.trans s4).trans s5) ((s4.trans s5) _ _ ht3) ((s4.trans s5) _ _ he3)⟩
    · rw [dueT_eq ok.nd] at hd
      have s2 := kS k2
      refine ⟨true, N.te, fun _ a ha => ?_, fun z => Bool.noConfusion z⟩
      refine ⟨_, rfl, rfl, rfl, d, _, _, rfl, hxd, err_table nm q, _, rfl, rfl, rfl, d, _, _, rfl, hxd, err_key nm q, _, rfl, rfl, rfl, d, _, _, rfl, hxd, err_place nm q, (by show 4 ≤ sizeLine; decide), fun t ht => ?_⟩
      exact ⟨_, rfl, q1 nm q hd t _ (s2.trans (same_upd ht)) upd_same⟩
end K18
end L2
namespace L2
open PySem PySem.Spec PyProof.Rows
namespace K18
variable {P : Program} {w : World} {K : PySem.W.Frag} {mg : Str → Option Value} {base : Heap}

/-! ### what a change of the plain table leaves -/
theorem keep_no {H H' : Hp} {p C dx : Addr} {fs : List (Str × V)} (hp : H p = some (.ins C dx fs)) (k : Keep [p] H H') : ∀ b o, H b = some o → (∀ C' d' f', o ≠ .ins C' d' f') → H' b = some o := fun b o e n => k _ _ e fun z => by
  rw [List.mem_singleton.mp z, hp] at e
  exact n _ _ _ (Option.some.inj e).symm
theorem MapsAt.keepP {H H' : Hp} {hd sd p C dx : Addr} {fs : List (Str × V)} {T : Tb} (m : MapsAt H hd sd T) (hp : H p = some (.ins C dx fs)) (k : Keep [p] H H') : MapsAt H' hd sd T := by
  have no := keep_no hp k
  obtain ⟨kvh, a1, a2, a3⟩ := m.h
  obtain ⟨kvs, c1, c2, c3⟩ := m.s
  refine ⟨m.ne, m.nd, ⟨kvh, no _ _ a1 (fun _ _ _ z => nomatch z), a2, fun k hk => ?_⟩, ⟨kvs, no _ _ c1 (fun _ _ _ z => nomatch z), c2, fun k hk => ?_⟩⟩
  · obtain ⟨l, g2, e1, e2⟩ := a3 k hk
    exact ⟨l, g2, e1, no _ _ e2 (fun _ _ _ z => nomatch z)⟩
  · obtain ⟨l, e1, e2⟩ := c3 k hk
    exact ⟨l, e1, no _ _ e2 (fun _ _ _ z => nomatch z)⟩
theorem PlAt.keepP {H H' : Hp} {q p C C' fm dx : Addr} {fs : List (Str × V)} {F : Frm} {T : Tb} (h : PlAt H q C' fm F T) (hp : H p = some (.ins C dx fs)) (k : Keep [p] H H') (ne : q ≠ p) : PlAt H' q C' fm F T := by
  have no := keep_no hp k
  obtain ⟨dxq, sh, sa, sb, La, Lb, h1, h2, h3, h4⟩ := h.ex
  have noT : ∀ {s : Addr} {t : Tab} {L : List Spot} {X Y : Spot → V}, SheetAt H s t L X Y → SheetAt H' s t L X Y := fun g => by
    refine g.keep k (fun z => ?_) fun b hb x y e => ?_
    · obtain ⟨kvs, e⟩ := g.isT
      rw [List.mem_singleton.mp z, hp] at e
      cases e
    · rw [List.mem_singleton.mp hb, hp] at e
      cases e
  exact ⟨⟨dxq, sh, sa, sb, La, Lb, k _ _ h1 (by simpa using ne), ⟨no _ _ h2.sh (fun _ _ _ z => nomatch z), noT h2.a, noT h2.b, h2.la, h2.lb⟩, h3, h4⟩, h.F.keepP hp k, h.nd⟩
/-- copies of both dicts -/
theorem MapsAt.copy {H : Hp} {hd sd nh ns : Addr} {T : Tb} {kvh kvs : List (Key × V)} (m : MapsAt H hd sd T) (eh : H hd = some (.dK kvh)) (es : H sd = some (.dK kvs)) (h1 : H nh = none) (h2 : (upd H nh (.dK kvh)) ns = none) :
    MapsAt (upd (upd H nh (.dK kvh)) ns (.dK kvs)) nh ns T := by
  have s : Same H (upd (upd H nh (.dK kvh)) ns (.dK kvs)) := (same_upd h1).trans (same_upd h2)
  obtain ⟨kvh0, a1, a2, a3⟩ := m.h
  obtain ⟨kvs0, c1, c2, c3⟩ := m.s
  rw [eh] at a1
  cases a1
  rw [es] at c1
  cases c1
  have ne : nh ≠ ns := ne_of_none (upd_same (H := H) (a := nh) (o := .dK kvh)) h2
  refine ⟨ne, m.nd, ⟨kvh, by rw [upd_ne ne]; exact upd_same, a2, fun k hk => ?_⟩, ⟨kvs, upd_same, c2, fun k hk => ?_⟩⟩
  · obtain ⟨l, g2, e1, e2⟩ := a3 k hk
    exact ⟨l, g2, e1, s _ _ e2⟩
  · obtain ⟨l, e1, e2⟩ := c3 k hk
    exact ⟨l, e1, s _ _ e2⟩
structure StatAt (H : Hp) (nl cl kl fm : Addr) (F : Frm) (b : Int) : Prop where
  N : NamesAt H nl F
  Cs : ColsAt H cl F
  Ks : KeysAt H kl b
  ne : NeF F
  Fm : FormAt H fm F
  b0 : 0 ≤ b
  b1 : b + 4 < F.size
  b2 : b + 4 < 2 ^ 60
theorem StatAt.same {H H' : Hp} {nl cl kl fm : Addr} {F : Frm} {b : Int} (h : StatAt H nl cl kl fm F b) (s : Same H H') : StatAt H' nl cl kl fm F b := ⟨s _ _ h.N, s _ _ h.Cs, s _ _ h.Ks, h.ne, h.Fm.same s, h.b0, h.b1, h.b2⟩
theorem StatAt.keepP {H H' : Hp} {nl cl kl fm p C dx : Addr} {fs : List (Str × V)} {F : Frm} {b : Int} (h : StatAt H nl cl kl fm F b) (hp : H p = some (.ins C dx fs)) (k : Keep [p] H H') : StatAt H' nl cl kl fm F b := by
  have no : ∀ {b : Addr} {xs : List V}, H b = some (.lst xs) → H' b = some (.lst xs) := fun e => keep_no hp k _ _ e (fun _ _ _ z => nomatch z)
  exact ⟨no h.N, no h.Cs, no h.Ks, h.ne, h.Fm.keepP hp k, h.b0, h.b1, h.b2⟩

/-! ### the tuples that tell what is due -/
theorem shaped_done : SeqAt.shaped (.tuple [.str "done", .list []]) = true := by
  simp [SeqAt.shaped, PyData.canLay0, PyData.canLayAll0, PyData.depth, PyData.depthAll]
  decide +kernel
theorem shaped_nowhere {nm : Str} (h : PyData.strOk nm = true) (k j : Int) : SeqAt.shaped (.tuple [.str "Nowhere", .str nm, .int k, .int j]) = true := by
  have e : PyData.strOk "Nowhere" = true := by decide +kernel
  simp [SeqAt.shaped, PyData.canLay0, PyData.canLayAll0, PyData.depth, PyData.depthAll, h, e]
theorem dueK_nm {F : Frm} {T : Tb} {nm : Str} {q : Spot} (h : dueK F T = some (nm, q)) : nm = F.a.nm ∨ nm = F.b.nm := by
  unfold dueK at h
  split at h
  · cases h
    exact .inl rfl
  · split at h
    · cases h
      exact .inl rfl
    · obtain ⟨g, _, e⟩ := Option.map_eq_some_iff.mp h
      cases e
      exact .inr rfl
def DoneAt (H : Hp) (t : Addr) : Prop := ∃ e, H t = some (.tup [.str "done", .ref e]) ∧ H e = some (.lst [])
theorem ne_done {H : Hp} {t u : Addr} {Q : VK} (h1 : DoneAt H t) (h2 : DoneAt H u) (q : Q (.bl false) H) : rNeD K (.ref t) (.ref u) H Q := by
  obtain ⟨e, a1, a2⟩ := h1
  obtain ⟨g, c1, c2⟩ := h2
  exact ⟨.tuple [.str "done", .list []], .tuple [.str "done", .list []], .tup (SqT.of a1) (.cons (.str _) (.cons (.lst (SqL.of a2) .nil) .nil)), .tup (SqT.of c1) (.cons (.str _) (.cons (.lst (SqL.of c2) .nil) .nil)), shaped_done, shaped_done, by
    simp only [PyData.eqv, PyData.eqvAll]
    simpa using q⟩
theorem ne_nowhere {H : Hp} {t u : Addr} {nm : Str} {k j : Int} {Q : VK} (ho : PyData.strOk nm = true) (h1 : H t = some (.tup [.str "Nowhere", .str nm, .int k, .int j])) (h2 : H u = some (.tup [.str "Nowhere", .str nm, .int k, .int j])) (q : Q (.bl false) H) : rNeD K (.ref t) (.ref u) H Q := by
  have D : ∀ {a : Addr}, H a = some (.tup [.str "Nowhere", .str nm, .int k, .int j]) → Dp K H (.ref a) (.tuple [.str "Nowhere", .str nm, .int k, .int j]) := fun h => .tup (SqT.of h) (.cons (.str _) (.cons (.str _) (.cons (.int _) (.cons (.int _) .nil))))
  exact ⟨_, _, D h1, D h2, shaped_nowhere ho _ _, shaped_nowhere ho _ _, by
    simp only [PyData.eqv, PyData.eqvAll]
    simpa using q⟩

/-! ### a turn of the law -/
def tb0 : Tb := ⟨[], fun _ => none, fun _ => none, fun _ => []⟩
structure TurnAt (H : Hp) (nl cl kl fm p q hd sd C : Addr) (F : Frm) (b : Int) (T : Tb) (i : Nat) : Prop where
  st : StatAt H nl cl kl fm F b
  M : MapsAt H hd sd T
  P : PlAt H p C fm F T
  B : PlAt H q C fm F tb0
  qp : q ≠ p
  ok : TbOk b i T
  due : dueK F T = none
abbrev LN : List Str := ["_law_script", "_law_names_here", "_law_columns", "_law_size", "_law_drawn", "_law_keys", "_law_head", "_law_side", "_law_form", "_law_plain", "_law_beside", "_law_heads", "_law_some", "_law_cell_here", "_law_new_heads", "_law_new_some", "_law_steps_here", "_law_due_here"]
theorem sc_law : FnScope LN ["_law_script"] (defScope (top 50)) := ⟨rfl, rfl, rfl, by decide +kernel, rfl, by decide +kernel, by decide +kernel⟩
def turnBody : List Stmt := match (defBody (top 50)).getD 13 (.Pass ⟨0, 0, 0, 0⟩) with
  | .For _ _ b _ _ => b
  | _ => []
/-- the defs that the law calls -/
structure LawCl (P : Program) (w : World) (K : PySem.W.Frag) (mg : Str → Option Value) (base : Heap) (C CN : Addr) : Prop where
  cell : Cl P w K mg base 1 "_law_cell" (spCell K)
  names : Cl P w K mg base 1 "_law_names" spNames
  steps : Cl P w K mg base 3 "_law_steps" spLawSteps
  due : Cl P w K mg base 2 "_law_due" spDue
  things : Cl P w K mg base 2 "_law_things" (spThings K)
  written : Cl P w K mg base 9 "_law_written" (spWritten C)
  made : Cl P w K mg base 7 "_law_made" spMade
  tells : Cl P w K mg base 3 "_law_tells" (spTells C)
  G : Gs mg
  T0 : PlCls K mg C
  MM : Meths P w K mg base C CN
  MK : Makes P w K mg base C CN
theorem law_turn {C CN : Addr} (L : LawCl P w K mg base C CN) (f : Addr) (cdv : Value) (A : Around) (outer : List Env) (s : Shared) (H0 : Hp) (E : XK) (hr : Room 9 (A.deeper (envOfC "law" (defScope (top 50)) s.heap.objs.size f cdv))) :
    ∃ tb, PSs (cxOf CX0 P w K mg base LN "law" (defScope (top 50)) f cdv A outer s H0 E).nox turnBody tb ∧
      ∀ (D : Ends) (nl cl kl fm p q hd sd : Addr) (F : Frm) (b : Int) (T : Tb) (i : Nat) (c : Int) (H : Hp) (v0 v3 v4 v6 v7 o14 o15 o16 o17 : Option V), TurnAt H nl cl kl fm p q hd sd C F b T i → i < 24 →
        (∀ (H' : Hp) (hd' sd' : Addr) (T' : Tb) (o14 o15 o16 o17 : Option V), TurnAt H' nl cl kl fm p q hd' sd' C F b T' (i + 1) → Keep [p] H H' → D.nx [v0, some (.ref nl), some (.ref cl), v3, v4, some (.ref kl), v6, v7, some (.ref fm), some (.ref p), some (.ref q), some (.ref hd'), some (.ref sd'), some (.int c), o14, o15, o16, o17] H') →
        tb D [v0, some (.ref nl), some (.ref cl), v3, v4, some (.ref kl), v6, v7, some (.ref fm), some (.ref p), some (.ref q), some (.ref hd), some (.ref sd), some (.int c), o14, o15, o16, o17] H := by
  have nd := sc_law.nd
  have hu64 := hr.units
  have G := L.G
  refine ⟨_, pss_cons (ps_set (i := 14) nd rfl (Or.inl rfl) (pe_callTy call_dictD (by rfl) G.dict PyProof.Rows.boot_dict (pa_cons (pv 11) pa_nil)))
    (pss_cons (ps_set (i := 15) nd rfl (Or.inl rfl) (pe_callTy call_dictD (by rfl) G.dict PyProof.Rows.boot_dict (pa_cons (pv 12) pa_nil)))
    (pss_cons (ps_set (i := 16) nd rfl (Or.inl rfl) (pe_cl L.steps hr (by decide) (by rfl) (pa_cons (pv 1) (pa_cons (pv 2) (pa_cons (pv 5) (pa_cons (pv 14) (pa_cons (pv 15) (pa_cons (pv 13) pa_nil))))))))
    (pss_cons (ps_set (i := 17) nd rfl (Or.inl rfl) (pe_cl L.due hr (by decide) (by rfl) (pa_cons (pv 1) (pa_cons (pv 14) (pa_cons (pv 15) pa_nil)))))
    (pss_cons (ps_if (pt_cmpR (op_neD hu64) (pe_cl L.written hr (by decide) (by rfl) (pa_cons (pv 9) (pa_cons (pv 16) pa_nil))) (pv 17) (nomark _)) (pss_one (ps_ret pe_bl)) pss_nil)
    (pss_cons (ps_if (pt_cmpR (op_neD hu64) (pe_cl L.made hr (by decide) (by rfl) (pa_cons (pv 8) (pa_cons (pe_cl L.things hr (by decide) (by rfl) (pa_cons (pv 1) (pa_cons (pv 2) (pa_cons (pv 14) (pa_cons (pv 15) pa_nil))))) pa_nil))) (pv 17) (nomark _)) (pss_one (ps_ret pe_bl)) pss_nil)
    (pss_cons (ps_if (pt_cmpR op_eq (pe_ix ix_tup (pv 17) pe_int (fun _ _ => rfl)) pe_str (nomark _)) (pss_cons (ps_set (i := 11) nd rfl (Or.inl rfl) (pv 14)) (pss_one (ps_set (i := 12) nd rfl (Or.inl rfl) (pv 15)))) pss_nil)
    (pss_one (ps_if (pt_not (pt_val (pe_cl L.tells hr (by decide) (by rfl) (pa_cons (pv 9) (pa_cons (pe_cl L.things hr (by decide) (by rfl) (pa_cons (pv 1) (pa_cons (pv 2) (pa_cons (pv 11) (pa_cons (pv 12) pa_nil))))) pa_nil))))) (pss_one (ps_ret pe_bl)) pss_nil)))))))), ?_⟩
  intro D nl cl kl fm p q hd sd F b T i c H v0 v3 v4 v6 v7 o14 o15 o16 o17 TA hi nx
  obtain ⟨kvh, m1, m2, m3⟩ := id TA.M.h
  obtain ⟨kvs, c1, c2, c3⟩ := id TA.M.s
  refine ⟨_, rfl, hd, kvh, rfl, .inl m1, fun nh hnh => ?_⟩
  refine ⟨_, rfl, sd, kvs, rfl, .inl (same_upd hnh _ _ c1), fun ns hns => ?_⟩
  have s1 : Same H (upd (upd H nh (.dK kvh)) ns (.dK kvs)) := (same_upd hnh).trans (same_upd hns)
  have M1 := MapsAt.copy TA.M m1 c1 hnh hns
  have h0ns : H ns = none := by
    cases e : H ns with
    | none => rfl
    | some o =>
      rw [same_upd hnh _ _ e] at hns
      cases hns
  generalize upd (upd H nh (.dK kvh)) ns (.dK kvs) = H1 at s1 M1
  have st1 := TA.st.same s1
  refine ⟨_, rfl, _, rfl, _, rfl, _, rfl, _, rfl, _, rfl, nl, cl, kl, nh, ns, c, b, F, T, i, rfl, ⟨st1.N, st1.Cs, st1.Ks, st1.ne⟩, M1, ⟨TA.ok, by omega⟩, ⟨st1.b0, st1.b1⟩, fun l H2 T' sts k2 M2 St2 mv ok' hlen => ?_⟩
  have s2 : Same H H2 := fun y o e => k2 _ _ (s1 _ _ e) fun z => by
    rcases List.mem_cons.mp z with e2 | z
    · exact ne_of_none e hnh e2
    · exact ne_of_none e h0ns (List.mem_singleton.mp z)
  have few := ok'.few
  have lenB := ok'.lenB F (by omega)
  have st2 := TA.st.same s2
  refine ⟨_, rfl, _, rfl, _, rfl, nl, nh, ns, F, T', rfl, st2.N, M2, by omega, by omega, fun hd0 dt de H3 s3 hdt hde => ?_, fun nm g hd0 dt H3 s3 hdt => ?_⟩
  · -- nothing is due: the write is done
    have s03 := s2.trans s3
    have P3 := TA.P.same s03
    obtain ⟨dx, sh, hp3⟩ := P3.ins
    refine ⟨_, rfl, _, rfl, p, l, fm, F, T, T', sts, b, i, i + 1, rfl, P3, St2.same s3, mv, ⟨TA.ok, ok', by omega, by omega, hlen⟩, ⟨st2.b0, st2.b2⟩, fun _ t e H4 k4 P4 ht he => ?_, fun nm g h => by rw [hd0] at h; cases h⟩
    have no4 := keep_no hp3 k4
    have d4 : DoneAt H4 dt := ⟨de, no4 _ _ hdt (fun _ _ _ z => nomatch z), no4 _ _ hde (fun _ _ _ z => nomatch z)⟩
    refine ⟨_, rfl, ne_done ⟨e, ht, he⟩ d4 ⟨_, rfl, iteF ?_⟩⟩
    have st4 := (TA.st.same s03).keepP hp3 k4
    have M4 := (M2.same s3).keepP hp3 k4
    refine ⟨_, rfl, _, rfl, _, rfl, _, rfl, _, rfl, nl, cl, nh, ns, F, T', rfl, st4.N, st4.Cs, st4.ne, M4, by omega, fun k hk => Nat.le_trans (ok'.so k hk).2 (by omega), fun th H5 s5 th5 => ?_⟩
    have d5 : DoneAt H5 dt := by
      obtain ⟨e', a1, a2⟩ := d4
      exact ⟨e', s5 _ _ a1, s5 _ _ a2⟩
    refine ⟨fm, th, F, T', b, i + 1, rfl, (st4.same s5).Fm, th5, ok', by omega, fun _ t2 e2 H6 s6 ht2 he2 => ?_, fun nm g h => by rw [hd0] at h; cases h⟩
    have d6 : DoneAt H6 dt := by
      obtain ⟨e', a1, a2⟩ := d5
      exact ⟨e', s6 _ _ a1, s6 _ _ a2⟩
    refine ⟨_, rfl, ne_done ⟨e2, ht2, he2⟩ d6 ⟨_, rfl, iteF ?_⟩⟩
    obtain ⟨e6, a6, _⟩ := d6
    refine ⟨_, rfl, dt, _, _, _, rfl, rfl, SqT.of a6, atI_nat (j := 0) rfl, rfl, _, rfl, ifY rfl ?_⟩
    have s46 := s5.trans s6
    have st6 := st4.same s46
    have M6 := M4.same s46
    refine ⟨_, rfl, _, rfl, ?_⟩
    refine ⟨_, rfl, _, rfl, _, rfl, _, rfl, _, rfl, nl, cl, nh, ns, F, T', rfl, st6.N, st6.Cs, st6.ne, M6, by omega, fun k hk => Nat.le_trans (ok'.so k hk).2 (by omega), fun th2 H7 s7 th7 => ?_⟩
    have s47 := s46.trans s7
    refine ⟨p, th2, fm, F, T', rfl, P4.same s47, th7, by omega, fun H8 s8 => ⟨true, rfl, iteF ?_⟩⟩
    have s48 := s47.trans s8
    refine nx H8 nh ns T' _ _ _ _ ⟨st4.same s48, M4.same s48, P4.same s48, ?_, TA.qp, ok', hd0⟩ ((Keep.of_same s03).trans (k4.trans (Keep.of_same s48)))
    exact ((TA.B.same s03).keepP hp3 k4 TA.qp).same s48
  · -- a row points to nothing: the write is refused
    have s03 := s2.trans s3
    have P3 := TA.P.same s03
    have hnm : PyData.strOk nm = true := by
      rcases dueK_nm hd0 with e | e <;> rw [e]
      · exact TA.st.ne.oa
      · exact TA.st.ne.ob
    refine ⟨_, rfl, _, rfl, p, l, fm, F, T, T', sts, b, i, i + 1, rfl, P3, St2.same s3, mv, ⟨TA.ok, ok', by omega, by omega, hlen⟩, ⟨st2.b0, st2.b2⟩, (fun h => by rw [hd0] at h; cases h), fun nm2 g2 h t H4 s4 ht => ?_⟩
    rw [hd0] at h
    cases h
    refine ⟨_, rfl, ne_nowhere hnm ht (s4 _ _ hdt) ⟨_, rfl, iteF ?_⟩⟩
    have s04 := s03.trans s4
    have st4 := TA.st.same s04
    have M4 := (M2.same s3).same s4
    refine ⟨_, rfl, _, rfl, _, rfl, _, rfl, _, rfl, nl, cl, nh, ns, F, T', rfl, st4.N, st4.Cs, st4.ne, M4, by omega, fun k hk => Nat.le_trans (ok'.so k hk).2 (by omega), fun th H5 s5 th5 => ?_⟩
    refine ⟨fm, th, F, T', b, i + 1, rfl, (st4.same s5).Fm, th5, ok', by omega, (fun h => by rw [hd0] at h; cases h), fun nm3 g3 h t2 H6 s6 ht2 => ?_⟩
    rw [hd0] at h
    cases h
    have dt6 := ((s4.trans s5).trans s6) _ _ hdt
    refine ⟨_, rfl, ne_nowhere hnm ht2 dt6 ⟨_, rfl, iteF ?_⟩⟩
    refine ⟨_, rfl, dt, _, _, _, rfl, rfl, SqT.of dt6, atI_nat (j := 0) rfl, rfl, _, rfl, ifN (by decide +kernel) ?_⟩
    have s06 := (s04.trans s5).trans s6
    have st6 := TA.st.same s06
    have few0 := TA.ok.few
    refine ⟨_, rfl, _, rfl, _, rfl, _, rfl, _, rfl, nl, cl, hd, sd, F, T, rfl, st6.N, st6.Cs, st6.ne, TA.M.same s06, by omega, fun k hk => Nat.le_trans (TA.ok.so k hk).2 (by omega), fun th2 H7 s7 th7 => ?_⟩
    have s07 := s06.trans s7
    refine ⟨p, th2, fm, F, T, rfl, TA.P.same s07, th7, by omega, fun H8 s8 => ⟨true, rfl, iteF ?_⟩⟩
    have s08 := s07.trans s8
    exact nx H8 hd sd T _ _ _ _ ⟨TA.st.same s08, TA.M.same s08, TA.P.same s08, TA.B.same s08, TA.qp, TA.ok.mono (by omega), TA.due⟩ (Keep.of_same s08)
end K18
end L2
namespace L2
open PySem PySem.Spec PyProof.Rows
namespace K18
variable {P : Program} {w : World} {K : PySem.W.Frag} {mg : Str → Option Value} {base : Heap}

theorem eq_ints {H : Hp} {a c : Addr} {ns : List Int} {Q : VK} (h1 : H a = some (.lst (ns.map V.int))) (h2 : H c = some (.lst (ns.map V.int))) (q : Q (.bl true) H) : rEqD K (.ref a) (.ref c) H Q := by
  refine ⟨_, _, .lst (SqL.of h1) (dpAll_ints ns), .lst (SqL.of h2) (dpAll_ints ns), shaped_ints' ns, shaped_ints' ns, ?_⟩
  rw [eqv_ints]
  exact q
theorem srt_nil : srtI [] = [] := by simp [srtI]
theorem due_tb0 (F : Frm) : dueK F tb0 = none := by
  unfold dueK
  show (match fst_ [] ((srtI []).map fun k => (k, 0)) (cA F tb0).X with
    | some q => some (F.a.nm, q)
    | none => match fst_ [] ((srtI []).map fun k => (k, 0)) (cA F tb0).Y with
      | some q => some (F.a.nm, q)
      | none => (fst_ [] (spots (cB F tb0).n (srtI [])) (cB F tb0).X).map fun q => (F.b.nm, q)) = none
  rw [srt_nil]
  rfl
theorem ok_tb0 (b : Int) : TbOk b 0 tb0 := ⟨List.nodup_nil, fun k h => (nomatch h), fun k h => (nomatch h)⟩
theorem mv_nil {F : Frm} {T : Tb} : Mv F T [] T := fun S R => ⟨True.intro, R⟩
def spLaw (K : PySem.W.Frag) : Sp := fun vs H Q _ => ∃ (a : Addr) (ns : List Int), vs = [.ref a] ∧ SqL K H a (ns.map V.int) ∧ ns.length ≤ 63 ∧ ∀ H', Q (.bl true) H'
theorem cut24 (ns : List Int) : (cutV (ns.map V.int) none (some 24)).length ≤ 24 ∧ ∀ x ∈ cutV (ns.map V.int) none (some 24), ∃ z, x = V.int z := by
  unfold cutV
  refine ⟨?_, fun x hx => ?_⟩
  · rw [List.length_take]
    have e : HT.sIx (ns.map V.int).length (ns.map V.int).length (some 24) = min 24 (ns.map V.int).length := HT.sIx_nat _ _ 24
    rw [e, HT.sIx_none]
    omega
  · obtain ⟨z, _, rfl⟩ := List.mem_map.mp (List.mem_of_mem_drop (List.mem_of_mem_take hx))
    exact ⟨z, rfl⟩
theorem ten12 : (10 : Int) ^ (12 : Int).toNat - 4 = 999999999996 := by decide
theorem fn_law {C CN f : Addr} {fd : FuncData} (F0 : L2.Fun K "law" "law" (top 50) f fd) (L : LawCl P w K mg base C CN) : FnOk P w K mg base CX0 10 f fd ["_law_script"] (spLaw K) := by
  refine F0.ok sc_law (fun vs H Q E h => ?_) (fun cdv A outer s H vs Q E hr h => ?_)
  · obtain ⟨a, ns, rfl, _⟩ := h
    rfl
  · obtain ⟨a, ns, rfl, hA, h63, q⟩ := h
    have nd := sc_law.nd
    have hu64 := hr.units
    have G := L.G
    have T0 := L.T0
    obtain ⟨f1, fd1, m1, F1, b1⟩ := L.MM.held
    obtain ⟨f3, fd3, m3, F3, b3⟩ := L.MM.write
    obtain ⟨fI, fdI, mI, FI, _, ds, hds, bI⟩ := L.MK.ex
    obtain ⟨tb, htb, hturn⟩ := law_turn L f cdv A outer s H E hr
    have rest : ∃ t, PSs (cxOf CX0 P w K mg base LN "law" (defScope (top 50)) f cdv A outer s H E).nox ((defBody (top 50)).drop 3) t ∧
        ∀ (nl cl : Addr) (n0 n1 c0 c1 c2 c3 : Str) (H0 : Hp), SqL K H0 a (ns.map V.int) → H0 nl = some (.lst [.str n0, .str n1]) → H0 cl = some (.lst [.str c0, .str c1, .str c2, .str c3]) → ¬ n0 = n1 → PyData.strOk n0 = true → PyData.strOk n1 = true → ltS c0 c1 → ltS c2 c3 →
          t { nx := fun _ H' => Q .non H', rt := Q } [some (.ref a), some (.ref nl), some (.ref cl), none, none, none, none, none, none, none, none, none, none, none, none, none, none, none] H0 := by
      refine ⟨_, pss_cons (ps_set (i := 3) nd rfl (Or.inl rfl) (pe_op op_add pe_int (pe_op op_mod (pe_op op_fdiv (pe_cl L.cell hr (by decide) (by rfl) (pa_cons (pv 0) (pa_cons pe_int pa_nil))) pe_int) (pe_op op_sub (pe_op op_pow pe_int pe_int) pe_int))))
        (pss_cons (ps_set (i := 4) nd rfl (Or.inl rfl) (pe_op op_mod (pe_cl L.cell hr (by decide) (by rfl) (pa_cons (pv 0) (pa_cons pe_int pa_nil))) (pe_op op_sub (pv 3) pe_int)))
        (pss_cons (ps_set (i := 5) nd rfl (Or.inl rfl) (pe_lst (pa_cons (pe_op op_add (pv 4) pe_int) (pa_cons (pv 4) (pa_cons (pe_op op_add (pv 4) pe_int) (pa_cons (pe_op op_add (pv 4) pe_int) (pa_cons (pe_op op_add (pv 4) pe_int) pa_nil)))))))
        (pss_cons (ps_set (i := 6) nd rfl (Or.inl rfl) (_root_.K18.pe_tupZ (pa_cons (pe_tup (pa_cons (pe_ix ix_list (pv 2) pe_int (fun _ _ => rfl)) (pa_cons (pe_tup (pa_cons pe_str pa_nil)) pa_nil))) (pa_cons (pe_tup (pa_cons (pe_ix ix_list (pv 2) pe_int (fun _ _ => rfl)) (pa_cons (pe_tup (pa_cons pe_str pa_nil)) pa_nil))) pa_nil))))
        (pss_cons (ps_set (i := 7) nd rfl (Or.inl rfl) (_root_.K18.pe_tupZ (pa_cons (pe_tup (pa_cons (pe_ix ix_list (pv 2) pe_int (fun _ _ => rfl)) (pa_cons (pe_tup (pa_cons pe_str pa_nil)) pa_nil))) (pa_cons (pe_tup (pa_cons (pe_ix ix_list (pv 2) pe_int (fun _ _ => rfl)) (pa_cons (pe_tup (pa_cons pe_str pa_nil)) pa_nil))) pa_nil))))
        (pss_cons (ps_set (i := 8) nd rfl (Or.inl rfl) (pe_tup (pa_cons (pv 3) (pa_cons (pe_tup (pa_cons (pe_tup (pa_cons (pe_ix ix_list (pv 1) pe_int (fun _ _ => rfl)) (pa_cons pe_str (pa_cons (pv 6) pa_nil)))) (pa_cons (pe_tup (pa_cons (pe_ix ix_list (pv 1) pe_int (fun _ _ => rfl)) (pa_cons pe_str (pa_cons (pv 7) pa_nil)))) pa_nil))) pa_nil))))
        (pss_cons (ps_set (i := 9) nd rfl (Or.inl rfl) (pe_makeX (W := fun _ _ _ _ => False) (dvs := [.non]) mI FI (hr.mono (by decide)) rfl T0.gC bI hds takes0 (pa_cons (pv 8) pa_nil)))
        (pss_cons (ps_set (i := 10) nd rfl (Or.inl rfl) (pe_makeX (W := fun _ _ _ _ => False) (dvs := [.non]) mI FI (hr.mono (by decide)) rfl T0.gC bI hds takes0 (pa_cons (pv 8) pa_nil)))
        (pss_cons (ps_set (i := 11) nd rfl (Or.inl rfl) pe_dnewK)
        (pss_cons (ps_set (i := 12) nd rfl (Or.inl rfl) pe_dnewK)
        (pss_cons (ps_for PassesOwn.never rfl (pi_list (pe_slice sl_list (pv 0) po_none (po_some pe_int))) (pg_name (i := 13) nd rfl (Or.inl rfl)) htb)
        (pss_one (ps_ret (pe_and (pe_cmpR (op_eqD hu64) (pe_methX (W := fun _ _ _ _ => False) (pv 9) T0.cl m3 F3 (hr.mono (by decide)) b3 takes0 (pa_cons (pe_lst pa_nil) pa_nil)) (pe_lst pa_nil) (nomark _))
          (pe_and (pe_cmpR (op_eqD hu64) (pe_meth0 (pv 9) T0.cl m1 F1 (hr.mono (by decide)) b1 .nil pass0) (pe_callB (call_sortedDI rfl) (by rfl) G.sorted PyProof.Rows.boot_sorted (pa_cons (pv 11) pa_nil)) (nomark _))
          (pe_one (pe_cmpR (op_eqD hu64) (pe_meth0 (pv 10) T0.cl m1 F1 (hr.mono (by decide)) b1 .nil pass0) (pe_lst pa_nil) (nomark _))))))))))))))))), ?_⟩
      intro nl cl n0 n1 c0 c1 c2 c3 H0 hS hN hC hne hok0 hok1 hl01 hl23
      refine ⟨_, rfl, a, ns, 2, rfl, hS, fun z2 => ⟨_, _, rfl, rfl, ⟨by decide, by decide⟩, _, _, rfl, rfl, ⟨by decide, by decide, by decide⟩, _, _, rfl, rfl, _, _, rfl, rfl, (by show (0 : Int) < 10 ^ (12 : Int).toNat - 4; decide), _, _, rfl, rfl, ?_⟩⟩
      have hz : 0 ≤ z2 / 2 % (10 ^ (12 : Int).toNat - 4) ∧ z2 / 2 % (10 ^ (12 : Int).toNat - 4) < 999999999996 := by
        rw [ten12]
        omega
      change tSeq _ _ _ [some (.ref a), some (.ref nl), some (.ref cl), some (.int (5 + z2 / 2 % (10 ^ (12 : Int).toNat - 4))), none, none, none, none, none, none, none, none, none, none, none, none, none, none] H0
      generalize z2 / 2 % (10 ^ (12 : Int).toNat - 4) = y2 at hz
      generalize hSz : 5 + y2 = Sz
      refine ⟨_, rfl, a, ns, 3, rfl, hS, fun z3 => ⟨_, rfl, _, _, rfl, rfl, _, _, rfl, rfl, (by show (0 : Int) < Sz - 4; omega), ?_⟩⟩
      have hb0 : 0 ≤ z3 % (Sz - 4) := Int.emod_nonneg _ (by omega)
      have hb1 : z3 % (Sz - 4) < Sz - 4 := Int.emod_lt_of_pos _ (by omega)
      change tSeq _ _ _ [some (.ref a), some (.ref nl), some (.ref cl), some (.int Sz), some (.int (z3 % (Sz - 4))), none, none, none, none, none, none, none, none, none, none, none, none, none] H0
      generalize z3 % (Sz - 4) = b at hb0 hb1
      refine ⟨_, rfl, _, _, rfl, rfl, _, rfl, _, rfl, _, _, rfl, rfl, _, rfl, _, _, rfl, rfl, _, rfl, _, _, rfl, rfl, (by show 5 ≤ sizeLine; decide), fun kl hkl => ?_⟩
      have s1 : Same H0 (upd H0 kl (.lst [.int (b + 3), .int b, .int (b + 4), .int (b + 1), .int (b + 2)])) := same_upd hkl
      have e1 : KeysAt (upd H0 kl (.lst [.int (b + 3), .int b, .int (b + 4), .int (b + 1), .int (b + 2)])) kl b := upd_same
      change tSeq _ _ _ [some (.ref a), some (.ref nl), some (.ref cl), some (.int Sz), some (.int b), some (.ref kl), none, none, none, none, none, none, none, none, none, none, none, none] (upd H0 kl (.lst [.int (b + 3), .int b, .int (b + 4), .int (b + 1), .int (b + 2)]))
      generalize upd H0 kl (.lst [.int (b + 3), .int b, .int (b + 4), .int (b + 1), .int (b + 2)]) = H1 at s1 e1
      have hC1 := s1 _ _ hC
      -- head
      refine ⟨_, rfl, cl, _, _, _, rfl, rfl, SqL.of hC1, atI_nat (j := 0) rfl, (by show 1 ≤ sizeLine; decide), fun qa hqa => ?_⟩
      have s2 : Same H1 (upd H1 qa (.tup [.str "key"])) := same_upd hqa
      have e2 : (upd H1 qa (.tup [.str "key"])) qa = some (.tup [.str "key"]) := upd_same
      generalize upd H1 qa (.tup [.str "key"]) = H2 at s2 e2
      refine ⟨(by show 2 ≤ sizeLine; decide), fun pa hpa => ?_⟩
      have s3 : Same H2 (upd H2 pa (.tup [.str c0, .ref qa])) := same_upd hpa
      have e3 : (upd H2 pa (.tup [.str c0, .ref qa])) pa = some (.tup [.str c0, .ref qa]) := upd_same
      generalize upd H2 pa (.tup [.str c0, .ref qa]) = H3 at s3 e3
      have s13 := s2.trans s3
      refine ⟨_, rfl, cl, _, _, _, rfl, rfl, SqL.of (s13 _ _ hC1), atI_nat (j := 1) rfl, (by show 1 ≤ sizeLine; decide), fun qb hqb => ?_⟩
      have s4 : Same H3 (upd H3 qb (.tup [.str "key"])) := same_upd hqb
      have e4 : (upd H3 qb (.tup [.str "key"])) qb = some (.tup [.str "key"]) := upd_same
      generalize upd H3 qb (.tup [.str "key"]) = H4 at s4 e4
      refine ⟨(by show 2 ≤ sizeLine; decide), fun pb hpb => ?_⟩
      have s5 : Same H4 (upd H4 pb (.tup [.str c1, .ref qb])) := same_upd hpb
      have e5 : (upd H4 pb (.tup [.str c1, .ref qb])) pb = some (.tup [.str c1, .ref qb]) := upd_same
      generalize upd H4 pb (.tup [.str c1, .ref qb]) = H5 at s5 e5
      refine ⟨(by show 2 ≤ sizeLine; decide), fun ka oka hka hoka => ?_⟩
      have s6 : Same H5 (upd H5 ka (.frz oka (.tup [.ref pa, .ref pb]))) := same_upd hka
      have e6 : _root_.K18.PlainT (upd H5 ka (.frz oka (.tup [.ref pa, .ref pb]))) ka [.ref pa, .ref pb] := ⟨oka, upd_same, hoka⟩
      generalize upd H5 ka (.frz oka (.tup [.ref pa, .ref pb])) = H6 at s6 e6
      have s36 := s4.trans (s5.trans s6)
      have s16 := s13.trans s36
      have hC6 := s16 _ _ hC1
      -- side
      refine ⟨_, rfl, cl, _, _, _, rfl, rfl, SqL.of hC6, atI_nat (j := 2) rfl, (by show 1 ≤ sizeLine; decide), fun qc hqc => ?_⟩
      have s7 : Same H6 (upd H6 qc (.tup [.str "key"])) := same_upd hqc
      have e7 : (upd H6 qc (.tup [.str "key"])) qc = some (.tup [.str "key"]) := upd_same
      generalize upd H6 qc (.tup [.str "key"]) = H7 at s7 e7
      refine ⟨(by show 2 ≤ sizeLine; decide), fun pc hpc => ?_⟩
      have s8 : Same H7 (upd H7 pc (.tup [.str c2, .ref qc])) := same_upd hpc
      have e8 : (upd H7 pc (.tup [.str c2, .ref qc])) pc = some (.tup [.str c2, .ref qc]) := upd_same
      generalize upd H7 pc (.tup [.str c2, .ref qc]) = H8 at s8 e8
      have s68 := s7.trans s8
      refine ⟨_, rfl, cl, _, _, _, rfl, rfl, SqL.of (s68 _ _ hC6), atI_nat (j := 3) rfl, (by show 1 ≤ sizeLine; decide), fun qd hqd => ?_⟩
      have s9 : Same H8 (upd H8 qd (.tup [.str "whole"])) := same_upd hqd
      have e9 : (upd H8 qd (.tup [.str "whole"])) qd = some (.tup [.str "whole"]) := upd_same
      generalize upd H8 qd (.tup [.str "whole"]) = H9 at s9 e9
      refine ⟨(by show 2 ≤ sizeLine; decide), fun pd hpd => ?_⟩
      have s10 : Same H9 (upd H9 pd (.tup [.str c3, .ref qd])) := same_upd hpd
      have e10 : (upd H9 pd (.tup [.str c3, .ref qd])) pd = some (.tup [.str c3, .ref qd]) := upd_same
      generalize upd H9 pd (.tup [.str c3, .ref qd]) = H10 at s10 e10
      refine ⟨(by show 2 ≤ sizeLine; decide), fun kb okb hkb hokb => ?_⟩
      have s11 : Same H10 (upd H10 kb (.frz okb (.tup [.ref pc, .ref pd]))) := same_upd hkb
      have e11 : _root_.K18.PlainT (upd H10 kb (.frz okb (.tup [.ref pc, .ref pd]))) kb [.ref pc, .ref pd] := ⟨okb, upd_same, hokb⟩
      generalize upd H10 kb (.frz okb (.tup [.ref pc, .ref pd])) = H11 at s11 e11
      have s8b := s9.trans (s10.trans s11)
      have s611 := s68.trans s8b
      have s011 := s1.trans (s16.trans s611)
      have hN11 := s011 _ _ hN
      -- form
      refine ⟨_, rfl, _, rfl, nl, _, _, _, rfl, rfl, SqL.of hN11, atI_nat (j := 0) rfl, _, rfl, (by show 3 ≤ sizeLine; decide), fun at0 hat0 => ?_⟩
      have s12 : Same H11 (upd H11 at0 (.tup [.str n0, .str "head", .ref ka])) := same_upd hat0
      have e12 : (upd H11 at0 (.tup [.str n0, .str "head", .ref ka])) at0 = some (.tup [.str n0, .str "head", .ref ka]) := upd_same
      generalize upd H11 at0 (.tup [.str n0, .str "head", .ref ka]) = H12 at s12 e12
      refine ⟨_, rfl, nl, _, _, _, rfl, rfl, SqL.of (s12 _ _ hN11), atI_nat (j := 1) rfl, _, rfl, (by show 3 ≤ sizeLine; decide), fun at1 hat1 => ?_⟩
      have s13' : Same H12 (upd H12 at1 (.tup [.str n1, .str "some", .ref kb])) := same_upd hat1
      have e13 : (upd H12 at1 (.tup [.str n1, .str "some", .ref kb])) at1 = some (.tup [.str n1, .str "some", .ref kb]) := upd_same
      generalize upd H12 at1 (.tup [.str n1, .str "some", .ref kb]) = H13 at s13' e13
      refine ⟨(by show 2 ≤ sizeLine; decide), fun tabs htabs => ?_⟩
      have s14 : Same H13 (upd H13 tabs (.tup [.ref at0, .ref at1])) := same_upd htabs
      have e14 : (upd H13 tabs (.tup [.ref at0, .ref at1])) tabs = some (.tup [.ref at0, .ref at1]) := upd_same
      generalize upd H13 tabs (.tup [.ref at0, .ref at1]) = H14 at s14 e14
      refine ⟨(by show 2 ≤ sizeLine; decide), fun fm hfm => ?_⟩
      have s15 : Same H14 (upd H14 fm (.tup [.int Sz, .ref tabs])) := same_upd hfm
      have e15 : (upd H14 fm (.tup [.int Sz, .ref tabs])) fm = some (.tup [.int Sz, .ref tabs]) := upd_same
      generalize upd H14 fm (.tup [.int Sz, .ref tabs]) = H15 at s15 e15
      have u14 := s14.trans s15
      have u13 := s13'.trans u14
      have u12 := s12.trans u13
      have u11 := s11.trans u12
      have u8 := s8b.trans u12
      have u6 := s68.trans u8
      have u3 := s36.trans u6
      obtain ⟨F, hF, eSz, nF, dF, cF⟩ : ∃ F : Frm, FormAt H15 fm F ∧ F.size = Sz ∧ NeF F ∧ (F.a.nm = n0 ∧ F.b.nm = n1) ∧ F.a.ca = c0 ∧ F.a.cb = c1 ∧ F.b.ca = c2 ∧ F.b.cb = c3 :=
        ⟨⟨Sz, tabs, ⟨n0, "head", c0, c1, "key", at0, ka, pa, pb, qa, qb⟩, ⟨n1, "some", c2, c3, "whole", at1, kb, pc, pd, qc, qd⟩⟩,
          ⟨e15, s15 _ _ e14, ⟨u13 _ _ e12, plainT_same u6 e6, u3 _ _ e3, (s6.trans u6) _ _ e5, (s3.trans u3) _ _ e2, (s5.trans (s6.trans u6)) _ _ e4, ltS_ne hl01, hl01⟩,
            ⟨u14 _ _ e13, plainT_same u12 e11, u8 _ _ e8, u11 _ _ e10, (s8.trans u8) _ _ e7, (s10.trans u11) _ _ e9, ltS_ne hl23, hl23⟩, hne, rfl, rfl, rfl, rfl⟩,
          rfl, ⟨ltS_ne hl01, ltS_ne hl23, hne, hok0, hok1⟩, ⟨rfl, rfl⟩, rfl, rfl, rfl, rfl⟩
      have s015 := s011.trans u12
      have st15 : StatAt H15 nl cl kl fm F b := by
        refine ⟨?_, ?_, (s16.trans (s611.trans u12)) _ _ e1, nF, hF, hb0, by omega, ?_⟩
        · unfold NamesAt
          rw [dF.1, dF.2]
          exact s015 _ _ hN
        · unfold ColsAt
          rw [cF.1, cF.2.1, cF.2.2.1, cF.2.2.2]
          exact s015 _ _ hC
        · have : (2 : Int) ^ 60 = 1152921504606846976 := by decide
          omega
      have noDue : ∀ {nm : Str} {g : Spot}, ¬ dueT F tb0 = some (nm, g) := fun {nm g} z => by
        rw [dueT_eq List.nodup_nil, due_tb0] at z
        cases z
      -- plain = Plain(form)
      refine ⟨_, rfl, fun p dxp hp0 hdx0 hnp => ?_⟩
      have v1 : Same H15 (upd (upd H15 dxp (.own p)) p (.ins C dxp [])) := fun y o e => by
        rw [upd_ne (ne_of_none e hp0), upd_ne (ne_of_none e hdx0)]
        exact e
      have hp1 : (upd (upd H15 dxp (.own p)) p (.ins C dxp [])) p = some (.ins C dxp []) := upd_same
      generalize upd (upd H15 dxp (.own p)) p (.ins C dxp []) = G1 at v1 hp1
      refine ⟨p, dxp, fm, .non, F, tb0, rfl, hp1, hF.same v1, .inl ⟨rfl, rfl⟩, Nat.zero_le _, Nat.zero_le _, fun _ sh sa sb G2 k2 hp2 S2 => ⟨rfl, ?_⟩, fun nm g z => absurd z noDue⟩
      have v2 : Same H15 G2 := fun y o e => k2 _ _ (v1 _ _ e) (by simpa using ne_of_none e hp0)
      have P2 : PlAt G2 p C fm F tb0 := ⟨⟨dxp, sh, sa, sb, _, _, hp2, S2, List.Perm.refl _, List.Perm.refl _⟩, hF.same v2, List.nodup_nil⟩
      -- beside = Plain(form)
      refine ⟨_, rfl, fun q2 dxq hq0 hdq0 hnq => ?_⟩
      have hqp : q2 ≠ p := (ne_of_none hp2 hq0).symm
      have v3 : Same G2 (upd (upd G2 dxq (.own q2)) q2 (.ins C dxq [])) := fun y o e => by
        rw [upd_ne (ne_of_none e hq0), upd_ne (ne_of_none e hdq0)]
        exact e
      have hq1 : (upd (upd G2 dxq (.own q2)) q2 (.ins C dxq [])) q2 = some (.ins C dxq []) := upd_same
      generalize upd (upd G2 dxq (.own q2)) q2 (.ins C dxq []) = G3 at v3 hq1
      refine ⟨q2, dxq, fm, .non, F, tb0, rfl, hq1, hF.same (v2.trans v3), .inl ⟨rfl, rfl⟩, Nat.zero_le _, Nat.zero_le _, fun _ sh3 sa3 sb3 G4 k4 hq4 S4 => ⟨rfl, ?_⟩, fun nm g z => absurd z noDue⟩
      have v4 : Same G2 G4 := fun y o e => k4 _ _ (v3 _ _ e) (by simpa using ne_of_none e hq0)
      have B4 : PlAt G4 q2 C fm F tb0 := ⟨⟨dxq, sh3, sa3, sb3, _, _, hq4, S4, List.Perm.refl _, List.Perm.refl _⟩, hF.same (v2.trans v4), List.nodup_nil⟩
      have P4 := P2.same v4
      -- heads = {}; some = {}
      intro hd hhd sd hsd
      have v5 : Same G4 (upd (upd G4 hd (.dK [])) sd (.dK [])) := (same_upd hhd).trans (same_upd hsd)
      have M5 : MapsAt (upd (upd G4 hd (.dK [])) sd (.dK [])) hd sd tb0 :=
        ⟨ne_of_none (upd_same (H := G4) (a := hd) (o := .dK [])) hsd, List.nodup_nil, ⟨[], same_upd hsd _ _ upd_same, rfl, fun k h => (nomatch h)⟩, ⟨[], upd_same, rfl, fun k h => (nomatch h)⟩⟩
      generalize upd (upd G4 hd (.dK [])) sd (.dK []) = G5 at v5 M5
      have v05 : Same H0 G5 := s015.trans (v2.trans (v4.trans v5))
      have T5 : TurnAt G5 nl cl kl fm p q2 hd sd C F b tb0 0 := ⟨st15.same (v2.trans (v4.trans v5)), M5, P4.same v5, B4.same v5, hqp, ok_tb0 b, due_tb0 F⟩
      obtain ⟨hl24, hints⟩ := cut24 ns
      refine ⟨_, rfl, 24, rfl, a, _, rfl, v05.seq hS, fun sl hsl => ?_⟩
      have v6 : Same G5 (upd G5 sl (.lst (cutV (ns.map V.int) none (some 24)))) := same_upd hsl
      have e6' : (upd G5 sl (.lst (cutV (ns.map V.int) none (some 24)))) sl = some (.lst (cutV (ns.map V.int) none (some 24))) := upd_same
      generalize upd G5 sl (.lst (cutV (ns.map V.int) none (some 24))) = G6 at v6 e6'
      refine ⟨sl, rfl, ⟨_, SqL.of e6'⟩, ?_⟩
      refine for_list (K := K) (a := sl) (xs := cutV (ns.map V.int) none (some 24)) (fun i σ H' => H' sl = some (.lst (cutV (ns.map V.int) none (some 24))) ∧ ∃ (hd' sd' : Addr) (T : Tb) (v6 v7 o13 o14 o15 o16 o17 : Option V), TurnAt H' nl cl kl fm p q2 hd' sd' C F b T i ∧
          σ = [some (.ref a), some (.ref nl), some (.ref cl), some (.int Sz), some (.int b), some (.ref kl), v6, v7, some (.ref fm), some (.ref p), some (.ref q2), some (.ref hd'), some (.ref sd'), o13, o14, o15, o16, o17])
        ⟨e6', hd, sd, tb0, _, _, _, _, _, _, _, ⟨T5.st.same v6, T5.M.same v6, T5.P.same v6, T5.B.same v6, T5.qp, T5.ok, T5.due⟩, rfl⟩ (fun i σ H' _ pp => SqL.of pp.1) ?_ ?_
      · rintro i x σ H' hx ⟨hsl', hd', sd', T, w6, w7, o13, o14, o15, o16, o17, TA, rfl⟩
        obtain ⟨c, rfl⟩ := hints x (List.mem_of_getElem? hx)
        have hi : i < 24 := Nat.lt_of_lt_of_le (List.getElem?_eq_some_iff.mp hx).1 hl24
        obtain ⟨dxc, shc, hpc'⟩ := TA.P.ins
        exact hturn _ nl cl kl fm p q2 hd' sd' F b T i c H' _ _ _ _ _ _ _ _ _ TA hi fun H'' hd'' sd'' T'' o14 o15 o16 o17 TA'' kk => ⟨keep_no hpc' kk _ _ hsl' (fun _ _ _ z => nomatch z), hd'', sd'', T'', _, _, _, _, _, _, _, TA'', rfl⟩
      · rintro σ H' ⟨hsl', hd', sd', T, w6, w7, o13, o14, o15, o16, o17, TA, rfl⟩
        obtain ⟨dxc, sh, sa, sb, S, hpc', hSS, R⟩ := TA.P.raw
        have i24 : (cutV (ns.map V.int) none (some 24)).length ≤ 24 := hl24
        have okT := TA.ok
        have few := okT.few
        have la5 : S.La.length ≤ 5 := by
          rw [(R.pa okT.nd).length_eq]
          exact okT.lenA F
        have lb150 : S.Lb.length ≤ 150 := by
          rw [(R.pb okT.nd).length_eq]
          exact okT.lenB F (by omega)
        refine ⟨_, rfl, p, dxc, _, rfl, hpc', flds_write, (by show 0 ≤ sizeLine; decide), fun el hel => ?_⟩
        have x1 : Same H' (upd H' el (.lst [])) := same_upd hel
        have xe : (upd H' el (.lst [])) el = some (.lst []) := upd_same
        generalize upd H' el (.lst []) = K1 at x1 xe
        have hdue : dueS F S = none := by
          rw [dueS_eq R okT.nd]
          exact TA.due
        refine ⟨p, dxc, fm, sh, sa, sb, el, F, S, [], [], rfl, x1 _ _ hpc', TA.P.F.same x1, ShAt.same hSS x1, xe, rfl, fun i a st h => absurd h (by simp), R.hash w okT (by omega) TA.st.b0 TA.st.b2, ⟨by show S.La.length + 0 ≤ 1000; omega, by show S.Lb.length + 0 ≤ 1000; omega⟩, True.intro, by decide, fun k hk => (nomatch hk), ⟨R.ptr, R.ptr⟩, fun _ sh2 sa2 sb2 kl2 K2 y2' hp2' S2' hkl2 => ?_, fun nm g z => absurd (hdue.symm.trans z) (fun e => nomatch e)⟩
        have hkl0 : K2 kl2 = some (.lst (([] : List Int).map V.int)) := by
          rw [hkl2]
          show some (HO.lst ((srtI []).map V.int)) = _
          rw [srt_nil]
        have F2 := (TA.P.F.same x1).keepP (x1 _ _ hpc') y2'
        have PP2 : PlAt K2 p C fm F T := plAt_of hp2' S2' R F2 okT.nd
        have MM2 := (TA.M.same x1).keepP (x1 _ _ hpc') y2'
        have BB2 := (TA.B.same x1).keepP (x1 _ _ hpc') y2' hqp
        refine ⟨(by show 0 ≤ sizeLine; decide), fun e0 he0 => ?_⟩
        have x3 : Same K2 (upd K2 e0 (.lst [])) := same_upd he0
        refine eq_ints (ns := []) (x3 _ _ hkl0) upd_same ⟨true, rfl, iteT ?_⟩
        generalize upd K2 e0 (.lst []) = K3 at x3
        obtain ⟨kvh, mm1, mm2, _⟩ := id MM2.h
        obtain ⟨dx3, sh3', hp3'⟩ := (PP2.same x3).ins
        refine ⟨_, rfl, p, dx3, _, rfl, hp3', flds_held, p, fm, F, T, rfl, PP2.same x3, fun l4 K4 x4 hl4 => ?_⟩
        refine ⟨_, rfl, hd', kvh, T.ks, rfl, .inl ((x3.trans x4) _ _ mm1), mm2, by omega, fun ys l5 hperm hsort hl5 => ?_⟩
        rw [srtI_uniq hperm hsort]
        have x5 : Same K4 (upd K4 l5 (.lst ((srtI T.ks).map V.int))) := same_upd hl5
        refine eq_ints (x5 _ _ hl4) upd_same ⟨true, rfl, iteT ?_⟩
        have x35 := x3.trans (x4.trans x5)
        generalize upd K4 l5 (.lst ((srtI T.ks).map V.int)) = K5 at x5 x35
        obtain ⟨dxb, shb, hb5⟩ := (BB2.same x35).ins
        refine ⟨_, rfl, q2, dxb, _, rfl, hb5, flds_held, q2, fm, F, tb0, rfl, BB2.same x35, fun l6 K6 x6 hl6 => ?_⟩
        refine ⟨(by show 0 ≤ sizeLine; decide), fun e7 he7 => ?_⟩
        have hl60 : K6 l6 = some (.lst (([] : List Int).map V.int)) := by
          rw [hl6]
          show some (HO.lst ((srtI []).map V.int)) = _
          rw [srt_nil]
        exact eq_ints (ns := []) (same_upd he7 _ _ hl60) upd_same (q _)
    obtain ⟨tr, hrest, hq⟩ := rest
    refine ⟨_, pss_cons (ps_set (i := 1) nd rfl (Or.inl rfl) (pe_cl L.names hr (by decide) (by rfl) (pa_cons (pe_cl L.cell hr (by decide) (by rfl) (pa_cons (pv 0) (pa_cons pe_int pa_nil))) (pa_cons pe_int pa_nil))))
      (pss_cons (ps_set (i := 2) nd rfl (Or.inl rfl) (pe_cl L.names hr (by decide) (by rfl) (pa_cons (pe_cl L.cell hr (by decide) (by rfl) (pa_cons (pv 0) (pa_cons pe_int pa_nil))) (pa_cons pe_int pa_nil))))
      (pss_cons (ps_if (pt_cmpR op_eq (pe_op op_mod (pe_cl L.cell hr (by decide) (by rfl) (pa_cons (pv 0) (pa_cons pe_int pa_nil))) pe_int) pe_int (nomark _))
        (pss_one (ps_set (i := 1) nd rfl (Or.inl rfl) (pe_lst (pa_cons (pe_ix ix_list (pv 1) pe_int (fun _ _ => rfl)) (pa_cons (pe_ix ix_list (pv 1) pe_int (fun _ _ => rfl)) pa_nil))))) pss_nil) hrest)), ?_⟩
    refine ⟨_, rfl, a, ns, 0, rfl, hA, fun z0 => ⟨z0, 2, rfl, by decide, fun nms nl H1 s1 hnl hln hpn hon => ?_⟩⟩
    refine ⟨_, rfl, a, ns, 1, rfl, s1.seq hA, fun z1 => ⟨z1, 4, rfl, by decide, fun cols cl H2 s2 hcl hlc hpc hoc => ?_⟩⟩
    have hA2 := (s1.trans s2).seq hA
    match nms, hln, hpn, hon, hnl with
    | [n0, n1], _, hpn, hon, hnl =>
      match cols, hlc, hpc, hcl with
      | [c0, c1, c2, c3], _, hpc, hcl =>
        have l01 : ltS n0 n1 := (List.pairwise_cons.mp hpn).1 n1 (by simp)
        have lc01 : ltS c0 c1 := (List.pairwise_cons.mp hpc).1 c1 (by simp)
        have lc23 : ltS c2 c3 := (List.pairwise_cons.mp (List.pairwise_cons.mp (List.pairwise_cons.mp hpc).2).2).1 c3 (by simp)
        have o0 := hon n0 (by simp)
        have o1 := hon n1 (by simp)
        have hnl2 := s2 _ _ hnl
        refine ⟨_, rfl, a, ns, 2, rfl, hA2, fun z2 => ⟨_, _, rfl, rfl, (by show (0 : Int) < 2; decide), rfl, _, rfl, ?_⟩⟩
        by_cases hc : z2 % 2 = 1
        · refine ifY (congrArg V.int hc) ?_
          refine ⟨_, rfl, nl, _, _, _, rfl, rfl, SqL.of hnl2, atI_nat (j := 1) rfl, _, rfl, nl, _, _, _, rfl, rfl, SqL.of hnl2, atI_nat (j := 0) rfl, (by show 2 ≤ sizeLine; decide), fun nl2 hnl2' => ?_⟩
          have s3 : Same H2 (upd H2 nl2 (.lst [.str n1, .str n0])) := same_upd hnl2'
          exact hq nl2 cl n1 n0 c0 c1 c2 c3 _ (s3.seq hA2) upd_same (s3 _ _ hcl) (fun z => ltS_ne l01 z.symm) o1 o0 lc01 lc23
        · refine ifN (fun z => hc (V.int.inj z)) ?_
          exact hq nl cl n0 n1 c0 c1 c2 c3 H2 hA2 hnl2 hcl (ltS_ne l01) o0 o1 lc01 lc23
end K18
end L2
namespace L2
open PySem PySem.Spec PyProof.Rows
namespace K18

/-! ### what the top has written -/
section
variable {K : PySem.W.Frag} {h : Heap} {mg : Str → Option Value}
theorem defAt_mk {x : Str} {st : Stmt} {f : Addr} {oc : Value} {od an : Option Addr} {osl : Array (Option Value)} {kV doc pm cdv ct : Value} (X : K.In h) (G : h.Ns mainGlobals mg) (a : PySem.W.nsIn K mainGlobals x = some (some (.ref f)))
    (l : K.lookup f = some ⟨oc, od, .func (PySem.W.fnOf x x (defArgs st) (defBody st) (defScope st) .none kV doc pm an cdv ct), osl⟩) (c : PySem.W.codeIn K cdv x = true) (k : PySem.W.keepIn K (.ref f) = true) : DefAt K mg x st :=
  ⟨f, _, fun_mk l c k, PySem.W.mg_of X G a⟩
theorem gs_mk (X : K.In h) (G : h.Ns mainGlobals mg) (z1 : PySem.W.nsIn K mainGlobals "isinstance" = some none) (z2 : PySem.W.nsIn K mainGlobals "int" = some none) (z3 : PySem.W.nsIn K mainGlobals "bool" = some none) (z4 : PySem.W.nsIn K mainGlobals "str" = some none)
    (z5 : PySem.W.nsIn K mainGlobals "tuple" = some none) (z6 : PySem.W.nsIn K mainGlobals "dict" = some none) (z7 : PySem.W.nsIn K mainGlobals "len" = some none) (z8 : PySem.W.nsIn K mainGlobals "sorted" = some none) (z9 : PySem.W.nsIn K mainGlobals "sum" = some none)
    (z10 : PySem.W.nsIn K mainGlobals "enumerate" = some none) (z11 : PySem.W.nsIn K mainGlobals "range" = some none) (z12 : PySem.W.nsIn K mainGlobals "set" = some none) : Gs mg :=
  ⟨PySem.W.mg_none_of X G z1, PySem.W.mg_none_of X G z2, PySem.W.mg_none_of X G z3, PySem.W.mg_none_of X G z4, PySem.W.mg_none_of X G z5, PySem.W.mg_none_of X G z6, PySem.W.mg_none_of X G z7, PySem.W.mg_none_of X G z8, PySem.W.mg_none_of X G z9, PySem.W.mg_none_of X G z10, PySem.W.mg_none_of X G z11, PySem.W.mg_none_of X G z12⟩
/-- the class Plain and its methods -/
structure PlTop (K : PySem.W.Frag) (mg : Str → Option Value) (C : Addr) : Prop where
  T0 : PlCls K mg C
  ini : ∃ (f : Addr) (fd : FuncData), Mk K C f ∧ FunD K "__init__" "Plain.__init__" (defArgs sInit) (defBody sInit) (defScope sInit) [.non] [] f fd
  wr : ∃ (f : Addr) (fd : FuncData), Meth K C "write" f ∧ L2.Fun K "write" "Plain.write" sWrite f fd
  pc : ∃ (f : Addr) (fd : FuncData), Meth K C "piece" f ∧ L2.Fun K "piece" "Plain.piece" sPiece f fd
  he : ∃ (f : Addr) (fd : FuncData), Meth K C "held" f ∧ L2.Fun K "held" "Plain.held" sHeld f fd
theorem meth_mk {C f : Addr} {m q : Str} {st : Stmt} {oc : Value} {od an : Option Addr} {osl : Array (Option Value)} {kV doc pm cdv ct : Value} (a : PySem.W.findIn K (.ref C) m = some (some (.ref f))) (i : PySem.W.isFn K (.ref f) = true)
    (l : K.lookup f = some ⟨oc, od, .func (PySem.W.fnOf m q (defArgs st) (defBody st) (defScope st) .none kV doc pm an cdv ct), osl⟩) (c : PySem.W.codeIn K cdv q = true) (k : PySem.W.keepIn K (.ref f) = true) : ∃ (f : Addr) (fd : FuncData), Meth K C m f ∧ L2.Fun K m q st f fd :=
  ⟨f, _, ⟨a, i, k⟩, fun_mk l c k⟩
theorem ini_mk {C f T : Addr} {oc oc2 : Value} {od od2 an : Option Addr} {osl osl2 : Array (Option Value)} {kV doc pm cdv ct : Value} {n : Nat} (mk : PySem.W.makesIn K C = true) (a : PySem.W.findIn K (.ref C) "__init__" = some (some (.ref f))) (i : PySem.W.isFn K (.ref f) = true) (kC : PySem.W.keepIn K (.ref C) = true)
    (l : K.lookup f = some ⟨oc, od, .func (PySem.W.fnOf "__init__" "Plain.__init__" (defArgs sInit) (defBody sInit) (defScope sInit) (.ref T) kV doc pm an cdv ct), osl⟩) (t : K.lookup T = some ⟨oc2, od2, .seq #[.none] n, osl2⟩) (c : PySem.W.codeIn K cdv "Plain.__init__" = true) (k : PySem.W.keepIn K (.ref f) = true) :
    ∃ (f : Addr) (fd : FuncData), Mk K C f ∧ FunD K "__init__" "Plain.__init__" (defArgs sInit) (defBody sInit) (defScope sInit) [.non] [] f fd :=
  ⟨f, _, ⟨mk, a, i, kC⟩, ⟨oc, od, .ref T, kV, doc, pm, an, cdv, ct, osl, rfl, l, c, .inr ⟨by simp, T, _, [.none], n, rfl, t, rfl, .cons rfl .nil⟩, .inl rfl⟩, k⟩
theorem plTop_mk {C : Addr} (X : K.In h) (G : h.Ns mainGlobals mg) (aC : PySem.W.nsIn K mainGlobals "Plain" = some (some (.ref C))) (pg : PySem.W.plainGet K C Str.empty = true) (hd : PySem.W.hasDictIn K C = true) (po : PySem.W.plainOver K C = true)
    (sa : PySem.W.findIn K (.ref C) "__setattr__" = some (some (.builtin "object.__setattr__"))) (nS : PySem.W.findIn K (.ref C) "shape" = some none) (nH : PySem.W.findIn K (.ref C) "sheets" = some none)
    (ini : ∃ (f : Addr) (fd : FuncData), Mk K C f ∧ FunD K "__init__" "Plain.__init__" (defArgs sInit) (defBody sInit) (defScope sInit) [.non] [] f fd) (wr : ∃ (f : Addr) (fd : FuncData), Meth K C "write" f ∧ L2.Fun K "write" "Plain.write" sWrite f fd)
    (pc : ∃ (f : Addr) (fd : FuncData), Meth K C "piece" f ∧ L2.Fun K "piece" "Plain.piece" sPiece f fd) (he : ∃ (f : Addr) (fd : FuncData), Meth K C "held" f ∧ L2.Fun K "held" "Plain.held" sHeld f fd) : PlTop K mg C :=
  ⟨⟨⟨pg, hd, po, sa⟩, nS, nH, PySem.W.mg_of X G aC⟩, ini, wr, pc, he⟩
/-- an error of the class is what its clause names -/
theorem exm_it {S : Addr} (h1 : PySem.W.subIn K (.ref S) (.type "BaseException") = some true) (h2 : PySem.W.isClsIn K S = true) (h3 : PySem.W.typeIn K (.ref S) = some (.type "type")) (h4 : PySem.W.subIn K (.ref S) (.ref S) = some true) :
    PySem.W.exmOne K (.ref S) (.ref S) = some true := by
  have e1 : (PySem.W.subIn K (.ref S) (.type "BaseException") == some true) = true := by rw [h1] <;> rfl
  have e2 : ((PySem.W.clsIn K S).isSome && PySem.W.typeIn K (.ref S) == some (.type "type")) = true := by
    have h5 : (PySem.W.clsIn K S).isSome = true := h2
    rw [h5, h3] <;> rfl
  show (if (PySem.W.subIn K (.ref S) (.type "BaseException") == some true) = true then (if ((PySem.W.clsIn K S).isSome && PySem.W.typeIn K (.ref S) == some (.type "type")) = true then PySem.W.subIn K (.ref S) (.ref S) else none) else none) = some true
  rw [if_pos e1, if_pos e2]
  exact h4
theorem nwAt_mk {C f : Addr} {nm q : Str} {N : Addr} {bs bm : List Value} {sn : List Str} {sub : List Value} {ab : Bool} {col : Option Bool} {dd : Option Addr} {m0 m1 m2 m3 m5 : Option Value} {oc : Value} {od an : Option Addr} {osl : Array (Option Value)} {kV doc pm cdv ct : Value}
    (X : K.In h) (G : h.Ns mainGlobals mg) (aC : PySem.W.nsIn K mainGlobals "Nowhere" = some (some (.ref C)))
    (xL : K.lookup C = some (excClassObj nm q C N bs bm true sn sub ab col dd m0 m1 m2 m3 m5 "ValueError.__new__")) (rv : PySem.HandSPX.refsVE bm = true)
    (sa : PySem.W.findIn K (.ref C) "__setattr__" = some (some (.builtin "object.__setattr__"))) (ga : PySem.W.findIn K (.ref C) "__getattribute__" = some (some (.builtin "BaseException.__getattribute__"))) (gg : PySem.W.findIn K (.ref C) "__getattr__" = some none)
    (nT : PySem.W.findIn K (.ref C) "table" = some none) (nK : PySem.W.findIn K (.ref C) "key" = some none) (nP : PySem.W.findIn K (.ref C) "place" = some none)
    (a1 : PySem.W.findIn K (.ref C) "__init__" = some (some (.ref f))) (t1 : PySem.W.typeIn K (.ref f) = some (.type "function"))
    (l1 : K.lookup f = some ⟨oc, od, .func (PySem.W.fnOf "__init__" "StepError.__init__" (defArgs sErrInit) (defBody sErrInit) (defScope sErrInit) .none kV doc pm an cdv ct), osl⟩) (c1 : PySem.W.codeIn K cdv "StepError.__init__" = true) (k1 : PySem.W.keepIn K (.ref f) = true)
    (kC : PySem.W.keepIn K (.ref C) = true) (eC : PySem.W.subIn K (.ref C) (.type "BaseException") = some true) (tC : PySem.W.typeIn K (.ref C) = some (.type "type")) (hC : PySem.W.hasDictIn K C = true) (iC : PySem.W.isClsIn K C = true) (sC : PySem.W.subIn K (.ref C) (.ref C) = some true) : NwAt K mg C :=
  ⟨PySem.W.mg_of X G aC, ⟨⟨nm, q, N, bs, bm, sn, sub, ab, col, dd, m0, m1, m2, m3, m5, xL, rv⟩, sa, eC, tC, kC⟩, nT, nK, nP, exm_it eC iC tC sC, ⟨ga, gg, eC, hC⟩, ⟨f, _, a1, t1, fun_mk l1 c1 k1⟩⟩
end
theorem ini_binds {K : PySem.W.Frag} {f : Addr} {fd : FuncData} (F : FunD K "__init__" "Plain.__init__" (defArgs sInit) (defBody sInit) (defScope sInit) [.non] [] f fd) :
    Binds K fd ["self", "form", "things"] [] ∧ ∃ ds, Vals [V.non] ds ∧ Binds K fd ["self", "form", "things"] ds := by
  obtain ⟨ds, v1, b1⟩ := F.binds1 (ps := ["self", "form", "things"]) 3 1 (by simp) rfl fun T kV doc pm an cdv ct us its h1 h2 => match us, h1, its, h2 with
    | [_, _, _], _, [_], _ => ⟨_, rfl, rfl⟩
  obtain ⟨ds2, v2, b2⟩ := F.binds1 (ps := ["self", "form", "things"]) 2 0 (by simp) rfl fun T kV doc pm an cdv ct us its h1 h2 => match us, h1, its, h2 with
    | [_, _], _, [_], _ => ⟨_, rfl, rfl⟩
  refine ⟨?_, ds2, v2, b2⟩
  cases v1
  exact b1
theorem all_mk {l : PySem.W.OpenLaw} {w : World} {K : PySem.W.Frag} {mg : Str → Option Value} {fa C CN : Addr} (hfa : mg "law" = some (.ref fa)) (G : Gs mg) (PT : PlTop K mg C) (N : NwAt K mg CN)
    (d12 : DefAt K mg "is_whole" (top 12)) (d13 : DefAt K mg "fits_plain" (top 13)) (d15 : DefAt K mg "fits" (top 15)) (d17 : DefAt K mg "table_at" (top 17)) (d18 : DefAt K mg "tables_of" (top 18)) (d19 : DefAt K mg "head_of" (top 19)) (d20 : DefAt K mg "sort_of" (top 20)) (d21 : DefAt K mg "columns_of" (top 21))
    (d22 : DefAt K mg "fits_columns" (top 22)) (d23 : DefAt K mg "is_row" (top 23)) (d25 : DefAt K mg "spot_fits" (top 25)) (d26 : DefAt K mg "step_fits" (top 26)) (d27 : DefAt K mg "do_step" (top 27)) (d28 : DefAt K mg "places_of" (top 28)) (d29 : DefAt K mg "look_at_places" (top 29)) (d30 : DefAt K mg "look_at_thing" (top 30))
    (d31 : DefAt K mg "columns_by" (top 31)) (d32 : DefAt K mg "look_for_twice" (top 32)) (d33 : DefAt K mg "look_for_nowhere" (top 33)) (d34 : DefAt K mg "sheets_of" (top 34)) (d37 : DefAt K mg "_law_cell" (top 37)) (d38 : DefAt K mg "_law_names" (top 38)) (d39 : DefAt K mg "_law_goals" (top 39)) (d40 : DefAt K mg "_law_some_row" (top 40))
    (d41 : DefAt K mg "_law_put" (top 41)) (d42 : DefAt K mg "_law_cut" (top 42)) (d43 : DefAt K mg "_law_steps" (top 43)) (d44 : DefAt K mg "_law_first" (top 44)) (d45 : DefAt K mg "_law_due" (top 45)) (d46 : DefAt K mg "_law_things" (top 46)) (d47 : DefAt K mg "_law_written" (top 47)) (d48 : DefAt K mg "_law_made" (top 48)) (d49 : DefAt K mg "_law_tells" (top 49)) (d50 : DefAt K mg "law" (top 50)) :
    ∃ fd : FuncData, (∀ (s : Shared) (v : Value), BindsTo s fd ⟨[v], []⟩ [("_law_script", v)]) ∧ ∀ base : Heap, K.In base → base.Ns mainGlobals mg → FnOk l.prog w K mg base CX0 10 fa fd ["_law_script"] (spLaw K) := by
  obtain ⟨f, fd, FL, hm⟩ := d50.ex
  have e := hfa.symm.trans hm
  cases e
  refine ⟨fd, fun s v => ?_, fun base _ _ => ?_⟩
  · obtain ⟨oc, od, kV, doc, pm, an, cdv, ct, osl, rfl, _, _⟩ := FL.ex
    exact .of_eq rfl
  · obtain ⟨fI, fdI, mI, FI⟩ := PT.ini
    obtain ⟨fW, fdW, mW, FW⟩ := PT.wr
    obtain ⟨fP, fdP, mP, FP⟩ := PT.pc
    obtain ⟨fH, fdH, mH, FH⟩ := PT.he
    have T0 := PT.T0
    have c12 := cl_whole (P := l.prog) (w := w) (base := base) d12 G
    have c13 := cl_plain d13 G c12
    have c15 := cl_fits d15 G c12 c13
    have c17 := cl_tableAt (P := l.prog) (w := w) (base := base) d17
    have c18 := cl_tablesOf (P := l.prog) (w := w) (base := base) d18
    have c19 := cl_headOf (P := l.prog) (w := w) (base := base) d19
    have c20 := cl_sortOf d20 c17
    have c21 := cl_columnsOf d21 G c17
    have c22 := cl_fitsCols d22 G c15
    have c23 := cl_isRow d23 c22
    have c25 := cl_spotFits d25 c12 c20
    have c26 := cl_stepFits d26 c25 c23
    have c27 := cl_doStep d27 G c26
    have c28 := cl_placesOf (P := l.prog) (w := w) (base := base) d28 G
    have c29 := cl_lookPlaces (P := l.prog) (w := w) (base := base) d29 G
    have c30 := cl_lookThing d30 G c18 c28 c20 c29
    have c31 := cl_columnsBy d31 G c21
    have c32 := cl_twice d32 G c18 c31
    have c33 := cl_nowhere d33 G N c19 c18 c31
    have c34 := cl_sheetsOf d34 G c18
    have c37 := cl_cell (P := l.prog) (w := w) (base := base) d37 G
    have c38 := cl_names (P := l.prog) (w := w) (base := base) d38 G
    have c39 := cl_goals (P := l.prog) (w := w) (base := base) d39
    have c40 := cl_someRow (P := l.prog) (w := w) (base := base) d40
    have c41 := cl_put d41 c40
    have c42 := cl_lawCut (P := l.prog) (w := w) (base := base) d42 G
    have c43 := cl_lawSteps d43 G c39 c41 c42 c40
    have c44 := cl_first (P := l.prog) (w := w) (base := base) d44
    have c45 := cl_due d45 G c44
    have c46 := cl_things d46 G c40
    have MM : Meths l.prog w K mg base C CN := ⟨⟨fH, fdH, mH, fn_held FH T0 G c19, FH.binds fun _ _ _ _ _ _ us hl => match us, hl with | [_], _ => rfl⟩,
      ⟨fP, fdP, mP, fn_piece FP T0 G c19 c18 c28, FP.binds fun _ _ _ _ _ _ us hl => match us, hl with | [_, _], _ => rfl⟩,
      ⟨fW, fdW, mW, fn_write FW T0 G c27 c30 c32 c33, FW.binds fun _ _ _ _ _ _ us hl => match us, hl with | [_, _], _ => rfl⟩⟩
    have MK : Makes l.prog w K mg base C CN := ⟨fI, fdI, mI, fn_init FI T0 G c34 c32 c33, ini_binds FI⟩
    have c47 := cl_written d47 G T0 N MM
    have c48 := cl_made d48 G T0 N MM MK
    have c49 := cl_tells d49 G T0 MM
    exact fn_law FL ⟨c37, c38, c43, c45, c46, c47, c48, c49, G, T0, MM, MK⟩
theorem walk {l : PySem.W.OpenLaw} {q : Program} {loose : List Str} {XP : (Str → Option Value) → Heap → Prop} {YP : World → Heap → Prop} {d : DefRec} {K : Params → PySem.W.Frag} (hn : l.most = some 63) (hdf : d.params.defaults = [])
    (hY : ∀ (w : World) (h : Heap), YP w h → (K w.params).In h)
    (F : ∀ (w : World) (mg : Str → Option Value) (fa : Addr) (h : Heap), (K w.params).In h → h.Ns mainGlobals mg → mg d.name = some (.ref fa) →
      ∃ fd : FuncData, (∀ (s : Shared) (u : Value), BindsTo s fd ⟨[u], []⟩ [("_law_script", u)]) ∧ ∀ base : Heap, (K w.params).In base → base.Ns mainGlobals mg → FnOk l.prog w (K w.params) mg base CX0 10 fa fd ["_law_script"] (spLaw (K w.params))) :
    PySem.W.WalkO q loose XP YP l.row.toRowW d [] (fun f vs => PySem.call f vs) :=
  L2.walk_of (n := 63) (k := 10) (x := "_law_script") (CX := fun _ => CX0) (sp := fun w => spLaw (K w.params)) hn (by decide) hdf ⟨rfl, by decide, by decide⟩ hY F (fun _ _ a ns hl _ hS => ⟨a, ns, rfl, hS, hl, fun _ => rfl⟩) fun _ _ _ _ _ z => z
end K18
end L2
open PySem PySem.W PyProof.Rows
set_option maxRecDepth 100000 in
set_option maxHeartbeats 0 in
theorem PySem.Challenge.cw_halfmoved_k18_pointers_holds : PySem.Challenge.rw_halfmoved_k18_pointers.Holds := by
  w_on; o_law; k_head; (case hw => w_witness2)
  k_fill
  refine L2.K18.walk (l := PySem.Challenge.rw_halfmoved_k18_pointers) rfl rfl (fun w h Y => PySem.W.kIn_of Y) ?F
  case F =>
    intro w mg fa h KX G hmg
    refine' L2.K18.all_mk hmg ?gs ?pt ?nw ?d12 ?d13 ?d15 ?d17 ?d18 ?d19 ?d20 ?d21 ?d22 ?d23 ?d25 ?d26 ?d27 ?d28 ?d29 ?d30 ?d31 ?d32 ?d33 ?d34 ?d37 ?d38 ?d39 ?d40 ?d41 ?d42 ?d43 ?d44 ?d45 ?d46 ?d47 ?d48 ?d49 ?d50
    case gs =>
      refine L2.K18.gs_mk KX G ?z1 ?z2 ?z3 ?z4 ?z5 ?z6 ?z7 ?z8 ?z9 ?z10 ?z11 ?z12
      (case z1 => k_is)
      (case z2 => k_is)
      (case z3 => k_is)
      (case z4 => k_is)
      (case z5 => k_is)
      (case z6 => k_is)
      (case z7 => k_is)
      (case z8 => k_is)
      (case z9 => k_is)
      (case z10 => k_is)
      (case z11 => k_is)
      (case z12 => k_is)
    case pt =>
      refine' L2.K18.plTop_mk KX G ?aC ?pg ?hd ?po ?sa ?nS ?nH ?ini ?wr ?pc ?he
      (case aC => k_is)
      (case pg => k_is)
      (case hd => k_is)
      (case po => k_is)
      (case sa => k_is)
      (case nS => k_is)
      (case nH => k_is)
      case ini =>
        refine' L2.K18.ini_mk ?mk ?a ?i ?kC ?l ?t ?c ?k
        (case mk => k_is)
        (case a => k_is)
        (case i => k_is)
        (case kC => k_is)
        (case l => k_is)
        (case t => k_is)
        (case c => k_is)
        (case k => k_is)
      case wr =>
        refine' L2.K18.meth_mk ?a ?i ?l ?c ?k
        (case a => k_is)
        (case i => k_is)
        (case l => k_is)
        (case c => k_is)
        (case k => k_is)
      case pc =>
        refine' L2.K18.meth_mk ?a ?i ?l ?c ?k
        (case a => k_is)
        (case i => k_is)
        (case l => k_is)
        (case c => k_is)
        (case k => k_is)
      case he =>
        refine' L2.K18.meth_mk ?a ?i ?l ?c ?k
        (case a => k_is)
        (case i => k_is)
        (case l => k_is)
        (case c => k_is)
        (case k => k_is)
    case nw =>
      refine' L2.K18.nwAt_mk KX G ?aC ?xL ?rv ?sa ?ga ?gg ?nT ?nK ?nP ?a1 ?t1 ?l1 ?c1 ?k1 ?kC ?eC ?tC ?hC ?iC ?sC
      (case aC => k_is)
      (case xL => k_is)
      (case rv => first | rfl | decide +kernel | k_is)
      (case sa => k_is)
      (case ga => k_is)
      (case gg => k_is)
      (case nT => k_is)
      (case nK => k_is)
      (case nP => k_is)
      (case a1 => k_is)
      (case t1 => k_is)
      (case l1 => k_is)
      (case c1 => k_is)
      (case k1 => k_is)
      (case kC => k_is)
      (case eC => k_is)
      (case tC => k_is)
      (case hC => k_is)
      (case iC => k_is)
      (case sC => first | rfl | k_is)
    case d12 =>
      refine' L2.K18.defAt_mk KX G ?a ?l ?c ?k
      (case a => k_is); (case l => k_is); (case c => k_is); (case k => k_is)
    case d13 =>
      refine' L2.K18.defAt_mk KX G ?a ?l ?c ?k
      (case a => k_is); (case l => k_is); (case c => k_is); (case k => k_is)
    case d15 =>
      refine' L2.K18.defAt_mk KX G ?a ?l ?c ?k
      (case a => k_is); (case l => k_is); (case c => k_is); (case k => k_is)
    case d17 =>
      refine' L2.K18.defAt_mk KX G ?a ?l ?c ?k
      (case a => k_is); (case l => k_is); (case c => k_is); (case k => k_is)
    case d18 =>
      refine' L2.K18.defAt_mk KX G ?a ?l ?c ?k
      (case a => k_is); (case l => k_is); (case c => k_is); (case k => k_is)
    case d19 =>
      refine' L2.K18.defAt_mk KX G ?a ?l ?c ?k
      (case a => k_is); (case l => k_is); (case c => k_is); (case k => k_is)
    case d20 =>
      refine' L2.K18.defAt_mk KX G ?a ?l ?c ?k
      (case a => k_is); (case l => k_is); (case c => k_is); (case k => k_is)
    case d21 =>
      refine' L2.K18.defAt_mk KX G ?a ?l ?c ?k
      (case a => k_is); (case l => k_is); (case c => k_is); (case k => k_is)
    case d22 =>
      refine' L2.K18.defAt_mk KX G ?a ?l ?c ?k
      (case a => k_is); (case l => k_is); (case c => k_is); (case k => k_is)
    case d23 =>
      refine' L2.K18.defAt_mk KX G ?a ?l ?c ?k
      (case a => k_is); (case l => k_is); (case c => k_is); (case k => k_is)
    case d25 =>
      refine' L2.K18.defAt_mk KX G ?a ?l ?c ?k
      (case a => k_is); (case l => k_is); (case c => k_is); (case k => k_is)
    case d26 =>
      refine' L2.K18.defAt_mk KX G ?a ?l ?c ?k
      (case a => k_is); (case l => k_is); (case c => k_is); (case k => k_is)
    case d27 =>
      refine' L2.K18.defAt_mk KX G ?a ?l ?c ?k
      (case a => k_is); (case l => k_is); (case c => k_is); (case k => k_is)
    case d28 =>
      refine' L2.K18.defAt_mk KX G ?a ?l ?c ?k
      (case a => k_is); (case l => k_is); (case c => k_is); (case k => k_is)
    case d29 =>
      refine' L2.K18.defAt_mk KX G ?a ?l ?c ?k
      (case a => k_is); (case l => k_is); (case c => k_is); (case k => k_is)
    case d30 =>
      refine' L2.K18.defAt_mk KX G ?a ?l ?c ?k
      (case a => k_is); (case l => k_is); (case c => k_is); (case k => k_is)
    case d31 =>
      refine' L2.K18.defAt_mk KX G ?a ?l ?c ?k
      (case a => k_is); (case l => k_is); (case c => k_is); (case k => k_is)
    case d32 =>
      refine' L2.K18.defAt_mk KX G ?a ?l ?c ?k
      (case a => k_is); (case l => k_is); (case c => k_is); (case k => k_is)
    case d33 =>
      refine' L2.K18.defAt_mk KX G ?a ?l ?c ?k
      (case a => k_is); (case l => k_is); (case c => k_is); (case k => k_is)
    case d34 =>
      refine' L2.K18.defAt_mk KX G ?a ?l ?c ?k
      (case a => k_is); (case l => k_is); (case c => k_is); (case k => k_is)
    case d37 =>
      refine' L2.K18.defAt_mk KX G ?a ?l ?c ?k
      (case a => k_is); (case l => k_is); (case c => k_is); (case k => k_is)
    case d38 =>
      refine' L2.K18.defAt_mk KX G ?a ?l ?c ?k
      (case a => k_is); (case l => k_is); (case c => k_is); (case k => k_is)
    case d39 =>
      refine' L2.K18.defAt_mk KX G ?a ?l ?c ?k
      (case a => k_is); (case l => k_is); (case c => k_is); (case k => k_is)
    case d40 =>
      refine' L2.K18.defAt_mk KX G ?a ?l ?c ?k
      (case a => k_is); (case l => k_is); (case c => k_is); (case k => k_is)
    case d41 =>
      refine' L2.K18.defAt_mk KX G ?a ?l ?c ?k
      (case a => k_is); (case l => k_is); (case c => k_is); (case k => k_is)
    case d42 =>
      refine' L2.K18.defAt_mk KX G ?a ?l ?c ?k
      (case a => k_is); (case l => k_is); (case c => k_is); (case k => k_is)
    case d43 =>
      refine' L2.K18.defAt_mk KX G ?a ?l ?c ?k
      (case a => k_is); (case l => k_is); (case c => k_is); (case k => k_is)
    case d44 =>
      refine' L2.K18.defAt_mk KX G ?a ?l ?c ?k
      (case a => k_is); (case l => k_is); (case c => k_is); (case k => k_is)
    case d45 =>
      refine' L2.K18.defAt_mk KX G ?a ?l ?c ?k
      (case a => k_is); (case l => k_is); (case c => k_is); (case k => k_is)
    case d46 =>
      refine' L2.K18.defAt_mk KX G ?a ?l ?c ?k
      (case a => k_is); (case l => k_is); (case c => k_is); (case k => k_is)
    case d47 =>
      refine' L2.K18.defAt_mk KX G ?a ?l ?c ?k
      (case a => k_is); (case l => k_is); (case c => k_is); (case k => k_is)
    case d48 =>
      refine' L2.K18.defAt_mk KX G ?a ?l ?c ?k
      (case a => k_is); (case l => k_is); (case c => k_is); (case k => k_is)
    case d49 =>
      refine' L2.K18.defAt_mk KX G ?a ?l ?c ?k
      (case a => k_is); (case l => k_is); (case c => k_is); (case k => k_is)
    case d50 =>
      refine' L2.K18.defAt_mk KX G ?a ?l ?c ?k
      (case a => k_is); (case l => k_is); (case c => k_is); (case k => k_is)
