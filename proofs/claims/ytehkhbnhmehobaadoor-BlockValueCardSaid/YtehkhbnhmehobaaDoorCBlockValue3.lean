/- The law swarflaw41.BlockValue of the given program returns true for every input, and its arguments read behind the call as they read before.
   Conditions: none beyond the given statement Rows.BlockValueSaid. -/
import Derived.Test.YtehkhbnhmehobaaDoorRows
import Derived.WalkKit
import Derived.ProofKit
import Derived.OpenShut
import Derived.ShutString
import Derived.ChangeOld
import Derived.Below
import Derived.SizedLaws
import Derived.Carry
import Derived.LaidMore
import Derived.Lay
import Derived.SevenTiedAt
import Derived.Stop.Joined
import Derived.Handed
import Derived.Lib.LaidTab
import Derived.Test.YtehkhbnhmehobaaDoorTie
import Derived.Test.YtehkhbnhmehobaaDoorCards
import Derived.Test.YtehkhbnhmehobaaDoorCBlockValue1
import Derived.Test.YtehkhbnhmehobaaDoorCBlockValue2
namespace Go.Proofs.YtehkhbnhmehobaaDoor.P
open Go.RowKit Go.Proofs.YtehkhbnhmehobaaDoorW.PrintWords Go.Proofs.YtehkhbnhmehobaaDoorW.PrintLast Go.Proofs.YtehkhbnhmehobaaDoorW.PrintMore
set_option linter.unusedVariables false
set_option linter.unusedSimpArgs false
def endS (whole part : Nat) (neg great : Bool) : Int × Int := if great = true ∨ 1000000000000 < 1000 * whole + part then (0, 11) else if neg = true then (-((1000 * whole + part : Nat) : Int), 0) else (((1000 * whole + part : Nat) : Int), 0)
def padS (p : Int) (part : Nat) : Nat := if p = 0 then 1000 * part else if p = 1 then 100 * part else if p = 2 then 10 * part else part
theorem u64n (x : Nat) (h : x < 18446744073709551616) : IntKind.u64.wrap (x : Int) = (x : Int) := u64_wr _ (by omega) (by omega)
theorem end_ev (k whole part : Nat) (neg great : Bool) (hw : whole ≤ 1000000000000) (hp : part ≤ 1000000000) : swarfref41_Value.j5 (k + 2) (whole : Int) (part : Int) neg great = some (endS whole part neg great) := by
  have e : IntKind.u64.wrap (IntKind.u64.wrap (1000 * (whole : Int)) + (part : Int)) = ((1000 * whole + part : Nat) : Int) := by
    rw [show (1000 : Int) * (whole : Int) = ((1000 * whole : Nat) : Int) by omega, u64n _ (by omega), show ((1000 * whole : Nat) : Int) + (part : Int) = ((1000 * whole + part : Nat) : Int) by omega, u64n _ (by omega)]
  have w1 : wrap64 ((1000 * whole + part : Nat) : Int) = ((1000 * whole + part : Nat) : Int) := by unfold wrap64; omega
  have w2 : wrap64 (-((1000 * whole + part : Nat) : Int)) = -((1000 * whole + part : Nat) : Int) := by unfold wrap64; omega
  unfold endS
  rw [swarfref41_Value.j5, e]
  cases great with
  | true => rw [if_pos rfl, swarfref41_Value.j6, if_pos rfl, if_pos (.inl rfl)]
  | false =>
    rw [if_neg (show ¬ (false = true) by decide), swarfref41_Value.j6, w1, w2]
    by_cases c : 1000000000000 < 1000 * whole + part
    · rw [if_pos (decide_eq_true (by omega)), if_pos (.inr c)]
    rw [if_neg (by rw [decide_eq_false (by omega)]; decide), if_neg (show ¬ (false = true ∨ 1000000000000 < 1000 * whole + part) from fun h => by rcases h with h | h; cases h; exact c h)]
    split <;> rfl
theorem l1_step (k whole part : Nat) (p : Nat) (neg great : Bool) (hp : part ≤ 1000000000) (h : p < 3) : swarfref41_Value.l1 (k + 1) (whole : Int) (part : Int) (p : Int) neg great = swarfref41_Value.l1 k (whole : Int) ((10 * part : Nat) : Int) ((p + 1 : Nat) : Int) neg great := by
  rw [swarfref41_Value.l1, if_pos (by omega), if_pos (by omega), show (10 : Int) * (part : Int) = ((10 * part : Nat) : Int) by omega, u64n _ (by omega), w64n p (by omega)]
theorem l1_ev (k whole part : Nat) (p : Int) (neg great : Bool) (hw : whole ≤ 1000000000000) (hp : part ≤ 1000) (h0 : -1 ≤ p) (h3 : p ≤ 3) : swarfref41_Value.l1 (k + 10) (whole : Int) (part : Int) p neg great = some (endS whole (padS p part) neg great) := by
  have fin : ∀ (m q : Nat), q ≤ 1000000000 → swarfref41_Value.l1 (m + 3) (whole : Int) (q : Int) ((3 : Nat) : Int) neg great = some (endS whole q neg great) := fun m q hq => by
    rw [swarfref41_Value.l1, if_pos (by omega), if_neg (by omega)]; exact end_ev m whole q neg great hw hq
  unfold padS
  by_cases c0 : p = 0
  · subst c0
    rw [if_pos rfl, show (0 : Int) = ((0 : Nat) : Int) from rfl, l1_step (k + 9) _ _ _ _ _ (by omega) (by omega), l1_step (k + 8) _ _ _ _ _ (by omega) (by omega), l1_step (k + 7) _ _ _ _ _ (by omega) (by omega)]
    rw [show 10 * (10 * (10 * part)) = 1000 * part by omega]
    exact fin (k + 4) _ (by omega)
  rw [if_neg c0]
  by_cases c1 : p = 1
  · subst c1
    rw [if_pos rfl, show (1 : Int) = ((1 : Nat) : Int) from rfl, l1_step (k + 9) _ _ _ _ _ (by omega) (by omega), l1_step (k + 8) _ _ _ _ _ (by omega) (by omega)]
    rw [show 10 * (10 * part) = 100 * part by omega]
    exact fin (k + 5) _ (by omega)
  rw [if_neg c1]
  by_cases c2 : p = 2
  · subst c2
    rw [if_pos rfl, show (2 : Int) = ((2 : Nat) : Int) from rfl, l1_step (k + 9) _ _ _ _ _ (by omega) (by omega)]
    exact fin (k + 6) _ (by omega)
  rw [if_neg c2]
  by_cases c3 : p = 3
  · subst c3; exact fin (k + 7) _ (by omega)
  rw [swarfref41_Value.l1, if_neg (by omega)]; exact end_ev (k + 7) whole part neg great hw (by omega)
section
variable {s : List UInt8} {i k whole part : Nat} {p : Int} {neg great : Bool}
theorem l0_end (h : i = s.length) (hs : s.length ≤ 1000) (hk : s.length + 30 ≤ k) (hw : whole ≤ 1000000000000) (hp : part ≤ 1000) (h0 : -1 ≤ p) (h3 : p ≤ 3) : swarfref41_Value.l0 k (ba s) (whole : Int) (part : Int) p neg great (i : Int) = some (if canonS s = true then endS whole (padS p part) neg great else (0, 2)) := by
  obtain ⟨k2, rfl⟩ : ∃ k2, k = k2 + 10 + 1 := ⟨k - 11, by omega⟩
  rw [swarfref41_Value.l0, if_neg (by rw [ba_size]; omega), canon_ev (k2 + 10) s hs (by omega), Option.bind_some]
  split
  · exact l1_ev k2 whole part p neg great hw hp h0 h3
  rfl
theorem l0_j1 (h : i < s.length) (hm : i = 0 → s[i] ≠ 45) : swarfref41_Value.l0 (k + 1) (ba s) (whole : Int) (part : Int) p neg great (i : Int) = swarfref41_Value.j1 k (ba s) (whole : Int) (part : Int) p neg great (i : Int) false := by
  rw [swarfref41_Value.l0, if_pos (by rw [ba_size]; omega)]
  by_cases c : i = 0
  · rw [if_pos (by omega), if_pos (by omega), bt_ba s i h, beq_eq_false_iff_ne.mpr (fun he => hm c ((beq45 _).mp he))]
  rw [if_neg (by omega)]
theorem l0_dot (h : i < s.length) (hi : 0 < i) (hp : p < 0) (hc : s[i] = 46) (hs : s.length ≤ 1000) : swarfref41_Value.l0 (k + 3) (ba s) (whole : Int) (part : Int) p neg great (i : Int) = swarfref41_Value.l0 k (ba s) (whole : Int) (part : Int) 0 neg great ((i + 1 : Nat) : Int) := by
  rw [l0_j1 h (fun c => by omega), swarfref41_Value.j1, if_neg (show ¬ (false = true) by decide), if_pos (by omega), if_pos (by rw [ba_size]; omega), bt_ba s i h, if_pos ((beq46 _).mpr hc), if_pos hp, decide_eq_true (by omega), swarfref41_Value.j2, if_pos rfl, w64n i (by omega)]
theorem l0_j3 (h : i < s.length) (hm : i = 0 → s[i] ≠ 45) (hd : ¬ (s[i] = 46 ∧ p < 0 ∧ 0 < i)) : swarfref41_Value.l0 (k + 3) (ba s) (whole : Int) (part : Int) p neg great (i : Int) = swarfref41_Value.j3 k (ba s) (whole : Int) (part : Int) p neg great (i : Int) (isD s[i] && decide (p < 0)) := by
  have e2 : swarfref41_Value.j2 (k + 1) (ba s) (whole : Int) (part : Int) p neg great (i : Int) false = swarfref41_Value.j3 k (ba s) (whole : Int) (part : Int) p neg great (i : Int) (isD s[i] && decide (p < 0)) := by
    rw [swarfref41_Value.j2, if_neg (show ¬ (false = true) by decide), if_pos (by omega), if_pos (by rw [ba_size]; omega), bt_ba s i h]
    unfold isD
    by_cases c1 : 48 ≤ (s[i]).toNat
    · rw [if_pos (by omega), decide_eq_true c1]
      by_cases c2 : (s[i]).toNat ≤ 57
      · rw [if_pos (by omega), decide_eq_true c2]; rfl
      rw [if_neg (by omega), decide_eq_false c2]; rfl
    rw [if_neg (by omega), decide_eq_false c1]; rfl
  rw [l0_j1 h hm, swarfref41_Value.j1, if_neg (show ¬ (false = true) by decide), if_pos (by omega), if_pos (by rw [ba_size]; omega), bt_ba s i h]
  by_cases c : s[i] = 46
  · rw [if_pos ((beq46 _).mpr c)]
    by_cases c2 : p < 0
    · rw [if_pos c2, decide_eq_false (fun h => hd ⟨c, c2, by omega⟩)]; exact e2
    rw [if_neg c2]; exact e2
  rw [if_neg (fun he => c ((beq46 _).mp he))]; exact e2
theorem dig_val {c : UInt8} (h : isD c = true) : ((c.toNat : Int) - 48) % 256 = ((c.toNat - 48 : Nat) : Int) := by
  have := isD_le h; omega
theorem l0_bad (h : i < s.length) (hm : i = 0 → s[i] ≠ 45) (hd : ¬ (s[i] = 46 ∧ p < 0 ∧ 0 < i)) (hc : isD s[i] = false ∨ 3 ≤ p) : swarfref41_Value.l0 (k + 4) (ba s) (whole : Int) (part : Int) p neg great (i : Int) = some (0, 2) := by
  rw [l0_j3 (k := k + 1) h hm hd]
  have e : (isD s[i] && decide (p < 0)) = false := by
    rcases hc with hc | hc
    · rw [hc]; rfl
    rw [decide_eq_false (by omega), Bool.and_false]
  rw [e, swarfref41_Value.j3, if_neg (show ¬ (false = true) by decide), if_pos (by omega), if_pos (by rw [ba_size]; omega), bt_ba s i h]
  unfold isD at hc
  by_cases c1 : 48 ≤ (s[i]).toNat
  · rw [if_pos (by omega)]
    by_cases c2 : (s[i]).toNat ≤ 57
    · rw [if_pos (by omega), if_neg]
      rcases hc with hc | hc
      · rw [decide_eq_true c1, decide_eq_true c2] at hc; cases hc
      omega
    rw [if_neg (by omega)]
  rw [if_neg (by omega)]
theorem l0_digA (h : i < s.length) (hs : s.length ≤ 1000) (hw : whole ≤ 1000000000000) (hp : p < 0) (hc : isD s[i] = true) : swarfref41_Value.l0 (k + 4) (ba s) (whole : Int) (part : Int) p neg great (i : Int) =
    if 1000000000000 < 10 * whole + ((s[i]).toNat - 48) then swarfref41_Value.l0 k (ba s) ((1000000000000 : Nat) : Int) (part : Int) p neg true ((i + 1 : Nat) : Int) else swarfref41_Value.l0 k (ba s) ((10 * whole + ((s[i]).toNat - 48) : Nat) : Int) (part : Int) p neg great ((i + 1 : Nat) : Int) := by
  have hl := isD_le hc
  rw [l0_j3 (k := k + 1) h (fun _ => (isD_ne hc).2) (fun hh => (isD_ne hc).1 hh.1), hc, decide_eq_true hp, Bool.and_self, swarfref41_Value.j3, if_pos rfl, if_pos (by omega), if_pos (by rw [ba_size]; omega), bt_ba s i h, dig_val hc, show (10 : Int) * (whole : Int) = ((10 * whole : Nat) : Int) by omega, u64n _ (by omega), show ((10 * whole : Nat) : Int) + (((s[i]).toNat - 48 : Nat) : Int) = ((10 * whole + ((s[i]).toNat - 48) : Nat) : Int) by omega, u64n _ (by omega), w64n i (by omega)]
  by_cases c : 1000000000000 < 10 * whole + ((s[i]).toNat - 48)
  · rw [if_pos (by omega), if_pos c]; rfl
  rw [if_neg (by omega), if_neg c]
theorem l0_digB (h : i < s.length) (hs : s.length ≤ 1000) (q : Nat) (hp : part ≤ 1000) (hq : q < 3) (hc : isD s[i] = true) : swarfref41_Value.l0 (k + 4) (ba s) (whole : Int) (part : Int) (q : Int) neg great (i : Int) =
    swarfref41_Value.l0 k (ba s) (whole : Int) ((10 * part + ((s[i]).toNat - 48) : Nat) : Int) ((q + 1 : Nat) : Int) neg great ((i + 1 : Nat) : Int) := by
  have hl := isD_le hc
  rw [l0_j3 (k := k + 1) h (fun _ => (isD_ne hc).2) (fun hh => (isD_ne hc).1 hh.1), hc, decide_eq_false (by omega), Bool.and_false, swarfref41_Value.j3, if_neg (show ¬ (false = true) by decide), if_pos (by omega), if_pos (by rw [ba_size]; omega), bt_ba s i h, if_pos (by omega), if_pos (by omega), if_pos (by omega), dig_val hc, show (10 : Int) * (part : Int) = ((10 * part : Nat) : Int) by omega, u64n _ (by omega), show ((10 * part : Nat) : Int) + (((s[i]).toNat - 48 : Nat) : Int) = ((10 * part + ((s[i]).toNat - 48) : Nat) : Int) by omega, u64n _ (by omega), w64n i (by omega), w64n q (by omega)]
end
def scanB (s : List UInt8) (neg great : Bool) (whole : Nat) : List UInt8 → Nat → Nat → Int × Int
  | [], part, p => if canonS s = true then endS whole (padS (p : Int) part) neg great else (0, 2)
  | c :: r, part, p => if isD c = true ∧ p < 3 then scanB s neg great whole r (10 * part + (c.toNat - 48)) (p + 1) else (0, 2)
def scanA (s : List UInt8) (neg : Bool) : List UInt8 → Nat → Bool → Nat → Int × Int
  | [], whole, great, _ => if canonS s = true then endS whole 0 neg great else (0, 2)
  | c :: r, whole, great, i => if c = 46 then (if 0 < i then scanB s neg great whole r 0 0 else (0, 2)) else if isD c = true then (if 1000000000000 < 10 * whole + (c.toNat - 48) then scanA s neg r 1000000000000 true (i + 1) else scanA s neg r (10 * whole + (c.toNat - 48)) great (i + 1)) else (0, 2)
theorem scanB_ev (s : List UInt8) (neg great : Bool) (whole : Nat) (hs : s.length ≤ 1000) (hw : whole ≤ 1000000000000) : ∀ (n i k part p : Nat), s.length - i = n → 0 < i → i ≤ s.length → 4 * n + s.length + 40 ≤ k → part < 10 ^ p → p ≤ 3 → swarfref41_Value.l0 k (ba s) (whole : Int) (part : Int) (p : Int) neg great (i : Int) = some (scanB s neg great whole (s.drop i) part p)
  | 0, i, k, part, p, hn, hi, hil, hk, hp, h3 => by
    have e : i = s.length := by omega
    have h10 : (10 : Nat) ^ p ≤ 10 ^ 3 := Nat.pow_le_pow_right (by decide) h3
    rw [l0_end e hs (by omega) hw (by omega) (by omega) (by omega), e, List.drop_length, scanB]
  | n + 1, i, k, part, p, hn, hi, hil, hk, hp, h3 => by
    have hj : i < s.length := by omega
    obtain ⟨k2, rfl⟩ : ∃ k2, k = k2 + 4 := ⟨k - 4, by omega⟩
    have h10 : (10 : Nat) ^ p ≤ 10 ^ 3 := Nat.pow_le_pow_right (by decide) h3
    rw [List.drop_eq_getElem_cons hj, scanB]
    by_cases c : isD s[i] = true ∧ p < 3
    · rw [if_pos c, l0_digB hj hs p (by omega) c.2 c.1]
      have := isD_le c.1
      exact scanB_ev s neg great whole hs hw n (i + 1) k2 _ (p + 1) (by omega) (by omega) (by omega) (by omega) (by rw [Nat.pow_succ]; omega) (by omega)
    rw [if_neg c]
    exact l0_bad hj (fun h => by omega) (fun h => by omega) (by
      by_cases c2 : isD s[i] = true
      · exact .inr (by have : ¬ p < 3 := fun h => c ⟨c2, h⟩; omega)
      exact .inl (by simpa using c2))
theorem scanA_ev (s : List UInt8) (neg : Bool) (hs : s.length ≤ 1000) : ∀ (n i k whole : Nat) (great : Bool), s.length - i = n → i ≤ s.length → 4 * n + s.length + 50 ≤ k → whole ≤ 1000000000000 → (i = 0 → s.head? ≠ some 45) → swarfref41_Value.l0 k (ba s) (whole : Int) 0 (-1) neg great (i : Int) = some (scanA s neg (s.drop i) whole great i)
  | 0, i, k, whole, great, hn, hil, hk, hw, hm => by
    have e : i = s.length := by omega
    rw [show (0 : Int) = ((0 : Nat) : Int) from rfl, l0_end e hs (by omega) hw (by omega) (by omega) (by omega), e, List.drop_length, scanA]; rfl
  | n + 1, i, k, whole, great, hn, hil, hk, hw, hm => by
    have hj : i < s.length := by omega
    obtain ⟨k2, rfl⟩ : ∃ k2, k = k2 + 4 := ⟨k - 4, by omega⟩
    have hm2 : i = 0 → s[i] ≠ 45 := fun h he => hm h (by
      subst h
      cases s with
      | nil => simp at hj
      | cons c r => simp at he ⊢; exact he)
    rw [List.drop_eq_getElem_cons hj, scanA, show (0 : Int) = ((0 : Nat) : Int) from rfl]
    by_cases c1 : s[i] = 46
    · rw [if_pos c1]
      by_cases c2 : 0 < i
      · rw [if_pos c2]
        have := l0_dot (k := k2 + 1) (whole := whole) (part := 0) (p := -1) (neg := neg) (great := great) hj c2 (by decide) c1 hs
        rw [show k2 + 1 + 3 = k2 + 4 from rfl] at this
        rw [this]
        exact scanB_ev s neg great whole hs hw n (i + 1) (k2 + 1) 0 0 (by omega) (by omega) (by omega) (by omega) (by decide) (by omega)
      rw [if_neg c2]
      exact l0_bad hj hm2 (fun h => c2 h.2.2) (.inl (by rw [c1]; rfl))
    rw [if_neg c1]
    by_cases c3 : isD s[i] = true
    · rw [if_pos c3, l0_digA hj hs hw (by decide) c3]
      by_cases c4 : 1000000000000 < 10 * whole + ((s[i]).toNat - 48)
      · rw [if_pos c4, if_pos c4]
        exact scanA_ev s neg hs n (i + 1) k2 _ true (by omega) (by omega) (by omega) (by omega) (fun h => by omega)
      rw [if_neg c4, if_neg c4]
      exact scanA_ev s neg hs n (i + 1) k2 _ great (by omega) (by omega) (by omega) (by omega) (fun h => by omega)
    rw [if_neg c3]
    exact l0_bad hj hm2 (fun h => c1 h.1) (.inl (by simpa using c3))
def refS (s : List UInt8) : Int × Int := if (cutS s).2 = true then scanA s true (cutS s).1 0 false 1 else scanA s false s 0 false 0
theorem refValue_ev (k : Nat) (s : List UInt8) (hs : s.length ≤ 1000) (hk : 5 * s.length + 60 ≤ k) : swarfref41_Value.f k (ba s) = some (refS s) := by
  unfold swarfref41_Value.f refS
  cases s with
  | nil => exact scanA_ev [] false (by simp) 0 0 k 0 false (by simp) (by simp) (by simp at hk ⊢; omega) (by omega) (fun _ => by simp)
  | cons c r =>
    simp only [List.length_cons] at hs hk
    by_cases h : c = 45
    · subst h
      have e1 : cutS (45 :: r) = (r, true) := by rw [cutS, if_pos rfl]
      rw [e1, if_pos rfl]
      obtain ⟨k2, rfl⟩ : ∃ k2, k = k2 + 2 := ⟨k - 2, by omega⟩
      rw [swarfref41_Value.l0, if_pos (by rw [ba_size]; simp only [List.length_cons]; omega), if_pos rfl, if_pos (by omega), show bt (ba (45 :: r)) 0 = 45 from bt_ba (45 :: r) 0 (by simp), swarfref41_Value.j1, if_pos (by rfl), show wrap64 ((0 : Int) + 1) = ((1 : Nat) : Int) from by unfold wrap64; omega]
      exact scanA_ev (45 :: r) true (by simp only [List.length_cons]; omega) r.length 1 k2 0 false (by simp) (by simp) (by simp only [List.length_cons]; omega) (by omega) (fun h => by omega)
    have e1 : cutS (c :: r) = (c :: r, false) := by rw [cutS, if_neg h]
    rw [e1, if_neg (show ¬ (false = true) by decide)]
    exact scanA_ev (c :: r) false (by simp only [List.length_cons]; omega) (r.length + 1) 0 k 0 false (by simp) (by simp) (by simp only [List.length_cons]; omega) (by omega) (fun _ => by simp [h])
def satN (v : Nat) : Nat := if 1000000000000 < v then 1000000000000 else v
theorem scanA_digits (s : List UInt8) (neg : Bool) (rest : List UInt8) : ∀ (D : List UInt8) (v i : Nat), D.all isD = true → scanA s neg (D ++ rest) (satN v) (decide (1000000000000 < v)) i = scanA s neg rest (satN (valA v D)) (decide (1000000000000 < valA v D)) (i + D.length)
  | [], v, i, _ => rfl
  | c :: D, v, i, h => by
    rw [List.all_cons, Bool.and_eq_true] at h
    have hc := isD_le h.1
    rw [List.cons_append, scanA, if_neg (isD_ne h.1).1, if_pos h.1]
    have ih := scanA_digits s neg rest D (v * 10 + (c.toNat - 48)) (i + 1) h.2
    have ei : i + 1 + D.length = i + (c :: D).length := by simp only [List.length_cons]; omega
    rw [ei] at ih
    have hv : valA v (c :: D) = valA (v * 10 + (c.toNat - 48)) D := rfl
    rw [hv, ← ih]
    by_cases c1 : 1000000000000 < v
    · have e1 : satN v = 1000000000000 := by unfold satN; rw [if_pos c1]
      have e2 : satN (v * 10 + (c.toNat - 48)) = 1000000000000 := by unfold satN; rw [if_pos (by omega)]
      rw [e1, if_pos (by omega), e2, decide_eq_true (show 1000000000000 < v * 10 + (c.toNat - 48) by omega)]
    have e1 : satN v = v := by unfold satN; rw [if_neg c1]
    rw [e1]
    by_cases c2 : 1000000000000 < 10 * v + (c.toNat - 48)
    · have e2 : satN (v * 10 + (c.toNat - 48)) = 1000000000000 := by unfold satN; rw [if_pos (by omega)]
      rw [if_pos c2, e2, decide_eq_true (show 1000000000000 < v * 10 + (c.toNat - 48) by omega)]
    have e2 : satN (v * 10 + (c.toNat - 48)) = 10 * v + (c.toNat - 48) := by unfold satN; rw [if_neg (by omega)]; omega
    rw [if_neg c2, e2, decide_eq_false c1, decide_eq_false (show ¬ 1000000000000 < v * 10 + (c.toNat - 48) by omega)]
theorem scanA_bad (s : List UInt8) (neg : Bool) : ∀ (l : List UInt8) (w i : Nat) (g : Bool), (wholeS l).all isD = false → scanA s neg l w g i = (0, 2)
  | [], w, i, g, h => by simp [wholeS] at h
  | c :: r, w, i, g, h => by
    rw [scanA]
    have hw : wholeS (c :: r) = if (c != 46) = true then c :: wholeS r else [] := by unfold wholeS; rw [List.takeWhile_cons]
    by_cases c1 : c = 46
    · rw [hw, if_neg (by simp [c1])] at h; cases h
    rw [if_neg c1]
    rw [hw, if_pos (bne_iff_ne.mpr c1), List.all_cons] at h
    by_cases c2 : isD c = true
    · rw [if_pos c2]
      rw [c2, Bool.true_and] at h
      split <;> exact scanA_bad s neg r _ _ _ h
    rw [if_neg c2]
theorem scanB_ok (s : List UInt8) (neg g : Bool) (w : Nat) : ∀ (P : List UInt8) (q p : Nat), scanB s neg g w P q p = if P.all isD = true ∧ p + P.length ≤ max p 3 then (if canonS s = true then endS w (padS ((p + P.length : Nat) : Int) (valA q P)) neg g else (0, 2)) else (0, 2)
  | [], q, p => by rw [scanB, if_pos (show ([] : List UInt8).all isD = true ∧ p + ([] : List UInt8).length ≤ max p 3 from ⟨rfl, by simp only [List.length_nil]; omega⟩)]; rfl
  | c :: P, q, p => by
    rw [scanB]
    by_cases h : isD c = true ∧ p < 3
    · rw [if_pos h, scanB_ok s neg g w P _ (p + 1)]
      have e1 : p + 1 + P.length = p + (c :: P).length := by simp only [List.length_cons]; omega
      have e2 : valA (10 * q + (c.toNat - 48)) P = valA q (c :: P) := by show _ = valA (q * 10 + (c.toNat - 48)) P; rw [Nat.mul_comm]
      rw [e1, e2, List.all_cons, h.1, Bool.true_and]
      by_cases h2 : P.all isD = true ∧ p + (c :: P).length ≤ max (p + 1) 3
      · rw [if_pos h2, if_pos (show P.all isD = true ∧ p + (c :: P).length ≤ max p 3 from ⟨h2.1, by have := h2.2; omega⟩)]
      rw [if_neg h2, if_neg (show ¬ (P.all isD = true ∧ p + (c :: P).length ≤ max p 3) from fun h3 => h2 ⟨h3.1, by have := h3.2; omega⟩)]
    rw [if_neg h, if_neg]
    rintro ⟨h1, h2⟩
    rw [List.all_cons, Bool.and_eq_true] at h1
    simp only [List.length_cons] at h2
    exact h ⟨h1.1, by omega⟩
theorem body_eq (b : List UInt8) (h : pointS b = true) : b = wholeS b ++ 46 :: partS b := by
  induction b with
  | nil => cases h
  | cons c r ih =>
    unfold pointS wholeS partS at *
    by_cases h2 : (c != 46) = true
    · rw [List.dropWhile_cons, if_pos h2] at h ⊢
      rw [List.takeWhile_cons, if_pos h2, List.cons_append, ← ih h]
    rw [List.takeWhile_cons, if_neg h2, List.dropWhile_cons, if_neg h2]
    have : c = 46 := by simpa using h2
    rw [this]; rfl
theorem lastDot_none : ∀ (b : List UInt8) (p : Int) (i : Nat), b.all isD = true → lastDot p i b = p
  | [], _, _, _ => rfl
  | c :: r, p, i, h => by
    rw [List.all_cons, Bool.and_eq_true] at h
    rw [lastDot, if_neg (isD_ne h.1).1]; exact lastDot_none r p _ h.2
theorem lastDot_one : ∀ (D P : List UInt8) (p : Int) (i : Nat), D.all isD = true → P.all isD = true → lastDot p i (D ++ 46 :: P) = ((i + D.length : Nat) : Int)
  | [], P, p, i, _, hP => by rw [List.nil_append, lastDot, if_pos rfl, lastDot_none P _ _ hP]; rfl
  | c :: D, P, p, i, h, hP => by
    rw [List.all_cons, Bool.and_eq_true] at h
    rw [List.cons_append, lastDot, if_neg (isD_ne h.1).1, lastDot_one D P p (i + 1) h.2 hP]
    simp only [List.length_cons]; omega
theorem canonB_none (b : List UInt8) (h : b.all isD = true) : canonB b = (digs b && !(decide (1 < b.length) && zeroAhead b)) := by
  unfold canonB digs
  rw [lastDot_none b _ 0 h, h]
  cases b with
  | nil => rfl
  | cons c r =>
    rw [if_neg (by simp only [List.length_cons]; omega)]
    by_cases h2 : ((c :: r).length : Int) > 1 ∧ zeroAhead (c :: r) = true
    · rw [if_pos h2, decide_eq_true (show 1 < (c :: r).length by omega), h2.2]; rfl
    rw [if_neg h2, if_pos rfl]
    by_cases h3 : 1 < (c :: r).length
    · rw [decide_eq_true h3, show zeroAhead (c :: r) = false from by
        cases hz : zeroAhead (c :: r) with
        | false => rfl
        | true => exact absurd ⟨by omega, hz⟩ h2]; rfl
    rw [decide_eq_false h3]; rfl
theorem zeroAhead_app (D r : List UInt8) (h : D ≠ []) : zeroAhead (D ++ r) = zeroAhead D := by
  cases D with
  | nil => exact absurd rfl h
  | cons => rfl
theorem zeroEnd_app (D P : List UInt8) (h : P ≠ []) : zeroEnd (D ++ P) = zeroEnd P := by
  have hl : 0 < P.length := by cases P with | nil => exact absurd rfl h | cons => simp
  unfold zeroEnd
  rw [List.getD, List.getD, List.length_append, List.getElem?_append_right (by omega), show D.length + P.length - 1 - D.length = P.length - 1 by omega]
theorem canonB_one (D P : List UInt8) (h : D.all isD = true) (hP : P.all isD = true) : canonB (D ++ 46 :: P) = (digs D && !(decide (1 < D.length) && zeroAhead D) && (digs P && !zeroEnd P)) := by
  unfold canonB digs
  rw [lastDot_one D P _ 0 h hP, h, hP, Nat.zero_add]
  cases D with
  | nil => rfl
  | cons c r =>
    rw [zeroAhead_app _ _ (by simp), if_neg (by simp only [List.length_cons]; omega)]
    by_cases h2 : (((c :: r).length : Nat) : Int) > 1 ∧ zeroAhead (c :: r) = true
    · rw [if_pos h2, decide_eq_true (show 1 < (c :: r).length by omega), h2.2]; rfl
    rw [if_neg h2]
    have e : (decide (1 < (c :: r).length) && zeroAhead (c :: r)) = false := by
      cases hz : zeroAhead (c :: r) with
      | false => rw [Bool.and_false]
      | true => rw [decide_eq_false (fun h3 => h2 ⟨by omega, hz⟩)]; rfl
    rw [e, if_neg (by simp only [List.length_append, List.length_cons]; omega)]
    cases P with
    | nil => rw [if_neg (by simp only [List.length_append, List.length_cons, List.length_nil]; omega)]; rfl
    | cons x t =>
      rw [if_pos (by simp only [List.length_append, List.length_cons]; omega), show (c :: r) ++ 46 :: x :: t = ((c :: r) ++ [46]) ++ (x :: t) by simp, zeroEnd_app _ _ (by simp)]
      rfl
theorem valA_ge : ∀ (l : List UInt8) (a : Nat), a * 10 ^ l.length ≤ valA a l
  | [], a => Nat.le_of_eq (Nat.mul_one a)
  | c :: r, a => by
    have ih := valA_ge r (a * 10 + (c.toNat - 48))
    have : a * 10 ^ (c :: r).length ≤ (a * 10 + (c.toNat - 48)) * 10 ^ r.length := by
      rw [List.length_cons, Nat.pow_succ, ← Nat.mul_assoc, Nat.mul_right_comm]
      exact Nat.mul_le_mul_right _ (by omega)
    exact Nat.le_trans this ih
theorem lead_pos {c : UInt8} {r : List UInt8} (h : isD c = true) (hz : zeroAhead (c :: r) = false) : 10 ^ r.length ≤ valA 0 (c :: r) := by
  have hc := isD_le h
  have hne : c ≠ 48 := fun he => by rw [he] at hz; cases hz
  have h1 : 1 ≤ c.toNat - 48 := by
    have : c.toNat ≠ 48 := fun he => hne (UInt8.toNat_inj.mp he)
    omega
  have := valA_ge r (0 * 10 + (c.toNat - 48))
  have h2 : 10 ^ r.length ≤ (0 * 10 + (c.toNat - 48)) * 10 ^ r.length := Nat.le_mul_of_pos_left _ (by omega)
  exact Nat.le_trans h2 this
abbrev zs (P : List UInt8) : List UInt8 := ([48, 48, 48] : List UInt8).drop P.length
theorem pad_eq (P : List UInt8) (h : P.length ≤ 3) : padS (P.length : Int) (valA 0 P) = valA 0 (P ++ zs P) := by
  match P, h with
  | [], _ => rfl
  | [x], _ => show 100 * (0 * 10 + _) = ((0 * 10 + _) * 10 + 0) * 10 + 0; omega
  | [x, y], _ => show 10 * ((0 * 10 + _) * 10 + _) = (((0 * 10 + _) * 10 + _) * 10 + 0); omega
  | [x, y, z], _ => rfl
  | _ :: _ :: _ :: _ :: _, h => simp at h
theorem zs_len (P : List UInt8) (h : P.length ≤ 3) : (P ++ zs P).length = 3 := by rw [List.length_append, List.length_drop]; simp; omega
theorem num_eq (W P : List UInt8) (h : P.length ≤ 3) : valA 0 (W ++ P ++ zs P) = 1000 * valA 0 W + valA 0 (P ++ zs P) := by
  rw [List.append_assoc, valA_app, valA_three _ _ (zs_len P h)]; omega
theorem end_range (neg : Bool) (W P : List UInt8) (hW : digs W = true) (hz : (decide (1 < W.length) && zeroAhead W) = false) (hP3 : P.length ≤ 3) : endS (satN (valA 0 W)) (valA 0 (P ++ zs P)) neg (decide (1000000000000 < valA 0 W)) = rangeS neg W P := by
  unfold rangeS endS
  rw [num_eq W P hP3]
  by_cases c : 10 < W.length
  · rw [if_pos c, if_pos]
    right
    have hb : 10000000000 ≤ valA 0 W := by
      cases W with
      | nil => simp at c
      | cons x r =>
        unfold digs at hW
        rw [Bool.and_eq_true, List.all_cons, Bool.and_eq_true] at hW
        rw [decide_eq_true (by omega), Bool.true_and] at hz
        have h1 := lead_pos hW.2.1 hz
        simp only [List.length_cons] at c
        have h2 : (10 : Nat) ^ 10 ≤ 10 ^ r.length := Nat.pow_le_pow_right (by decide) (by omega)
        omega
    unfold satN
    split <;> omega
  rw [if_neg c]
  by_cases c2 : 1000000000000 < valA 0 W
  · rw [if_pos (.inl (decide_eq_true c2)), if_pos (by omega)]
  have e : satN (valA 0 W) = valA 0 W := by unfold satN; rw [if_neg c2]
  rw [e, decide_eq_false c2]
  by_cases c3 : 1000000000000 < 1000 * valA 0 W + valA 0 (P ++ zs P)
  · rw [if_pos (.inr c3), if_pos c3]
  rw [if_neg (show ¬ (false = true ∨ 1000000000000 < 1000 * valA 0 W + valA 0 (P ++ zs P)) from fun h => by rcases h with h | h; cases h; exact c3 h), if_neg c3]
theorem scan_eq (s : List UInt8) (neg : Bool) (b : List UInt8) (i : Nat) (hc : canonS s = (canonB b && !(neg && b == ([48] : List UInt8)))) (hi : wholeS b = [] → i = 0 ∨ 0 < i) :
    scanA s neg b 0 false i = if badS neg b (wholeS b) (partS b) (pointS b) = true then (0, 2) else rangeS neg (wholeS b) (partS b) := by
  cases hW : (wholeS b).all isD with
  | false =>
    rw [scanA_bad s neg b 0 i false hW, show badS neg b (wholeS b) (partS b) (pointS b) = true from by unfold badS digs; rw [hW]; simp, if_pos rfl]
  | true =>
    have h0 : ∀ rest, scanA s neg (wholeS b ++ rest) 0 false i = scanA s neg rest (satN (valA 0 (wholeS b))) (decide (1000000000000 < valA 0 (wholeS b))) (i + (wholeS b).length) := fun rest => scanA_digits s neg rest (wholeS b) 0 i hW
    cases hp : pointS b with
    | false =>
      obtain ⟨e1, e2⟩ := nopoint hp
      have h1 := h0 []
      rw [List.append_nil] at h1
      rw [e1] at h1 hW ⊢
      rw [h1, scanA, e2, hc, canonB_none b hW]
      unfold badS
      rw [Bool.false_and, Bool.or_false]
      cases hA : digs b with
      | false => simp
      | true =>
        cases hB : (decide (1 < b.length) && zeroAhead b) with
        | true => simp
        | false =>
          cases hC : (neg && b == ([48] : List UInt8)) with
          | true => simp
          | false =>
            have := end_range neg b [] hA hB (by simp)
            simp only [Bool.not_true, Bool.not_false, Bool.or_self, Bool.and_self, if_true, Bool.true_and, Bool.false_or]
            rw [if_neg (show ¬ (false = true) by decide), ← this]; rfl
    | true =>
      have eb := body_eq b hp
      have h1 := h0 (46 :: partS b)
      rw [← eb] at h1
      rw [h1, scanA, if_pos rfl, scanB_ok]
      cases hP : (partS b).all isD with
      | false =>
        rw [show badS neg b (wholeS b) (partS b) true = true from by unfold badS digs; rw [hP]; simp, if_pos rfl]
        rw [if_neg (show ¬ (false = true ∧ 0 + (partS b).length ≤ max 0 3) from fun h => by cases h.1)]
        split <;> rfl
      | true =>
        have hcb := canonB_one (wholeS b) (partS b) hW hP
        rw [← eb] at hcb
        by_cases c3 : (partS b).length ≤ 3
        · rw [if_pos (show true = true ∧ 0 + (partS b).length ≤ max 0 3 from ⟨rfl, by omega⟩), Nat.zero_add, pad_eq _ c3, hc, hcb]
          unfold badS
          rw [decide_eq_false (show ¬ 3 < (partS b).length by omega), Bool.or_false, Bool.true_and]
          cases hA : digs (wholeS b) with
          | false => simp
          | true =>
            have hi2 : 0 < i + (wholeS b).length := by
              cases hq : wholeS b with
              | nil => rw [hq] at hA; cases hA
              | cons => simp only [List.length_cons]; omega
            rw [if_pos hi2]
            cases hB : (decide (1 < (wholeS b).length) && zeroAhead (wholeS b)) with
            | true => simp
            | false =>
              cases hC : (neg && b == ([48] : List UInt8)) with
              | true => simp
              | false =>
                cases hD : digs (partS b) with
                | false => simp
                | true =>
                  cases hE : zeroEnd (partS b) with
                  | true => simp
                  | false =>
                    have := end_range neg (wholeS b) (partS b) hA hB c3
                    simp only [Bool.not_true, Bool.not_false, Bool.or_self, Bool.and_self, if_true, Bool.true_and, Bool.false_or]
                    rw [if_neg (show ¬ (false = true) by decide), ← this]
        rw [if_neg (show ¬ (true = true ∧ 0 + (partS b).length ≤ max 0 3) from fun h => by have := h.2; omega), show badS neg b (wholeS b) (partS b) true = true from by unfold badS; rw [decide_eq_true (show 3 < (partS b).length by omega)]; simp, if_pos rfl]
        split <;> rfl
theorem refS_eq (s : List UInt8) : refS s = valueS s := by
  unfold refS valueS
  cases s with
  | nil => exact scan_eq [] false [] 0 rfl (fun _ => .inl rfl)
  | cons c r =>
    by_cases h : c = 45
    · subst h
      have e1 : cutS (45 :: r) = (r, true) := by rw [cutS, if_pos rfl]
      rw [e1, if_pos rfl]
      refine scan_eq (45 :: r) true r 1 ?_ (fun _ => .inr (by omega))
      unfold canonS
      rw [e1, if_pos rfl, Bool.true_and]
      by_cases h2 : r = [48]
      · rw [h2]; simp
      rw [if_neg (by simp [h2]), beq_eq_false_iff_ne.mpr h2]; simp
    have e1 : cutS (c :: r) = (c :: r, false) := by rw [cutS, if_neg h]
    rw [e1, if_neg (show ¬ (false = true) by decide)]
    refine scan_eq (c :: r) false (c :: r) 0 ?_ (fun _ => .inl rfl)
    unfold canonS
    rw [e1, if_neg (show ¬ (false = true) by decide)]; simp
end Go.Proofs.YtehkhbnhmehobaaDoor.P
namespace Go.Proofs.YtehkhbnhmehobaaDoor.P
open Go.RowKit Go.Proofs.YtehkhbnhmehobaaDoorW.PrintWords Go.Proofs.YtehkhbnhmehobaaDoorW.PrintLast Go.Proofs.YtehkhbnhmehobaaDoorW.PrintMore
attribute [local go_sem] max2_int min2_int max_two min_two max_three min_three max_four min_four
set_option linter.unusedVariables false
set_option linter.unusedSimpArgs false
def swarflaw41_BlockValue.j0 : Nat → ByteArray → Bool → Option (Bool)
 | 0, _, _ => none
 | k + 1, x0, x13 => if x13 = true then ((swarflaw41_awake.f k).bind fun t241 => (some t241)) else ((block_Value.f k x0).bind fun bt242 => ((swarfref41_Value.f k x0).bind fun bt244 => (if bt242.1 = bt244.1 then (if bt242.2 = bt244.2 then (if bt242.2 = 0 then ((swarfref41_Text.f k bt242.1).bind fun t246 => (some (t246.toList == x0.toList))) else (some true)) else (none)) else (none))))
def swarflaw41_BlockValue.f (k : Nat) (a0 : ByteArray) : Option (Bool) := (swarflaw41_awake.f k).bind fun t240 => (if t240 = true then (swarflaw41_BlockValue.j0 k a0 (decide ((a0.size : Int) > 60))) else (swarflaw41_BlockValue.j0 k a0 true))
set_option maxHeartbeats 8000000 in
set_option maxRecDepth 100000 in
theorem swarflaw41_BlockValue.calls (k : Nat) (a0 : ByteArray) (r : Bool) (w : World) (h : swarflaw41_BlockValue.f k a0 = some r) (hTB_ : TabOk w := by first | with_reducible exact HTB_.out | exact HTB_.out.step yB) :
  Calls Tryd.prog 4 #[.string a0] w fun e w' => e = .returned (.bool r) ∧ Below w.heap.size w w' := by
 have HTB_ := Aside0.mk hTB_
 clear hTB_
 have HB := Aside0.mk (Below.refl w.heap.size w)
 have H : ((swarflaw41_awake.f k).bind fun t240 => (if t240 = true then (swarflaw41_BlockValue.j0 k a0 (decide ((a0.size : Int) > 60))) else (swarflaw41_BlockValue.j0 k a0 true))) = some r := h
 clear h
 have HC2 := Aside0.mk H
 clear H
 go_enter Tryd.func4, Tryd.ntmps4
 go_upto_region 1 with (fail)
 go_cut [13] (fun v13 wc => ∃ (kq : Nat) (x13_1 : Bool), v13 = .bool x13_1 ∧ Aside0 (swarflaw41_BlockValue.j0 kq a0 x13_1 = some r) ∧ Aside0 (kq ≤ k) ∧ Aside0 (Below w.heap.size w wc))
 case first =>
  have H := HC2.out
  clear HC2
  replace H := Option.bind_eq_some_iff.mp H
  obtain ⟨t240, A30, H⟩ := H
  have A3 := Aside0.mk A30
  clear A30
  by_cases c4 : t240 = true
  ·subst c4
   rw [if_pos rfl] at H
   have H' := Aside0.mk H
   clear H
   go_wp2_with (first | ((with_reducible refine gate_callee (f := 9) rfl ?_); refine goesL_ (some 7) rfl rfl Tryd.func9 (by kernel_rfl) rfl #[] rfl yQ ?_; (with_reducible refine (swarflaw41_awake.calls k  true _ A3.out).mono ?_); rintro e w5 ⟨rfl, hb⟩; refine ⟨_, rfl, ?_⟩; replace HB := Aside0.mk (below_step yB hb); (try clear hb)))
   go_meet
   case rel => exact ⟨_, (decide ((a0.size : Int) > 60)), yS, H', ⟨by first | omega | exact Nat.le_refl _⟩, ⟨yB⟩⟩
  replace c4 := Bool.eq_false_iff.mpr c4
  subst c4
  replace H : (swarflaw41_BlockValue.j0 k a0 true) = some r := by rw [if_neg (show ¬ (false = true) by decide)] at H; exact H
  have H' := Aside0.mk H
  clear H
  go_wp2_with (first | ((with_reducible refine gate_callee (f := 9) rfl ?_); refine goesL_ (some 7) rfl rfl Tryd.func9 (by kernel_rfl) rfl #[] rfl yQ ?_; (with_reducible refine (swarflaw41_awake.calls k  false _ A3.out).mono ?_); rintro e w6 ⟨rfl, hb⟩; refine ⟨_, rfl, ?_⟩; replace HB := Aside0.mk (below_step yB hb); (try clear hb)))
  go_meet
  case rel => exact ⟨_, (true), yS, H', ⟨by first | omega | exact Nat.le_refl _⟩, ⟨yB⟩⟩
 case rest =>
  clear HC2
  try clear p2
  try clear c4
  obtain ⟨kq, x13_1, rfl, HA, HJ1, HB⟩ := hcut
  cases kq with
  | zero => exact absurd HA.out (by simp [swarflaw41_BlockValue.j0])
  | succ kj1 =>
   have H := HA.out
   clear HA
   simp only [swarflaw41_BlockValue.j0] at H
   by_cases c7 : x13_1 = true
   ·subst c7
    rw [if_pos rfl] at H
    replace H := Option.bind_eq_some_iff.mp H
    obtain ⟨t241, A80, H⟩ := H
    have A8 := Aside0.mk A80
    clear A80
    obtain rfl := Option.some.inj H
    go_wp2_with (first | ((with_reducible refine gate_callee (f := 9) rfl ?_); refine goesL_ (some 14) rfl rfl Tryd.func9 (by kernel_rfl) rfl #[] rfl yQ ?_; (with_reducible refine (swarflaw41_awake.calls kj1  t241 _ A8.out).mono ?_); rintro e w9 ⟨rfl, hb⟩; refine ⟨_, rfl, ?_⟩; replace HB := Aside0.mk (below_step yB hb); (try clear hb)))
    go_ret
    exact ⟨yE, yB⟩
   replace c7 := Bool.eq_false_iff.mpr c7
   subst c7
   replace H : ((block_Value.f kj1 a0).bind fun bt242 => ((swarfref41_Value.f kj1 a0).bind fun bt244 => (if bt242.1 = bt244.1 then (if bt242.2 = bt244.2 then (if bt242.2 = 0 then ((swarfref41_Text.f kj1 bt242.1).bind fun t246 => (some (t246.toList == a0.toList))) else (some true)) else (none)) else (none)))) = some r := by rw [if_neg (show ¬ (false = true) by decide)] at H; exact H
   replace H := Option.bind_eq_some_iff.mp H
   obtain ⟨⟨t242, t243⟩, A100, H⟩ := H
   have A10 := Aside0.mk A100
   clear A100
   replace H := Option.bind_eq_some_iff.mp H
   obtain ⟨⟨t244, t245⟩, A110, H⟩ := H
   have A11 := Aside0.mk A110
   clear A110
   by_cases c12 : t242 = t244
   ·rw [if_pos c12] at H
    have c12b0 : (t242 == t244) = true := beq_iff_eq.mpr c12
    have c12b1 : (t242 != t244) = false := bne_eq_false_iff_eq.mpr c12
    clear c12
    by_cases c13 : t243 = t245
    ·rw [if_pos c13] at H
     have c13b0 : (t243 == t245) = true := beq_iff_eq.mpr c13
     have c13b1 : (t243 != t245) = false := bne_eq_false_iff_eq.mpr c13
     clear c13
     by_cases c14 : t243 = 0
     ·rw [if_pos c14] at H
      have c14b0 : (t243 == 0) = true := beq_iff_eq.mpr c14
      have c14b1 : (t243 != 0) = false := bne_eq_false_iff_eq.mpr c14
      clear c14
      replace H := Option.bind_eq_some_iff.mp H
      obtain ⟨t246, A150, H⟩ := H
      have A15 := Aside0.mk A150
      clear A150
      obtain rfl := Option.some.inj H
      go_wp2_with (first | ((with_reducible refine gate_callee (f := 11) rfl ?_); refine goesL_ (some 17) rfl rfl Tryd.func11 (by kernel_rfl) rfl #[.string a0] rfl yQ ?_; (with_reducible refine (block_Value.calls kj1 a0 t242 t243 _ A10.out).mono ?_); rintro e w16 ⟨rfl, hb⟩; refine ⟨_, rfl, ?_⟩; replace HB := Aside0.mk (below_step yB hb); (try clear hb)) | ((with_reducible refine gate_callee (f := 13) rfl ?_); refine goesL_ (some 22) rfl rfl Tryd.func13 (by kernel_rfl) rfl #[.string a0] rfl yQ ?_; (with_reducible refine (swarfref41_Value.calls kj1 a0 t244 t245 _ A11.out).mono ?_); rintro e w' ⟨rfl, ⟨nd, rfl⟩⟩; refine ⟨_, rfl, ?_⟩) | (go_at_call 12; (with_reducible refine (swarfref41_Text.calls kj1 t242 t246 _ A15.out).mono ?_); rintro e w' ⟨rfl, ⟨nd, rfl⟩⟩))
      go_ret
      exact ⟨yE, yB⟩
     rw [if_neg c14] at H
     have c14b0 : (t243 == 0) = false := beq_eq_false_iff_ne.mpr c14
     have c14b1 : (t243 != 0) = true := bne_iff_ne.mpr c14
     obtain rfl := Option.some.inj H
     go_wp2_with (first | ((with_reducible refine gate_callee (f := 11) rfl ?_); refine goesL_ (some 17) rfl rfl Tryd.func11 (by kernel_rfl) rfl #[.string a0] rfl yQ ?_; (with_reducible refine (block_Value.calls kj1 a0 t242 t243 _ A10.out).mono ?_); rintro e w17 ⟨rfl, hb⟩; refine ⟨_, rfl, ?_⟩; replace HB := Aside0.mk (below_step yB hb); (try clear hb)) | ((with_reducible refine gate_callee (f := 13) rfl ?_); refine goesL_ (some 22) rfl rfl Tryd.func13 (by kernel_rfl) rfl #[.string a0] rfl yQ ?_; (with_reducible refine (swarfref41_Value.calls kj1 a0 t244 t245 _ A11.out).mono ?_); rintro e w' ⟨rfl, ⟨nd, rfl⟩⟩; refine ⟨_, rfl, ?_⟩))
     go_ret
     exact ⟨yE, yB⟩
    rw [if_neg c13] at H
    exact absurd H (by simp)
   rw [if_neg c12] at H
   exact absurd H (by simp)
end Go.Proofs.YtehkhbnhmehobaaDoor.P
namespace Go.Proofs.YtehkhbnhmehobaaDoor.P
open Go.RowKit Go.Proofs.YtehkhbnhmehobaaDoorW.PrintWords Go.Proofs.YtehkhbnhmehobaaDoorW.PrintLast Go.Proofs.YtehkhbnhmehobaaDoorW.PrintMore
set_option linter.unusedVariables false
set_option linter.unusedSimpArgs false
theorem valA_snoc (l : List UInt8) (a : Nat) (c : UInt8) : valA a (l ++ [c]) = valA a l * 10 + (c.toNat - 48) := by rw [valA_app]; rfl
theorem ofNat_dig {c : UInt8} (h : isD c = true) : UInt8.ofNat (48 + (c.toNat - 48)) = c := by
  have := isD_le h
  rw [show 48 + (c.toNat - 48) = c.toNat by omega]
  exact UInt8.ofNat_toNat
theorem dec_back (n : Nat) : ∀ (l : List UInt8), l.length = n → digs l = true → (decide (1 < l.length) && zeroAhead l) = false → Lib.decDigits (valA 0 l) = l := by
  induction n with
  | zero => intro l hl hd _; cases l with | nil => cases hd | cons => simp at hl
  | succ n ih =>
    intro l hl hd hz
    rcases List.eq_nil_or_concat l with rfl | ⟨m, c, rfl⟩
    · cases hd
    rw [List.concat_eq_append] at *
    have hd2 := hd
    unfold digs at hd2
    rw [Bool.and_eq_true, List.all_append, Bool.and_eq_true, List.all_cons, Bool.and_eq_true] at hd2
    obtain ⟨_, hm, hc, _⟩ := hd2
    have hcl := isD_le hc
    rw [valA_snoc]
    cases m with
    | nil =>
      show Lib.decDigits (0 * 10 + (c.toNat - 48)) = [c]
      rw [Nat.zero_mul, Nat.zero_add, Lib.decDigits_one (by omega), ofNat_dig hc]
    | cons x r =>
      have hz1 : zeroAhead (x :: r ++ [c]) = false := by
        rw [decide_eq_true (by simp), Bool.true_and] at hz; exact hz
      have hz2 : zeroAhead (x :: r) = false := hz1
      have hm2 := hm
      rw [List.all_cons, Bool.and_eq_true] at hm2
      have hp := lead_pos hm2.1 hz2
      have hp1 : 0 < 10 ^ r.length := Nat.pow_pos (by decide)
      have e := ih (x :: r) (by simpa using hl) (by unfold digs; rw [hm]; rfl) (by rw [hz2, Bool.and_false])
      have e2 : Lib.decDigits (valA 0 (x :: r) * 10 + (c.toNat - 48)) = Lib.decDigits ((valA 0 (x :: r) * 10 + (c.toNat - 48)) / 10) ++ [UInt8.ofNat (48 + (valA 0 (x :: r) * 10 + (c.toNat - 48)) % 10)] := by rw [Lib.decDigits, dif_neg (by omega)]
      rw [e2, show (valA 0 (x :: r) * 10 + (c.toNat - 48)) / 10 = valA 0 (x :: r) by omega, show (valA 0 (x :: r) * 10 + (c.toNat - 48)) % 10 = c.toNat - 48 by omega, e, ofNat_dig hc]
theorem val3_lt (l : List UInt8) (h : l.length = 3) (hd : l.all isD = true) : valA 0 l < 1000 := by
  match l, h with
  | [x, y, z], _ =>
    simp only [List.all_cons, Bool.and_eq_true] at hd
    have hx := isD_le hd.1
    have hy := isD_le hd.2.1
    have hz := isD_le hd.2.2.1
    show ((0 * 10 + (x.toNat - 48)) * 10 + (y.toNat - 48)) * 10 + (z.toNat - 48) < 1000
    omega
theorem zs_all (P : List UInt8) : (zs P).all isD = true := by
  rw [List.all_eq_true]
  intro x hx
  have := List.mem_of_mem_drop hx
  simp only [List.mem_cons, List.mem_nil_iff, or_false, or_self] at this
  rw [this]; rfl
theorem trim_zs (P : List UInt8) : ∀ (n : Nat), Lib.trimRightB (P ++ List.replicate n 48) 48 = Lib.trimRightB P 48
  | 0 => by simp
  | n + 1 => by rw [List.replicate_succ', ← List.append_assoc, trim_snoc, if_pos rfl, trim_zs P n]
theorem trim_self {P : List UInt8} (h : zeroEnd P = false) : Lib.trimRightB P 48 = P := by
  rcases List.eq_nil_or_concat P with rfl | ⟨m, c, rfl⟩
  · rfl
  rw [List.concat_eq_append] at *
  rw [trim_snoc, if_neg]
  intro he
  rw [he] at h
  unfold zeroEnd at h
  simp at h
theorem frac_back (P : List UInt8) (hd : digs P = true) (h3 : P.length ≤ 3) (hz : zeroEnd P = false) : plS (valA 0 (P ++ zs P)) = P ∧ 0 < valA 0 (P ++ zs P) := by
  have hda : P.all isD = true := by unfold digs at hd; rw [Bool.and_eq_true] at hd; exact hd.2
  have hall : (P ++ zs P).all isD = true := by rw [List.all_append, hda, zs_all]; rfl
  have hl := zs_len P h3
  have hv := val3_lt _ hl hall
  have e1 : valA 0 (49 :: (P ++ zs P)) = 1000 + valA 0 (P ++ zs P) := by
    show valA (0 * 10 + ((49 : UInt8).toNat - 48)) (P ++ zs P) = _
    rw [show 0 * 10 + ((49 : UInt8).toNat - 48) = 1 from rfl, valA_three 1 _ hl]
  have e2 := dec_back 4 (49 :: (P ++ zs P)) (by rw [List.length_cons, hl]) (by unfold digs; rw [List.all_cons, hall]; rfl) (by rw [show zeroAhead (49 :: (P ++ zs P)) = false from rfl, Bool.and_false])
  rw [e1] at e2
  have e3 : (Lib.decDigits (1000 + valA 0 (P ++ zs P))).drop 1 = P ++ zs P := by rw [e2]; rfl
  have ez : zs P = List.replicate (3 - P.length) 48 := by
    show ([48, 48, 48] : List UInt8).drop P.length = _
    rw [show ([48, 48, 48] : List UInt8) = List.replicate 3 48 from rfl, List.drop_replicate]
  have e4 : plS (valA 0 (P ++ zs P)) = P := by
    unfold plS
    rw [e3, ez, trim_zs, trim_self hz]
  refine ⟨e4, ?_⟩
  rcases Nat.eq_zero_or_pos (valA 0 (P ++ zs P)) with h0 | h0
  · rw [h0] at e4
    have : plS 0 = [] := by kernel_rfl
    rw [this] at e4
    rw [← e4] at hd; cases hd
  exact h0
theorem text_back (s : List UInt8) (n : Int) (h : valueS s = (n, 0)) : textL n = s ∧ -1000000000000 ≤ n ∧ n ≤ 1000000000000 := by
  unfold valueS at h
  have hs : s = (if (cutS s).2 = true then [45] else []) ++ (cutS s).1 := by
    cases s with
    | nil => rfl
    | cons c r =>
      by_cases hc : c = 45
      · subst hc; rw [cutS, if_pos rfl]; rfl
      rw [cutS, if_neg hc]; rfl
  generalize (cutS s).2 = neg at h hs
  generalize (cutS s).1 = b at h hs
  cases hb : badS neg b (wholeS b) (partS b) (pointS b) with
  | true => rw [hb, if_pos rfl] at h; cases h
  | false =>
    rw [hb, if_neg (show ¬ (false = true) by decide)] at h
    unfold badS at hb
    simp only [Bool.or_eq_false_iff] at hb
    obtain ⟨⟨⟨hW, hz⟩, hpt⟩, hn⟩ := hb
    have hW : digs (wholeS b) = true := by simpa using hW
    have hWa : (wholeS b).all isD = true := by unfold digs at hW; rw [Bool.and_eq_true] at hW; exact hW.2
    have hP : (partS b).length ≤ 3 ∧ (partS b).all isD = true ∧ fracL (valA 0 (partS b ++ zs (partS b))) = (if pointS b = true then 46 :: partS b else []) ∧ (pointS b = true → 0 < valA 0 (partS b ++ zs (partS b))) := by
      cases hp : pointS b with
      | false =>
        obtain ⟨_, e2⟩ := nopoint hp
        rw [e2]; exact ⟨by simp, rfl, rfl, fun h => by cases h⟩
      | true =>
        rw [hp, Bool.true_and] at hpt
        simp only [Bool.or_eq_false_iff] at hpt
        obtain ⟨⟨h1, h2⟩, h3⟩ := hpt
        have h1 : digs (partS b) = true := by simpa using h1
        have h2 : (partS b).length ≤ 3 := by have := of_decide_eq_false h2; omega
        obtain ⟨f1, f2⟩ := frac_back _ h1 h2 h3
        refine ⟨h2, by unfold digs at h1; rw [Bool.and_eq_true] at h1; exact h1.2, ?_, fun _ => f2⟩
        unfold fracL
        rw [if_pos f2, if_pos rfl]
        exact congrArg (46 :: ·) f1
    obtain ⟨hP3, hPa, hfr, hpos⟩ := hP
    have hlt := val3_lt (partS b ++ zs (partS b)) (zs_len _ hP3) (by rw [List.all_append, hPa, zs_all]; rfl)
    have hdec := dec_back _ (wholeS b) rfl hW hz
    have hbody : wholeS b ++ (if pointS b = true then 46 :: partS b else []) = b := by
      cases hp : pointS b with
      | true => rw [if_pos rfl]; exact (body_eq b hp).symm
      | false => rw [if_neg (show ¬ (false = true) by decide), List.append_nil]; exact (nopoint hp).1
    unfold rangeS at h
    rw [num_eq _ _ hP3] at h
    by_cases c1 : 10 < (wholeS b).length
    · rw [if_pos c1] at h; cases h
    rw [if_neg c1] at h
    by_cases c2 : 1000000000000 < 1000 * valA 0 (wholeS b) + valA 0 (partS b ++ zs (partS b))
    · rw [if_pos c2] at h; cases h
    rw [if_neg c2] at h
    generalize hv : valA 0 (wholeS b) = v at *
    generalize hq : valA 0 (partS b ++ zs (partS b)) = q at *
    have hbl : bodyL (1000 * v + q) = b := by
      unfold bodyL
      rw [show (1000 * v + q) / 1000 = v by omega, show (1000 * v + q) % 1000 = q by omega, hfr, hdec]
      exact hbody
    cases hng : neg with
    | false =>
      rw [hng, if_neg (show ¬ (false = true) by decide)] at h
      injection h with h _
      subst h
      rw [hng, if_neg (show ¬ (false = true) by decide), List.nil_append] at hs
      refine ⟨?_, by omega, by omega⟩
      unfold textL
      rw [if_neg (by omega), List.nil_append, Int.natAbs_natCast, hbl]; exact hs.symm
    | true =>
      rw [hng, if_pos rfl] at h
      injection h with h _
      subst h
      rw [hng, if_pos rfl] at hs
      rw [hng, Bool.true_and] at hn
      have hne : b ≠ [48] := beq_eq_false_iff_ne.mp hn
      have hpz : 0 < 1000 * v + q := by
        rcases Nat.eq_zero_or_pos (1000 * v + q) with h0 | h0
        · exact absurd (by
            rw [← hbl, h0]; kernel_rfl) hne
        exact h0
      refine ⟨?_, by omega, by omega⟩
      unfold textL
      rw [if_pos (by omega), show (-((1000 * v + q : Nat) : Int)).natAbs = 1000 * v + q by omega, hbl]; exact hs.symm
theorem awake_500 : swarflaw41_awake.f 500 = some true := by kernel_rfl
theorem awake_499 : swarflaw41_awake.f 499 = some true := by kernel_rfl
theorem pure_BlockValue (a0 : ByteArray) (w : a0.size ≤ 140737488351232) : ∃ k, swarflaw41_BlockValue.f k a0 = some true := by
  refine ⟨500, ?_⟩
  obtain ⟨l, rfl⟩ : ∃ l, a0 = ba l := ⟨a0.data.toList, by apply ByteArray.ext; simp⟩
  unfold swarflaw41_BlockValue.f
  rw [awake_500, Option.bind_some, if_pos rfl, ba_size]
  by_cases c : (l.length : Int) > 60
  · rw [decide_eq_true c, swarflaw41_BlockValue.j0, if_pos rfl, awake_499]; rfl
  rw [decide_eq_false c, swarflaw41_BlockValue.j0, if_neg (show ¬ (false = true) by decide), value_ev 498 l (by omega), Option.bind_some, refValue_ev 499 l (by omega) (by omega), Option.bind_some, refS_eq, if_pos rfl, if_pos rfl]
  by_cases c2 : (valueS l).2 = 0
  · obtain ⟨t1, t2, t3⟩ := text_back l (valueS l).1 (by rw [← c2])
    rw [if_pos c2, refText_ev 498 _ (by omega) (by omega) (by omega) (by omega), Option.bind_some, t1]; simp
  rw [if_neg c2]
end Go.Proofs.YtehkhbnhmehobaaDoor.P
namespace Go.Proofs.YtehkhbnhmehobaaDoor.blockValue
open Go.ChangeShapes Go.WideShapes Go.ChangeAt Go.RowKit
open Go.ChangeMaps (open_string shut_string)
set_option linter.unusedVariables false
theorem own : ownKnob Tryd.prog.godebug = none := by kernel_rfl
theorem laidOut : laidOutB Tryd.prog = true := by kernel_rfl
theorem tab_of {W : World} (h : laidMetH Tryd.prog Rows.blockValueRow.laid W) : P.TabOk W := by
  rw [MakeChecks.laidMetH_plain _ _ _ (by kernel_rfl)] at h
  obtain ⟨ps, ⟨g0, t0, cs0, f0, p0, q0, hg0, ht0, hv0, hd0, ⟨g1, t1, cs1, f1, p1, q1, hg1, ht1, hv1, hd1, ⟨g2, t2, cs2, f2, p2, q2, hg2, ht2, hv2, hd2, _, _⟩, _⟩, _⟩, _, _⟩ := h
  obtain rfl := Option.some.inj ((show Tryd.prog.globalNamed "internal/strconv.uint64pow10" = some 0 by kernel_rfl).symm.trans hg2)
  obtain rfl := Option.some.inj ((show (Tryd.prog.globals[0]?).map (·.type) = some 113 by kernel_rfl).symm.trans ht2)
  unfold P.TabOk Lib.TabIs
  rw [hv2, ← Lib.cells_of_tab Tryd.underlying113 Tryd.underlying51 (by kernel_rfl) (by kernel_rfl) (show DataW.trod _ _ _ _ _ _ _ _ _ = some (Lib.tabData .u64 Lib.pow10Tab, _) from hd2)]
set_option maxRecDepth 100000 in
theorem lifted (os : Os) (started : os.Started) (H : Type) (enc : TypeId × Value → H) :
    ReturnsInHanded {} Tryd.checked os 4 .any (fun w args => (Rows.blockValueSpec.pre enc Tryd.prog Tryd.f4 Rows.blockValueRow.domain false w args ∧ laidMetH Tryd.prog Rows.blockValueRow.laid w) ∧ sizedMet enc Tryd.prog Tryd.f4 (OpenSpec.ofChange Rows.blockValueSpec) false w args) (Rows.blockValueSpec.post enc Tryd.prog Tryd.f4 false true false false) := by
  refine returnsInHanded_of_change_and (C := Tryd.checked) (X := fun w _ => laidMetH Tryd.prog Rows.blockValueRow.laid w) (fun _ _ _ hh h => h.of_heap hh) own started (by kernel_rfl) Tryd.func4
    (ChangeSpec.witness_shaped (enc := enc) (C := Tryd.checked) (os := os) (X := fun w _ => laidMetH Tryd.prog Rows.blockValueRow.laid w) false (World.laidAll Tryd.prog os Rows.blockValueRow.laid) #[.string ByteArray.empty] 8 (World.laidAll_os _ _ _)
      (World.shaped_of_ZipB (by kernel_rfl) (by kernel_rfl)) (by kernel_rfl) (by kernel_rfl) (by kernel_rfl)
      (by rw [MakeChecks.laidMetH_plain _ _ _ (by kernel_rfl)]; exact laidMet_laidAll _ (by kernel_rfl) (by kernel_rfl))) ?_
  intro W base args ds gs before hval0 hW hcnd hsz0 hL _
  have hTab := tab_of hL
  have hsz : (DataW.weightsEach Tryd.prog (Tryd.f4.params.toList ++ Rows.blockValueSpec.plain.varTypes Tryd.prog) (ds ++ gs)).all (· ≤ reachBytes) = true := hsz0
  have hval : ∀ (j : Nat) t v, Tryd.f4.params[j]? = some t → args[j]? = some v → Value.okWide Tryd.prog W .any base t v := hval0
  have hW' := hW
  obtain ⟨p, q, hA0, hV, rfl, hfz, hnd⟩ := hW
  have hA : DataW.TrodAll enc Tryd.prog W 0 (fun _ => true) true Tryd.f4.params.toList args.toList ds p := hA0
  rw [Tryd.params4] at hA hval hsz
  obtain ⟨v0, vs0, d0, ds0, p0, q0, hargs, rfl, rfl, h0, r0⟩ := trodAll_cons hA
  obtain ⟨rfl, rfl, rfl⟩ := trodAll_nil r0
  obtain rfl : args = #[v0] := by cases args; simp_all
  obtain ⟨rfl, rfl⟩ := trodVars_none hV
  obtain ⟨a0, rfl, rfl, rfl, y0⟩ := open_string Tryd.underlying9 (hval 0 9 v0 rfl rfl) h0
  have w0 : a0.size ≤ 140737488351232 := by
    have z := sized_string hsz (j := 0) (t := 9) rfl rfl
    rw [Array.length_toList] at z
    exact z
  clear hA0 hval0 hsz0 hsz
  obtain ⟨k_, pure_⟩ := P.pure_BlockValue a0 w0
  refine (P.swarflaw41_BlockValue.calls k_ a0 true W  pure_ hTab).mono fun e W' ⟨he, bel⟩ => ?_
  subst he
  exact ⟨_, rfl, _, _, _, [], _, [], hW', trodAll_mk1 (shut_bool Tryd.underlying4 _), (trodAll_cons_mk (shut_string Tryd.underlying9 y0) trodAll_mk0), rfl, bel.frame _, fun h => by cases h⟩
theorem over : Rows.blockValueRow.holds Tryd.pinned (OpenSpec.ofChange Rows.blockValueSpec) :=
  OpenClaim.holds_of_wide 4 Tryd.f4 rfl rfl rfl rfl rfl rfl rfl ⟨rfl, rfl, rfl, rfl, rfl⟩ rfl rfl rfl rfl rfl (by kernel_rfl) Tryd.func4 (by kernel_rfl)
    (of_decide_eq_true (by kernel_rfl)) (by unfold Func.isWrapper; first | (rw [if_pos (by decide +kernel)]; kernel_rfl) | (rw [if_neg (by decide +kernel)]; exact ⟨rfl, rfl⟩))
    (fun os started H enc _ => lifted os started H enc)
theorem proved : Rows.BlockValueSaid := over
#print axioms proved
theorem card : Rows.BlockValueCardSaid :=
  Claim7.holds_tied_plain_at .later [] [.data, .data, .data, .data, .sentinel, .sentinel, .pinned] true (true, "f0fb65ec8e847660f557fdf4d8ed53d6f835d381835d257dc2d2ee91b94493e6") true proved (fun _ h => by cases h) (by kernel_rfl) (fun _ h => by cases h) blockValue_row_tie rfl ⟨rfl, rfl⟩ (by kernel_rfl) rfl
    (fun f fn hf hfn => by
      obtain rfl : f = 4 := Option.some.inj ((show Tryd.prog.funcNamed "swarf/swarflaw41.BlockValue" = some 4 by kernel_rfl).symm.trans hf) |>.symm
      obtain rfl : fn = Tryd.f4 := (Option.some.inj (Tryd.func4.symm.trans hfn)).symm
      exact ⟨by kernel_rfl, fun j t ht => by
        rw [Tryd.params4] at ht
        have hm : t ∈ [9] := by simpa using Array.mem_of_getElem? ht
        have hall : ([9].all fun u => !Tryd.prog.wantsStandIn u) = true := by kernel_rfl
        exact (show Tryd.prog.wantsStandIn t = false by simpa using List.all_eq_true.1 hall t hm)⟩)
    (by kernel_rfl)
#print axioms card
end Go.Proofs.YtehkhbnhmehobaaDoor.blockValue
namespace Go.Proofs.YtehkhbnhmehobaaDoor
theorem blockValue_holds : Rows.BlockValueCardSaid := blockValue.card
end Go.Proofs.YtehkhbnhmehobaaDoor
