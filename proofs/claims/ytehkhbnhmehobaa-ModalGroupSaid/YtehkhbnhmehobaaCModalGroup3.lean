/- A part of the proof of ModalGroup. -/

import Derived.Test.YtehkhbnhmehobaaCModalGroup1
import Derived.Test.YtehkhbnhmehobaaCModalGroup2
namespace Go.Proofs.Ytehkhbnhmehobaa.P
open Go.RowKit Go.Proofs.YtehkhbnhmehobaaW.PrintWords Go.Proofs.YtehkhbnhmehobaaW.PrintLast Go.Proofs.YtehkhbnhmehobaaW.PrintMore
attribute [local go_sem] max2_int min2_int max_two min_two max_three min_three max_four min_four   -- for this text's walks alone
set_option linter.unusedVariables false
set_option linter.unusedSimpArgs false
/-! ### swarfref41_Value: function 107 -/
mutual
def swarfref41_Value.l0 : Nat → ByteArray → Int → Int → Int → Bool → Bool → Int → Option (Int × Int)
 | 0, _, _, _, _, _, _, _ => none
 | k + 1, x0, x4, x5, x6, x7, x8, x9 => if x9 < (x0.size : Int) then (if x9 = 0 then (if 0 ≤ x9 then (swarfref41_Value.j1 k x0 x4 x5 x6 x7 x8 x9 ((bt x0 x9) == 45)) else (none)) else (swarfref41_Value.j1 k x0 x4 x5 x6 x7 x8 x9 false)) else ((swarfref41_canonical.f k x0).bind fun t124 => (if t124 = true then (swarfref41_Value.l1 k x4 x5 x6 x7 x8) else (some (0, 2))))
def swarfref41_Value.j1 : Nat → ByteArray → Int → Int → Int → Bool → Bool → Int → Bool → Option (Int × Int)
 | 0, _, _, _, _, _, _, _, _ => none
 | k + 1, x0, x4, x5, x6, x7, x8, x9, x17 => if x17 = true then (swarfref41_Value.l0 k x0 x4 x5 x6 true x8 (wrap64 (x9 + 1))) else (if 0 ≤ x9 then (if x9 < (x0.size : Int) then (if (bt x0 x9) = 46 then (if x6 < 0 then (swarfref41_Value.j2 k x0 x4 x5 x6 x7 x8 x9 (decide (x9 > 0))) else (swarfref41_Value.j2 k x0 x4 x5 x6 x7 x8 x9 false)) else (swarfref41_Value.j2 k x0 x4 x5 x6 x7 x8 x9 false)) else (none)) else (none))
def swarfref41_Value.j2 : Nat → ByteArray → Int → Int → Int → Bool → Bool → Int → Bool → Option (Int × Int)
 | 0, _, _, _, _, _, _, _, _ => none
 | k + 1, x0, x4, x5, x6, x7, x8, x9, x26 => if x26 = true then (swarfref41_Value.l0 k x0 x4 x5 0 x7 x8 (wrap64 (x9 + 1))) else (if 0 ≤ x9 then (if x9 < (x0.size : Int) then (if (bt x0 x9) ≥ 48 then (if (bt x0 x9) ≤ 57 then (swarfref41_Value.j3 k x0 x4 x5 x6 x7 x8 x9 (decide (x6 < 0))) else (swarfref41_Value.j3 k x0 x4 x5 x6 x7 x8 x9 false)) else (swarfref41_Value.j3 k x0 x4 x5 x6 x7 x8 x9 false)) else (none)) else (none))
def swarfref41_Value.j3 : Nat → ByteArray → Int → Int → Int → Bool → Bool → Int → Bool → Option (Int × Int)
 | 0, _, _, _, _, _, _, _, _ => none
 | k + 1, x0, x4, x5, x6, x7, x8, x9, x39 => if x39 = true then (if 0 ≤ x9 then (if x9 < (x0.size : Int) then (if (IntKind.u64.wrap ((IntKind.u64.wrap (10 * x4)) + (((bt x0 x9) - 48) % 256))) > 1000000000000 then (swarfref41_Value.l0 k x0 1000000000000 x5 x6 x7 true (wrap64 (x9 + 1))) else (swarfref41_Value.l0 k x0 (IntKind.u64.wrap ((IntKind.u64.wrap (10 * x4)) + (((bt x0 x9) - 48) % 256))) x5 x6 x7 x8 (wrap64 (x9 + 1)))) else (none)) else (none)) else (if 0 ≤ x9 then (if x9 < (x0.size : Int) then (if (bt x0 x9) ≥ 48 then (if (bt x0 x9) ≤ 57 then (if x6 < 3 then (swarfref41_Value.l0 k x0 x4 (IntKind.u64.wrap ((IntKind.u64.wrap (10 * x5)) + (((bt x0 x9) - 48) % 256))) (wrap64 (x6 + 1)) x7 x8 (wrap64 (x9 + 1))) else (some (0, 2))) else (some (0, 2))) else (some (0, 2))) else (none)) else (none))
def swarfref41_Value.j5 : Nat → Int → Int → Bool → Bool → Option (Int × Int)
 | 0, _, _, _, _ => none
 | k + 1, x4, x5, x7, x8 => if x8 = true then (swarfref41_Value.j6 k x7 (IntKind.u64.wrap ((IntKind.u64.wrap (1000 * x4)) + x5)) true) else (swarfref41_Value.j6 k x7 (IntKind.u64.wrap ((IntKind.u64.wrap (1000 * x4)) + x5)) (decide ((IntKind.u64.wrap ((IntKind.u64.wrap (1000 * x4)) + x5)) > 1000000000000)))
def swarfref41_Value.j6 : Nat → Bool → Int → Bool → Option (Int × Int)
 | 0, _, _, _ => none
 | k + 1, x7, x10, x110 => if x110 = true then (some (0, 11)) else (if x7 = true then (some (wrap64 (-(wrap64 (x10))), 0)) else (some (wrap64 (x10), 0)))
def swarfref41_Value.l1 : Nat → Int → Int → Int → Bool → Bool → Option (Int × Int)
 | 0, _, _, _, _, _ => none
 | k + 1, x4, x5, x6, x7, x8 => if x6 ≥ 0 then (if x6 < 3 then (swarfref41_Value.l1 k x4 (IntKind.u64.wrap (10 * x5)) (wrap64 (x6 + 1)) x7 x8) else (swarfref41_Value.j5 k x4 x5 x7 x8)) else (swarfref41_Value.j5 k x4 x5 x7 x8)
end
def swarfref41_Value.f (k : Nat) (a0 : ByteArray) : Option (Int × Int) := swarfref41_Value.l0 k a0 0 0 (-1) false false 0
theorem swarfref41_Value.mono_l : ∀ k, (∀ y0 y1 y2 y3 y4 y5 y6, LeO (swarfref41_Value.l0 k y0 y1 y2 y3 y4 y5 y6) (swarfref41_Value.l0 (k + 1) y0 y1 y2 y3 y4 y5 y6)) ∧ (∀ y0 y1 y2 y3 y4 y5 y6 y7, LeO (swarfref41_Value.j1 k y0 y1 y2 y3 y4 y5 y6 y7) (swarfref41_Value.j1 (k + 1) y0 y1 y2 y3 y4 y5 y6 y7)) ∧ (∀ y0 y1 y2 y3 y4 y5 y6 y7, LeO (swarfref41_Value.j2 k y0 y1 y2 y3 y4 y5 y6 y7) (swarfref41_Value.j2 (k + 1) y0 y1 y2 y3 y4 y5 y6 y7)) ∧ (∀ y0 y1 y2 y3 y4 y5 y6 y7, LeO (swarfref41_Value.j3 k y0 y1 y2 y3 y4 y5 y6 y7) (swarfref41_Value.j3 (k + 1) y0 y1 y2 y3 y4 y5 y6 y7)) ∧ (∀ y0 y1 y2 y3, LeO (swarfref41_Value.j5 k y0 y1 y2 y3) (swarfref41_Value.j5 (k + 1) y0 y1 y2 y3)) ∧ (∀ y0 y1 y2, LeO (swarfref41_Value.j6 k y0 y1 y2) (swarfref41_Value.j6 (k + 1) y0 y1 y2)) ∧ (∀ y0 y1 y2 y3 y4, LeO (swarfref41_Value.l1 k y0 y1 y2 y3 y4) (swarfref41_Value.l1 (k + 1) y0 y1 y2 y3 y4))
 | 0 => ⟨fun _ _ _ _ _ _ _ r h => by simp [swarfref41_Value.l0] at h, fun _ _ _ _ _ _ _ _ r h => by simp [swarfref41_Value.j1] at h, fun _ _ _ _ _ _ _ _ r h => by simp [swarfref41_Value.j2] at h, fun _ _ _ _ _ _ _ _ r h => by simp [swarfref41_Value.j3] at h, fun _ _ _ _ r h => by simp [swarfref41_Value.j5] at h, fun _ _ _ r h => by simp [swarfref41_Value.j6] at h, fun _ _ _ _ _ r h => by simp [swarfref41_Value.l1] at h⟩
 | k + 1 => by
  obtain ⟨ih0, ih1, ih2, ih3, ih4, ih5, ih6⟩ := swarfref41_Value.mono_l k
  refine ⟨?_, ?_, ?_, ?_, ?_, ?_, ?_⟩
  ·intro y0 y1 y2 y3 y4 y5 y6
   unfold swarfref41_Value.l0
   repeat' first
   | (with_reducible exact ih0 _ _ _ _ _ _ _)
   | (with_reducible exact ih1 _ _ _ _ _ _ _ _)
   | (with_reducible exact ih2 _ _ _ _ _ _ _ _)
   | (with_reducible exact ih3 _ _ _ _ _ _ _ _)
   | (with_reducible exact ih4 _ _ _ _)
   | (with_reducible exact ih5 _ _ _)
   | (with_reducible exact ih6 _ _ _ _ _)
   | (with_reducible exact swarfref41_canonical.mono _ _)
   | (with_reducible exact LeO.refl _)
   | (with_reducible exact LeO.none _)
   | (with_reducible refine LeO.ite ?_ ?_)
   | (with_reducible refine LeO.bind ?_ (fun _ => ?_))
   | exact ih0 _ _ _ _ _ _ _
   | exact ih1 _ _ _ _ _ _ _ _
   | exact ih2 _ _ _ _ _ _ _ _
   | exact ih3 _ _ _ _ _ _ _ _
   | exact ih4 _ _ _ _
   | exact ih5 _ _ _
   | exact ih6 _ _ _ _ _
   | exact swarfref41_canonical.mono _ _
   | exact LeO.none _
   | refine LeO.ite ?_ ?_
   | refine LeO.bind ?_ (fun _ => ?_)
  ·intro y0 y1 y2 y3 y4 y5 y6 y7
   unfold swarfref41_Value.j1
   repeat' first
   | (with_reducible exact ih0 _ _ _ _ _ _ _)
   | (with_reducible exact ih1 _ _ _ _ _ _ _ _)
   | (with_reducible exact ih2 _ _ _ _ _ _ _ _)
   | (with_reducible exact ih3 _ _ _ _ _ _ _ _)
   | (with_reducible exact ih4 _ _ _ _)
   | (with_reducible exact ih5 _ _ _)
   | (with_reducible exact ih6 _ _ _ _ _)
   | (with_reducible exact swarfref41_canonical.mono _ _)
   | (with_reducible exact LeO.refl _)
   | (with_reducible exact LeO.none _)
   | (with_reducible refine LeO.ite ?_ ?_)
   | (with_reducible refine LeO.bind ?_ (fun _ => ?_))
   | exact ih0 _ _ _ _ _ _ _
   | exact ih1 _ _ _ _ _ _ _ _
   | exact ih2 _ _ _ _ _ _ _ _
   | exact ih3 _ _ _ _ _ _ _ _
   | exact ih4 _ _ _ _
   | exact ih5 _ _ _
   | exact ih6 _ _ _ _ _
   | exact swarfref41_canonical.mono _ _
   | exact LeO.none _
   | refine LeO.ite ?_ ?_
   | refine LeO.bind ?_ (fun _ => ?_)
  ·intro y0 y1 y2 y3 y4 y5 y6 y7
   unfold swarfref41_Value.j2
   repeat' first
   | (with_reducible exact ih0 _ _ _ _ _ _ _)
   | (with_reducible exact ih1 _ _ _ _ _ _ _ _)
   | (with_reducible exact ih2 _ _ _ _ _ _ _ _)
   | (with_reducible exact ih3 _ _ _ _ _ _ _ _)
   | (with_reducible exact ih4 _ _ _ _)
   | (with_reducible exact ih5 _ _ _)
   | (with_reducible exact ih6 _ _ _ _ _)
   | (with_reducible exact swarfref41_canonical.mono _ _)
   | (with_reducible exact LeO.refl _)
   | (with_reducible exact LeO.none _)
   | (with_reducible refine LeO.ite ?_ ?_)
   | (with_reducible refine LeO.bind ?_ (fun _ => ?_))
   | exact ih0 _ _ _ _ _ _ _
   | exact ih1 _ _ _ _ _ _ _ _
   | exact ih2 _ _ _ _ _ _ _ _
   | exact ih3 _ _ _ _ _ _ _ _
   | exact ih4 _ _ _ _
   | exact ih5 _ _ _
   | exact ih6 _ _ _ _ _
   | exact swarfref41_canonical.mono _ _
   | exact LeO.none _
   | refine LeO.ite ?_ ?_
   | refine LeO.bind ?_ (fun _ => ?_)
  ·intro y0 y1 y2 y3 y4 y5 y6 y7
   unfold swarfref41_Value.j3
   repeat' first
   | (with_reducible exact ih0 _ _ _ _ _ _ _)
   | (with_reducible exact ih1 _ _ _ _ _ _ _ _)
   | (with_reducible exact ih2 _ _ _ _ _ _ _ _)
   | (with_reducible exact ih3 _ _ _ _ _ _ _ _)
   | (with_reducible exact ih4 _ _ _ _)
   | (with_reducible exact ih5 _ _ _)
   | (with_reducible exact ih6 _ _ _ _ _)
   | (with_reducible exact swarfref41_canonical.mono _ _)
   | (with_reducible exact LeO.refl _)
   | (with_reducible exact LeO.none _)
   | (with_reducible refine LeO.ite ?_ ?_)
   | (with_reducible refine LeO.bind ?_ (fun _ => ?_))
   | exact ih0 _ _ _ _ _ _ _
   | exact ih1 _ _ _ _ _ _ _ _
   | exact ih2 _ _ _ _ _ _ _ _
   | exact ih3 _ _ _ _ _ _ _ _
   | exact ih4 _ _ _ _
   | exact ih5 _ _ _
   | exact ih6 _ _ _ _ _
   | exact swarfref41_canonical.mono _ _
   | exact LeO.none _
   | refine LeO.ite ?_ ?_
   | refine LeO.bind ?_ (fun _ => ?_)
  ·intro y0 y1 y2 y3
   unfold swarfref41_Value.j5
   repeat' first
   | (with_reducible exact ih0 _ _ _ _ _ _ _)
   | (with_reducible exact ih1 _ _ _ _ _ _ _ _)
   | (with_reducible exact ih2 _ _ _ _ _ _ _ _)
   | (with_reducible exact ih3 _ _ _ _ _ _ _ _)
   | (with_reducible exact ih4 _ _ _ _)
   | (with_reducible exact ih5 _ _ _)
   | (with_reducible exact ih6 _ _ _ _ _)
   | (with_reducible exact swarfref41_canonical.mono _ _)
   | (with_reducible exact LeO.refl _)
   | (with_reducible exact LeO.none _)
   | (with_reducible refine LeO.ite ?_ ?_)
   | (with_reducible refine LeO.bind ?_ (fun _ => ?_))
   | exact ih0 _ _ _ _ _ _ _
   | exact ih1 _ _ _ _ _ _ _ _
   | exact ih2 _ _ _ _ _ _ _ _
   | exact ih3 _ _ _ _ _ _ _ _
   | exact ih4 _ _ _ _
   | exact ih5 _ _ _
   | exact ih6 _ _ _ _ _
   | exact swarfref41_canonical.mono _ _
   | exact LeO.none _
   | refine LeO.ite ?_ ?_
   | refine LeO.bind ?_ (fun _ => ?_)
  ·intro y0 y1 y2
   unfold swarfref41_Value.j6
   repeat' first
   | (with_reducible exact ih0 _ _ _ _ _ _ _)
   | (with_reducible exact ih1 _ _ _ _ _ _ _ _)
   | (with_reducible exact ih2 _ _ _ _ _ _ _ _)
   | (with_reducible exact ih3 _ _ _ _ _ _ _ _)
   | (with_reducible exact ih4 _ _ _ _)
   | (with_reducible exact ih5 _ _ _)
   | (with_reducible exact ih6 _ _ _ _ _)
   | (with_reducible exact swarfref41_canonical.mono _ _)
   | (with_reducible exact LeO.refl _)
   | (with_reducible exact LeO.none _)
   | (with_reducible refine LeO.ite ?_ ?_)
   | (with_reducible refine LeO.bind ?_ (fun _ => ?_))
   | exact ih0 _ _ _ _ _ _ _
   | exact ih1 _ _ _ _ _ _ _ _
   | exact ih2 _ _ _ _ _ _ _ _
   | exact ih3 _ _ _ _ _ _ _ _
   | exact ih4 _ _ _ _
   | exact ih5 _ _ _
   | exact ih6 _ _ _ _ _
   | exact swarfref41_canonical.mono _ _
   | exact LeO.none _
   | refine LeO.ite ?_ ?_
   | refine LeO.bind ?_ (fun _ => ?_)
  ·intro y0 y1 y2 y3 y4
   unfold swarfref41_Value.l1
   repeat' first
   | (with_reducible exact ih0 _ _ _ _ _ _ _)
   | (with_reducible exact ih1 _ _ _ _ _ _ _ _)
   | (with_reducible exact ih2 _ _ _ _ _ _ _ _)
   | (with_reducible exact ih3 _ _ _ _ _ _ _ _)
   | (with_reducible exact ih4 _ _ _ _)
   | (with_reducible exact ih5 _ _ _)
   | (with_reducible exact ih6 _ _ _ _ _)
   | (with_reducible exact swarfref41_canonical.mono _ _)
   | (with_reducible exact LeO.refl _)
   | (with_reducible exact LeO.none _)
   | (with_reducible refine LeO.ite ?_ ?_)
   | (with_reducible refine LeO.bind ?_ (fun _ => ?_))
   | exact ih0 _ _ _ _ _ _ _
   | exact ih1 _ _ _ _ _ _ _ _
   | exact ih2 _ _ _ _ _ _ _ _
   | exact ih3 _ _ _ _ _ _ _ _
   | exact ih4 _ _ _ _
   | exact ih5 _ _ _
   | exact ih6 _ _ _ _ _
   | exact swarfref41_canonical.mono _ _
   | exact LeO.none _
   | refine LeO.ite ?_ ?_
   | refine LeO.bind ?_ (fun _ => ?_)
theorem swarfref41_Value.mono : ∀ a0 k, LeO (swarfref41_Value.f k a0) (swarfref41_Value.f (k + 1) a0) := by
 intro a0 k
 obtain ⟨ih0, ih1, ih2, ih3, ih4, ih5, ih6⟩ := swarfref41_Value.mono_l k
 unfold swarfref41_Value.f
 repeat' first
   | (with_reducible exact ih0 _ _ _ _ _ _ _)
   | (with_reducible exact ih1 _ _ _ _ _ _ _ _)
   | (with_reducible exact ih2 _ _ _ _ _ _ _ _)
   | (with_reducible exact ih3 _ _ _ _ _ _ _ _)
   | (with_reducible exact ih4 _ _ _ _)
   | (with_reducible exact ih5 _ _ _)
   | (with_reducible exact ih6 _ _ _ _ _)
   | (with_reducible exact swarfref41_canonical.mono _ _)
   | (with_reducible exact LeO.refl _)
   | (with_reducible exact LeO.none _)
   | (with_reducible refine LeO.ite ?_ ?_)
   | (with_reducible refine LeO.bind ?_ (fun _ => ?_))
   | exact ih0 _ _ _ _ _ _ _
   | exact ih1 _ _ _ _ _ _ _ _
   | exact ih2 _ _ _ _ _ _ _ _
   | exact ih3 _ _ _ _ _ _ _ _
   | exact ih4 _ _ _ _
   | exact ih5 _ _ _
   | exact ih6 _ _ _ _ _
   | exact swarfref41_canonical.mono _ _
   | exact LeO.none _
   | refine LeO.ite ?_ ?_
   | refine LeO.bind ?_ (fun _ => ?_)
set_option maxHeartbeats 8000000 in
set_option maxRecDepth 100000 in
theorem swarfref41_Value.calls (k : Nat) (a0 : ByteArray) (r1 : Int) (r2 : Int) (w : World) (h : swarfref41_Value.f k a0 = some (r1, r2)) :
  Calls Try.prog 107 #[.string a0] w fun e w' => e = .returned (.tuple #[.int .i64 r1, .int .i64 r2]) ∧ Drawn0 w w' := by
 have H : (swarfref41_Value.l0 k a0 0 0 (-1) false false 0) = some (r1, r2) := h
 clear h
 have H' := Aside0.mk H
 clear H
 go_enter Try.func107, Try.ntmps107
 go_wp2
 go_loopg [4, 5, 6, 7, 8, 9] k (fun kq v4 v5 v6 v7 v8 v9 w' => ∃ (x4_1 : Int) (x5_1 : Int) (x6_1 : Int) (x7_1 : Bool) (x8_1 : Bool) (x9_1 : Int), v4 = .int .u64 x4_1 ∧ v5 = .int .u64 x5_1 ∧ v6 = .int .i64 x6_1 ∧ v7 = .bool x7_1 ∧ v8 = .bool x8_1 ∧ v9 = .int .i64 x9_1 ∧ Aside0 (swarfref41_Value.l0 kq a0 x4_1 x5_1 x6_1 x7_1 x8_1 x9_1 = some (r1, r2)) ∧ Aside0 (kq ≤ k) ∧ Drawn0 w w')
 case atStart => exact ⟨(0), (0), ((-1)), (false), (false), (0), (by first | rfl | (simp; done) | (simp [*]; done)), (by first | rfl | (simp; done) | (simp [*]; done)), (by first | rfl | (simp; done) | (simp [*]; done)), (by first | rfl | (simp; done) | (simp [*]; done)), (by first | rfl | (simp; done) | (simp [*]; done)), (by first | rfl | (simp; done) | (simp [*]; done)), H', ⟨Nat.le_refl _⟩, by repeat (first | exact Drawn0.refl _ | apply Drawn0.step)⟩
 case round =>
  clear H'
  try clear c1
  obtain ⟨x4_1, x5_1, x6_1, x7_1, x8_1, x9_1, rfl, rfl, rfl, rfl, rfl, rfl, HA, HK1, ⟨m1, rfl⟩⟩ := hrel
  cases gk with
  | zero => exact absurd HA.out (by simp [swarfref41_Value.l0])
  | succ k1 =>
   have H := HA.out
   clear HA
   simp only [swarfref41_Value.l0] at H
   by_cases c2 : x9_1 < (a0.size : Int)
   ·rw [if_pos c2] at H
    have c2b0 : decide (x9_1 < (a0.size : Int)) = true := decide_eq_true c2
    clear c2
    have HC3 := Aside0.mk H
    clear H
    go_upto_region 7 with (fail)
    go_cut [17] (fun v17 wc => ∃ (kq : Nat) (x17_2 : Bool), v17 = .bool x17_2 ∧ Aside0 (swarfref41_Value.j1 kq a0 x4_1 x5_1 x6_1 x7_1 x8_1 x9_1 x17_2 = some (r1, r2)) ∧ Aside0 (kq ≤ k1) ∧ Drawn0 w wc)
    case first =>
     have H := HC3.out
     clear HC3
     by_cases c4 : x9_1 = 0
     ·rw [if_pos c4] at H
      have c4b0 : (x9_1 == 0) = true := beq_iff_eq.mpr c4
      have c4b1 : (x9_1 != 0) = false := bne_eq_false_iff_eq.mpr c4
      clear c4
      (first | rw [c4b0] | (simp only [i64_w, i32_w]; rw [c4b0]) | skip)
      by_cases c5 : 0 ≤ x9_1
      ·rw [if_pos c5] at H
       have c5b0 : decide (0 ≤ x9_1) = true := decide_eq_true c5
       clear c5
       have H' := Aside0.mk H
       clear H
       have p6 : 0 ≤ (x9_1 : Int) := of_decide_eq_true (by first | (with_reducible assumption) | assumption)
       have q6 : x9_1 < (a0.size : Int) := of_decide_eq_true (by first | (with_reducible assumption) | assumption)
       have hx6 := bt_at a0 x9_1
       replace p6 := eq_true p6
       replace q6 := eq_true q6
       go_wp2
       go_meet
       case rel => exact ⟨_, (((bt a0 x9_1) == 45)), (by first | rfl | (simp; done) | (simp [*]; done)), H', ⟨by have := HK1.out; first | omega | exact Nat.le_refl _⟩, by repeat (first | exact Drawn0.refl _ | apply Drawn0.step)⟩
      ·rw [if_neg c5] at H
       exact absurd H (by simp)
     ·rw [if_neg c4] at H
      have c4b0 : (x9_1 == 0) = false := beq_eq_false_iff_ne.mpr c4
      have c4b1 : (x9_1 != 0) = true := bne_iff_ne.mpr c4
      (first | rw [c4b0] | (simp only [i64_w, i32_w]; rw [c4b0]) | skip)
      have H' := Aside0.mk H
      clear H
      go_wp2
      go_meet
      case rel => exact ⟨_, (false), (by first | rfl | (simp; done) | (simp [*]; done)), H', ⟨by have := HK1.out; first | omega | exact Nat.le_refl _⟩, by repeat (first | exact Drawn0.refl _ | apply Drawn0.step)⟩
    case rest =>
     clear HC3
     try clear c1
     try clear c2
     try clear c2b0
     try clear p2
     try clear c4
     try clear c4b0
     try clear c4b1
     try clear c5
     try clear c5b0
     try clear p6
     try clear q6
     try clear hx6
     try clear p6
     try clear q6
     obtain ⟨kq, x17_2, rfl, HA, HJ2, ⟨mc2, rfl⟩⟩ := hcut
     cases kq with
     | zero => exact absurd HA.out (by simp [swarfref41_Value.j1])
     | succ kj2 =>
      have H := HA.out
      clear HA
      simp only [swarfref41_Value.j1] at H
      by_cases c7 : x17_2 = true
      ·subst c7
       have H1 : (swarfref41_Value.l0 kj2 a0 x4_1 x5_1 x6_1 true x8_1 (wrap64 (x9_1 + 1))) = some (r1, r2) := by rw [if_pos rfl] at H; exact H
       clear H
       have H := H1
       clear H1
       have H' := Aside0.mk H
       clear H
       go_wp2
       go_roundg kj2
       case measure => have := HK1.out; have := HJ2.out; omega
       case rel => exact ⟨(x4_1), (x5_1), (x6_1), (true), (x8_1), (wrap64 (x9_1 + 1)), (by first | rfl | (simp; done) | (simp [*]; done)), (by first | rfl | (simp; done) | (simp [*]; done)), (by first | rfl | (simp; done) | (simp [*]; done)), (by first | rfl | (simp; done) | (simp [*]; done)), (by first | rfl | (simp; done) | (simp [*]; done)), (by first | rfl | (simp; done) | (simp [*]; done)), H', ⟨by have := HK1.out; have := HJ2.out; omega⟩, by repeat (first | exact Drawn0.refl _ | apply Drawn0.step)⟩
      ·replace c7 := Bool.eq_false_iff.mpr c7
       subst c7
       have H1 : (if 0 ≤ x9_1 then (if x9_1 < (a0.size : Int) then (if (bt a0 x9_1) = 46 then (if x6_1 < 0 then (swarfref41_Value.j2 kj2 a0 x4_1 x5_1 x6_1 x7_1 x8_1 x9_1 (decide (x9_1 > 0))) else (swarfref41_Value.j2 kj2 a0 x4_1 x5_1 x6_1 x7_1 x8_1 x9_1 false)) else (swarfref41_Value.j2 kj2 a0 x4_1 x5_1 x6_1 x7_1 x8_1 x9_1 false)) else (none)) else (none)) = some (r1, r2) := by rw [if_neg (show ¬ (false = true) by decide)] at H; exact H
       clear H
       have H := H1
       clear H1
       have HC8 := Aside0.mk H
       clear H
       go_upto_region 9 with (fail)
       go_cut [26] (fun v26 wc => ∃ (kq : Nat) (x26_7 : Bool), v26 = .bool x26_7 ∧ Aside0 (swarfref41_Value.j2 kq a0 x4_1 x5_1 x6_1 x7_1 x8_1 x9_1 x26_7 = some (r1, r2)) ∧ Aside0 (kq ≤ kj2) ∧ Drawn0 w wc)
       case first =>
        have H := HC8.out
        clear HC8
        by_cases c9 : 0 ≤ x9_1
        ·rw [if_pos c9] at H
         have c9b0 : decide (0 ≤ x9_1) = true := decide_eq_true c9
         clear c9
         (first | rw [c9b0] | (simp only [i64_w, i32_w]; rw [c9b0]) | skip)
         by_cases c10 : x9_1 < (a0.size : Int)
         ·rw [if_pos c10] at H
          have c10b0 : decide (x9_1 < (a0.size : Int)) = true := decide_eq_true c10
          clear c10
          by_cases c12 : (bt a0 x9_1) = 46
          ·rw [if_pos c12] at H
           have c12b0 : ((bt a0 x9_1) == 46) = true := beq_iff_eq.mpr c12
           have c12b1 : ((bt a0 x9_1) != 46) = false := bne_eq_false_iff_eq.mpr c12
           clear c12
           by_cases c13 : x6_1 < 0
           ·rw [if_pos c13] at H
            have c13b0 : decide (x6_1 < 0) = true := decide_eq_true c13
            clear c13
            have H' := Aside0.mk H
            clear H
            have p11 : 0 ≤ (x9_1 : Int) := of_decide_eq_true (by first | (with_reducible assumption) | assumption)
            have q11 : x9_1 < (a0.size : Int) := of_decide_eq_true (by first | (with_reducible assumption) | assumption)
            have hx11 := bt_at a0 x9_1
            replace p11 := eq_true p11
            replace q11 := eq_true q11
            go_wp2
            go_meet
            case rel => exact ⟨_, (decide (x9_1 > 0)), (by first | rfl | (simp; done) | (simp [*]; done)), H', ⟨by have := HK1.out; have := HJ2.out; first | omega | exact Nat.le_refl _⟩, by repeat (first | exact Drawn0.refl _ | apply Drawn0.step)⟩
           ·rw [if_neg c13] at H
            have c13b0 : decide (x6_1 < 0) = false := decide_eq_false c13
            clear c13
            have H' := Aside0.mk H
            clear H
            have p11 : 0 ≤ (x9_1 : Int) := of_decide_eq_true (by first | (with_reducible assumption) | assumption)
            have q11 : x9_1 < (a0.size : Int) := of_decide_eq_true (by first | (with_reducible assumption) | assumption)
            have hx11 := bt_at a0 x9_1
            replace p11 := eq_true p11
            replace q11 := eq_true q11
            go_wp2
            go_meet
            case rel => exact ⟨_, (false), (by first | rfl | (simp; done) | (simp [*]; done)), H', ⟨by have := HK1.out; have := HJ2.out; first | omega | exact Nat.le_refl _⟩, by repeat (first | exact Drawn0.refl _ | apply Drawn0.step)⟩
          ·rw [if_neg c12] at H
           have c12b0 : ((bt a0 x9_1) == 46) = false := beq_eq_false_iff_ne.mpr c12
           have c12b1 : ((bt a0 x9_1) != 46) = true := bne_iff_ne.mpr c12
           have H' := Aside0.mk H
           clear H
           have p11 : 0 ≤ (x9_1 : Int) := of_decide_eq_true (by first | (with_reducible assumption) | assumption)
           have q11 : x9_1 < (a0.size : Int) := of_decide_eq_true (by first | (with_reducible assumption) | assumption)
           have hx11 := bt_at a0 x9_1
           replace p11 := eq_true p11
           replace q11 := eq_true q11
           go_wp2
           go_meet
           case rel => exact ⟨_, (false), (by first | rfl | (simp; done) | (simp [*]; done)), H', ⟨by have := HK1.out; have := HJ2.out; first | omega | exact Nat.le_refl _⟩, by repeat (first | exact Drawn0.refl _ | apply Drawn0.step)⟩
         ·rw [if_neg c10] at H
          exact absurd H (by simp)
        ·rw [if_neg c9] at H
         exact absurd H (by simp)
       case rest =>
        clear HC8
        try clear c1
        try clear p1
        try clear q1
        try clear hx1
        try clear c2
        try clear c2b0
        try clear p2
        try clear c4
        try clear c4b0
        try clear c4b1
        try clear c5
        try clear c5b0
        try clear p6
        try clear q6
        try clear hx6
        try clear c7
        try clear c9
        try clear c9b0
        try clear c10
        try clear c10b0
        try clear p11
        try clear q11
        try clear hx11
        try clear c12
        try clear c12b0
        try clear c12b1
        try clear c13
        try clear c13b0
        try clear p11
        try clear p2
        try clear p6
        try clear q11
        try clear q6
        obtain ⟨kq, x26_7, rfl, HA, HJ7, ⟨mc7, rfl⟩⟩ := hcut
        cases kq with
        | zero => exact absurd HA.out (by simp [swarfref41_Value.j2])
        | succ kj7 =>
         have H := HA.out
         clear HA
         simp only [swarfref41_Value.j2] at H
         by_cases c14 : x26_7 = true
         ·subst c14
          have H1 : (swarfref41_Value.l0 kj7 a0 x4_1 x5_1 0 x7_1 x8_1 (wrap64 (x9_1 + 1))) = some (r1, r2) := by rw [if_pos rfl] at H; exact H
          clear H
          have H := H1
          clear H1
          have H' := Aside0.mk H
          clear H
          go_wp2
          go_roundg kj7
          case measure => have := HK1.out; have := HJ2.out; have := HJ7.out; omega
          case rel => exact ⟨(x4_1), (x5_1), (0), (x7_1), (x8_1), (wrap64 (x9_1 + 1)), (by first | rfl | (simp; done) | (simp [*]; done)), (by first | rfl | (simp; done) | (simp [*]; done)), (by first | rfl | (simp; done) | (simp [*]; done)), (by first | rfl | (simp; done) | (simp [*]; done)), (by first | rfl | (simp; done) | (simp [*]; done)), (by first | rfl | (simp; done) | (simp [*]; done)), H', ⟨by have := HK1.out; have := HJ2.out; have := HJ7.out; omega⟩, by repeat (first | exact Drawn0.refl _ | apply Drawn0.step)⟩
         ·replace c14 := Bool.eq_false_iff.mpr c14
          subst c14
          have H1 : (if 0 ≤ x9_1 then (if x9_1 < (a0.size : Int) then (if (bt a0 x9_1) ≥ 48 then (if (bt a0 x9_1) ≤ 57 then (swarfref41_Value.j3 kj7 a0 x4_1 x5_1 x6_1 x7_1 x8_1 x9_1 (decide (x6_1 < 0))) else (swarfref41_Value.j3 kj7 a0 x4_1 x5_1 x6_1 x7_1 x8_1 x9_1 false)) else (swarfref41_Value.j3 kj7 a0 x4_1 x5_1 x6_1 x7_1 x8_1 x9_1 false)) else (none)) else (none)) = some (r1, r2) := by rw [if_neg (show ¬ (false = true) by decide)] at H; exact H
          clear H
          have H := H1
          clear H1
          have HC15 := Aside0.mk H
          clear H
          go_upto_region 11 with (fail)
          go_cut [39] (fun v39 wc => ∃ (kq : Nat) (x39_14 : Bool), v39 = .bool x39_14 ∧ Aside0 (swarfref41_Value.j3 kq a0 x4_1 x5_1 x6_1 x7_1 x8_1 x9_1 x39_14 = some (r1, r2)) ∧ Aside0 (kq ≤ kj7) ∧ Drawn0 w wc)
          case first =>
           have H := HC15.out
           clear HC15
           by_cases c16 : 0 ≤ x9_1
           ·rw [if_pos c16] at H
            have c16b0 : decide (0 ≤ x9_1) = true := decide_eq_true c16
            clear c16
            (first | rw [c16b0] | (simp only [i64_w, i32_w]; rw [c16b0]) | skip)
            by_cases c17 : x9_1 < (a0.size : Int)
            ·rw [if_pos c17] at H
             have c17b0 : decide (x9_1 < (a0.size : Int)) = true := decide_eq_true c17
             clear c17
             by_cases c19 : (bt a0 x9_1) ≥ 48
             ·rw [if_pos c19] at H
              have c19b0 : decide (48 ≤ (bt a0 x9_1)) = true := decide_eq_true c19
              clear c19
              by_cases c21 : (bt a0 x9_1) ≤ 57
              ·rw [if_pos c21] at H
               have c21b0 : decide ((bt a0 x9_1) ≤ 57) = true := decide_eq_true c21
               clear c21
               have H' := Aside0.mk H
               clear H
               have p18 : 0 ≤ (x9_1 : Int) := of_decide_eq_true (by first | (with_reducible assumption) | assumption)
               have q18 : x9_1 < (a0.size : Int) := of_decide_eq_true (by first | (with_reducible assumption) | assumption)
               have hx18 := bt_at a0 x9_1
               replace p18 := eq_true p18
               replace q18 := eq_true q18
               have p20 : 0 ≤ (x9_1 : Int) := of_decide_eq_true (by first | (with_reducible assumption) | assumption)
               have q20 : x9_1 < (a0.size : Int) := of_decide_eq_true (by first | (with_reducible assumption) | assumption)
               have hx20 := bt_at a0 x9_1
               replace p20 := eq_true p20
               replace q20 := eq_true q20
               go_wp2
               go_meet
               case rel => exact ⟨_, (decide (x6_1 < 0)), (by first | rfl | (simp; done) | (simp [*]; done)), H', ⟨by have := HK1.out; have := HJ2.out; have := HJ7.out; first | omega | exact Nat.le_refl _⟩, by repeat (first | exact Drawn0.refl _ | apply Drawn0.step)⟩
              ·rw [if_neg c21] at H
               have c21b0 : decide ((bt a0 x9_1) ≤ 57) = false := decide_eq_false c21
               clear c21
               have H' := Aside0.mk H
               clear H
               have p18 : 0 ≤ (x9_1 : Int) := of_decide_eq_true (by first | (with_reducible assumption) | assumption)
               have q18 : x9_1 < (a0.size : Int) := of_decide_eq_true (by first | (with_reducible assumption) | assumption)
               have hx18 := bt_at a0 x9_1
               replace p18 := eq_true p18
               replace q18 := eq_true q18
               have p20 : 0 ≤ (x9_1 : Int) := of_decide_eq_true (by first | (with_reducible assumption) | assumption)
               have q20 : x9_1 < (a0.size : Int) := of_decide_eq_true (by first | (with_reducible assumption) | assumption)
               have hx20 := bt_at a0 x9_1
               replace p20 := eq_true p20
               replace q20 := eq_true q20
               go_wp2
               go_meet
               case rel => exact ⟨_, (false), (by first | rfl | (simp; done) | (simp [*]; done)), H', ⟨by have := HK1.out; have := HJ2.out; have := HJ7.out; first | omega | exact Nat.le_refl _⟩, by repeat (first | exact Drawn0.refl _ | apply Drawn0.step)⟩
             ·rw [if_neg c19] at H
              have c19b0 : decide (48 ≤ (bt a0 x9_1)) = false := decide_eq_false c19
              clear c19
              have H' := Aside0.mk H
              clear H
              have p18 : 0 ≤ (x9_1 : Int) := of_decide_eq_true (by first | (with_reducible assumption) | assumption)
              have q18 : x9_1 < (a0.size : Int) := of_decide_eq_true (by first | (with_reducible assumption) | assumption)
              have hx18 := bt_at a0 x9_1
              replace p18 := eq_true p18
              replace q18 := eq_true q18
              go_wp2
              go_meet
              case rel => exact ⟨_, (false), (by first | rfl | (simp; done) | (simp [*]; done)), H', ⟨by have := HK1.out; have := HJ2.out; have := HJ7.out; first | omega | exact Nat.le_refl _⟩, by repeat (first | exact Drawn0.refl _ | apply Drawn0.step)⟩
            ·rw [if_neg c17] at H
             exact absurd H (by simp)
           ·rw [if_neg c16] at H
            exact absurd H (by simp)
          case rest =>
           clear HC15
           try clear c1
           try clear p1
           try clear q1
           try clear hx1
           try clear c2
           try clear c2b0
           try clear p2
           try clear q2
           try clear hx2
           try clear c4
           try clear c4b0
           try clear c4b1
           try clear c5
           try clear c5b0
           try clear p6
           try clear q6
           try clear hx6
           try clear c7
           try clear c9
           try clear c9b0
           try clear c10
           try clear c10b0
           try clear p11
           try clear q11
           try clear hx11
           try clear c12
           try clear c12b0
           try clear c12b1
           try clear c13
           try clear c13b0
           try clear c14
           try clear c16
           try clear c16b0
           try clear c17
           try clear c17b0
           try clear p18
           try clear q18
           try clear hx18
           try clear c19
           try clear c19b0
           try clear p20
           try clear q20
           try clear hx20
           try clear c21
           try clear c21b0
           try clear p1
           try clear p11
           try clear p18
           try clear p2
           try clear p20
           try clear p6
           try clear q1
           try clear q11
           try clear q18
           try clear q20
           try clear q6
           obtain ⟨kq, x39_14, rfl, HA, HJ14, ⟨mc14, rfl⟩⟩ := hcut
           cases kq with
           | zero => exact absurd HA.out (by simp [swarfref41_Value.j3])
           | succ kj14 =>
            have H := HA.out
            clear HA
            simp only [swarfref41_Value.j3] at H
            by_cases c22 : x39_14 = true
            ·subst c22
             have H1 : (if 0 ≤ x9_1 then (if x9_1 < (a0.size : Int) then (if (IntKind.u64.wrap ((IntKind.u64.wrap (10 * x4_1)) + (((bt a0 x9_1) - 48) % 256))) > 1000000000000 then (swarfref41_Value.l0 kj14 a0 1000000000000 x5_1 x6_1 x7_1 true (wrap64 (x9_1 + 1))) else (swarfref41_Value.l0 kj14 a0 (IntKind.u64.wrap ((IntKind.u64.wrap (10 * x4_1)) + (((bt a0 x9_1) - 48) % 256))) x5_1 x6_1 x7_1 x8_1 (wrap64 (x9_1 + 1)))) else (none)) else (none)) = some (r1, r2) := by rw [if_pos rfl] at H; exact H
             clear H
             have H := H1
             clear H1
             by_cases c23 : 0 ≤ x9_1
             ·rw [if_pos c23] at H
              have c23b0 : decide (0 ≤ x9_1) = true := decide_eq_true c23
              clear c23
              by_cases c24 : x9_1 < (a0.size : Int)
              ·rw [if_pos c24] at H
               have c24b0 : decide (x9_1 < (a0.size : Int)) = true := decide_eq_true c24
               clear c24
               by_cases c26 : (IntKind.u64.wrap ((IntKind.u64.wrap (10 * x4_1)) + (((bt a0 x9_1) - 48) % 256))) > 1000000000000
               ·rw [if_pos c26] at H
                have c26b0 : decide (1000000000000 < (IntKind.u64.wrap ((IntKind.u64.wrap (10 * x4_1)) + (((bt a0 x9_1) - 48) % 256)))) = true := decide_eq_true c26
                clear c26
                have H' := Aside0.mk H
                clear H
                have p25 : 0 ≤ (x9_1 : Int) := of_decide_eq_true (by first | (with_reducible assumption) | assumption)
                have q25 : x9_1 < (a0.size : Int) := of_decide_eq_true (by first | (with_reducible assumption) | assumption)
                have hx25 := bt_at a0 x9_1
                replace p25 := eq_true p25
                replace q25 := eq_true q25
                go_wp2
                go_roundg kj14
                case measure => have := HK1.out; have := HJ2.out; have := HJ7.out; have := HJ14.out; omega
                case rel => exact ⟨(1000000000000), (x5_1), (x6_1), (x7_1), (true), (wrap64 (x9_1 + 1)), (by first | rfl | (simp; done) | (simp [*]; done)), (by first | rfl | (simp; done) | (simp [*]; done)), (by first | rfl | (simp; done) | (simp [*]; done)), (by first | rfl | (simp; done) | (simp [*]; done)), (by first | rfl | (simp; done) | (simp [*]; done)), (by first | rfl | (simp; done) | (simp [*]; done)), H', ⟨by have := HK1.out; have := HJ2.out; have := HJ7.out; have := HJ14.out; omega⟩, by repeat (first | exact Drawn0.refl _ | apply Drawn0.step)⟩
               ·rw [if_neg c26] at H
                have c26b0 : decide (1000000000000 < (IntKind.u64.wrap ((IntKind.u64.wrap (10 * x4_1)) + (((bt a0 x9_1) - 48) % 256)))) = false := decide_eq_false c26
                clear c26
                have H' := Aside0.mk H
                clear H
                have p25 : 0 ≤ (x9_1 : Int) := of_decide_eq_true (by first | (with_reducible assumption) | assumption)
                have q25 : x9_1 < (a0.size : Int) := of_decide_eq_true (by first | (with_reducible assumption) | assumption)
                have hx25 := bt_at a0 x9_1
                replace p25 := eq_true p25
                replace q25 := eq_true q25
                go_wp2
                go_roundg kj14
                case measure => have := HK1.out; have := HJ2.out; have := HJ7.out; have := HJ14.out; omega
                case rel => exact ⟨(IntKind.u64.wrap ((IntKind.u64.wrap (10 * x4_1)) + (((bt a0 x9_1) - 48) % 256))), (x5_1), (x6_1), (x7_1), (x8_1), (wrap64 (x9_1 + 1)), (by first | rfl | (simp; done) | (simp [*]; done)), (by first | rfl | (simp; done) | (simp [*]; done)), (by first | rfl | (simp; done) | (simp [*]; done)), (by first | rfl | (simp; done) | (simp [*]; done)), (by first | rfl | (simp; done) | (simp [*]; done)), (by first | rfl | (simp; done) | (simp [*]; done)), H', ⟨by have := HK1.out; have := HJ2.out; have := HJ7.out; have := HJ14.out; omega⟩, by repeat (first | exact Drawn0.refl _ | apply Drawn0.step)⟩
              ·rw [if_neg c24] at H
               exact absurd H (by simp)
             ·rw [if_neg c23] at H
              exact absurd H (by simp)
            ·replace c22 := Bool.eq_false_iff.mpr c22
             subst c22
             have H1 : (if 0 ≤ x9_1 then (if x9_1 < (a0.size : Int) then (if (bt a0 x9_1) ≥ 48 then (if (bt a0 x9_1) ≤ 57 then (if x6_1 < 3 then (swarfref41_Value.l0 kj14 a0 x4_1 (IntKind.u64.wrap ((IntKind.u64.wrap (10 * x5_1)) + (((bt a0 x9_1) - 48) % 256))) (wrap64 (x6_1 + 1)) x7_1 x8_1 (wrap64 (x9_1 + 1))) else (some (0, 2))) else (some (0, 2))) else (some (0, 2))) else (none)) else (none)) = some (r1, r2) := by rw [if_neg (show ¬ (false = true) by decide)] at H; exact H
             clear H
             have H := H1
             clear H1
             by_cases c27 : 0 ≤ x9_1
             ·rw [if_pos c27] at H
              have c27b0 : decide (0 ≤ x9_1) = true := decide_eq_true c27
              clear c27
              by_cases c28 : x9_1 < (a0.size : Int)
              ·rw [if_pos c28] at H
               have c28b0 : decide (x9_1 < (a0.size : Int)) = true := decide_eq_true c28
               clear c28
               by_cases c30 : (bt a0 x9_1) ≥ 48
               ·rw [if_pos c30] at H
                have c30b0 : decide (48 ≤ (bt a0 x9_1)) = true := decide_eq_true c30
                clear c30
                by_cases c32 : (bt a0 x9_1) ≤ 57
                ·rw [if_pos c32] at H
                 have c32b0 : decide ((bt a0 x9_1) ≤ 57) = true := decide_eq_true c32
                 clear c32
                 by_cases c33 : x6_1 < 3
                 ·rw [if_pos c33] at H
                  have c33b0 : decide (x6_1 < 3) = true := decide_eq_true c33
                  clear c33
                  have H' := Aside0.mk H
                  clear H
                  have p29 : 0 ≤ (x9_1 : Int) := of_decide_eq_true (by first | (with_reducible assumption) | assumption)
                  have q29 : x9_1 < (a0.size : Int) := of_decide_eq_true (by first | (with_reducible assumption) | assumption)
                  have hx29 := bt_at a0 x9_1
                  replace p29 := eq_true p29
                  replace q29 := eq_true q29
                  have p31 : 0 ≤ (x9_1 : Int) := of_decide_eq_true (by first | (with_reducible assumption) | assumption)
                  have q31 : x9_1 < (a0.size : Int) := of_decide_eq_true (by first | (with_reducible assumption) | assumption)
                  have hx31 := bt_at a0 x9_1
                  replace p31 := eq_true p31
                  replace q31 := eq_true q31
                  have p34 : 0 ≤ (x9_1 : Int) := of_decide_eq_true (by first | (with_reducible assumption) | assumption)
                  have q34 : x9_1 < (a0.size : Int) := of_decide_eq_true (by first | (with_reducible assumption) | assumption)
                  have hx34 := bt_at a0 x9_1
                  replace p34 := eq_true p34
                  replace q34 := eq_true q34
                  go_wp2
                  go_roundg kj14
                  case measure => have := HK1.out; have := HJ2.out; have := HJ7.out; have := HJ14.out; omega
                  case rel => exact ⟨(x4_1), (IntKind.u64.wrap ((IntKind.u64.wrap (10 * x5_1)) + (((bt a0 x9_1) - 48) % 256))), (wrap64 (x6_1 + 1)), (x7_1), (x8_1), (wrap64 (x9_1 + 1)), (by first | rfl | (simp; done) | (simp [*]; done)), (by first | rfl | (simp; done) | (simp [*]; done)), (by first | rfl | (simp; done) | (simp [*]; done)), (by first | rfl | (simp; done) | (simp [*]; done)), (by first | rfl | (simp; done) | (simp [*]; done)), (by first | rfl | (simp; done) | (simp [*]; done)), H', ⟨by have := HK1.out; have := HJ2.out; have := HJ7.out; have := HJ14.out; omega⟩, by repeat (first | exact Drawn0.refl _ | apply Drawn0.step)⟩
                 ·rw [if_neg c33] at H
                  have c33b0 : decide (x6_1 < 3) = false := decide_eq_false c33
                  clear c33
                  simp only [Option.some.injEq, Prod.mk.injEq] at H
                  obtain ⟨rfl, rfl⟩ := H
                  have p29 : 0 ≤ (x9_1 : Int) := of_decide_eq_true (by first | (with_reducible assumption) | assumption)
                  have q29 : x9_1 < (a0.size : Int) := of_decide_eq_true (by first | (with_reducible assumption) | assumption)
                  have hx29 := bt_at a0 x9_1
                  replace p29 := eq_true p29
                  replace q29 := eq_true q29
                  have p31 : 0 ≤ (x9_1 : Int) := of_decide_eq_true (by first | (with_reducible assumption) | assumption)
                  have q31 : x9_1 < (a0.size : Int) := of_decide_eq_true (by first | (with_reducible assumption) | assumption)
                  have hx31 := bt_at a0 x9_1
                  replace p31 := eq_true p31
                  replace q31 := eq_true q31
                  go_wp2
                  go_ret2
                  exact ⟨by first | rfl | (simp; done) | (simp [*]; done), by repeat (first | exact Drawn0.refl _ | apply Drawn0.step)⟩
                ·rw [if_neg c32] at H
                 have c32b0 : decide ((bt a0 x9_1) ≤ 57) = false := decide_eq_false c32
                 clear c32
                 simp only [Option.some.injEq, Prod.mk.injEq] at H
                 obtain ⟨rfl, rfl⟩ := H
                 have p29 : 0 ≤ (x9_1 : Int) := of_decide_eq_true (by first | (with_reducible assumption) | assumption)
                 have q29 : x9_1 < (a0.size : Int) := of_decide_eq_true (by first | (with_reducible assumption) | assumption)
                 have hx29 := bt_at a0 x9_1
                 replace p29 := eq_true p29
                 replace q29 := eq_true q29
                 have p31 : 0 ≤ (x9_1 : Int) := of_decide_eq_true (by first | (with_reducible assumption) | assumption)
                 have q31 : x9_1 < (a0.size : Int) := of_decide_eq_true (by first | (with_reducible assumption) | assumption)
                 have hx31 := bt_at a0 x9_1
                 replace p31 := eq_true p31
                 replace q31 := eq_true q31
                 go_wp2
                 go_ret2
                 exact ⟨by first | rfl | (simp; done) | (simp [*]; done), by repeat (first | exact Drawn0.refl _ | apply Drawn0.step)⟩
               ·rw [if_neg c30] at H
                have c30b0 : decide (48 ≤ (bt a0 x9_1)) = false := decide_eq_false c30
                clear c30
                simp only [Option.some.injEq, Prod.mk.injEq] at H
                obtain ⟨rfl, rfl⟩ := H
                have p29 : 0 ≤ (x9_1 : Int) := of_decide_eq_true (by first | (with_reducible assumption) | assumption)
                have q29 : x9_1 < (a0.size : Int) := of_decide_eq_true (by first | (with_reducible assumption) | assumption)
                have hx29 := bt_at a0 x9_1
                replace p29 := eq_true p29
                replace q29 := eq_true q29
                go_wp2
                go_ret2
                exact ⟨by first | rfl | (simp; done) | (simp [*]; done), by repeat (first | exact Drawn0.refl _ | apply Drawn0.step)⟩
              ·rw [if_neg c28] at H
               exact absurd H (by simp)
             ·rw [if_neg c27] at H
              exact absurd H (by simp)
   ·rw [if_neg c2] at H
    have c2b0 : decide (x9_1 < (a0.size : Int)) = false := decide_eq_false c2
    clear c2
    replace H := Option.bind_eq_some_iff.mp H
    obtain ⟨t124, A350, H⟩ := H
    replace H : (if t124 = true then (swarfref41_Value.l1 k1 x4_1 x5_1 x6_1 x7_1 x8_1) else (some (0, 2))) = some (r1, r2) := H
    have A35 := Aside0.mk A350
    clear A350
    by_cases c36 : t124 = true
    ·subst c36
     have H1 : (swarfref41_Value.l1 k1 x4_1 x5_1 x6_1 x7_1 x8_1) = some (r1, r2) := by rw [if_pos rfl] at H; exact H
     clear H
     have H := H1
     clear H1
     have HC37 := Aside0.mk H
     clear H
     go_upto_block 3 with (first | ((with_reducible refine gate_callee (f := 114) rfl ?_); refine goesL_ (some 90) rfl rfl Try.func114 (by kernel_rfl) rfl #[.string a0] rfl (by (try simp only [List.map_toArray, List.map_cons, List.map_nil]); first | done | rfl | (simp only [List.length_drop, List.length_take]; rfl)) ?_; (with_reducible refine (swarfref41_canonical.calls k1 a0 true _ A35.out).mono ?_); rintro e w' ⟨rfl, ⟨nd, rfl⟩⟩; refine ⟨_, rfl, ?_⟩))
     (try simp only [Act.put, List.setIfInBounds_toArray, List.set_cons_zero, List.set_cons_succ])
     go_cut [5] (fun v5 wc => ∃ (kq : Nat) (x5_36 : Int), v5 = .int .u64 x5_36 ∧ Aside0 (swarfref41_Value.j5 kq x4_1 x5_36 x7_1 x8_1 = some (r1, r2)) ∧ Aside0 (kq ≤ k1) ∧ Drawn0 w wc)
     case first =>
      have H := HC37.out
      clear HC37
      have H' := Aside0.mk H
      clear H
      go_wp2
      go_loopg [5, 6] k1 (fun kq v5 v6 w' => ∃ (x5_2 : Int) (x6_2 : Int), v5 = .int .u64 x5_2 ∧ v6 = .int .i64 x6_2 ∧ Aside0 (swarfref41_Value.l1 kq x4_1 x5_2 x6_2 x7_1 x8_1 = some (r1, r2)) ∧ Aside0 (kq ≤ k1) ∧ Drawn0 w w')
      case atStart => exact ⟨(x5_1), (x6_1), (by first | rfl | (simp; done) | (simp [*]; done)), (by first | rfl | (simp; done) | (simp [*]; done)), H', ⟨Nat.le_refl _⟩, by repeat (first | exact Drawn0.refl _ | apply Drawn0.step)⟩
      case round =>
       clear H'
       try clear c1
       try clear p1
       try clear q1
       try clear hx1
       try clear c2
       try clear c2b0
       try clear p2
       try clear q2
       try clear hx2
       try clear c3
       try clear p3
       try clear q3
       try clear hx3
       try clear c4
       try clear c4b0
       try clear c4b1
       try clear c5
       try clear c5b0
       try clear p6
       try clear q6
       try clear hx6
       try clear c7
       try clear c9
       try clear c9b0
       try clear c10
       try clear c10b0
       try clear c11
       try clear p11
       try clear q11
       try clear hx11
       try clear c12
       try clear c12b0
       try clear c12b1
       try clear c13
       try clear c13b0
       try clear c14
       try clear c16
       try clear c16b0
       try clear c17
       try clear c17b0
       try clear p18
       try clear q18
       try clear hx18
       try clear c19
       try clear c19b0
       try clear p20
       try clear q20
       try clear hx20
       try clear c21
       try clear c21b0
       try clear c22
       try clear c23
       try clear c23b0
       try clear c24
       try clear c24b0
       try clear p25
       try clear q25
       try clear hx25
       try clear c26
       try clear c26b0
       try clear c27
       try clear c27b0
       try clear c28
       try clear c28b0
       try clear p29
       try clear q29
       try clear hx29
       try clear c30
       try clear c30b0
       try clear p31
       try clear q31
       try clear hx31
       try clear c32
       try clear c32b0
       try clear c33
       try clear c33b0
       try clear p34
       try clear q34
       try clear hx34
       try clear c36
       try clear p1
       try clear p11
       try clear p18
       try clear p2
       try clear p20
       try clear p25
       try clear p29
       try clear p31
       try clear p34
       try clear p6
       try clear q1
       try clear q11
       try clear q18
       try clear q2
       try clear q20
       try clear q25
       try clear q29
       try clear q31
       try clear q34
       try clear q6
       obtain ⟨x5_2, x6_2, rfl, rfl, HA, HK2, ⟨m2, rfl⟩⟩ := hrel
       cases gk with
       | zero => exact absurd HA.out (by simp [swarfref41_Value.l1])
       | succ k2 =>
        have H := HA.out
        clear HA
        simp only [swarfref41_Value.l1] at H
        by_cases c38 : x6_2 ≥ 0
        ·rw [if_pos c38] at H
         have c38b0 : decide (0 ≤ x6_2) = true := decide_eq_true c38
         clear c38
         (first | rw [c38b0] | (simp only [i64_w, i32_w]; rw [c38b0]) | skip)
         by_cases c39 : x6_2 < 3
         ·rw [if_pos c39] at H
          have c39b0 : decide (x6_2 < 3) = true := decide_eq_true c39
          clear c39
          have H' := Aside0.mk H
          clear H
          go_wp2
          go_roundg k2
          case measure => have := HK1.out; have := HK2.out; omega
          case rel => exact ⟨(IntKind.u64.wrap (10 * x5_2)), (wrap64 (x6_2 + 1)), (by first | rfl | (simp; done) | (simp [*]; done)), (by first | rfl | (simp; done) | (simp [*]; done)), H', ⟨by have := HK1.out; have := HK2.out; omega⟩, by repeat (first | exact Drawn0.refl _ | apply Drawn0.step)⟩
         ·rw [if_neg c39] at H
          have c39b0 : decide (x6_2 < 3) = false := decide_eq_false c39
          clear c39
          have H' := Aside0.mk H
          clear H
          go_wp2
          go_meet
          case rel => exact ⟨_, (x5_2), (by first | rfl | (simp; done) | (simp [*]; done)), H', ⟨by have := HK1.out; have := HK2.out; first | omega | exact Nat.le_refl _⟩, by repeat (first | exact Drawn0.refl _ | apply Drawn0.step)⟩
        ·rw [if_neg c38] at H
         have c38b0 : decide (0 ≤ x6_2) = false := decide_eq_false c38
         clear c38
         (first | rw [c38b0] | (simp only [i64_w, i32_w]; rw [c38b0]) | skip)
         have H' := Aside0.mk H
         clear H
         go_wp2
         go_meet
         case rel => exact ⟨_, (x5_2), (by first | rfl | (simp; done) | (simp [*]; done)), H', ⟨by have := HK1.out; have := HK2.out; first | omega | exact Nat.le_refl _⟩, by repeat (first | exact Drawn0.refl _ | apply Drawn0.step)⟩
     case rest =>
      clear HC37
      try clear c1
      try clear p1
      try clear q1
      try clear hx1
      try clear c2
      try clear c2b0
      try clear p2
      try clear q2
      try clear hx2
      try clear c3
      try clear p3
      try clear q3
      try clear hx3
      try clear c4
      try clear c4b0
      try clear c4b1
      try clear c5
      try clear c5b0
      try clear p6
      try clear q6
      try clear hx6
      try clear c7
      try clear c9
      try clear c9b0
      try clear c10
      try clear c10b0
      try clear c11
      try clear p11
      try clear q11
      try clear hx11
      try clear c12
      try clear c12b0
      try clear c12b1
      try clear c13
      try clear c13b0
      try clear c14
      try clear c16
      try clear c16b0
      try clear c17
      try clear c17b0
      try clear p18
      try clear q18
      try clear hx18
      try clear c19
      try clear c19b0
      try clear p20
      try clear q20
      try clear hx20
      try clear c21
      try clear c21b0
      try clear c22
      try clear c23
      try clear c23b0
      try clear c24
      try clear c24b0
      try clear p25
      try clear q25
      try clear hx25
      try clear c26
      try clear c26b0
      try clear c27
      try clear c27b0
      try clear c28
      try clear c28b0
      try clear p29
      try clear q29
      try clear hx29
      try clear c30
      try clear c30b0
      try clear p31
      try clear q31
      try clear hx31
      try clear c32
      try clear c32b0
      try clear c33
      try clear c33b0
      try clear p34
      try clear q34
      try clear hx34
      try clear c36
      try clear c38
      try clear c38b0
      try clear c39
      try clear c39b0
      try clear p1
      try clear p11
      try clear p18
      try clear p2
      try clear p20
      try clear p25
      try clear p29
      try clear p3
      try clear p31
      try clear p34
      try clear p6
      try clear q1
      try clear q11
      try clear q18
      try clear q2
      try clear q20
      try clear q25
      try clear q29
      try clear q3
      try clear q31
      try clear q34
      try clear q6
      obtain ⟨kq, x5_36, rfl, HA, HJ36, ⟨mc36, rfl⟩⟩ := hcut
      cases kq with
      | zero => exact absurd HA.out (by simp [swarfref41_Value.j5])
      | succ kj36 =>
       have H := HA.out
       clear HA
       simp only [swarfref41_Value.j5] at H
       have HC40 := Aside0.mk H
       clear H
       go_upto_region 22 with (fail)
       go_cut [110] (fun v110 wc => ∃ (kq : Nat) (x110_39 : Bool), v110 = .bool x110_39 ∧ Aside0 (swarfref41_Value.j6 kq x7_1 (IntKind.u64.wrap ((IntKind.u64.wrap (1000 * x4_1)) + x5_36)) x110_39 = some (r1, r2)) ∧ Aside0 (kq ≤ kj36) ∧ Drawn0 w wc)
       case first =>
        have H := HC40.out
        clear HC40
        by_cases c41 : x8_1 = true
        ·subst c41
         have H1 : (swarfref41_Value.j6 kj36 x7_1 (IntKind.u64.wrap ((IntKind.u64.wrap (1000 * x4_1)) + x5_36)) true) = some (r1, r2) := by rw [if_pos rfl] at H; exact H
         clear H
         have H := H1
         clear H1
         have H' := Aside0.mk H
         clear H
         go_wp2
         go_meet
         case rel => exact ⟨_, (true), (by first | rfl | (simp; done) | (simp [*]; done)), H', ⟨by have := HK1.out; have := HJ36.out; first | omega | exact Nat.le_refl _⟩, by repeat (first | exact Drawn0.refl _ | apply Drawn0.step)⟩
        ·replace c41 := Bool.eq_false_iff.mpr c41
         subst c41
         have H1 : (swarfref41_Value.j6 kj36 x7_1 (IntKind.u64.wrap ((IntKind.u64.wrap (1000 * x4_1)) + x5_36)) (decide ((IntKind.u64.wrap ((IntKind.u64.wrap (1000 * x4_1)) + x5_36)) > 1000000000000))) = some (r1, r2) := by rw [if_neg (show ¬ (false = true) by decide)] at H; exact H
         clear H
         have H := H1
         clear H1
         have H' := Aside0.mk H
         clear H
         go_wp2
         go_meet
         case rel => exact ⟨_, (decide ((IntKind.u64.wrap ((IntKind.u64.wrap (1000 * x4_1)) + x5_36)) > 1000000000000)), (by first | rfl | (simp; done) | (simp [*]; done)), H', ⟨by have := HK1.out; have := HJ36.out; first | omega | exact Nat.le_refl _⟩, by repeat (first | exact Drawn0.refl _ | apply Drawn0.step)⟩
       case rest =>
        clear HC40
        try clear c1
        try clear p1
        try clear q1
        try clear hx1
        try clear c2
        try clear c2b0
        try clear p2
        try clear q2
        try clear hx2
        try clear c3
        try clear p3
        try clear q3
        try clear hx3
        try clear c4
        try clear c4b0
        try clear c4b1
        try clear c5
        try clear c5b0
        try clear p6
        try clear q6
        try clear hx6
        try clear c7
        try clear c9
        try clear c9b0
        try clear c10
        try clear c10b0
        try clear c11
        try clear p11
        try clear q11
        try clear hx11
        try clear c12
        try clear c12b0
        try clear c12b1
        try clear c13
        try clear c13b0
        try clear c14
        try clear c16
        try clear c16b0
        try clear c17
        try clear c17b0
        try clear p18
        try clear q18
        try clear hx18
        try clear c19
        try clear c19b0
        try clear p20
        try clear q20
        try clear hx20
        try clear c21
        try clear c21b0
        try clear c22
        try clear c23
        try clear c23b0
        try clear c24
        try clear c24b0
        try clear p25
        try clear q25
        try clear hx25
        try clear c26
        try clear c26b0
        try clear c27
        try clear c27b0
        try clear c28
        try clear c28b0
        try clear p29
        try clear q29
        try clear hx29
        try clear c30
        try clear c30b0
        try clear p31
        try clear q31
        try clear hx31
        try clear c32
        try clear c32b0
        try clear c33
        try clear c33b0
        try clear p34
        try clear q34
        try clear hx34
        try clear c36
        try clear c38
        try clear c38b0
        try clear c39
        try clear c39b0
        try clear c41
        try clear p1
        try clear p11
        try clear p18
        try clear p2
        try clear p20
        try clear p25
        try clear p29
        try clear p3
        try clear p31
        try clear p34
        try clear p6
        try clear q1
        try clear q11
        try clear q18
        try clear q2
        try clear q20
        try clear q25
        try clear q29
        try clear q3
        try clear q31
        try clear q34
        try clear q6
        obtain ⟨kq, x110_39, rfl, HA, HJ39, ⟨mc39, rfl⟩⟩ := hcut
        cases kq with
        | zero => exact absurd HA.out (by simp [swarfref41_Value.j6])
        | succ kj39 =>
         have H := HA.out
         clear HA
         simp only [swarfref41_Value.j6] at H
         by_cases c42 : x110_39 = true
         ·subst c42
          have H1 : (some (0, 11)) = some (r1, r2) := by rw [if_pos rfl] at H; exact H
          clear H
          have H := H1
          clear H1
          simp only [Option.some.injEq, Prod.mk.injEq] at H
          obtain ⟨rfl, rfl⟩ := H
          go_wp2
          go_ret2
          exact ⟨by first | rfl | (simp; done) | (simp [*]; done), by repeat (first | exact Drawn0.refl _ | apply Drawn0.step)⟩
         ·replace c42 := Bool.eq_false_iff.mpr c42
          subst c42
          have H1 : (if x7_1 = true then (some (wrap64 (-(wrap64 ((IntKind.u64.wrap ((IntKind.u64.wrap (1000 * x4_1)) + x5_36))))), 0)) else (some (wrap64 ((IntKind.u64.wrap ((IntKind.u64.wrap (1000 * x4_1)) + x5_36))), 0))) = some (r1, r2) := by rw [if_neg (show ¬ (false = true) by decide)] at H; exact H
          clear H
          have H := H1
          clear H1
          by_cases c43 : x7_1 = true
          ·subst c43
           have H1 : (some (wrap64 (-(wrap64 ((IntKind.u64.wrap ((IntKind.u64.wrap (1000 * x4_1)) + x5_36))))), 0)) = some (r1, r2) := by rw [if_pos rfl] at H; exact H
           clear H
           have H := H1
           clear H1
           simp only [Option.some.injEq, Prod.mk.injEq] at H
           obtain ⟨rfl, rfl⟩ := H
           go_wp2
           go_ret2
           exact ⟨by first | rfl | (simp; done) | (simp [*]; done), by repeat (first | exact Drawn0.refl _ | apply Drawn0.step)⟩
          ·replace c43 := Bool.eq_false_iff.mpr c43
           subst c43
           have H1 : (some (wrap64 ((IntKind.u64.wrap ((IntKind.u64.wrap (1000 * x4_1)) + x5_36))), 0)) = some (r1, r2) := by rw [if_neg (show ¬ (false = true) by decide)] at H; exact H
           clear H
           have H := H1
           clear H1
           simp only [Option.some.injEq, Prod.mk.injEq] at H
           obtain ⟨rfl, rfl⟩ := H
           go_wp2
           go_ret2
           exact ⟨by first | rfl | (simp; done) | (simp [*]; done), by repeat (first | exact Drawn0.refl _ | apply Drawn0.step)⟩
    ·replace c36 := Bool.eq_false_iff.mpr c36
     subst c36
     have H1 : (some (0, 2)) = some (r1, r2) := by rw [if_neg (show ¬ (false = true) by decide)] at H; exact H
     clear H
     have H := H1
     clear H1
     simp only [Option.some.injEq, Prod.mk.injEq] at H
     obtain ⟨rfl, rfl⟩ := H
     go_wp2_with (first | ((with_reducible refine gate_callee (f := 114) rfl ?_); refine goesL_ (some 90) rfl rfl Try.func114 (by kernel_rfl) rfl #[.string a0] rfl (by (try simp only [List.map_toArray, List.map_cons, List.map_nil]); first | done | rfl | (simp only [List.length_drop, List.length_take]; rfl)) ?_; (with_reducible refine (swarfref41_canonical.calls k1 a0 false _ A35.out).mono ?_); rintro e w' ⟨rfl, ⟨nd, rfl⟩⟩; refine ⟨_, rfl, ?_⟩))
     go_ret2
     exact ⟨by first | rfl | (simp; done) | (simp [*]; done), by repeat (first | exact Drawn0.refl _ | apply Drawn0.step)⟩
end Go.Proofs.Ytehkhbnhmehobaa.P
namespace Go.Proofs.Ytehkhbnhmehobaa.P
open Go.RowKit Go.Proofs.YtehkhbnhmehobaaW.PrintWords Go.Proofs.YtehkhbnhmehobaaW.PrintLast Go.Proofs.YtehkhbnhmehobaaW.PrintMore
attribute [local go_sem] max2_int min2_int max_two min_two max_three min_three max_four min_four   -- for this text's walks alone
set_option linter.unusedVariables false
set_option linter.unusedSimpArgs false
/-! ### swarfref41_Parse: function 85 -/
mutual
def swarfref41_Parse.j0 : Nat → ByteArray → Int → Bool → Bool → ByteArray → Option (Bool × (List (S78)) × ByteArray × Int × Int)
 | 0, _, _, _, _, _ => none
 | k + 1, x0, x6, x24, x127000, x127002 => if x24 = true then (swarfref41_Parse.j1 k x0 1 true x127002) else (swarfref41_Parse.j1 k x0 x6 x127000 x127002)
def swarfref41_Parse.j1 : Nat → ByteArray → Int → Bool → ByteArray → Option (Bool × (List (S78)) × ByteArray × Int × Int)
 | 0, _, _, _, _ => none
 | k + 1, x0, x6, x127000, x127002 => swarfref41_Parse.l0 k x0 x6 true x127000 ([] : List (S78)) x127002
def swarfref41_Parse.l0 : Nat → ByteArray → Int → Bool → Bool → List (S78) → ByteArray → Option (Bool × (List (S78)) × ByteArray × Int × Int)
 | 0, _, _, _, _, _, _ => none
 | k + 1, x0, x6, x7, x127000, x127001, x127002 => if x6 < (x0.size : Int) then (swarfref41_Parse.j3 k x0 x6 true x127000 x127001 x127002) else (swarfref41_Parse.j3 k x0 x6 (!x7) x127000 x127001 x127002)
def swarfref41_Parse.j3 : Nat → ByteArray → Int → Bool → Bool → List (S78) → ByteArray → Option (Bool × (List (S78)) × ByteArray × Int × Int)
 | 0, _, _, _, _, _, _ => none
 | k + 1, x0, x6, x33, x127000, x127001, x127002 => if x33 = true then (if x6 = (x0.size : Int) then (some (false, ([] : List (S78)), (⟨#[]⟩ : ByteArray), x6, 2)) else (if 0 ≤ x6 then (if x6 < (x0.size : Int) then (if (bt x0 x6) = 40 then ((swarfref41_comment.f k x0 x6).bind fun bt127 => (if bt127.2.2 = 0 then (some (x127000, x127001, bt127.1, 0, 0)) else (some (false, ([] : List (S78)), (⟨#[]⟩ : ByteArray), bt127.2.1, bt127.2.2)))) else (if (bt x0 x6) < 65 then (swarfref41_Parse.j4 k x0 x6 true x127000 x127001 x127002) else (swarfref41_Parse.j4 k x0 x6 (decide ((bt x0 x6) > 90)) x127000 x127001 x127002))) else (none)) else (none))) else (some (x127000, x127001, x127002, 0, 0))
def swarfref41_Parse.j4 : Nat → ByteArray → Int → Bool → Bool → List (S78) → ByteArray → Option (Bool × (List (S78)) × ByteArray × Int × Int)
 | 0, _, _, _, _, _, _ => none
 | k + 1, x0, x6, x68, x127000, x127001, x127002 => if x68 = true then (some (false, ([] : List (S78)), (⟨#[]⟩ : ByteArray), x6, 2)) else (if (x127001.length : Int) = 16 then (some (false, ([] : List (S78)), (⟨#[]⟩ : ByteArray), x6, 3)) else (swarfref41_Parse.l1 k x0 x6 (wrap64 (x6 + 1)) x127000 x127001 x127002))
def swarfref41_Parse.j6 : Nat → ByteArray → Int → Int → Bool → List (S78) → ByteArray → Option (Bool × (List (S78)) × ByteArray × Int × Int)
 | 0, _, _, _, _, _, _ => none
 | k + 1, x0, x6, x11, x127000, x127001, x127002 => if 0 ≤ (wrap64 (x6 + 1)) then (if (wrap64 (x6 + 1)) ≤ x11 then (if x11 ≤ (x0.size : Int) then ((swarfref41_Value.f k (x0.extract ((wrap64 (x6 + 1)) : Int).toNat (x11 : Int).toNat)).bind fun bt131 => (if bt131.2 = 0 then (if 0 ≤ x6 then (if x6 < (x0.size : Int) then (if x127001.length < 8796093022208 then ((some (x127001 ++ [(⟨bt x0 x6, bt131.1⟩ : S78)] : List (S78))).bind fun y133 => (if x11 = (x0.size : Int) then (some (x127000, y133, x127002, 0, 0)) else (if 0 ≤ x11 then (if x11 < (x0.size : Int) then (if (bt x0 x11) = 32 then (swarfref41_Parse.l0 k x0 (wrap64 (x11 + 1)) false x127000 y133 x127002) else (some (false, ([] : List (S78)), (⟨#[]⟩ : ByteArray), x11, 2))) else (none)) else (none)))) else (none)) else (none)) else (none)) else (some (false, ([] : List (S78)), (⟨#[]⟩ : ByteArray), x6, bt131.2)))) else (none)) else (none)) else (none)
def swarfref41_Parse.l1 : Nat → ByteArray → Int → Int → Bool → List (S78) → ByteArray → Option (Bool × (List (S78)) × ByteArray × Int × Int)
 | 0, _, _, _, _, _, _ => none
 | k + 1, x0, x6, x11, x127000, x127001, x127002 => if x11 < (x0.size : Int) then (if 0 ≤ x11 then ((swarfref41_number.f (bt x0 x11)).bind fun t130 => (if t130 = true then (swarfref41_Parse.l1 k x0 x6 (wrap64 (x11 + 1)) x127000 x127001 x127002) else (swarfref41_Parse.j6 k x0 x6 x11 x127000 x127001 x127002))) else (none)) else (swarfref41_Parse.j6 k x0 x6 x11 x127000 x127001 x127002)
end
def swarfref41_Parse.f (k : Nat) (a0 : ByteArray) : Option (Bool × (List (S78)) × ByteArray × Int × Int) := if (a0.size : Int) > 65536 then (some (false, ([] : List (S78)), (⟨#[]⟩ : ByteArray), 0, 3)) else (if a0.toList = ([] : List UInt8) then (swarfref41_Parse.j0 k a0 0 false false (⟨#[]⟩ : ByteArray)) else (if 0 < (a0.size : Int) then (swarfref41_Parse.j0 k a0 0 ((bt a0 0) == 47) false (⟨#[]⟩ : ByteArray)) else (none)))
theorem swarfref41_Parse.mono_l : ∀ k, (∀ y0 y1 y2 y3 y4, LeO (swarfref41_Parse.j0 k y0 y1 y2 y3 y4) (swarfref41_Parse.j0 (k + 1) y0 y1 y2 y3 y4)) ∧ (∀ y0 y1 y2 y3, LeO (swarfref41_Parse.j1 k y0 y1 y2 y3) (swarfref41_Parse.j1 (k + 1) y0 y1 y2 y3)) ∧ (∀ y0 y1 y2 y3 y4 y5, LeO (swarfref41_Parse.l0 k y0 y1 y2 y3 y4 y5) (swarfref41_Parse.l0 (k + 1) y0 y1 y2 y3 y4 y5)) ∧ (∀ y0 y1 y2 y3 y4 y5, LeO (swarfref41_Parse.j3 k y0 y1 y2 y3 y4 y5) (swarfref41_Parse.j3 (k + 1) y0 y1 y2 y3 y4 y5)) ∧ (∀ y0 y1 y2 y3 y4 y5, LeO (swarfref41_Parse.j4 k y0 y1 y2 y3 y4 y5) (swarfref41_Parse.j4 (k + 1) y0 y1 y2 y3 y4 y5)) ∧ (∀ y0 y1 y2 y3 y4 y5, LeO (swarfref41_Parse.j6 k y0 y1 y2 y3 y4 y5) (swarfref41_Parse.j6 (k + 1) y0 y1 y2 y3 y4 y5)) ∧ (∀ y0 y1 y2 y3 y4 y5, LeO (swarfref41_Parse.l1 k y0 y1 y2 y3 y4 y5) (swarfref41_Parse.l1 (k + 1) y0 y1 y2 y3 y4 y5))
 | 0 => ⟨fun _ _ _ _ _ r h => by simp [swarfref41_Parse.j0] at h, fun _ _ _ _ r h => by simp [swarfref41_Parse.j1] at h, fun _ _ _ _ _ _ r h => by simp [swarfref41_Parse.l0] at h, fun _ _ _ _ _ _ r h => by simp [swarfref41_Parse.j3] at h, fun _ _ _ _ _ _ r h => by simp [swarfref41_Parse.j4] at h, fun _ _ _ _ _ _ r h => by simp [swarfref41_Parse.j6] at h, fun _ _ _ _ _ _ r h => by simp [swarfref41_Parse.l1] at h⟩
 | k + 1 => by
  obtain ⟨ih0, ih1, ih2, ih3, ih4, ih5, ih6⟩ := swarfref41_Parse.mono_l k
  refine ⟨?_, ?_, ?_, ?_, ?_, ?_, ?_⟩
  ·intro y0 y1 y2 y3 y4
   unfold swarfref41_Parse.j0
   repeat' first
   | (with_reducible exact ih0 _ _ _ _ _)
   | (with_reducible exact ih1 _ _ _ _)
   | (with_reducible exact ih2 _ _ _ _ _ _)
   | (with_reducible exact ih3 _ _ _ _ _ _)
   | (with_reducible exact ih4 _ _ _ _ _ _)
   | (with_reducible exact ih5 _ _ _ _ _ _)
   | (with_reducible exact ih6 _ _ _ _ _ _)
   | (with_reducible exact swarfref41_Value.mono _ _)
   | (with_reducible exact swarfref41_comment.mono _ _ _)
   | (with_reducible exact LeO.refl _)
   | (with_reducible exact LeO.none _)
   | (with_reducible refine LeO.ite ?_ ?_)
   | (with_reducible refine LeO.bind ?_ (fun _ => ?_))
   | exact ih0 _ _ _ _ _
   | exact ih1 _ _ _ _
   | exact ih2 _ _ _ _ _ _
   | exact ih3 _ _ _ _ _ _
   | exact ih4 _ _ _ _ _ _
   | exact ih5 _ _ _ _ _ _
   | exact ih6 _ _ _ _ _ _
   | exact swarfref41_Value.mono _ _
   | exact swarfref41_comment.mono _ _ _
   | exact LeO.none _
   | refine LeO.ite ?_ ?_
   | refine LeO.bind ?_ (fun _ => ?_)
  ·intro y0 y1 y2 y3
   unfold swarfref41_Parse.j1
   repeat' first
   | (with_reducible exact ih0 _ _ _ _ _)
   | (with_reducible exact ih1 _ _ _ _)
   | (with_reducible exact ih2 _ _ _ _ _ _)
   | (with_reducible exact ih3 _ _ _ _ _ _)
   | (with_reducible exact ih4 _ _ _ _ _ _)
   | (with_reducible exact ih5 _ _ _ _ _ _)
   | (with_reducible exact ih6 _ _ _ _ _ _)
   | (with_reducible exact swarfref41_Value.mono _ _)
   | (with_reducible exact swarfref41_comment.mono _ _ _)
   | (with_reducible exact LeO.refl _)
   | (with_reducible exact LeO.none _)
   | (with_reducible refine LeO.ite ?_ ?_)
   | (with_reducible refine LeO.bind ?_ (fun _ => ?_))
   | exact ih0 _ _ _ _ _
   | exact ih1 _ _ _ _
   | exact ih2 _ _ _ _ _ _
   | exact ih3 _ _ _ _ _ _
   | exact ih4 _ _ _ _ _ _
   | exact ih5 _ _ _ _ _ _
   | exact ih6 _ _ _ _ _ _
   | exact swarfref41_Value.mono _ _
   | exact swarfref41_comment.mono _ _ _
   | exact LeO.none _
   | refine LeO.ite ?_ ?_
   | refine LeO.bind ?_ (fun _ => ?_)
  ·intro y0 y1 y2 y3 y4 y5
   unfold swarfref41_Parse.l0
   repeat' first
   | (with_reducible exact ih0 _ _ _ _ _)
   | (with_reducible exact ih1 _ _ _ _)
   | (with_reducible exact ih2 _ _ _ _ _ _)
   | (with_reducible exact ih3 _ _ _ _ _ _)
   | (with_reducible exact ih4 _ _ _ _ _ _)
   | (with_reducible exact ih5 _ _ _ _ _ _)
   | (with_reducible exact ih6 _ _ _ _ _ _)
   | (with_reducible exact swarfref41_Value.mono _ _)
   | (with_reducible exact swarfref41_comment.mono _ _ _)
   | (with_reducible exact LeO.refl _)
   | (with_reducible exact LeO.none _)
   | (with_reducible refine LeO.ite ?_ ?_)
   | (with_reducible refine LeO.bind ?_ (fun _ => ?_))
   | exact ih0 _ _ _ _ _
   | exact ih1 _ _ _ _
   | exact ih2 _ _ _ _ _ _
   | exact ih3 _ _ _ _ _ _
   | exact ih4 _ _ _ _ _ _
   | exact ih5 _ _ _ _ _ _
   | exact ih6 _ _ _ _ _ _
   | exact swarfref41_Value.mono _ _
   | exact swarfref41_comment.mono _ _ _
   | exact LeO.none _
   | refine LeO.ite ?_ ?_
   | refine LeO.bind ?_ (fun _ => ?_)
  ·intro y0 y1 y2 y3 y4 y5
   unfold swarfref41_Parse.j3
   repeat' first
   | (with_reducible exact ih0 _ _ _ _ _)
   | (with_reducible exact ih1 _ _ _ _)
   | (with_reducible exact ih2 _ _ _ _ _ _)
   | (with_reducible exact ih3 _ _ _ _ _ _)
   | (with_reducible exact ih4 _ _ _ _ _ _)
   | (with_reducible exact ih5 _ _ _ _ _ _)
   | (with_reducible exact ih6 _ _ _ _ _ _)
   | (with_reducible exact swarfref41_Value.mono _ _)
   | (with_reducible exact swarfref41_comment.mono _ _ _)
   | (with_reducible exact LeO.refl _)
   | (with_reducible exact LeO.none _)
   | (with_reducible refine LeO.ite ?_ ?_)
   | (with_reducible refine LeO.bind ?_ (fun _ => ?_))
   | exact ih0 _ _ _ _ _
   | exact ih1 _ _ _ _
   | exact ih2 _ _ _ _ _ _
   | exact ih3 _ _ _ _ _ _
   | exact ih4 _ _ _ _ _ _
   | exact ih5 _ _ _ _ _ _
   | exact ih6 _ _ _ _ _ _
   | exact swarfref41_Value.mono _ _
   | exact swarfref41_comment.mono _ _ _
   | exact LeO.none _
   | refine LeO.ite ?_ ?_
   | refine LeO.bind ?_ (fun _ => ?_)
  ·intro y0 y1 y2 y3 y4 y5
   unfold swarfref41_Parse.j4
   repeat' first
   | (with_reducible exact ih0 _ _ _ _ _)
   | (with_reducible exact ih1 _ _ _ _)
   | (with_reducible exact ih2 _ _ _ _ _ _)
   | (with_reducible exact ih3 _ _ _ _ _ _)
   | (with_reducible exact ih4 _ _ _ _ _ _)
   | (with_reducible exact ih5 _ _ _ _ _ _)
   | (with_reducible exact ih6 _ _ _ _ _ _)
   | (with_reducible exact swarfref41_Value.mono _ _)
   | (with_reducible exact swarfref41_comment.mono _ _ _)
   | (with_reducible exact LeO.refl _)
   | (with_reducible exact LeO.none _)
   | (with_reducible refine LeO.ite ?_ ?_)
   | (with_reducible refine LeO.bind ?_ (fun _ => ?_))
   | exact ih0 _ _ _ _ _
   | exact ih1 _ _ _ _
   | exact ih2 _ _ _ _ _ _
   | exact ih3 _ _ _ _ _ _
   | exact ih4 _ _ _ _ _ _
   | exact ih5 _ _ _ _ _ _
   | exact ih6 _ _ _ _ _ _
   | exact swarfref41_Value.mono _ _
   | exact swarfref41_comment.mono _ _ _
   | exact LeO.none _
   | refine LeO.ite ?_ ?_
   | refine LeO.bind ?_ (fun _ => ?_)
  ·intro y0 y1 y2 y3 y4 y5
   unfold swarfref41_Parse.j6
   repeat' first
   | (with_reducible exact ih0 _ _ _ _ _)
   | (with_reducible exact ih1 _ _ _ _)
   | (with_reducible exact ih2 _ _ _ _ _ _)
   | (with_reducible exact ih3 _ _ _ _ _ _)
   | (with_reducible exact ih4 _ _ _ _ _ _)
   | (with_reducible exact ih5 _ _ _ _ _ _)
   | (with_reducible exact ih6 _ _ _ _ _ _)
   | (with_reducible exact swarfref41_Value.mono _ _)
   | (with_reducible exact swarfref41_comment.mono _ _ _)
   | (with_reducible exact LeO.refl _)
   | (with_reducible exact LeO.none _)
   | (with_reducible refine LeO.ite ?_ ?_)
   | (with_reducible refine LeO.bind ?_ (fun _ => ?_))
   | exact ih0 _ _ _ _ _
   | exact ih1 _ _ _ _
   | exact ih2 _ _ _ _ _ _
   | exact ih3 _ _ _ _ _ _
   | exact ih4 _ _ _ _ _ _
   | exact ih5 _ _ _ _ _ _
   | exact ih6 _ _ _ _ _ _
   | exact swarfref41_Value.mono _ _
   | exact swarfref41_comment.mono _ _ _
   | exact LeO.none _
   | refine LeO.ite ?_ ?_
   | refine LeO.bind ?_ (fun _ => ?_)
  ·intro y0 y1 y2 y3 y4 y5
   unfold swarfref41_Parse.l1
   repeat' first
   | (with_reducible exact ih0 _ _ _ _ _)
   | (with_reducible exact ih1 _ _ _ _)
   | (with_reducible exact ih2 _ _ _ _ _ _)
   | (with_reducible exact ih3 _ _ _ _ _ _)
   | (with_reducible exact ih4 _ _ _ _ _ _)
   | (with_reducible exact ih5 _ _ _ _ _ _)
   | (with_reducible exact ih6 _ _ _ _ _ _)
   | (with_reducible exact swarfref41_Value.mono _ _)
   | (with_reducible exact swarfref41_comment.mono _ _ _)
   | (with_reducible exact LeO.refl _)
   | (with_reducible exact LeO.none _)
   | (with_reducible refine LeO.ite ?_ ?_)
   | (with_reducible refine LeO.bind ?_ (fun _ => ?_))
   | exact ih0 _ _ _ _ _
   | exact ih1 _ _ _ _
   | exact ih2 _ _ _ _ _ _
   | exact ih3 _ _ _ _ _ _
   | exact ih4 _ _ _ _ _ _
   | exact ih5 _ _ _ _ _ _
   | exact ih6 _ _ _ _ _ _
   | exact swarfref41_Value.mono _ _
   | exact swarfref41_comment.mono _ _ _
   | exact LeO.none _
   | refine LeO.ite ?_ ?_
   | refine LeO.bind ?_ (fun _ => ?_)
theorem swarfref41_Parse.mono : ∀ a0 k, LeO (swarfref41_Parse.f k a0) (swarfref41_Parse.f (k + 1) a0) := by
 intro a0 k
 obtain ⟨ih0, ih1, ih2, ih3, ih4, ih5, ih6⟩ := swarfref41_Parse.mono_l k
 unfold swarfref41_Parse.f
 repeat' first
   | (with_reducible exact ih0 _ _ _ _ _)
   | (with_reducible exact ih1 _ _ _ _)
   | (with_reducible exact ih2 _ _ _ _ _ _)
   | (with_reducible exact ih3 _ _ _ _ _ _)
   | (with_reducible exact ih4 _ _ _ _ _ _)
   | (with_reducible exact ih5 _ _ _ _ _ _)
   | (with_reducible exact ih6 _ _ _ _ _ _)
   | (with_reducible exact swarfref41_Value.mono _ _)
   | (with_reducible exact swarfref41_comment.mono _ _ _)
   | (with_reducible exact LeO.refl _)
   | (with_reducible exact LeO.none _)
   | (with_reducible refine LeO.ite ?_ ?_)
   | (with_reducible refine LeO.bind ?_ (fun _ => ?_))
   | exact ih0 _ _ _ _ _
   | exact ih1 _ _ _ _
   | exact ih2 _ _ _ _ _ _
   | exact ih3 _ _ _ _ _ _
   | exact ih4 _ _ _ _ _ _
   | exact ih5 _ _ _ _ _ _
   | exact ih6 _ _ _ _ _ _
   | exact swarfref41_Value.mono _ _
   | exact swarfref41_comment.mono _ _ _
   | exact LeO.none _
   | refine LeO.ite ?_ ?_
   | refine LeO.bind ?_ (fun _ => ?_)
def swarfref41_Parse.T28 : Bool × List (List Nat × List Nat) := (true, [([], []), ([0], [0]), ([], []), ([], []), ([2, 3], [2, 3]), ([], []), ([4, 5], [4, 5]), ([6], [6]), ([1, 7], [1, 7]), ([0, 1, 2, 3, 4, 5, 6, 7, 8], []), ([9, 8, 8, 0, 1, 2, 3, 4, 5, 6, 7, 8], [8, 9])])
def swarfref41_Parse.B28 : List Nat := [0, 1, 0, 0, 12, 0, 60, 124, 255, 511, 1023]
theorem swarfref41_Parse.tab28 : rtab .any (opsOf Try.f85 28) = swarfref41_Parse.T28 := by kernel_rfl
theorem swarfref41_Parse.bits28 : waitsOk swarfref41_Parse.T28.2 swarfref41_Parse.B28 = true := by kernel_rfl
set_option maxHeartbeats 8000000 in
set_option maxRecDepth 100000 in
theorem swarfref41_Parse.calls (k : Nat) (a0 : ByteArray) (r1 : Bool) (r2 : List (S78)) (r3 : ByteArray) (r4 : Int) (r5 : Int) (w : World) (h : swarfref41_Parse.f k a0 = some (r1, r2, r3, r4, r5)) :
  Calls Try.prog 85 #[.string a0] w fun e w' => ∃ v1_ : Value, e = .returned (.tuple #[.agg #[.bool r1, v1_, .string r3], .int .i64 r4, .int .i64 r5]) ∧ Kd.R k78 78 w' w.heap.size (fun _ => True) v1_ r2 ∧ Below w.heap.size w w' := by
 have hu32 := Try.underlying32
 have hu78 := Try.underlying78
 have HB := Aside0.mk (Below.refl w.heap.size w)
 have H : (if (a0.size : Int) > 65536 then (some (false, ([] : List (S78)), (⟨#[]⟩ : ByteArray), 0, 3)) else (if a0.toList = ([] : List UInt8) then (swarfref41_Parse.j0 k a0 0 false false (⟨#[]⟩ : ByteArray)) else (if 0 < (a0.size : Int) then (swarfref41_Parse.j0 k a0 0 ((bt a0 0) == 47) false (⟨#[]⟩ : ByteArray)) else (none)))) = some (r1, r2, r3, r4, r5) := h
 clear h
 by_cases c2 : (a0.size : Int) > 65536
 ·rw [if_pos c2] at H
  have c2b0 : decide (65536 < (a0.size : Int)) = true := decide_eq_true c2
  have c2b1 : decide (65536 < a0.size) = true := decide_eq_true (by omega)
  clear c2
  simp only [Option.some.injEq, Prod.mk.injEq] at H
  obtain ⟨rfl, rfl, rfl, rfl, rfl⟩ := H
  go_enter Try.func85, Try.ntmps85
  go_wp2_with (first | ((with_reducible refine gate_dst (N := 2) rfl ?_); refine box_event ?hg (N := 2) ?hd (cs := #[.bool false, .slice none 0 0, .string (⟨#[]⟩ : ByteArray)]) (t := 32) ?hr ?_; (case hd => rfl); (case hg => rfl); (case hr => first | (go_simp; done) | (go_simp; rfl)); intro gb125 hg w3 hbox hb; have n0_ := Aside0.mk (below_step (by repeat (first | (with_reducible first | exact HB.out | apply below_alloc | apply pw_below_drewN | apply below_drew1) | exact HB.out)) hb); have n1_ := Aside0.mk (hbox); have n2_ := Aside0.mk ((by rw [hg]; exact (below_size (by repeat (first | (with_reducible first | exact HB.out | apply below_alloc | apply pw_below_drewN | apply below_drew1) | exact HB.out))) : w.heap.size ≤ gb125)); have n3_ := Aside0.mk ((by rw [hg]; exact (below_size (by repeat (first | (with_reducible first | exact HB.out | apply below_alloc | apply pw_below_drewN | apply below_drew1) | exact HB.out))) : w.heap.size ≤ gb125)); clear HB; have HB := n0_; have BK125 := n1_; have GW125 := n2_; have GE125 := n3_; clear n0_ n1_ n2_ n3_; clear hb hbox hg; have hcz4_0 : w3.cell? ⟨gb125, 0, none⟩ = some (.bool false) := (blk_cell BK125.out 0).trans rfl; have hcz4_1 : w3.cell? ⟨gb125, 1, none⟩ = some (.slice none 0 0) := (blk_cell BK125.out 1).trans rfl; have hcz4_2 : w3.cell? ⟨gb125, 2, none⟩ = some (.string (⟨#[]⟩ : ByteArray)) := (blk_cell BK125.out 2).trans rfl; have hfz4_0 := blk_frozen BK125.out 0; have hfz4_1 := blk_frozen BK125.out 1; have hfz4_2 := blk_frozen BK125.out 2))
  refine bodyPost_ret (results_ctt rfl _ _ gb125 32 #[.bool false, .slice none 0 0, .string (⟨#[]⟩ : ByteArray)] (0, 0) _ rfl (by (with_reducible repeat (first | refine blk_drewN ?_ _ | refine blk_drew ?_ | refine blk_alloc ?_ _)); refine blk_put (cs := #[.bool false, .slice none 0 0, .string (⟨#[]⟩ : ByteArray)]) ?_ 2 _ rfl; (with_reducible repeat (first | refine blk_drewN ?_ _ | refine blk_drew ?_ | refine blk_alloc ?_ _)); refine blk_put (cs := #[.bool false, .slice none 0 0, .string (⟨#[]⟩ : ByteArray)]) ?_ 1 _ rfl; (with_reducible repeat (first | refine blk_drewN ?_ _ | refine blk_drew ?_ | refine blk_alloc ?_ _)); refine blk_put (cs := #[.bool false, .slice none 0 0, .string (⟨#[]⟩ : ByteArray)]) ?_ 0 _ rfl; (with_reducible repeat (first | refine blk_drewN ?_ _ | refine blk_drew ?_ | refine blk_alloc ?_ _)); exact BK125.out) Try.underlying32 rfl (by kernel_rfl)) rfl ?_
  exact ⟨_, by first | rfl | (simp [errW_none, errW_some] <;> rfl) | (simp [*, errW_none, errW_some] <;> rfl), by first | exact Kd.R_nil _ _ _ _ _ | exact Kd.N_nil _ _ _ _ _ | exact Kd.V_nil _ _ _ _ _ | exact Kd.Q_nil _ _ _ _ _ | exact Kd.S_nil _ _ _ _ _, by repeat (first | (with_reducible first | exact HB.out | apply below_alloc | apply pw_below_drewN | apply below_drew1 | refine below_set ?_ GE125.out) | exact HB.out)⟩
 ·rw [if_neg c2] at H
  have c2b0 : decide (65536 < (a0.size : Int)) = false := decide_eq_false c2
  have c2b1 : decide (65536 < a0.size) = false := decide_eq_false (by omega)
  clear c2
  have HC5 := Aside0.mk H
  clear H
  go_enter Try.func85, Try.ntmps85
  go_upto_region 5 with (first | ((with_reducible refine gate_dst (N := 2) rfl ?_); refine box_event ?hg (N := 2) ?hd (cs := #[.bool false, .slice none 0 0, .string (⟨#[]⟩ : ByteArray)]) (t := 32) ?hr ?_; (case hd => rfl); (case hg => rfl); (case hr => first | (go_simp; done) | (go_simp; rfl)); intro gb125 hg w6 hbox hb; have n0_ := Aside0.mk (below_step (by repeat (first | (with_reducible first | exact HB.out | apply below_alloc | apply pw_below_drewN | apply below_drew1) | exact HB.out)) hb); have n1_ := Aside0.mk (hbox); have n2_ := Aside0.mk ((by rw [hg]; exact (below_size (by repeat (first | (with_reducible first | exact HB.out | apply below_alloc | apply pw_below_drewN | apply below_drew1) | exact HB.out))) : w.heap.size ≤ gb125)); have n3_ := Aside0.mk ((by rw [hg]; exact (below_size (by repeat (first | (with_reducible first | exact HB.out | apply below_alloc | apply pw_below_drewN | apply below_drew1) | exact HB.out))) : w.heap.size ≤ gb125)); clear HB; have HB := n0_; have BK125 := n1_; have GW125 := n2_; have GE125 := n3_; clear n0_ n1_ n2_ n3_; clear hb hbox hg) | ((with_reducible refine gate_dst (N := 5) rfl ?_); refine box_event ?hg (N := 5) ?hd (cs := #[.bool false, .slice none 0 0, .string (⟨#[]⟩ : ByteArray)]) (t := 32) ?hr ?_; (case hd => rfl); (case hg => rfl); (case hr => first | (go_simp; done) | (go_simp; rfl)); intro gb126 hg w7 hbox hb; have n0_ := Aside0.mk (blk_below (g := gb125) (o := .cells #[.bool false, .slice none 0 0, .string (⟨#[]⟩ : ByteArray)] 32 (0, 0)) (by (with_reducible repeat (first | refine blk_drewN ?_ _ | refine blk_drew ?_ | refine blk_alloc ?_ _)); exact BK125.out) hb); have n1_ := Aside0.mk (below_step (by repeat (first | (with_reducible first | exact HB.out | apply below_alloc | apply pw_below_drewN | apply below_drew1 | refine below_set ?_ GE125.out) | exact HB.out)) hb); have n2_ := Aside0.mk (hbox); have n3_ := Aside0.mk ((by rw [hg]; exact (below_size (by repeat (first | (with_reducible first | exact HB.out | apply below_alloc | apply pw_below_drewN | apply below_drew1 | refine below_set ?_ GE125.out) | exact HB.out))) : w.heap.size ≤ gb126)); have n4_ := Aside0.mk ((by rw [hg]; exact (below_size (by repeat (first | (with_reducible first | exact HB.out | apply below_alloc | apply pw_below_drewN | apply below_drew1 | refine below_set ?_ GE125.out) | exact HB.out))) : w.heap.size ≤ gb126)); have n5_ := Aside0.mk ((by rw [hg]; exact Nat.ne_of_lt (blk_lt (g := gb125) (o := .cells #[.bool false, .slice none 0 0, .string (⟨#[]⟩ : ByteArray)] 32 (0, 0)) (by (with_reducible repeat (first | refine blk_drewN ?_ _ | refine blk_drew ?_ | refine blk_alloc ?_ _)); exact BK125.out)) : gb125 ≠ gb126)); have n6_ := Aside0.mk ((by rw [hg]; exact Nat.ne_of_gt (blk_lt (g := gb125) (o := .cells #[.bool false, .slice none 0 0, .string (⟨#[]⟩ : ByteArray)] 32 (0, 0)) (by (with_reducible repeat (first | refine blk_drewN ?_ _ | refine blk_drew ?_ | refine blk_alloc ?_ _)); exact BK125.out)) : gb126 ≠ gb125)); clear BK125; clear HB; have BK125 := n0_; have HB := n1_; have BK126 := n2_; have GW126 := n3_; have GE126 := n4_; have NB125_126 := n5_; have NB126_125 := n6_; clear n0_ n1_ n2_ n3_ n4_ n5_ n6_; clear hb hbox hg))
  (try simp only [Act.put, List.setIfInBounds_toArray, List.set_cons_zero, List.set_cons_succ])
  go_cut [24] (fun v24 wc => ∃ (kq : Nat) (x24_4 : Bool), v24 = .bool x24_4 ∧ Aside0 (swarfref41_Parse.j0 kq a0 0 x24_4 false (⟨#[]⟩ : ByteArray) = some (r1, r2, r3, r4, r5)) ∧ Aside0 (kq ≤ k) ∧ Aside0 (wc.heap[gb125]? = some (.cells #[.bool false, (.slice none 0 0), .string (⟨#[]⟩ : ByteArray)] 32 (0, 0))) ∧ Aside0 (wc.heap[gb126]? = some (.cells #[.bool false, (.slice none 0 0), .string (⟨#[]⟩ : ByteArray)] 32 (0, 0))) ∧ Aside0 (Below w.heap.size w wc))
  case first =>
   have H := HC5.out
   clear HC5
   by_cases c8 : a0.toList = ([] : List UInt8)
   ·rw [if_pos c8] at H
    have c8b0 : (a0.toList == ([] : List UInt8)) = true := beq_iff_eq.mpr c8
    have c8b1 : (a0.toList != ([] : List UInt8)) = false := bne_eq_false_iff_eq.mpr c8
    clear c8
    (first | rw [c8b0] | (simp only [i64_w, i32_w]; rw [c8b0]) | skip)
    have H' := Aside0.mk H
    clear H
    go_wp2
    go_meet
    case rel => exact ⟨_, (false), (by first | rfl | (simp; done) | (simp [*]; done)), H', ⟨by first | omega | exact Nat.le_refl _⟩, ⟨by (with_reducible repeat (first | refine blk_drewN ?_ _ | refine blk_drew ?_ | refine blk_alloc ?_ _)); exact BK125.out⟩, ⟨by (with_reducible repeat (first | refine blk_drewN ?_ _ | refine blk_drew ?_ | refine blk_alloc ?_ _)); exact BK126.out⟩, ⟨by repeat (first | (with_reducible first | exact HB.out | apply below_alloc | apply pw_below_drewN | apply below_drew1 | refine below_set ?_ GE125.out | refine below_set ?_ GE126.out) | exact HB.out)⟩⟩
   ·rw [if_neg c8] at H
    have c8b0 : (a0.toList == ([] : List UInt8)) = false := beq_eq_false_iff_ne.mpr c8
    have c8b1 : (a0.toList != ([] : List UInt8)) = true := bne_iff_ne.mpr c8
    (first | rw [c8b0] | (simp only [i64_w, i32_w]; rw [c8b0]) | skip)
    by_cases c9 : 0 < (a0.size : Int)
    ·rw [if_pos c9] at H
     have c9b0 : decide (0 < (a0.size : Int)) = true := decide_eq_true c9
     have c9b1 : decide (0 < a0.size) = true := decide_eq_true (by omega)
     clear c9
     have H' := Aside0.mk H
     clear H
     have p10 : 0 ≤ (0 : Int) := (by omega)
     have q10 : 0 < a0.size := (by have : (0 : Int) < (a0.size : Int) := of_decide_eq_true (by first | (with_reducible assumption) | assumption); omega)
     have hx10 : ∀ h : 0 < a0.size, ((a0[0]'h).toNat : Int) = bt a0 0 := bt_at a0 0
     clear p10
     have qi10 : (0 < (a0.size : Int)) = True := eq_true (of_decide_eq_true (by first | (with_reducible assumption) | assumption))
     replace q10 := eq_true q10
     go_wp2
     go_meet
     case rel => exact ⟨_, (((bt a0 0) == 47)), (by first | rfl | (simp; done) | (simp [*]; done)), H', ⟨by first | omega | exact Nat.le_refl _⟩, ⟨by (with_reducible repeat (first | refine blk_drewN ?_ _ | refine blk_drew ?_ | refine blk_alloc ?_ _)); exact BK125.out⟩, ⟨by (with_reducible repeat (first | refine blk_drewN ?_ _ | refine blk_drew ?_ | refine blk_alloc ?_ _)); exact BK126.out⟩, ⟨by repeat (first | (with_reducible first | exact HB.out | apply below_alloc | apply pw_below_drewN | apply below_drew1 | refine below_set ?_ GE125.out | refine below_set ?_ GE126.out) | exact HB.out)⟩⟩
    ·rw [if_neg c9] at H
     exact absurd H (by simp)
  case rest =>
   clear HC5
   try clear p1
   try clear q1
   try clear hx1
   try clear qi1
   try clear c2
   try clear c2b0
   try clear c2b1
   try clear p2
   try clear c8
   try clear c8b0
   try clear c8b1
   try clear c9
   try clear c9b0
   try clear c9b1
   try clear p10
   try clear q10
   try clear hx10
   try clear qi10
   try clear hcz4_0
   try clear hcz4_1
   try clear hcz4_2
   try clear hfz4_0
   try clear hfz4_1
   try clear hfz4_2
   try clear p10
   try clear q10
   obtain ⟨kq, x24_4, rfl, HA, HJ4, BK125, BK126, HB⟩ := hcut
   cases kq with
   | zero => exact absurd HA.out (by simp [swarfref41_Parse.j0])
   | succ kj4 =>
    have H := HA.out
    clear HA
    simp only [swarfref41_Parse.j0] at H
    have HC11 := Aside0.mk H
    clear H
    go_upto_if 24 with (fail)
    go_cut [6] (fun v6 wc => ∃ (kq : Nat) (x6_10 : Int) (x127000_10 : Bool), v6 = .int .i64 x6_10 ∧ Aside0 (swarfref41_Parse.j1 kq a0 x6_10 x127000_10 (⟨#[]⟩ : ByteArray) = some (r1, r2, r3, r4, r5)) ∧ Aside0 (kq ≤ kj4) ∧ Aside0 (wc.heap[gb125]? = some (.cells #[.bool false, (.slice none 0 0), .string (⟨#[]⟩ : ByteArray)] 32 (0, 0))) ∧ Aside0 (wc.heap[gb126]? = some (.cells #[.bool x127000_10, (.slice none 0 0), .string (⟨#[]⟩ : ByteArray)] 32 (0, 0))) ∧ Aside0 (Below w.heap.size w wc))
    case first =>
     have H := HC11.out
     clear HC11
     by_cases c12 : x24_4 = true
     ·subst c12
      have H1 : (swarfref41_Parse.j1 kj4 a0 1 true (⟨#[]⟩ : ByteArray)) = some (r1, r2, r3, r4, r5) := by rw [if_pos rfl] at H; exact H
      clear H
      have H := H1
      clear H1
      have H' := Aside0.mk H
      clear H
      have hnb13 := NB126_125.out
      have hnc13 := NB125_126.out
      have hcz14_0 : wc.cell? ⟨gb126, 0, none⟩ = some (.bool false) := (blk_cell BK126.out 0).trans rfl
      have hcz14_1 : wc.cell? ⟨gb126, 1, none⟩ = some (.slice none 0 0) := (blk_cell BK126.out 1).trans rfl
      have hcz14_2 : wc.cell? ⟨gb126, 2, none⟩ = some (.string (⟨#[]⟩ : ByteArray)) := (blk_cell BK126.out 2).trans rfl
      have hfz14_0 := blk_frozen BK126.out 0
      have hfz14_1 := blk_frozen BK126.out 1
      have hfz14_2 := blk_frozen BK126.out 2
      go_wp2
      go_meet
      case rel => exact ⟨_, (1), (true), (by first | rfl | (simp; done) | (simp [*]; done)), H', ⟨by have := HJ4.out; first | omega | exact Nat.le_refl _⟩, ⟨by (with_reducible repeat (first | refine blk_drewN ?_ _ | refine blk_drew ?_ | refine blk_alloc ?_ _)); refine blk_far ?_ NB125_126.out _; (with_reducible repeat (first | refine blk_drewN ?_ _ | refine blk_drew ?_ | refine blk_alloc ?_ _)); exact BK125.out⟩, ⟨by (with_reducible repeat (first | refine blk_drewN ?_ _ | refine blk_drew ?_ | refine blk_alloc ?_ _)); refine blk_put (cs := #[.bool false, .slice none 0 0, .string (⟨#[]⟩ : ByteArray)]) ?_ 0 _ rfl; (with_reducible repeat (first | refine blk_drewN ?_ _ | refine blk_drew ?_ | refine blk_alloc ?_ _)); exact BK126.out⟩, ⟨by repeat (first | (with_reducible first | exact HB.out | apply below_alloc | apply pw_below_drewN | apply below_drew1 | refine below_set ?_ GE125.out | refine below_set ?_ GE126.out) | exact HB.out)⟩⟩
     ·replace c12 := Bool.eq_false_iff.mpr c12
      subst c12
      have H1 : (swarfref41_Parse.j1 kj4 a0 0 false (⟨#[]⟩ : ByteArray)) = some (r1, r2, r3, r4, r5) := by rw [if_neg (show ¬ (false = true) by decide)] at H; exact H
      clear H
      have H := H1
      clear H1
      have H' := Aside0.mk H
      clear H
      go_wp2
      go_meet
      case rel => exact ⟨_, (0), (false), (by first | rfl | (simp; done) | (simp [*]; done)), H', ⟨by have := HJ4.out; first | omega | exact Nat.le_refl _⟩, ⟨by (with_reducible repeat (first | refine blk_drewN ?_ _ | refine blk_drew ?_ | refine blk_alloc ?_ _)); exact BK125.out⟩, ⟨by (with_reducible repeat (first | refine blk_drewN ?_ _ | refine blk_drew ?_ | refine blk_alloc ?_ _)); exact BK126.out⟩, ⟨by repeat (first | (with_reducible first | exact HB.out | apply below_alloc | apply pw_below_drewN | apply below_drew1 | refine below_set ?_ GE125.out | refine below_set ?_ GE126.out) | exact HB.out)⟩⟩
    case rest =>
     clear HC11
     try clear c1
     try clear p1
     try clear q1
     try clear hx1
     try clear qi1
     try clear c2
     try clear c2b0
     try clear c2b1
     try clear p2
     try clear c8
     try clear c8b0
     try clear c8b1
     try clear c9
     try clear c9b0
     try clear c9b1
     try clear p10
     try clear q10
     try clear hx10
     try clear qi10
     try clear c12
     try clear c13
     try clear hcz14_0
     try clear hcz14_1
     try clear hcz14_2
     try clear hcz4_0
     try clear hcz4_1
     try clear hcz4_2
     try clear hfz14_0
     try clear hfz14_1
     try clear hfz14_2
     try clear hfz4_0
     try clear hfz4_1
     try clear hfz4_2
     try clear p1
     try clear p10
     try clear p2
     try clear q1
     try clear q10
     obtain ⟨kq, x6_10, x127000_10, rfl, HA, HJ10, BK125, BK126, HB⟩ := hcut
     cases kq with
     | zero => exact absurd HA.out (by simp [swarfref41_Parse.j1])
     | succ kj10 =>
      have H := HA.out
      clear HA
      simp only [swarfref41_Parse.j1] at H
      have H' := Aside0.mk H
      clear H
      go_wp2
      go_loopg [6, 7] kj10 (fun kq v6 v7 w' => ∃ (x6_3 : Int) (x7_3 : Bool) (x126000_3 : Bool) (x126002_3 : ByteArray) (x127001_3 : List (S78)) (x127002_3 : ByteArray) (u127001 : Value), v6 = .int .i64 x6_3 ∧ v7 = .bool x7_3 ∧ Aside0 (swarfref41_Parse.l0 kq a0 x6_3 x7_3 x127000_10 x127001_3 x127002_3 = some (r1, r2, r3, r4, r5)) ∧ Aside0 (kq ≤ kj10) ∧ Aside0 (Kd.R k78 78 w' w.heap.size (fun _ => True) u127001 x127001_3) ∧ Aside0 (w'.heap[gb125]? = some (.cells #[.bool x126000_3, (.slice none 0 0), .string x126002_3] 32 (0, 0))) ∧ Aside0 (w'.heap[gb126]? = some (.cells #[.bool x127000_10, u127001, .string x127002_3] 32 (0, 0))) ∧ Aside0 (Below w.heap.size w w'))
      case atStart => exact ⟨(x6_10), (true), (false), ((⟨#[]⟩ : ByteArray)), (([] : List (S78))), ((⟨#[]⟩ : ByteArray)), (.slice none 0 0), (by first | rfl | (simp; done) | (simp [*]; done)), (by first | rfl | (simp; done) | (simp [*]; done)), H', ⟨Nat.le_refl _⟩, ⟨by first | exact Kd.R_nil _ _ _ _ _ | exact Kd.N_nil _ _ _ _ _ | exact Kd.V_nil _ _ _ _ _ | exact Kd.Q_nil _ _ _ _ _ | exact Kd.S_nil _ _ _ _ _⟩, ⟨by (with_reducible repeat (first | refine blk_drewN ?_ _ | refine blk_drew ?_ | refine blk_alloc ?_ _)); exact BK125.out⟩, ⟨by (with_reducible repeat (first | refine blk_drewN ?_ _ | refine blk_drew ?_ | refine blk_alloc ?_ _)); exact BK126.out⟩, ⟨by repeat (first | (with_reducible first | exact HB.out | apply below_alloc | apply pw_below_drewN | apply below_drew1 | refine below_set ?_ GE125.out | refine below_set ?_ GE126.out) | exact HB.out)⟩⟩
      case round =>
       clear H'
       try clear c1
       try clear p1
       try clear q1
       try clear hx1
       try clear qi1
       try clear c2
       try clear c2b0
       try clear c2b1
       try clear p2
       try clear c8
       try clear c8b0
       try clear c8b1
       try clear c9
       try clear c9b0
       try clear c9b1
       try clear p10
       try clear q10
       try clear hx10
       try clear qi10
       try clear c12
       try clear c13
       try clear hcz14_0
       try clear hcz14_1
       try clear hcz14_2
       try clear hcz4_0
       try clear hcz4_1
       try clear hcz4_2
       try clear hfz14_0
       try clear hfz14_1
       try clear hfz14_2
       try clear hfz4_0
       try clear hfz4_1
       try clear hfz4_2
       try clear p1
       try clear p10
       try clear p2
       try clear q1
       try clear q10
       obtain ⟨x6_3, x7_3, x126000_3, x126002_3, x127001_3, x127002_3, u127001, rfl, rfl, HA, HK3, HO_127001, BK125, BK126, HB⟩ := hrel
       cases gk with
       | zero => exact absurd HA.out (by simp [swarfref41_Parse.l0])
       | succ k3 =>
        have H := HA.out
        clear HA
        simp only [swarfref41_Parse.l0] at H
        have HC15 := Aside0.mk H
        clear H
        go_upto_region 8 with (fail)
        go_cut [33] (fun v33 wc => ∃ (kq : Nat) (x33_14 : Bool), v33 = .bool x33_14 ∧ Aside0 (swarfref41_Parse.j3 kq a0 x6_3 x33_14 x127000_10 x127001_3 x127002_3 = some (r1, r2, r3, r4, r5)) ∧ Aside0 (kq ≤ k3) ∧ Aside0 (Kd.R k78 78 wc w.heap.size (fun _ => True) u127001 x127001_3) ∧ Aside0 (wc.heap[gb125]? = some (.cells #[.bool x126000_3, (.slice none 0 0), .string x126002_3] 32 (0, 0))) ∧ Aside0 (wc.heap[gb126]? = some (.cells #[.bool x127000_10, u127001, .string x127002_3] 32 (0, 0))) ∧ Aside0 (Below w.heap.size w wc))
        case first =>
         have H := HC15.out
         clear HC15
         by_cases c16 : x6_3 < (a0.size : Int)
         ·rw [if_pos c16] at H
          have c16b0 : decide (x6_3 < (a0.size : Int)) = true := decide_eq_true c16
          clear c16
          (first | rw [c16b0] | (simp only [i64_w, i32_w]; rw [c16b0]) | skip)
          have H' := Aside0.mk H
          clear H
          go_wp2
          go_meet
          case rel => exact ⟨_, (true), (by first | rfl | (simp; done) | (simp [*]; done)), H', ⟨by have := HJ4.out; have := HJ10.out; have := HK3.out; first | omega | exact Nat.le_refl _⟩, ⟨by (with_reducible repeat (first | apply Kd.R_alloc | apply Kd.R_drewN | apply Kd.R_drew)); exact HO_127001.out⟩, ⟨by (with_reducible repeat (first | refine blk_drewN ?_ _ | refine blk_drew ?_ | refine blk_alloc ?_ _)); exact BK125.out⟩, ⟨by (with_reducible repeat (first | refine blk_drewN ?_ _ | refine blk_drew ?_ | refine blk_alloc ?_ _)); exact BK126.out⟩, ⟨by repeat (first | (with_reducible first | exact HB.out | apply below_alloc | apply pw_below_drewN | apply below_drew1 | refine below_set ?_ GE125.out | refine below_set ?_ GE126.out) | exact HB.out)⟩⟩
         ·rw [if_neg c16] at H
          have c16b0 : decide (x6_3 < (a0.size : Int)) = false := decide_eq_false c16
          clear c16
          (first | rw [c16b0] | (simp only [i64_w, i32_w]; rw [c16b0]) | skip)
          have H' := Aside0.mk H
          clear H
          go_wp2
          go_meet
          case rel => exact ⟨_, (!x7_3), (by first | rfl | (simp; done) | (simp [*]; done)), H', ⟨by have := HJ4.out; have := HJ10.out; have := HK3.out; first | omega | exact Nat.le_refl _⟩, ⟨by (with_reducible repeat (first | apply Kd.R_alloc | apply Kd.R_drewN | apply Kd.R_drew)); exact HO_127001.out⟩, ⟨by (with_reducible repeat (first | refine blk_drewN ?_ _ | refine blk_drew ?_ | refine blk_alloc ?_ _)); exact BK125.out⟩, ⟨by (with_reducible repeat (first | refine blk_drewN ?_ _ | refine blk_drew ?_ | refine blk_alloc ?_ _)); exact BK126.out⟩, ⟨by repeat (first | (with_reducible first | exact HB.out | apply below_alloc | apply pw_below_drewN | apply below_drew1 | refine below_set ?_ GE125.out | refine below_set ?_ GE126.out) | exact HB.out)⟩⟩
        case rest =>
         clear HC15
         try clear c1
         try clear p1
         try clear q1
         try clear hx1
         try clear qi1
         try clear c2
         try clear c2b0
         try clear c2b1
         try clear p2
         try clear c8
         try clear c8b0
         try clear c8b1
         try clear c9
         try clear c9b0
         try clear c9b1
         try clear p10
         try clear q10
         try clear hx10
         try clear qi10
         try clear c12
         try clear c13
         try clear c16
         try clear c16b0
         try clear hcz14_0
         try clear hcz14_1
         try clear hcz14_2
         try clear hcz4_0
         try clear hcz4_1
         try clear hcz4_2
         try clear hfz14_0
         try clear hfz14_1
         try clear hfz14_2
         try clear hfz4_0
         try clear hfz4_1
         try clear hfz4_2
         try clear p1
         try clear p10
         try clear p2
         try clear q1
         try clear q10
         obtain ⟨kq, x33_14, rfl, HA, HJ14, HO_127001, BK125, BK126, HB⟩ := hcut
         cases kq with
         | zero => exact absurd HA.out (by simp [swarfref41_Parse.j3])
         | succ kj14 =>
          have H := HA.out
          clear HA
          simp only [swarfref41_Parse.j3] at H
          by_cases c17 : x33_14 = true
          ·subst c17
           have H1 : (if x6_3 = (a0.size : Int) then (some (false, ([] : List (S78)), (⟨#[]⟩ : ByteArray), x6_3, 2)) else (if 0 ≤ x6_3 then (if x6_3 < (a0.size : Int) then (if (bt a0 x6_3) = 40 then ((swarfref41_comment.f kj14 a0 x6_3).bind fun bt127 => (if bt127.2.2 = 0 then (some (x127000_10, x127001_3, bt127.1, 0, 0)) else (some (false, ([] : List (S78)), (⟨#[]⟩ : ByteArray), bt127.2.1, bt127.2.2)))) else (if (bt a0 x6_3) < 65 then (swarfref41_Parse.j4 kj14 a0 x6_3 true x127000_10 x127001_3 x127002_3) else (swarfref41_Parse.j4 kj14 a0 x6_3 (decide ((bt a0 x6_3) > 90)) x127000_10 x127001_3 x127002_3))) else (none)) else (none))) = some (r1, r2, r3, r4, r5) := by rw [if_pos rfl] at H; exact H
           clear H
           have H := H1
           clear H1
           by_cases c18 : x6_3 = (a0.size : Int)
           ·rw [if_pos c18] at H
            have c18b0 : (x6_3 == (a0.size : Int)) = true := beq_iff_eq.mpr c18
            have c18b1 : (x6_3 != (a0.size : Int)) = false := bne_eq_false_iff_eq.mpr c18
            clear c18
            simp only [Option.some.injEq, Prod.mk.injEq] at H
            obtain ⟨rfl, rfl, rfl, rfl, rfl⟩ := H
            have hnb19 := NB125_126.out
            have hnc19 := NB126_125.out
            have hcz20_0 : wc.cell? ⟨gb125, 0, none⟩ = some (.bool x126000_3) := (blk_cell BK125.out 0).trans rfl
            have hcz20_1 : wc.cell? ⟨gb125, 1, none⟩ = some (.slice none 0 0) := (blk_cell BK125.out 1).trans rfl
            have hcz20_2 : wc.cell? ⟨gb125, 2, none⟩ = some (.string x126002_3) := (blk_cell BK125.out 2).trans rfl
            have hfz20_0 := blk_frozen BK125.out 0
            have hfz20_1 := blk_frozen BK125.out 1
            have hfz20_2 := blk_frozen BK125.out 2
            go_wp2
            refine bodyPost_ret (results_ctt rfl _ _ gb125 32 #[.bool false, .slice none 0 0, .string (⟨#[]⟩ : ByteArray)] (0, 0) _ rfl (by (with_reducible repeat (first | refine blk_drewN ?_ _ | refine blk_drew ?_ | refine blk_alloc ?_ _)); refine blk_put (cs := #[.bool false, .slice none 0 0, .string x126002_3]) ?_ 2 _ rfl; (with_reducible repeat (first | refine blk_drewN ?_ _ | refine blk_drew ?_ | refine blk_alloc ?_ _)); refine blk_put (cs := #[.bool false, .slice none 0 0, .string x126002_3]) ?_ 1 _ rfl; (with_reducible repeat (first | refine blk_drewN ?_ _ | refine blk_drew ?_ | refine blk_alloc ?_ _)); refine blk_put (cs := #[.bool x126000_3, .slice none 0 0, .string x126002_3]) ?_ 0 _ rfl; (with_reducible repeat (first | refine blk_drewN ?_ _ | refine blk_drew ?_ | refine blk_alloc ?_ _)); exact BK125.out) Try.underlying32 rfl (by kernel_rfl)) rfl ?_
            exact ⟨_, by first | rfl | (simp [errW_none, errW_some] <;> rfl) | (simp [*, errW_none, errW_some] <;> rfl), by first | exact Kd.R_nil _ _ _ _ _ | exact Kd.N_nil _ _ _ _ _ | exact Kd.V_nil _ _ _ _ _ | exact Kd.Q_nil _ _ _ _ _ | exact Kd.S_nil _ _ _ _ _, by repeat (first | (with_reducible first | exact HB.out | apply below_alloc | apply pw_below_drewN | apply below_drew1 | refine below_set ?_ GE125.out | refine below_set ?_ GE126.out) | exact HB.out)⟩
           ·rw [if_neg c18] at H
            have c18b0 : (x6_3 == (a0.size : Int)) = false := beq_eq_false_iff_ne.mpr c18
            have c18b1 : (x6_3 != (a0.size : Int)) = true := bne_iff_ne.mpr c18
            by_cases c21 : 0 ≤ x6_3
            ·rw [if_pos c21] at H
             have c21b0 : decide (0 ≤ x6_3) = true := decide_eq_true c21
             clear c21
             by_cases c22 : x6_3 < (a0.size : Int)
             ·rw [if_pos c22] at H
              have c22b0 : decide (x6_3 < (a0.size : Int)) = true := decide_eq_true c22
              clear c22
              by_cases c24 : (bt a0 x6_3) = 40
              ·rw [if_pos c24] at H
               have c24b0 : ((bt a0 x6_3) == 40) = true := beq_iff_eq.mpr c24
               have c24b1 : ((bt a0 x6_3) != 40) = false := bne_eq_false_iff_eq.mpr c24
               clear c24
               replace H := Option.bind_eq_some_iff.mp H
               obtain ⟨⟨t127, t128, t129⟩, A250, H⟩ := H
               replace H : (if t129 = 0 then (some (x127000_10, x127001_3, t127, 0, 0)) else (some (false, ([] : List (S78)), (⟨#[]⟩ : ByteArray), t128, t129))) = some (r1, r2, r3, r4, r5) := H
               have A25 := Aside0.mk A250
               clear A250
               by_cases c26 : t129 = 0
               ·rw [if_pos c26] at H
                have c26b0 : (t129 == 0) = true := beq_iff_eq.mpr c26
                have c26b1 : (t129 != 0) = false := bne_eq_false_iff_eq.mpr c26
                clear c26
                simp only [Option.some.injEq, Prod.mk.injEq] at H
                obtain ⟨rfl, rfl, rfl, rfl, rfl⟩ := H
                have p23 : 0 ≤ (x6_3 : Int) := of_decide_eq_true (by first | (with_reducible assumption) | assumption)
                have q23 : x6_3 < (a0.size : Int) := of_decide_eq_true (by first | (with_reducible assumption) | assumption)
                have hx23 := bt_at a0 x6_3
                replace p23 := eq_true p23
                replace q23 := eq_true q23
                go_wp2_with (first | ((with_reducible refine gate_callee (f := 105) rfl ?_); refine goesL_ (some 47) rfl rfl Try.func105 (by kernel_rfl) rfl #[.string a0, .int .i64 x6_3] rfl (by (try simp only [List.map_toArray, List.map_cons, List.map_nil]); first | done | rfl | (simp only [List.length_drop, List.length_take]; rfl)) ?_; (with_reducible refine (swarfref41_comment.calls kj14 a0 x6_3 t127 t128 t129 _ A25.out).mono ?_); rintro e w' ⟨rfl, ⟨nd, rfl⟩⟩; refine ⟨_, rfl, ?_⟩; (try (rw [drewN_self wc]; generalize hq_ : World.drewN wc _ = wc; have n0_ : Aside0 (Kd.R k78 78 wc w.heap.size (fun _ => True) u127001 x127001_3) := ⟨by rw [← hq_]; exact (by (with_reducible repeat (first | apply Kd.R_alloc | apply Kd.R_drewN | apply Kd.R_drew)); exact HO_127001.out)⟩; have n1_ : Aside0 (wc.heap[gb125]? = some (.cells #[.bool x126000_3, .slice none 0 0, .string x126002_3] 32 (0, 0))) := ⟨by rw [← hq_]; exact (by (with_reducible repeat (first | refine blk_drewN ?_ _ | refine blk_drew ?_ | refine blk_alloc ?_ _)); exact BK125.out)⟩; have n2_ : Aside0 (wc.heap[gb126]? = some (.cells #[.bool x127000_10, u127001, .string x127002_3] 32 (0, 0))) := ⟨by rw [← hq_]; exact (by (with_reducible repeat (first | refine blk_drewN ?_ _ | refine blk_drew ?_ | refine blk_alloc ?_ _)); exact BK126.out)⟩; have n3_ : Aside0 (Below w.heap.size w wc) := ⟨by rw [← hq_]; exact (by repeat (first | (with_reducible first | exact HB.out | apply below_alloc | apply pw_below_drewN | apply below_drew1 | refine below_set ?_ GE125.out | refine below_set ?_ GE126.out) | exact HB.out))⟩; clear HO_127001 BK125 BK126 HB hq_; have HO_127001 := n0_; have BK125 := n1_; have BK126 := n2_; have HB := n3_; clear n0_ n1_ n2_ n3_)); have hnb27 := NB126_125.out; have hnc27 := NB125_126.out; have hcz28_0 : wc.cell? ⟨gb126, 0, none⟩ = some (.bool x127000_10) := (blk_cell BK126.out 0).trans rfl; have hcz28_1 : wc.cell? ⟨gb126, 1, none⟩ = some (u127001) := (blk_cell BK126.out 1).trans rfl; have hcz28_2 : wc.cell? ⟨gb126, 2, none⟩ = some (.string x127002_3) := (blk_cell BK126.out 2).trans rfl; have hfz28_0 := blk_frozen BK126.out 0; have hfz28_1 := blk_frozen BK126.out 1; have hfz28_2 := blk_frozen BK126.out 2; have hcz29_0 : wc.cell? ⟨gb125, 0, none⟩ = some (.bool x126000_3) := (blk_cell BK125.out 0).trans rfl; have hcz29_1 : wc.cell? ⟨gb125, 1, none⟩ = some (.slice none 0 0) := (blk_cell BK125.out 1).trans rfl; have hcz29_2 : wc.cell? ⟨gb125, 2, none⟩ = some (.string x126002_3) := (blk_cell BK125.out 2).trans rfl; have hfz29_0 := blk_frozen BK125.out 0; have hfz29_1 := blk_frozen BK125.out 1; have hfz29_2 := blk_frozen BK125.out 2; obtain ⟨Ao30, co30, eo30⟩ := Kd.R_slice HO_127001.out; subst eo30))
                refine bodyPost_ret (results_ctt rfl _ _ gb125 32 #[.bool x127000_10, .slice Ao30 x127001_3.length co30, .string t127] (0, 0) _ rfl (by (with_reducible repeat (first | refine blk_drewN ?_ _ | refine blk_drew ?_ | refine blk_alloc ?_ _)); refine blk_put (cs := #[.bool x127000_10, .slice Ao30 x127001_3.length co30, .string x126002_3]) ?_ 2 _ rfl; (with_reducible repeat (first | refine blk_drewN ?_ _ | refine blk_drew ?_ | refine blk_alloc ?_ _)); refine blk_put (cs := #[.bool x127000_10, .slice none 0 0, .string x126002_3]) ?_ 1 _ rfl; (with_reducible repeat (first | refine blk_drewN ?_ _ | refine blk_drew ?_ | refine blk_alloc ?_ _)); refine blk_put (cs := #[.bool x126000_3, .slice none 0 0, .string x126002_3]) ?_ 0 _ rfl; (with_reducible repeat (first | refine blk_drewN ?_ _ | refine blk_drew ?_ | refine blk_alloc ?_ _)); refine blk_far ?_ NB125_126.out _; (with_reducible repeat (first | refine blk_drewN ?_ _ | refine blk_drew ?_ | refine blk_alloc ?_ _)); exact BK125.out) Try.underlying32 rfl (by kernel_rfl)) rfl ?_
                exact ⟨_, by first | rfl | (simp [errW_none, errW_some] <;> rfl) | (simp [*, errW_none, errW_some] <;> rfl), by (with_reducible repeat (first | apply Kd.R_alloc | apply Kd.R_drewN | apply Kd.R_drew)); exact Kd.R_mono (Kd.R_far (p := ⟨gb125, 2, none⟩) (Kd.R_far (p := ⟨gb125, 1, none⟩) (Kd.R_far (p := ⟨gb125, 0, none⟩) (Kd.R_far (p := ⟨gb126, 2, none⟩) (Kd.R_types (Kd.R_types HO_127001.out BK126.out (by decide)) BK125.out (by decide)) (fun _ hk => hk.1.2) (.string t127)) (fun _ hk => hk.2) (.bool x127000_10)) (fun _ hk => hk.2) (.slice Ao30 x127001_3.length co30)) (fun _ hk => hk.2) (.string t127)) (fun _ hk => trivial), by repeat (first | (with_reducible first | exact HB.out | apply below_alloc | apply pw_below_drewN | apply below_drew1 | refine below_set ?_ GE125.out | refine below_set ?_ GE126.out) | exact HB.out)⟩
               ·rw [if_neg c26] at H
                have c26b0 : (t129 == 0) = false := beq_eq_false_iff_ne.mpr c26
                have c26b1 : (t129 != 0) = true := bne_iff_ne.mpr c26
                simp only [Option.some.injEq, Prod.mk.injEq] at H
                obtain ⟨rfl, rfl, rfl, rfl, rfl⟩ := H
                have p23 : 0 ≤ (x6_3 : Int) := of_decide_eq_true (by first | (with_reducible assumption) | assumption)
                have q23 : x6_3 < (a0.size : Int) := of_decide_eq_true (by first | (with_reducible assumption) | assumption)
                have hx23 := bt_at a0 x6_3
                replace p23 := eq_true p23
                replace q23 := eq_true q23
                go_wp2_with (first | ((with_reducible refine gate_callee (f := 105) rfl ?_); refine goesL_ (some 47) rfl rfl Try.func105 (by kernel_rfl) rfl #[.string a0, .int .i64 x6_3] rfl (by (try simp only [List.map_toArray, List.map_cons, List.map_nil]); first | done | rfl | (simp only [List.length_drop, List.length_take]; rfl)) ?_; (with_reducible refine (swarfref41_comment.calls kj14 a0 x6_3 t127 t128 t129 _ A25.out).mono ?_); rintro e w' ⟨rfl, ⟨nd, rfl⟩⟩; refine ⟨_, rfl, ?_⟩; (try (rw [drewN_self wc]; generalize hq_ : World.drewN wc _ = wc; have n0_ : Aside0 (Kd.R k78 78 wc w.heap.size (fun _ => True) u127001 x127001_3) := ⟨by rw [← hq_]; exact (by (with_reducible repeat (first | apply Kd.R_alloc | apply Kd.R_drewN | apply Kd.R_drew)); exact HO_127001.out)⟩; have n1_ : Aside0 (wc.heap[gb125]? = some (.cells #[.bool x126000_3, .slice none 0 0, .string x126002_3] 32 (0, 0))) := ⟨by rw [← hq_]; exact (by (with_reducible repeat (first | refine blk_drewN ?_ _ | refine blk_drew ?_ | refine blk_alloc ?_ _)); exact BK125.out)⟩; have n2_ : Aside0 (wc.heap[gb126]? = some (.cells #[.bool x127000_10, u127001, .string x127002_3] 32 (0, 0))) := ⟨by rw [← hq_]; exact (by (with_reducible repeat (first | refine blk_drewN ?_ _ | refine blk_drew ?_ | refine blk_alloc ?_ _)); exact BK126.out)⟩; have n3_ : Aside0 (Below w.heap.size w wc) := ⟨by rw [← hq_]; exact (by repeat (first | (with_reducible first | exact HB.out | apply below_alloc | apply pw_below_drewN | apply below_drew1 | refine below_set ?_ GE125.out | refine below_set ?_ GE126.out) | exact HB.out))⟩; clear HO_127001 BK125 BK126 HB hq_; have HO_127001 := n0_; have BK125 := n1_; have BK126 := n2_; have HB := n3_; clear n0_ n1_ n2_ n3_)); have hnb31 := NB125_126.out; have hnc31 := NB126_125.out; have hcz32_0 : wc.cell? ⟨gb125, 0, none⟩ = some (.bool x126000_3) := (blk_cell BK125.out 0).trans rfl; have hcz32_1 : wc.cell? ⟨gb125, 1, none⟩ = some (.slice none 0 0) := (blk_cell BK125.out 1).trans rfl; have hcz32_2 : wc.cell? ⟨gb125, 2, none⟩ = some (.string x126002_3) := (blk_cell BK125.out 2).trans rfl; have hfz32_0 := blk_frozen BK125.out 0; have hfz32_1 := blk_frozen BK125.out 1; have hfz32_2 := blk_frozen BK125.out 2))
                refine bodyPost_ret (results_ctt rfl _ _ gb125 32 #[.bool false, .slice none 0 0, .string (⟨#[]⟩ : ByteArray)] (0, 0) _ rfl (by (with_reducible repeat (first | refine blk_drewN ?_ _ | refine blk_drew ?_ | refine blk_alloc ?_ _)); refine blk_put (cs := #[.bool false, .slice none 0 0, .string x126002_3]) ?_ 2 _ rfl; (with_reducible repeat (first | refine blk_drewN ?_ _ | refine blk_drew ?_ | refine blk_alloc ?_ _)); refine blk_put (cs := #[.bool false, .slice none 0 0, .string x126002_3]) ?_ 1 _ rfl; (with_reducible repeat (first | refine blk_drewN ?_ _ | refine blk_drew ?_ | refine blk_alloc ?_ _)); refine blk_put (cs := #[.bool x126000_3, .slice none 0 0, .string x126002_3]) ?_ 0 _ rfl; (with_reducible repeat (first | refine blk_drewN ?_ _ | refine blk_drew ?_ | refine blk_alloc ?_ _)); exact BK125.out) Try.underlying32 rfl (by kernel_rfl)) rfl ?_
                exact ⟨_, by first | rfl | (simp [errW_none, errW_some] <;> rfl) | (simp [*, errW_none, errW_some] <;> rfl), by first | exact Kd.R_nil _ _ _ _ _ | exact Kd.N_nil _ _ _ _ _ | exact Kd.V_nil _ _ _ _ _ | exact Kd.Q_nil _ _ _ _ _ | exact Kd.S_nil _ _ _ _ _, by repeat (first | (with_reducible first | exact HB.out | apply below_alloc | apply pw_below_drewN | apply below_drew1 | refine below_set ?_ GE125.out | refine below_set ?_ GE126.out) | exact HB.out)⟩
              ·rw [if_neg c24] at H
               have c24b0 : ((bt a0 x6_3) == 40) = false := beq_eq_false_iff_ne.mpr c24
               have c24b1 : ((bt a0 x6_3) != 40) = true := bne_iff_ne.mpr c24
               have HC33 := Aside0.mk H
               clear H
               have p23 : 0 ≤ (x6_3 : Int) := of_decide_eq_true (by first | (with_reducible assumption) | assumption)
               have q23 : x6_3 < (a0.size : Int) := of_decide_eq_true (by first | (with_reducible assumption) | assumption)
               have hx23 := bt_at a0 x6_3
               replace p23 := eq_true p23
               replace q23 := eq_true q23
               go_upto_region 18 with (fail)
               go_cut [68] (fun v68 wc => ∃ (kq : Nat) (x68_32 : Bool), v68 = .bool x68_32 ∧ Aside0 (swarfref41_Parse.j4 kq a0 x6_3 x68_32 x127000_10 x127001_3 x127002_3 = some (r1, r2, r3, r4, r5)) ∧ Aside0 (kq ≤ kj14) ∧ Aside0 (Kd.R k78 78 wc w.heap.size (fun _ => True) u127001 x127001_3) ∧ Aside0 (wc.heap[gb125]? = some (.cells #[.bool x126000_3, (.slice none 0 0), .string x126002_3] 32 (0, 0))) ∧ Aside0 (wc.heap[gb126]? = some (.cells #[.bool x127000_10, u127001, .string x127002_3] 32 (0, 0))) ∧ Aside0 (Below w.heap.size w wc))
               case first =>
                have H := HC33.out
                clear HC33
                by_cases c35 : (bt a0 x6_3) < 65
                ·rw [if_pos c35] at H
                 have c35b0 : decide ((bt a0 x6_3) < 65) = true := decide_eq_true c35
                 clear c35
                 (first | rw [c35b0] | (simp only [i64_w, i32_w]; rw [c35b0]) | skip)
                 have H' := Aside0.mk H
                 clear H
                 have p34 : 0 ≤ (x6_3 : Int) := of_decide_eq_true (by first | (with_reducible assumption) | assumption)
                 have q34 : x6_3 < (a0.size : Int) := of_decide_eq_true (by first | (with_reducible assumption) | assumption)
                 have hx34 := bt_at a0 x6_3
                 replace p34 := eq_true p34
                 replace q34 := eq_true q34
                 go_wp2
                 go_meet
                 case rel => exact ⟨_, (true), (by first | rfl | (simp; done) | (simp [*]; done)), H', ⟨by have := HJ4.out; have := HJ10.out; have := HK3.out; have := HJ14.out; first | omega | exact Nat.le_refl _⟩, ⟨by (with_reducible repeat (first | apply Kd.R_alloc | apply Kd.R_drewN | apply Kd.R_drew)); exact HO_127001.out⟩, ⟨by (with_reducible repeat (first | refine blk_drewN ?_ _ | refine blk_drew ?_ | refine blk_alloc ?_ _)); exact BK125.out⟩, ⟨by (with_reducible repeat (first | refine blk_drewN ?_ _ | refine blk_drew ?_ | refine blk_alloc ?_ _)); exact BK126.out⟩, ⟨by repeat (first | (with_reducible first | exact HB.out | apply below_alloc | apply pw_below_drewN | apply below_drew1 | refine below_set ?_ GE125.out | refine below_set ?_ GE126.out) | exact HB.out)⟩⟩
                ·rw [if_neg c35] at H
                 have c35b0 : decide ((bt a0 x6_3) < 65) = false := decide_eq_false c35
                 clear c35
                 (first | rw [c35b0] | (simp only [i64_w, i32_w]; rw [c35b0]) | skip)
                 have H' := Aside0.mk H
                 clear H
                 have p34 : 0 ≤ (x6_3 : Int) := of_decide_eq_true (by first | (with_reducible assumption) | assumption)
                 have q34 : x6_3 < (a0.size : Int) := of_decide_eq_true (by first | (with_reducible assumption) | assumption)
                 have hx34 := bt_at a0 x6_3
                 replace p34 := eq_true p34
                 replace q34 := eq_true q34
                 have p36 : 0 ≤ (x6_3 : Int) := of_decide_eq_true (by first | (with_reducible assumption) | assumption)
                 have q36 : x6_3 < (a0.size : Int) := of_decide_eq_true (by first | (with_reducible assumption) | assumption)
                 have hx36 := bt_at a0 x6_3
                 replace p36 := eq_true p36
                 replace q36 := eq_true q36
                 go_wp2
                 go_meet
                 case rel => exact ⟨_, (decide ((bt a0 x6_3) > 90)), (by first | rfl | (simp; done) | (simp [*]; done)), H', ⟨by have := HJ4.out; have := HJ10.out; have := HK3.out; have := HJ14.out; first | omega | exact Nat.le_refl _⟩, ⟨by (with_reducible repeat (first | apply Kd.R_alloc | apply Kd.R_drewN | apply Kd.R_drew)); exact HO_127001.out⟩, ⟨by (with_reducible repeat (first | refine blk_drewN ?_ _ | refine blk_drew ?_ | refine blk_alloc ?_ _)); exact BK125.out⟩, ⟨by (with_reducible repeat (first | refine blk_drewN ?_ _ | refine blk_drew ?_ | refine blk_alloc ?_ _)); exact BK126.out⟩, ⟨by repeat (first | (with_reducible first | exact HB.out | apply below_alloc | apply pw_below_drewN | apply below_drew1 | refine below_set ?_ GE125.out | refine below_set ?_ GE126.out) | exact HB.out)⟩⟩
               case rest =>
                clear HC33
                try clear c1
                try clear p1
                try clear q1
                try clear hx1
                try clear qi1
                try clear c2
                try clear c2b0
                try clear c2b1
                try clear p2
                try clear q2
                try clear hx2
                try clear c3
                try clear p3
                try clear q3
                try clear hx3
                try clear c8
                try clear c8b0
                try clear c8b1
                try clear c9
                try clear c9b0
                try clear c9b1
                try clear c10
                try clear p10
                try clear q10
                try clear hx10
                try clear qi10
                try clear c12
                try clear c13
                try clear c16
                try clear c16b0
                try clear c17
                try clear c18
                try clear c18b0
                try clear c18b1
                try clear c19
                try clear c21
                try clear c21b0
                try clear c22
                try clear c22b0
                try clear p23
                try clear q23
                try clear hx23
                try clear c24
                try clear c24b0
                try clear c24b1
                try clear c26
                try clear c26b0
                try clear c26b1
                try clear c27
                try clear c31
                try clear p34
                try clear q34
                try clear hx34
                try clear c35
                try clear c35b0
                try clear p36
                try clear q36
                try clear hx36
                try clear hcz14_0
                try clear hcz14_1
                try clear hcz14_2
                try clear hcz20_0
                try clear hcz20_1
                try clear hcz20_2
                try clear hcz28_0
                try clear hcz28_1
                try clear hcz28_2
                try clear hcz29_0
                try clear hcz29_1
                try clear hcz29_2
                try clear hcz32_0
                try clear hcz32_1
                try clear hcz32_2
                try clear hcz4_0
                try clear hcz4_1
                try clear hcz4_2
                try clear hfz14_0
                try clear hfz14_1
                try clear hfz14_2
                try clear hfz20_0
                try clear hfz20_1
                try clear hfz20_2
                try clear hfz28_0
                try clear hfz28_1
                try clear hfz28_2
                try clear hfz29_0
                try clear hfz29_1
                try clear hfz29_2
                try clear hfz32_0
                try clear hfz32_1
                try clear hfz32_2
                try clear hfz4_0
                try clear hfz4_1
                try clear hfz4_2
                try clear p1
                try clear p10
                try clear p2
                try clear p23
                try clear p34
                try clear p36
                try clear q1
                try clear q10
                try clear q23
                try clear q34
                try clear q36
                obtain ⟨kq, x68_32, rfl, HA, HJ32, HO_127001, BK125, BK126, HB⟩ := hcut
                cases kq with
                | zero => exact absurd HA.out (by simp [swarfref41_Parse.j4])
                | succ kj32 =>
                 have H := HA.out
                 clear HA
                 simp only [swarfref41_Parse.j4] at H
                 by_cases c37 : x68_32 = true
                 ·subst c37
                  have H1 : (some (false, ([] : List (S78)), (⟨#[]⟩ : ByteArray), x6_3, 2)) = some (r1, r2, r3, r4, r5) := by rw [if_pos rfl] at H; exact H
                  clear H
                  have H := H1
                  clear H1
                  simp only [Option.some.injEq, Prod.mk.injEq] at H
                  obtain ⟨rfl, rfl, rfl, rfl, rfl⟩ := H
                  have hnb38 := NB125_126.out
                  have hnc38 := NB126_125.out
                  have hcz39_0 : wc.cell? ⟨gb125, 0, none⟩ = some (.bool x126000_3) := (blk_cell BK125.out 0).trans rfl
                  have hcz39_1 : wc.cell? ⟨gb125, 1, none⟩ = some (.slice none 0 0) := (blk_cell BK125.out 1).trans rfl
                  have hcz39_2 : wc.cell? ⟨gb125, 2, none⟩ = some (.string x126002_3) := (blk_cell BK125.out 2).trans rfl
                  have hfz39_0 := blk_frozen BK125.out 0
                  have hfz39_1 := blk_frozen BK125.out 1
                  have hfz39_2 := blk_frozen BK125.out 2
                  go_wp2
                  refine bodyPost_ret (results_ctt rfl _ _ gb125 32 #[.bool false, .slice none 0 0, .string (⟨#[]⟩ : ByteArray)] (0, 0) _ rfl (by (with_reducible repeat (first | refine blk_drewN ?_ _ | refine blk_drew ?_ | refine blk_alloc ?_ _)); refine blk_put (cs := #[.bool false, .slice none 0 0, .string x126002_3]) ?_ 2 _ rfl; (with_reducible repeat (first | refine blk_drewN ?_ _ | refine blk_drew ?_ | refine blk_alloc ?_ _)); refine blk_put (cs := #[.bool false, .slice none 0 0, .string x126002_3]) ?_ 1 _ rfl; (with_reducible repeat (first | refine blk_drewN ?_ _ | refine blk_drew ?_ | refine blk_alloc ?_ _)); refine blk_put (cs := #[.bool x126000_3, .slice none 0 0, .string x126002_3]) ?_ 0 _ rfl; (with_reducible repeat (first | refine blk_drewN ?_ _ | refine blk_drew ?_ | refine blk_alloc ?_ _)); exact BK125.out) Try.underlying32 rfl (by kernel_rfl)) rfl ?_
                  exact ⟨_, by first | rfl | (simp [errW_none, errW_some] <;> rfl) | (simp [*, errW_none, errW_some] <;> rfl), by first | exact Kd.R_nil _ _ _ _ _ | exact Kd.N_nil _ _ _ _ _ | exact Kd.V_nil _ _ _ _ _ | exact Kd.Q_nil _ _ _ _ _ | exact Kd.S_nil _ _ _ _ _, by repeat (first | (with_reducible first | exact HB.out | apply below_alloc | apply pw_below_drewN | apply below_drew1 | refine below_set ?_ GE125.out | refine below_set ?_ GE126.out) | exact HB.out)⟩
                 ·replace c37 := Bool.eq_false_iff.mpr c37
                  subst c37
                  have H1 : (if (x127001_3.length : Int) = 16 then (some (false, ([] : List (S78)), (⟨#[]⟩ : ByteArray), x6_3, 3)) else (swarfref41_Parse.l1 kj32 a0 x6_3 (wrap64 (x6_3 + 1)) x127000_10 x127001_3 x127002_3)) = some (r1, r2, r3, r4, r5) := by rw [if_neg (show ¬ (false = true) by decide)] at H; exact H
                  clear H
                  have H := H1
                  clear H1
                  by_cases c40 : (x127001_3.length : Int) = 16
                  ·rw [if_pos c40] at H
                   have c40b0 : ((x127001_3.length : Int) == 16) = true := beq_iff_eq.mpr c40
                   have c40b1 : ((x127001_3.length : Int) != 16) = false := bne_eq_false_iff_eq.mpr c40
                   clear c40
                   simp only [Option.some.injEq, Prod.mk.injEq] at H
                   obtain ⟨rfl, rfl, rfl, rfl, rfl⟩ := H
                   have hnb41 := NB126_125.out
                   have hnc41 := NB125_126.out
                   have hcz42_0 : wc.cell? ⟨gb126, 0, none⟩ = some (.bool x127000_10) := (blk_cell BK126.out 0).trans rfl
                   have hcz42_1 : wc.cell? ⟨gb126, 1, none⟩ = some (u127001) := (blk_cell BK126.out 1).trans rfl
                   have hcz42_2 : wc.cell? ⟨gb126, 2, none⟩ = some (.string x127002_3) := (blk_cell BK126.out 2).trans rfl
                   have hfz42_0 := blk_frozen BK126.out 0
                   have hfz42_1 := blk_frozen BK126.out 1
                   have hfz42_2 := blk_frozen BK126.out 2
                   obtain ⟨Ao43, co43, eo43⟩ := Kd.R_slice HO_127001.out
                   subst eo43
                   have hcz44_0 : wc.cell? ⟨gb125, 0, none⟩ = some (.bool x126000_3) := (blk_cell BK125.out 0).trans rfl
                   have hcz44_1 : wc.cell? ⟨gb125, 1, none⟩ = some (.slice none 0 0) := (blk_cell BK125.out 1).trans rfl
                   have hcz44_2 : wc.cell? ⟨gb125, 2, none⟩ = some (.string x126002_3) := (blk_cell BK125.out 2).trans rfl
                   have hfz44_0 := blk_frozen BK125.out 0
                   have hfz44_1 := blk_frozen BK125.out 1
                   have hfz44_2 := blk_frozen BK125.out 2
                   go_wp2
                   refine bodyPost_ret (results_ctt rfl _ _ gb125 32 #[.bool false, .slice none 0 0, .string (⟨#[]⟩ : ByteArray)] (0, 0) _ rfl (by (with_reducible repeat (first | refine blk_drewN ?_ _ | refine blk_drew ?_ | refine blk_alloc ?_ _)); refine blk_put (cs := #[.bool false, .slice none 0 0, .string x126002_3]) ?_ 2 _ rfl; (with_reducible repeat (first | refine blk_drewN ?_ _ | refine blk_drew ?_ | refine blk_alloc ?_ _)); refine blk_put (cs := #[.bool false, .slice none 0 0, .string x126002_3]) ?_ 1 _ rfl; (with_reducible repeat (first | refine blk_drewN ?_ _ | refine blk_drew ?_ | refine blk_alloc ?_ _)); refine blk_put (cs := #[.bool x126000_3, .slice none 0 0, .string x126002_3]) ?_ 0 _ rfl; (with_reducible repeat (first | refine blk_drewN ?_ _ | refine blk_drew ?_ | refine blk_alloc ?_ _)); exact BK125.out) Try.underlying32 rfl (by kernel_rfl)) rfl ?_
                   exact ⟨_, by first | rfl | (simp [errW_none, errW_some] <;> rfl) | (simp [*, errW_none, errW_some] <;> rfl), by first | exact Kd.R_nil _ _ _ _ _ | exact Kd.N_nil _ _ _ _ _ | exact Kd.V_nil _ _ _ _ _ | exact Kd.Q_nil _ _ _ _ _ | exact Kd.S_nil _ _ _ _ _, by repeat (first | (with_reducible first | exact HB.out | apply below_alloc | apply pw_below_drewN | apply below_drew1 | refine below_set ?_ GE125.out | refine below_set ?_ GE126.out) | exact HB.out)⟩
                  ·rw [if_neg c40] at H
                   have c40b0 : ((x127001_3.length : Int) == 16) = false := beq_eq_false_iff_ne.mpr c40
                   have c40b1 : ((x127001_3.length : Int) != 16) = true := bne_iff_ne.mpr c40
                   have HC45 := Aside0.mk H
                   clear H
                   have hnb46 := NB126_125.out
                   have hnc46 := NB125_126.out
                   have hcz47_0 : wc.cell? ⟨gb126, 0, none⟩ = some (.bool x127000_10) := (blk_cell BK126.out 0).trans rfl
                   have hcz47_1 : wc.cell? ⟨gb126, 1, none⟩ = some (u127001) := (blk_cell BK126.out 1).trans rfl
                   have hcz47_2 : wc.cell? ⟨gb126, 2, none⟩ = some (.string x127002_3) := (blk_cell BK126.out 2).trans rfl
                   have hfz47_0 := blk_frozen BK126.out 0
                   have hfz47_1 := blk_frozen BK126.out 1
                   have hfz47_2 := blk_frozen BK126.out 2
                   obtain ⟨Ao48, co48, eo48⟩ := Kd.R_slice HO_127001.out
                   subst eo48
                   go_upto_block 2 with (fail)
                   go_cut [11] (fun v11 wc => ∃ (kq : Nat) (x11_44 : Int), v11 = .int .i64 x11_44 ∧ Aside0 (swarfref41_Parse.j6 kq a0 x6_3 x11_44 x127000_10 x127001_3 x127002_3 = some (r1, r2, r3, r4, r5)) ∧ Aside0 (kq ≤ kj32) ∧ Aside0 (Kd.R k78 78 wc w.heap.size (fun _ => True) (.slice Ao48 x127001_3.length co48) x127001_3) ∧ Aside0 (wc.heap[gb125]? = some (.cells #[.bool x126000_3, (.slice none 0 0), .string x126002_3] 32 (0, 0))) ∧ Aside0 (wc.heap[gb126]? = some (.cells #[.bool x127000_10, (.slice Ao48 x127001_3.length co48), .string x127002_3] 32 (0, 0))) ∧ Aside0 (Below w.heap.size w wc))
                   case first =>
                    have H := HC45.out
                    clear HC45
                    have H' := Aside0.mk H
                    clear H
                    go_wp2
                    go_loopg [11] kj32 (fun kq v11 w' => ∃ (x11_6 : Int), v11 = .int .i64 x11_6 ∧ Aside0 (swarfref41_Parse.l1 kq a0 x6_3 x11_6 x127000_10 x127001_3 x127002_3 = some (r1, r2, r3, r4, r5)) ∧ Aside0 (kq ≤ kj32) ∧ Aside0 (Kd.R k78 78 w' w.heap.size (fun _ => True) (.slice Ao48 x127001_3.length co48) x127001_3) ∧ Aside0 (w'.heap[gb125]? = some (.cells #[.bool x126000_3, (.slice none 0 0), .string x126002_3] 32 (0, 0))) ∧ Aside0 (w'.heap[gb126]? = some (.cells #[.bool x127000_10, (.slice Ao48 x127001_3.length co48), .string x127002_3] 32 (0, 0))) ∧ Aside0 (Below w.heap.size w w'))
                    case atStart => exact ⟨(wrap64 (x6_3 + 1)), (by first | rfl | (simp; done) | (simp [*]; done)), H', ⟨Nat.le_refl _⟩, ⟨by (with_reducible repeat (first | apply Kd.R_alloc | apply Kd.R_drewN | apply Kd.R_drew)); exact HO_127001.out⟩, ⟨by (with_reducible repeat (first | refine blk_drewN ?_ _ | refine blk_drew ?_ | refine blk_alloc ?_ _)); exact BK125.out⟩, ⟨by (with_reducible repeat (first | refine blk_drewN ?_ _ | refine blk_drew ?_ | refine blk_alloc ?_ _)); exact BK126.out⟩, ⟨by repeat (first | (with_reducible first | exact HB.out | apply below_alloc | apply pw_below_drewN | apply below_drew1 | refine below_set ?_ GE125.out | refine below_set ?_ GE126.out) | exact HB.out)⟩⟩
                    case round =>
                     clear H'
                     try clear c1
                     try clear p1
                     try clear q1
                     try clear hx1
                     try clear qi1
                     try clear c2
                     try clear c2b0
                     try clear c2b1
                     try clear p2
                     try clear q2
                     try clear hx2
                     try clear c3
                     try clear p3
                     try clear q3
                     try clear hx3
                     try clear c4
                     try clear p6
                     try clear c8
                     try clear c8b0
                     try clear c8b1
                     try clear c9
                     try clear c9b0
                     try clear c9b1
                     try clear c10
                     try clear p10
                     try clear q10
                     try clear hx10
                     try clear qi10
                     try clear c12
                     try clear c13
                     try clear c16
                     try clear c16b0
                     try clear c17
                     try clear c18
                     try clear c18b0
                     try clear c18b1
                     try clear c19
                     try clear c21
                     try clear c21b0
                     try clear c22
                     try clear c22b0
                     try clear p23
                     try clear q23
                     try clear hx23
                     try clear c24
                     try clear c24b0
                     try clear c24b1
                     try clear c26
                     try clear c26b0
                     try clear c26b1
                     try clear c27
                     try clear c31
                     try clear p34
                     try clear q34
                     try clear hx34
                     try clear c35
                     try clear c35b0
                     try clear p36
                     try clear q36
                     try clear hx36
                     try clear c37
                     try clear c38
                     try clear c40
                     try clear c40b0
                     try clear c40b1
                     try clear c41
                     try clear c46
                     try clear hcz14_0
                     try clear hcz14_1
                     try clear hcz14_2
                     try clear hcz20_0
                     try clear hcz20_1
                     try clear hcz20_2
                     try clear hcz28_0
                     try clear hcz28_1
                     try clear hcz28_2
                     try clear hcz29_0
                     try clear hcz29_1
                     try clear hcz29_2
                     try clear hcz32_0
                     try clear hcz32_1
                     try clear hcz32_2
                     try clear hcz39_0
                     try clear hcz39_1
                     try clear hcz39_2
                     try clear hcz42_0
                     try clear hcz42_1
                     try clear hcz42_2
                     try clear hcz44_0
                     try clear hcz44_1
                     try clear hcz44_2
                     try clear hcz47_0
                     try clear hcz47_1
                     try clear hcz47_2
                     try clear hcz4_0
                     try clear hcz4_1
                     try clear hcz4_2
                     try clear hfz14_0
                     try clear hfz14_1
                     try clear hfz14_2
                     try clear hfz20_0
                     try clear hfz20_1
                     try clear hfz20_2
                     try clear hfz28_0
                     try clear hfz28_1
                     try clear hfz28_2
                     try clear hfz29_0
                     try clear hfz29_1
                     try clear hfz29_2
                     try clear hfz32_0
                     try clear hfz32_1
                     try clear hfz32_2
                     try clear hfz39_0
                     try clear hfz39_1
                     try clear hfz39_2
                     try clear hfz42_0
                     try clear hfz42_1
                     try clear hfz42_2
                     try clear hfz44_0
                     try clear hfz44_1
                     try clear hfz44_2
                     try clear hfz47_0
                     try clear hfz47_1
                     try clear hfz47_2
                     try clear hfz4_0
                     try clear hfz4_1
                     try clear hfz4_2
                     try clear p1
                     try clear p10
                     try clear p2
                     try clear p23
                     try clear p3
                     try clear p34
                     try clear p36
                     try clear q1
                     try clear q10
                     try clear q2
                     try clear q23
                     try clear q3
                     try clear q34
                     try clear q36
                     obtain ⟨x11_6, rfl, HA, HK6, HO_127001, BK125, BK126, HB⟩ := hrel
                     cases gk with
                     | zero => exact absurd HA.out (by simp [swarfref41_Parse.l1])
                     | succ k6 =>
                      have H := HA.out
                      clear HA
                      simp only [swarfref41_Parse.l1] at H
                      by_cases c49 : x11_6 < (a0.size : Int)
                      ·rw [if_pos c49] at H
                       have c49b0 : decide (x11_6 < (a0.size : Int)) = true := decide_eq_true c49
                       clear c49
                       (first | rw [c49b0] | (simp only [i64_w, i32_w]; rw [c49b0]) | skip)
                       by_cases c50 : 0 ≤ x11_6
                       ·rw [if_pos c50] at H
                        have c50b0 : decide (0 ≤ x11_6) = true := decide_eq_true c50
                        clear c50
                        replace H := Option.bind_eq_some_iff.mp H
                        obtain ⟨t130, A520, H⟩ := H
                        replace H : (if t130 = true then (swarfref41_Parse.l1 k6 a0 x6_3 (wrap64 (x11_6 + 1)) x127000_10 x127001_3 x127002_3) else (swarfref41_Parse.j6 k6 a0 x6_3 x11_6 x127000_10 x127001_3 x127002_3)) = some (r1, r2, r3, r4, r5) := H
                        have A52 := Aside0.mk A520
                        clear A520
                        by_cases c53 : t130 = true
                        ·subst c53
                         have H1 : (swarfref41_Parse.l1 k6 a0 x6_3 (wrap64 (x11_6 + 1)) x127000_10 x127001_3 x127002_3) = some (r1, r2, r3, r4, r5) := by rw [if_pos rfl] at H; exact H
                         clear H
                         have H := H1
                         clear H1
                         have H' := Aside0.mk H
                         clear H
                         have p51 : 0 ≤ (x11_6 : Int) := of_decide_eq_true (by first | (with_reducible assumption) | assumption)
                         have q51 : x11_6 < (a0.size : Int) := of_decide_eq_true (by first | (with_reducible assumption) | assumption)
                         have hx51 := bt_at a0 x11_6
                         replace p51 := eq_true p51
                         replace q51 := eq_true q51
                         go_wp2_with (first | (go_at_call 106; (with_reducible refine (swarfref41_number.calls (bt a0 x11_6) true _ A52.out).mono ?_); rintro e w' ⟨rfl, ⟨nd, rfl⟩⟩))
                         go_roundg k6
                         case measure => have := HJ4.out; have := HJ10.out; have := HK3.out; have := HJ14.out; have := HJ32.out; have := HK6.out; omega
                         case rel => exact ⟨(wrap64 (x11_6 + 1)), (by first | rfl | (simp; done) | (simp [*]; done)), H', ⟨by have := HJ4.out; have := HJ10.out; have := HK3.out; have := HJ14.out; have := HJ32.out; have := HK6.out; omega⟩, ⟨by (with_reducible repeat (first | apply Kd.R_alloc | apply Kd.R_drewN | apply Kd.R_drew)); exact HO_127001.out⟩, ⟨by (with_reducible repeat (first | refine blk_drewN ?_ _ | refine blk_drew ?_ | refine blk_alloc ?_ _)); exact BK125.out⟩, ⟨by (with_reducible repeat (first | refine blk_drewN ?_ _ | refine blk_drew ?_ | refine blk_alloc ?_ _)); exact BK126.out⟩, ⟨by repeat (first | (with_reducible first | exact HB.out | apply below_alloc | apply pw_below_drewN | apply below_drew1 | refine below_set ?_ GE125.out | refine below_set ?_ GE126.out) | exact HB.out)⟩⟩
                        ·replace c53 := Bool.eq_false_iff.mpr c53
                         subst c53
                         have H1 : (swarfref41_Parse.j6 k6 a0 x6_3 x11_6 x127000_10 x127001_3 x127002_3) = some (r1, r2, r3, r4, r5) := by rw [if_neg (show ¬ (false = true) by decide)] at H; exact H
                         clear H
                         have H := H1
                         clear H1
                         have H' := Aside0.mk H
                         clear H
                         have p51 : 0 ≤ (x11_6 : Int) := of_decide_eq_true (by first | (with_reducible assumption) | assumption)
                         have q51 : x11_6 < (a0.size : Int) := of_decide_eq_true (by first | (with_reducible assumption) | assumption)
                         have hx51 := bt_at a0 x11_6
                         replace p51 := eq_true p51
                         replace q51 := eq_true q51
                         go_wp2_with (first | (go_at_call 106; (with_reducible refine (swarfref41_number.calls (bt a0 x11_6) false _ A52.out).mono ?_); rintro e w' ⟨rfl, ⟨nd, rfl⟩⟩))
                         go_meet
                         case rel => exact ⟨_, (x11_6), (by first | rfl | (simp; done) | (simp [*]; done)), H', ⟨by have := HJ4.out; have := HJ10.out; have := HK3.out; have := HJ14.out; have := HJ32.out; have := HK6.out; first | omega | exact Nat.le_refl _⟩, ⟨by (with_reducible repeat (first | apply Kd.R_alloc | apply Kd.R_drewN | apply Kd.R_drew)); exact HO_127001.out⟩, ⟨by (with_reducible repeat (first | refine blk_drewN ?_ _ | refine blk_drew ?_ | refine blk_alloc ?_ _)); exact BK125.out⟩, ⟨by (with_reducible repeat (first | refine blk_drewN ?_ _ | refine blk_drew ?_ | refine blk_alloc ?_ _)); exact BK126.out⟩, ⟨by repeat (first | (with_reducible first | exact HB.out | apply below_alloc | apply pw_below_drewN | apply below_drew1 | refine below_set ?_ GE125.out | refine below_set ?_ GE126.out) | exact HB.out)⟩⟩
                       ·rw [if_neg c50] at H
                        exact absurd H (by simp)
                      ·rw [if_neg c49] at H
                       have c49b0 : decide (x11_6 < (a0.size : Int)) = false := decide_eq_false c49
                       clear c49
                       (first | rw [c49b0] | (simp only [i64_w, i32_w]; rw [c49b0]) | skip)
                       have H' := Aside0.mk H
                       clear H
                       go_wp2
                       go_meet
                       case rel => exact ⟨_, (x11_6), (by first | rfl | (simp; done) | (simp [*]; done)), H', ⟨by have := HJ4.out; have := HJ10.out; have := HK3.out; have := HJ14.out; have := HJ32.out; have := HK6.out; first | omega | exact Nat.le_refl _⟩, ⟨by (with_reducible repeat (first | apply Kd.R_alloc | apply Kd.R_drewN | apply Kd.R_drew)); exact HO_127001.out⟩, ⟨by (with_reducible repeat (first | refine blk_drewN ?_ _ | refine blk_drew ?_ | refine blk_alloc ?_ _)); exact BK125.out⟩, ⟨by (with_reducible repeat (first | refine blk_drewN ?_ _ | refine blk_drew ?_ | refine blk_alloc ?_ _)); exact BK126.out⟩, ⟨by repeat (first | (with_reducible first | exact HB.out | apply below_alloc | apply pw_below_drewN | apply below_drew1 | refine below_set ?_ GE125.out | refine below_set ?_ GE126.out) | exact HB.out)⟩⟩
                   case rest =>
                    clear HC45
                    try clear c1
                    try clear p1
                    try clear q1
                    try clear hx1
                    try clear qi1
                    try clear c2
                    try clear c2b0
                    try clear c2b1
                    try clear p2
                    try clear q2
                    try clear hx2
                    try clear c3
                    try clear p3
                    try clear q3
                    try clear hx3
                    try clear c4
                    try clear c5
                    try clear p5
                    try clear q5
                    try clear hx5
                    try clear p6
                    try clear c8
                    try clear c8b0
                    try clear c8b1
                    try clear c9
                    try clear c9b0
                    try clear c9b1
                    try clear c10
                    try clear p10
                    try clear q10
                    try clear hx10
                    try clear qi10
                    try clear c12
                    try clear c13
                    try clear c16
                    try clear c16b0
                    try clear c17
                    try clear c18
                    try clear c18b0
                    try clear c18b1
                    try clear c19
                    try clear c21
                    try clear c21b0
                    try clear c22
                    try clear c22b0
                    try clear p23
                    try clear q23
                    try clear hx23
                    try clear c24
                    try clear c24b0
                    try clear c24b1
                    try clear c26
                    try clear c26b0
                    try clear c26b1
                    try clear c27
                    try clear c31
                    try clear p34
                    try clear q34
                    try clear hx34
                    try clear c35
                    try clear c35b0
                    try clear p36
                    try clear q36
                    try clear hx36
                    try clear c37
                    try clear c38
                    try clear c40
                    try clear c40b0
                    try clear c40b1
                    try clear c41
                    try clear c46
                    try clear c49
                    try clear c49b0
                    try clear c50
                    try clear c50b0
                    try clear p51
                    try clear q51
                    try clear hx51
                    try clear c53
                    try clear hcz14_0
                    try clear hcz14_1
                    try clear hcz14_2
                    try clear hcz20_0
                    try clear hcz20_1
                    try clear hcz20_2
                    try clear hcz28_0
                    try clear hcz28_1
                    try clear hcz28_2
                    try clear hcz29_0
                    try clear hcz29_1
                    try clear hcz29_2
                    try clear hcz32_0
                    try clear hcz32_1
                    try clear hcz32_2
                    try clear hcz39_0
                    try clear hcz39_1
                    try clear hcz39_2
                    try clear hcz42_0
                    try clear hcz42_1
                    try clear hcz42_2
                    try clear hcz44_0
                    try clear hcz44_1
                    try clear hcz44_2
                    try clear hcz47_0
                    try clear hcz47_1
                    try clear hcz47_2
                    try clear hcz4_0
                    try clear hcz4_1
                    try clear hcz4_2
                    try clear hfz14_0
                    try clear hfz14_1
                    try clear hfz14_2
                    try clear hfz20_0
                    try clear hfz20_1
                    try clear hfz20_2
                    try clear hfz28_0
                    try clear hfz28_1
                    try clear hfz28_2
                    try clear hfz29_0
                    try clear hfz29_1
                    try clear hfz29_2
                    try clear hfz32_0
                    try clear hfz32_1
                    try clear hfz32_2
                    try clear hfz39_0
                    try clear hfz39_1
                    try clear hfz39_2
                    try clear hfz42_0
                    try clear hfz42_1
                    try clear hfz42_2
                    try clear hfz44_0
                    try clear hfz44_1
                    try clear hfz44_2
                    try clear hfz47_0
                    try clear hfz47_1
                    try clear hfz47_2
                    try clear hfz4_0
                    try clear hfz4_1
                    try clear hfz4_2
                    try clear p1
                    try clear p10
                    try clear p2
                    try clear p23
                    try clear p3
                    try clear p34
                    try clear p36
                    try clear p51
                    try clear p6
                    try clear q1
                    try clear q10
                    try clear q2
                    try clear q23
                    try clear q3
                    try clear q34
                    try clear q36
                    try clear q51
                    obtain ⟨kq, x11_44, rfl, HA, HJ44, HO_127001, BK125, BK126, HB⟩ := hcut
                    cases kq with
                    | zero => exact absurd HA.out (by simp [swarfref41_Parse.j6])
                    | succ kj44 =>
                     have H := HA.out
                     clear HA
                     simp only [swarfref41_Parse.j6] at H
                     obtain ⟨ji54, hji54⟩ : ∃ j_ : Int, (wrap64 (x6_3 + 1)) = j_ := ⟨_, rfl⟩
                     replace H : (if 0 ≤ (ji54) then (if (ji54) ≤ x11_44 then (if x11_44 ≤ (a0.size : Int) then ((swarfref41_Value.f kj44 (a0.extract ((ji54) : Int).toNat (x11_44 : Int).toNat)).bind fun bt131 => (if bt131.2 = 0 then (if 0 ≤ x6_3 then (if x6_3 < (a0.size : Int) then (if x127001_3.length < 8796093022208 then ((some (x127001_3 ++ [(⟨bt a0 x6_3, bt131.1⟩ : S78)] : List (S78))).bind fun y133 => (if x11_44 = (a0.size : Int) then (some (x127000_10, y133, x127002_3, 0, 0)) else (if 0 ≤ x11_44 then (if x11_44 < (a0.size : Int) then (if (bt a0 x11_44) = 32 then (swarfref41_Parse.l0 kj44 a0 (wrap64 (x11_44 + 1)) false x127000_10 y133 x127002_3) else (some (false, ([] : List (S78)), (⟨#[]⟩ : ByteArray), x11_44, 2))) else (none)) else (none)))) else (none)) else (none)) else (none)) else (some (false, ([] : List (S78)), (⟨#[]⟩ : ByteArray), x6_3, bt131.2)))) else (none)) else (none)) else (none)) = some (r1, r2, r3, r4, r5) := by first | (rw [hji54] at H; exact H) | (simp only [hji54] at H ⊢; exact H)
                     have hji54w : (IntKind.i64.wrap (x6_3 + 1)) = ji54 := (i64_w _).trans hji54
                     by_cases c55 : 0 ≤ (ji54)
                     ·rw [if_pos c55] at H
                      have c55b0 := eq_true c55
                      have c55b1 : decide (0 ≤ (ji54)) = true := decide_eq_true c55
                      clear c55
                      by_cases c56 : (ji54) ≤ x11_44
                      ·rw [if_pos c56] at H
                       have c56b0 := eq_true c56
                       have c56b1 : decide ((ji54) ≤ x11_44) = true := decide_eq_true c56
                       clear c56
                       by_cases c57 : x11_44 ≤ (a0.size : Int)
                       ·rw [if_pos c57] at H
                        have c57b0 := eq_true c57
                        have c57b1 : decide (x11_44 ≤ (a0.size : Int)) = true := decide_eq_true c57
                        clear c57
                        replace H := Option.bind_eq_some_iff.mp H
                        obtain ⟨⟨t131, t132⟩, A580, H⟩ := H
                        replace H : (if t132 = 0 then (if 0 ≤ x6_3 then (if x6_3 < (a0.size : Int) then (if x127001_3.length < 8796093022208 then ((some (x127001_3 ++ [(⟨bt a0 x6_3, t131⟩ : S78)] : List (S78))).bind fun y133 => (if x11_44 = (a0.size : Int) then (some (x127000_10, y133, x127002_3, 0, 0)) else (if 0 ≤ x11_44 then (if x11_44 < (a0.size : Int) then (if (bt a0 x11_44) = 32 then (swarfref41_Parse.l0 kj44 a0 (wrap64 (x11_44 + 1)) false x127000_10 y133 x127002_3) else (some (false, ([] : List (S78)), (⟨#[]⟩ : ByteArray), x11_44, 2))) else (none)) else (none)))) else (none)) else (none)) else (none)) else (some (false, ([] : List (S78)), (⟨#[]⟩ : ByteArray), x6_3, t132))) = some (r1, r2, r3, r4, r5) := H
                        have A58 := Aside0.mk A580
                        clear A580
                        by_cases c59 : t132 = 0
                        ·rw [if_pos c59] at H
                         have c59b0 : (t132 == 0) = true := beq_iff_eq.mpr c59
                         have c59b1 : (t132 != 0) = false := bne_eq_false_iff_eq.mpr c59
                         clear c59
                         by_cases c60 : 0 ≤ x6_3
                         ·rw [if_pos c60] at H
                          have c60b0 : decide (0 ≤ x6_3) = true := decide_eq_true c60
                          clear c60
                          by_cases c61 : x6_3 < (a0.size : Int)
                          ·rw [if_pos c61] at H
                           have c61b0 : decide (x6_3 < (a0.size : Int)) = true := decide_eq_true c61
                           clear c61
                           by_cases c63 : x127001_3.length < 8796093022208
                           ·rw [if_pos c63] at H
                            have LMc63 := Aside0.mk c63
                            clear c63
                            obtain ⟨y133, hy133⟩ : ∃ y_ : List (S78), y_ = (x127001_3 ++ [(⟨bt a0 x6_3, t131⟩ : S78)]) := ⟨_, rfl⟩
                            replace H : (if x11_44 = (a0.size : Int) then (some (x127000_10, y133, x127002_3, 0, 0)) else (if 0 ≤ x11_44 then (if x11_44 < (a0.size : Int) then (if (bt a0 x11_44) = 32 then (swarfref41_Parse.l0 kj44 a0 (wrap64 (x11_44 + 1)) false x127000_10 y133 x127002_3) else (some (false, ([] : List (S78)), (⟨#[]⟩ : ByteArray), x11_44, 2))) else (none)) else (none))) = some (r1, r2, r3, r4, r5) := by first | (rw [hy133]; with_reducible exact H) | (have H2_ := (Option.bind_some _ _).symm.trans H; rw [hy133]; with_reducible exact H2_) | (have H2_ := (Option.bind_some _ _).symm.trans H; with_reducible exact H2_) | with_reducible exact H | (rw [hy133]; exact H) | exact H
                            have Ny133 := Aside0.mk hy133
                            clear hy133
                            by_cases c64 : x11_44 = (a0.size : Int)
                            ·rw [if_pos c64] at H
                             have c64b0 : (x11_44 == (a0.size : Int)) = true := beq_iff_eq.mpr c64
                             have c64b1 : (x11_44 != (a0.size : Int)) = false := bne_eq_false_iff_eq.mpr c64
                             clear c64
                             simp only [Option.some.injEq, Prod.mk.injEq] at H
                             obtain ⟨rfl, rfl, rfl, rfl, rfl⟩ := H
                             try go_wp2_with (first | ((with_reducible refine gate_callee (f := 107) rfl ?_); refine goesL_ (some 97) rfl rfl Try.func107 (by kernel_rfl) rfl #[.string (a0.extract ((ji54) : Int).toNat (x11_44 : Int).toNat)] rfl (by (try simp only [List.map_toArray, List.map_cons, List.map_nil]); first | done | (simp only [hji54]; rfl) | rfl | (simp only [List.length_drop, List.length_take]; rfl)) ?_; (with_reducible refine (swarfref41_Value.calls kj44 (a0.extract ((ji54) : Int).toNat (x11_44 : Int).toNat) t131 t132 _ A58.out).mono ?_); rintro e w' ⟨rfl, ⟨nd, rfl⟩⟩; refine ⟨_, rfl, ?_⟩; (try (rw [drewN_self wc]; generalize hq_ : World.drewN wc _ = wc; have n0_ : Aside0 (Kd.R k78 78 wc w.heap.size (fun _ => True) (.slice Ao48 x127001_3.length co48) x127001_3) := ⟨by rw [← hq_]; exact (by (with_reducible repeat (first | apply Kd.R_alloc | apply Kd.R_drewN | apply Kd.R_drew)); exact HO_127001.out)⟩; have n1_ : Aside0 (wc.heap[gb125]? = some (.cells #[.bool x126000_3, .slice none 0 0, .string x126002_3] 32 (0, 0))) := ⟨by rw [← hq_]; exact (by (with_reducible repeat (first | refine blk_drewN ?_ _ | refine blk_drew ?_ | refine blk_alloc ?_ _)); exact BK125.out)⟩; have n2_ : Aside0 (wc.heap[gb126]? = some (.cells #[.bool x127000_10, .slice Ao48 x127001_3.length co48, .string x127002_3] 32 (0, 0))) := ⟨by rw [← hq_]; exact (by (with_reducible repeat (first | refine blk_drewN ?_ _ | refine blk_drew ?_ | refine blk_alloc ?_ _)); exact BK126.out)⟩; have n3_ : Aside0 (Below w.heap.size w wc) := ⟨by rw [← hq_]; exact (by repeat (first | (with_reducible first | exact HB.out | apply below_alloc | apply pw_below_drewN | apply below_drew1 | refine below_set ?_ GE125.out | refine below_set ?_ GE126.out) | exact HB.out))⟩; clear HO_127001 BK125 BK126 HB hq_; have HO_127001 := n0_; have BK125 := n1_; have BK126 := n2_; have HB := n3_; clear n0_ n1_ n2_ n3_))))
                             have n0_ := Aside0.mk (Kd.R_drew HO_127001.out)
                             have n1_ := Aside0.mk (blk_drew BK125.out)
                             have n2_ := Aside0.mk (blk_drew BK126.out)
                             have n3_ := Aside0.mk (below_drew1 HB.out)
                             clear HO_127001
                             clear BK125
                             clear BK126
                             clear HB
                             have HO_127001 := n0_
                             have BK125 := n1_
                             have BK126 := n2_
                             have HB := n3_
                             clear n0_ n1_ n2_ n3_
                             have p62 : 0 ≤ (x6_3 : Int) := of_decide_eq_true (by first | (with_reducible assumption) | assumption)
                             have q62 : x6_3 < (a0.size : Int) := of_decide_eq_true (by first | (with_reducible assumption) | assumption)
                             have hx62 := bt_at a0 x6_3
                             replace p62 := eq_true p62
                             replace q62 := eq_true q62
                             refine start_ (n := 11) (S := fun w' => w'.cell? ⟨gb126, 0, none⟩ = some (.bool x127000_10) ∧ w'.cell? ⟨gb126, 1, none⟩ = some (.slice Ao48 x127001_3.length co48) ∧ w'.cell? ⟨gb126, 2, none⟩ = some (.string x127002_3)) (ds := [10]) #[false, false, false, false, false, false, false, false, false, false, false] (by kernel_rfl) rfl rfl ⟨(blk_cell BK126.out 0).trans rfl, (blk_cell BK126.out 1).trans rfl, (blk_cell BK126.out 2).trans rfl⟩ (fun hHeld => ?_); refine with_tabW swarfref41_Parse.tab28 swarfref41_Parse.bits28 (fun HT_ HW_ => ?_)
                             generalize wc.drew = w65 at HO_127001 BK125 BK126 HB hHeld ⊢
                             refine pure_ (i := 0) (N := some 105) (v := ?_) (a' := ?_) #[true, false, false, false, false, false, false, false, false, false, false] rfl rfl (any_of HT_.out (by kernel_rfl)) (fun _ _ _ h => h) (Or.inl ⟨by rfl, ?_⟩) ?_ ?_
                             rotate_left
                             ·intro w'
                              go_simp
                              with_reducible rfl
                             rotate_left
                             ·simp only [Act.put, List.setIfInBounds_toArray, List.set_cons_zero, List.set_cons_succ, i64_w, i32_w]
                              rfl
                             refine pure_ (i := 2) (N := some 107) (v := ?_) (a' := ?_) #[true, false, true, false, false, false, false, false, false, false, false] rfl rfl (any_of HT_.out (by kernel_rfl)) (fun _ _ _ h => h) (Or.inl ⟨by rfl, ?_⟩) ?_ ?_
                             rotate_left
                             ·intro w'
                              go_simp
                              with_reducible rfl
                             rotate_left
                             ·simp only [Act.put, List.setIfInBounds_toArray, List.set_cons_zero, List.set_cons_succ, i64_w, i32_w]
                              rfl
                             refine pure_ (i := 3) (N := some 108) (v := ?_) (a' := ?_) #[true, false, true, true, false, false, false, false, false, false, false] rfl rfl (any_of HT_.out (by kernel_rfl)) (fun _ _ _ h => h) (Or.inl ⟨by rfl, ?_⟩) ?_ ?_
                             rotate_left
                             ·intro w'
                              go_simp
                              with_reducible rfl
                             rotate_left
                             ·simp only [Act.put, List.setIfInBounds_toArray, List.set_cons_zero, List.set_cons_succ, i64_w, i32_w]
                              rfl
                             refine pure_ (i := 5) (N := some 110) (v := ?_) (a' := ?_) #[true, false, true, true, false, true, false, false, false, false, false] rfl rfl (any_of HT_.out (by kernel_rfl)) (fun _ _ _ h => h) (Or.inl ⟨by rfl, ?_⟩) ?_ ?_
                             rotate_left
                             ·intro w'
                              go_simp
                              with_reducible rfl
                             rotate_left
                             ·simp only [Act.put, List.setIfInBounds_toArray, List.set_cons_zero, List.set_cons_succ, i64_w, i32_w]
                              rfl
                             refine take_ (i := 1) (N := some 106) (v := ?_) (a' := ?_) #[true, true, true, true, false, true, false, false, false, false, false] rfl rfl (take_ofW HT_.out HW_.out (by kernel_rfl)) (fun _ _ _ h => h) (Or.inl ⟨by rfl, ?_⟩) hHeld ?_ ?_
                             rotate_left
                             ·rintro w' ⟨s0, s1, s2⟩
                              go_simp
                              with_reducible rfl
                             rotate_left
                             ·simp only [Act.put, List.setIfInBounds_toArray, List.set_cons_zero, List.set_cons_succ, i64_w, i32_w]
                              rfl
                             refine take_ (i := 4) (N := some 109) (v := ?_) (a' := ?_) #[true, true, true, true, true, true, false, false, false, false, false] rfl rfl (take_ofW HT_.out HW_.out (by kernel_rfl)) (fun _ _ _ h => h) (Or.inl ⟨by rfl, ?_⟩) hHeld ?_ ?_
                             rotate_left
                             ·rintro w' ⟨s0, s1, s2⟩
                              go_simp
                              with_reducible rfl
                             rotate_left
                             ·simp only [Act.put, List.setIfInBounds_toArray, List.set_cons_zero, List.set_cons_succ, i64_w, i32_w]
                              rfl
                             refine pure_ (i := 6) (N := some 111) (v := ?_) (a' := ?_) #[true, true, true, true, true, true, true, false, false, false, false] rfl rfl (any_of HT_.out (by kernel_rfl)) (fun _ _ _ h => h) (Or.inl ⟨by rfl, ?_⟩) ?_ ?_
                             rotate_left
                             ·intro w'
                              go_simp
                              with_reducible rfl
                             rotate_left
                             ·simp only [Act.put, List.setIfInBounds_toArray, List.set_cons_zero, List.set_cons_succ, i64_w, i32_w]
                              rfl
                             refine one_ (i := 7) (N := some 112) #[true, true, true, true, true, true, true, true, false, false, false] rfl rfl (one_of HT_.out (by kernel_rfl)) (by decide) (fun K hK => ?_)
                             refine value_ (w1 := ?_) (v := ?_) (by rfl) rfl ?_ ?_
                             rotate_left 2
                             ·go_simp
                              constructor
                              ·rfl
                              ·rfl
                             refine hK.out _ _ ⟨(blk_cell (blk_alloc BK126.out _) 0).trans rfl, (blk_cell (blk_alloc BK126.out _) 1).trans rfl, (blk_cell (blk_alloc BK126.out _) 2).trans rfl⟩ (fun hHeld => ?_)
                             clear hK K
                             refine norm_ (a' := ?_) ?_ ?_
                             rotate_left
                             ·show Act.put _ (some 112) _ = _
                              simp only [Act.put, List.setIfInBounds_toArray, List.set_cons_zero, List.set_cons_succ, i64_w, i32_w]
                              rfl
                             refine one_ (i := 8) (N := some 113) #[true, true, true, true, true, true, true, true, true, false, false] rfl rfl (one_of HT_.out (by kernel_rfl)) (by decide) (fun K hK => ?_)
                             refine Kd.R_append_step k78 (w0 := w) w.heap.size (by rfl) (.tmp 106) (.tmp 112) 30 78 (.agg #[(.int .u8 0), (.int .i64 0)]) 16 rfl Try.underlying30 info78 rfl (by decide) (by omega) (.slice Ao48 x127001_3.length co48) x127001_3 (⟨bt a0 x6_3, t131⟩ : S78) [.int .u8 (bt a0 x6_3), .int .i64 t131] (fun _ => True) (fun _ => False) rfl rfl ?aP (fun _ hk => hk.elim) ?aF ?aO ?aB ?aS ?aL ?_
                             (case aP => exact k78_mkM _ _ _ (⟨bt a0 x6_3, t131⟩ : S78))
                             (case aB => exact (by repeat (first | (with_reducible first | exact HB.out | apply below_alloc | apply pw_below_drewN | apply below_drew1 | refine below_set ?_ GE125.out | refine below_set ?_ GE126.out) | exact HB.out)))
                             (case aF => exact (fun _ _ => trivial))
                             (case aO => exact (by (with_reducible repeat (first | apply Kd.R_alloc | apply Kd.R_drewN | apply Kd.R_drew)); exact HO_127001.out))
                             (case aS => exact (below_size (by repeat (first | (with_reducible first | exact HB.out | apply below_alloc | apply pw_below_drewN | apply below_drew1 | refine below_set ?_ GE125.out | refine below_set ?_ GE126.out) | exact HB.out))))
                             (case aL => have := LMc63.out; omega)
                             intro v134 w66 ho hb hg hat
                             rw [← Ny133.out] at ho
                             have n0_ := Aside0.mk (blk_grown (g := gb125) (o := .cells #[.bool x126000_3, .slice none 0 0, .string x126002_3] 32 (0, 0)) (by (with_reducible repeat (first | refine blk_drewN ?_ _ | refine blk_drew ?_ | refine blk_alloc ?_ _)); exact BK125.out) hg (Kd.R_ne HO_127001.out BK125.out (by decide)))
                             have n1_ := Aside0.mk (blk_grown (g := gb126) (o := .cells #[.bool x127000_10, .slice Ao48 x127001_3.length co48, .string x127002_3] 32 (0, 0)) (by (with_reducible repeat (first | refine blk_drewN ?_ _ | refine blk_drew ?_ | refine blk_alloc ?_ _)); exact BK126.out) hg (Kd.R_ne HO_127001.out BK126.out (by decide)))
                             have n2_ := Aside0.mk (hb)
                             have n3_ := Aside0.mk (ho)
                             clear BK125
                             clear BK126
                             clear HB
                             clear HO_127001
                             have BK125 := n0_
                             have BK126 := n1_
                             have HB := n2_
                             have HO135 := n3_
                             clear n0_ n1_ n2_ n3_
                             clear ho hb hg hat
                             obtain ⟨Ao67, co67, eo67⟩ := Kd.R_slice HO135.out
                             (first | subst eo67 | (injection eo67 with f1_ f2_ f3_; have f4_ := f1_.symm; have f5_ := f3_.symm; clear f1_ f2_ f3_; subst f4_; subst f5_))
                             refine hK.out _ _ ⟨(blk_cell BK126.out 0).trans rfl, (blk_cell BK126.out 1).trans rfl, (blk_cell BK126.out 2).trans rfl⟩ (fun hHeld => ?_)
                             clear hK K
                             refine norm_ (a' := ?_) ?_ ?_
                             rotate_left
                             ·show Act.put _ (some 113) _ = _
                              simp only [Act.put, List.setIfInBounds_toArray, List.set_cons_zero, List.set_cons_succ, i64_w, i32_w]
                              rfl
                             refine pure_ (i := 9) (N := some 114) (v := ?_) (a' := ?_) #[true, true, true, true, true, true, true, true, true, true, false] rfl rfl (any_of HT_.out (by kernel_rfl)) (fun _ _ _ h => h) (Or.inl ⟨by rfl, ?_⟩) ?_ ?_
                             rotate_left
                             ·intro w'
                              go_simp
                              with_reducible rfl
                             rotate_left
                             ·simp only [Act.put, List.setIfInBounds_toArray, List.set_cons_zero, List.set_cons_succ, i64_w, i32_w]
                              rfl
                             refine last_ (i := 10) (N := none) #[true, true, true, true, true, true, true, true, true, true, true] rfl rfl (one_of HT_.out (by kernel_rfl)) (by decide) (fun K hK => ?_)
                             have hs68 : w66.cell? ⟨gb126, 1, none⟩ = some (.slice Ao48 x127001_3.length co48) := (blk_cell BK126.out 1).trans rfl
                             have hfs68 := blk_frozen BK126.out 1
                             have hns68_0 := NB125_126.out
                             have hms68_0 := NB126_125.out
                             refine skip_ (w1 := ?_) (by rfl) rfl ?_ ?_
                             rotate_left
                             ·go_simp
                              rfl
                             refine hK.out _ _ ?_
                             clear hK K
                             refine done_ (done_of HT_.out (by kernel_rfl)) ?_
                             have hnb69 := NB126_125.out
                             have hnc69 := NB125_126.out
                             have hcz70_0 : w66.cell? ⟨gb126, 0, none⟩ = some (.bool x127000_10) := (blk_cell BK126.out 0).trans rfl
                             have hcz70_1 : w66.cell? ⟨gb126, 1, none⟩ = some (.slice Ao48 x127001_3.length co48) := (blk_cell BK126.out 1).trans rfl
                             have hcz70_2 : w66.cell? ⟨gb126, 2, none⟩ = some (.string x127002_3) := (blk_cell BK126.out 2).trans rfl
                             have hfz70_0 := blk_frozen BK126.out 0
                             have hfz70_1 := blk_frozen BK126.out 1
                             have hfz70_2 := blk_frozen BK126.out 2
                             have hcz71_0 : w66.cell? ⟨gb125, 0, none⟩ = some (.bool x126000_3) := (blk_cell BK125.out 0).trans rfl
                             have hcz71_1 : w66.cell? ⟨gb125, 1, none⟩ = some (.slice none 0 0) := (blk_cell BK125.out 1).trans rfl
                             have hcz71_2 : w66.cell? ⟨gb125, 2, none⟩ = some (.string x126002_3) := (blk_cell BK125.out 2).trans rfl
                             have hfz71_0 := blk_frozen BK125.out 0
                             have hfz71_1 := blk_frozen BK125.out 1
                             have hfz71_2 := blk_frozen BK125.out 2
                             try go_wp2
                             refine bodyPost_ret (results_ctt rfl _ _ gb125 32 #[.bool x127000_10, .slice Ao67 y133.length co67, .string x127002_3] (0, 0) _ rfl (by (with_reducible repeat (first | refine blk_drewN ?_ _ | refine blk_drew ?_ | refine blk_alloc ?_ _)); refine blk_put (cs := #[.bool x127000_10, .slice Ao67 y133.length co67, .string x126002_3]) ?_ 2 _ rfl; (with_reducible repeat (first | refine blk_drewN ?_ _ | refine blk_drew ?_ | refine blk_alloc ?_ _)); refine blk_put (cs := #[.bool x127000_10, .slice none 0 0, .string x126002_3]) ?_ 1 _ rfl; (with_reducible repeat (first | refine blk_drewN ?_ _ | refine blk_drew ?_ | refine blk_alloc ?_ _)); refine blk_put (cs := #[.bool x126000_3, .slice none 0 0, .string x126002_3]) ?_ 0 _ rfl; (with_reducible repeat (first | refine blk_drewN ?_ _ | refine blk_drew ?_ | refine blk_alloc ?_ _)); refine blk_far ?_ NB125_126.out _; (with_reducible repeat (first | refine blk_drewN ?_ _ | refine blk_drew ?_ | refine blk_alloc ?_ _)); exact BK125.out) Try.underlying32 rfl (by kernel_rfl)) rfl ?_
                             exact ⟨_, by first | rfl | (simp [errW_none, errW_some] <;> rfl) | (simp only [← hji54]; first | rfl | (simp [errW_none, errW_some] <;> rfl)) | (simp [*, errW_none, errW_some] <;> rfl), by (with_reducible repeat (first | apply Kd.R_alloc | apply Kd.R_drewN | apply Kd.R_drew)); exact Kd.R_mono (Kd.R_far (p := ⟨gb125, 2, none⟩) (Kd.R_far (p := ⟨gb125, 1, none⟩) (Kd.R_far (p := ⟨gb125, 0, none⟩) (Kd.R_far (p := ⟨gb126, 1, none⟩) (Kd.R_types (Kd.R_types HO135.out BK126.out (by decide)) BK125.out (by decide)) (fun _ hk => hk.1.2) (.slice Ao67 y133.length co67)) (fun _ hk => hk.2) (.bool x127000_10)) (fun _ hk => hk.2) (.slice Ao67 y133.length co67)) (fun _ hk => hk.2) (.string x127002_3)) (fun _ hk => trivial), by repeat (first | (with_reducible first | exact HB.out | apply below_alloc | apply pw_below_drewN | apply below_drew1 | refine below_set ?_ GE125.out | refine below_set ?_ GE126.out) | exact HB.out)⟩
                            ·rw [if_neg c64] at H
                             have c64b0 : (x11_44 == (a0.size : Int)) = false := beq_eq_false_iff_ne.mpr c64
                             have c64b1 : (x11_44 != (a0.size : Int)) = true := bne_iff_ne.mpr c64
                             by_cases c72 : 0 ≤ x11_44
                             ·rw [if_pos c72] at H
                              have c72b0 : decide (0 ≤ x11_44) = true := decide_eq_true c72
                              clear c72
                              by_cases c73 : x11_44 < (a0.size : Int)
                              ·rw [if_pos c73] at H
                               have c73b0 : decide (x11_44 < (a0.size : Int)) = true := decide_eq_true c73
                               clear c73
                               by_cases c75 : (bt a0 x11_44) = 32
                               ·rw [if_pos c75] at H
                                have c75b0 : ((bt a0 x11_44) == 32) = true := beq_iff_eq.mpr c75
                                have c75b1 : ((bt a0 x11_44) != 32) = false := bne_eq_false_iff_eq.mpr c75
                                clear c75
                                have H' := Aside0.mk H
                                clear H
                                try go_wp2_with (first | ((with_reducible refine gate_callee (f := 107) rfl ?_); refine goesL_ (some 97) rfl rfl Try.func107 (by kernel_rfl) rfl #[.string (a0.extract ((ji54) : Int).toNat (x11_44 : Int).toNat)] rfl (by (try simp only [List.map_toArray, List.map_cons, List.map_nil]); first | done | (simp only [hji54]; rfl) | rfl | (simp only [List.length_drop, List.length_take]; rfl)) ?_; (with_reducible refine (swarfref41_Value.calls kj44 (a0.extract ((ji54) : Int).toNat (x11_44 : Int).toNat) t131 t132 _ A58.out).mono ?_); rintro e w' ⟨rfl, ⟨nd, rfl⟩⟩; refine ⟨_, rfl, ?_⟩; (try (rw [drewN_self wc]; generalize hq_ : World.drewN wc _ = wc; have n0_ : Aside0 (Kd.R k78 78 wc w.heap.size (fun _ => True) (.slice Ao48 x127001_3.length co48) x127001_3) := ⟨by rw [← hq_]; exact (by (with_reducible repeat (first | apply Kd.R_alloc | apply Kd.R_drewN | apply Kd.R_drew)); exact HO_127001.out)⟩; have n1_ : Aside0 (wc.heap[gb125]? = some (.cells #[.bool x126000_3, .slice none 0 0, .string x126002_3] 32 (0, 0))) := ⟨by rw [← hq_]; exact (by (with_reducible repeat (first | refine blk_drewN ?_ _ | refine blk_drew ?_ | refine blk_alloc ?_ _)); exact BK125.out)⟩; have n2_ : Aside0 (wc.heap[gb126]? = some (.cells #[.bool x127000_10, .slice Ao48 x127001_3.length co48, .string x127002_3] 32 (0, 0))) := ⟨by rw [← hq_]; exact (by (with_reducible repeat (first | refine blk_drewN ?_ _ | refine blk_drew ?_ | refine blk_alloc ?_ _)); exact BK126.out)⟩; have n3_ : Aside0 (Below w.heap.size w wc) := ⟨by rw [← hq_]; exact (by repeat (first | (with_reducible first | exact HB.out | apply below_alloc | apply pw_below_drewN | apply below_drew1 | refine below_set ?_ GE125.out | refine below_set ?_ GE126.out) | exact HB.out))⟩; clear HO_127001 BK125 BK126 HB hq_; have HO_127001 := n0_; have BK125 := n1_; have BK126 := n2_; have HB := n3_; clear n0_ n1_ n2_ n3_))))
                                have n0_ := Aside0.mk (Kd.R_drew HO_127001.out)
                                have n1_ := Aside0.mk (blk_drew BK125.out)
                                have n2_ := Aside0.mk (blk_drew BK126.out)
                                have n3_ := Aside0.mk (below_drew1 HB.out)
                                clear HO_127001
                                clear BK125
                                clear BK126
                                clear HB
                                have HO_127001 := n0_
                                have BK125 := n1_
                                have BK126 := n2_
                                have HB := n3_
                                clear n0_ n1_ n2_ n3_
                                have p62 : 0 ≤ (x6_3 : Int) := of_decide_eq_true (by first | (with_reducible assumption) | assumption)
                                have q62 : x6_3 < (a0.size : Int) := of_decide_eq_true (by first | (with_reducible assumption) | assumption)
                                have hx62 := bt_at a0 x6_3
                                replace p62 := eq_true p62
                                replace q62 := eq_true q62
                                refine start_ (n := 11) (S := fun w' => w'.cell? ⟨gb126, 0, none⟩ = some (.bool x127000_10) ∧ w'.cell? ⟨gb126, 1, none⟩ = some (.slice Ao48 x127001_3.length co48) ∧ w'.cell? ⟨gb126, 2, none⟩ = some (.string x127002_3)) (ds := [10]) #[false, false, false, false, false, false, false, false, false, false, false] (by kernel_rfl) rfl rfl ⟨(blk_cell BK126.out 0).trans rfl, (blk_cell BK126.out 1).trans rfl, (blk_cell BK126.out 2).trans rfl⟩ (fun hHeld => ?_); refine with_tabW swarfref41_Parse.tab28 swarfref41_Parse.bits28 (fun HT_ HW_ => ?_)
                                generalize wc.drew = w76 at HO_127001 BK125 BK126 HB hHeld ⊢
                                refine pure_ (i := 0) (N := some 105) (v := ?_) (a' := ?_) #[true, false, false, false, false, false, false, false, false, false, false] rfl rfl (any_of HT_.out (by kernel_rfl)) (fun _ _ _ h => h) (Or.inl ⟨by rfl, ?_⟩) ?_ ?_
                                rotate_left
                                ·intro w'
                                 go_simp
                                 with_reducible rfl
                                rotate_left
                                ·simp only [Act.put, List.setIfInBounds_toArray, List.set_cons_zero, List.set_cons_succ, i64_w, i32_w]
                                 rfl
                                refine pure_ (i := 2) (N := some 107) (v := ?_) (a' := ?_) #[true, false, true, false, false, false, false, false, false, false, false] rfl rfl (any_of HT_.out (by kernel_rfl)) (fun _ _ _ h => h) (Or.inl ⟨by rfl, ?_⟩) ?_ ?_
                                rotate_left
                                ·intro w'
                                 go_simp
                                 with_reducible rfl
                                rotate_left
                                ·simp only [Act.put, List.setIfInBounds_toArray, List.set_cons_zero, List.set_cons_succ, i64_w, i32_w]
                                 rfl
                                refine pure_ (i := 3) (N := some 108) (v := ?_) (a' := ?_) #[true, false, true, true, false, false, false, false, false, false, false] rfl rfl (any_of HT_.out (by kernel_rfl)) (fun _ _ _ h => h) (Or.inl ⟨by rfl, ?_⟩) ?_ ?_
                                rotate_left
                                ·intro w'
                                 go_simp
                                 with_reducible rfl
                                rotate_left
                                ·simp only [Act.put, List.setIfInBounds_toArray, List.set_cons_zero, List.set_cons_succ, i64_w, i32_w]
                                 rfl
                                refine pure_ (i := 5) (N := some 110) (v := ?_) (a' := ?_) #[true, false, true, true, false, true, false, false, false, false, false] rfl rfl (any_of HT_.out (by kernel_rfl)) (fun _ _ _ h => h) (Or.inl ⟨by rfl, ?_⟩) ?_ ?_
                                rotate_left
                                ·intro w'
                                 go_simp
                                 with_reducible rfl
                                rotate_left
                                ·simp only [Act.put, List.setIfInBounds_toArray, List.set_cons_zero, List.set_cons_succ, i64_w, i32_w]
                                 rfl
                                refine take_ (i := 1) (N := some 106) (v := ?_) (a' := ?_) #[true, true, true, true, false, true, false, false, false, false, false] rfl rfl (take_ofW HT_.out HW_.out (by kernel_rfl)) (fun _ _ _ h => h) (Or.inl ⟨by rfl, ?_⟩) hHeld ?_ ?_
                                rotate_left
                                ·rintro w' ⟨s0, s1, s2⟩
                                 go_simp
                                 with_reducible rfl
                                rotate_left
                                ·simp only [Act.put, List.setIfInBounds_toArray, List.set_cons_zero, List.set_cons_succ, i64_w, i32_w]
                                 rfl
                                refine take_ (i := 4) (N := some 109) (v := ?_) (a' := ?_) #[true, true, true, true, true, true, false, false, false, false, false] rfl rfl (take_ofW HT_.out HW_.out (by kernel_rfl)) (fun _ _ _ h => h) (Or.inl ⟨by rfl, ?_⟩) hHeld ?_ ?_
                                rotate_left
                                ·rintro w' ⟨s0, s1, s2⟩
                                 go_simp
                                 with_reducible rfl
                                rotate_left
                                ·simp only [Act.put, List.setIfInBounds_toArray, List.set_cons_zero, List.set_cons_succ, i64_w, i32_w]
                                 rfl
                                refine pure_ (i := 6) (N := some 111) (v := ?_) (a' := ?_) #[true, true, true, true, true, true, true, false, false, false, false] rfl rfl (any_of HT_.out (by kernel_rfl)) (fun _ _ _ h => h) (Or.inl ⟨by rfl, ?_⟩) ?_ ?_
                                rotate_left
                                ·intro w'
                                 go_simp
                                 with_reducible rfl
                                rotate_left
                                ·simp only [Act.put, List.setIfInBounds_toArray, List.set_cons_zero, List.set_cons_succ, i64_w, i32_w]
                                 rfl
                                refine one_ (i := 7) (N := some 112) #[true, true, true, true, true, true, true, true, false, false, false] rfl rfl (one_of HT_.out (by kernel_rfl)) (by decide) (fun K hK => ?_)
                                refine value_ (w1 := ?_) (v := ?_) (by rfl) rfl ?_ ?_
                                rotate_left 2
                                ·go_simp
                                 constructor
                                 ·rfl
                                 ·rfl
                                refine hK.out _ _ ⟨(blk_cell (blk_alloc BK126.out _) 0).trans rfl, (blk_cell (blk_alloc BK126.out _) 1).trans rfl, (blk_cell (blk_alloc BK126.out _) 2).trans rfl⟩ (fun hHeld => ?_)
                                clear hK K
                                refine norm_ (a' := ?_) ?_ ?_
                                rotate_left
                                ·show Act.put _ (some 112) _ = _
                                 simp only [Act.put, List.setIfInBounds_toArray, List.set_cons_zero, List.set_cons_succ, i64_w, i32_w]
                                 rfl
                                refine one_ (i := 8) (N := some 113) #[true, true, true, true, true, true, true, true, true, false, false] rfl rfl (one_of HT_.out (by kernel_rfl)) (by decide) (fun K hK => ?_)
                                refine Kd.R_append_step k78 (w0 := w) w.heap.size (by rfl) (.tmp 106) (.tmp 112) 30 78 (.agg #[(.int .u8 0), (.int .i64 0)]) 16 rfl Try.underlying30 info78 rfl (by decide) (by omega) (.slice Ao48 x127001_3.length co48) x127001_3 (⟨bt a0 x6_3, t131⟩ : S78) [.int .u8 (bt a0 x6_3), .int .i64 t131] (fun _ => True) (fun _ => False) rfl rfl ?aP (fun _ hk => hk.elim) ?aF ?aO ?aB ?aS ?aL ?_
                                (case aP => exact k78_mkM _ _ _ (⟨bt a0 x6_3, t131⟩ : S78))
                                (case aB => exact (by repeat (first | (with_reducible first | exact HB.out | apply below_alloc | apply pw_below_drewN | apply below_drew1 | refine below_set ?_ GE125.out | refine below_set ?_ GE126.out) | exact HB.out)))
                                (case aF => exact (fun _ _ => trivial))
                                (case aO => exact (by (with_reducible repeat (first | apply Kd.R_alloc | apply Kd.R_drewN | apply Kd.R_drew)); exact HO_127001.out))
                                (case aS => exact (below_size (by repeat (first | (with_reducible first | exact HB.out | apply below_alloc | apply pw_below_drewN | apply below_drew1 | refine below_set ?_ GE125.out | refine below_set ?_ GE126.out) | exact HB.out))))
                                (case aL => have := LMc63.out; omega)
                                intro v134 w77 ho hb hg hat
                                rw [← Ny133.out] at ho
                                have n0_ := Aside0.mk (blk_grown (g := gb125) (o := .cells #[.bool x126000_3, .slice none 0 0, .string x126002_3] 32 (0, 0)) (by (with_reducible repeat (first | refine blk_drewN ?_ _ | refine blk_drew ?_ | refine blk_alloc ?_ _)); exact BK125.out) hg (Kd.R_ne HO_127001.out BK125.out (by decide)))
                                have n1_ := Aside0.mk (blk_grown (g := gb126) (o := .cells #[.bool x127000_10, .slice Ao48 x127001_3.length co48, .string x127002_3] 32 (0, 0)) (by (with_reducible repeat (first | refine blk_drewN ?_ _ | refine blk_drew ?_ | refine blk_alloc ?_ _)); exact BK126.out) hg (Kd.R_ne HO_127001.out BK126.out (by decide)))
                                have n2_ := Aside0.mk (hb)
                                have n3_ := Aside0.mk (ho)
                                clear BK125
                                clear BK126
                                clear HB
                                clear HO_127001
                                have BK125 := n0_
                                have BK126 := n1_
                                have HB := n2_
                                have HO135 := n3_
                                clear n0_ n1_ n2_ n3_
                                clear ho hb hg hat
                                obtain ⟨Ao78, co78, eo78⟩ := Kd.R_slice HO135.out
                                (first | subst eo78 | (injection eo78 with f1_ f2_ f3_; have f4_ := f1_.symm; have f5_ := f3_.symm; clear f1_ f2_ f3_; subst f4_; subst f5_))
                                refine hK.out _ _ ⟨(blk_cell BK126.out 0).trans rfl, (blk_cell BK126.out 1).trans rfl, (blk_cell BK126.out 2).trans rfl⟩ (fun hHeld => ?_)
                                clear hK K
                                refine norm_ (a' := ?_) ?_ ?_
                                rotate_left
                                ·show Act.put _ (some 113) _ = _
                                 simp only [Act.put, List.setIfInBounds_toArray, List.set_cons_zero, List.set_cons_succ, i64_w, i32_w]
                                 rfl
                                refine pure_ (i := 9) (N := some 114) (v := ?_) (a' := ?_) #[true, true, true, true, true, true, true, true, true, true, false] rfl rfl (any_of HT_.out (by kernel_rfl)) (fun _ _ _ h => h) (Or.inl ⟨by rfl, ?_⟩) ?_ ?_
                                rotate_left
                                ·intro w'
                                 go_simp
                                 with_reducible rfl
                                rotate_left
                                ·simp only [Act.put, List.setIfInBounds_toArray, List.set_cons_zero, List.set_cons_succ, i64_w, i32_w]
                                 rfl
                                refine last_ (i := 10) (N := none) #[true, true, true, true, true, true, true, true, true, true, true] rfl rfl (one_of HT_.out (by kernel_rfl)) (by decide) (fun K hK => ?_)
                                have hs79 : w77.cell? ⟨gb126, 1, none⟩ = some (.slice Ao48 x127001_3.length co48) := (blk_cell BK126.out 1).trans rfl
                                have hfs79 := blk_frozen BK126.out 1
                                have hns79_0 := NB125_126.out
                                have hms79_0 := NB126_125.out
                                refine skip_ (w1 := ?_) (by rfl) rfl ?_ ?_
                                rotate_left
                                ·go_simp
                                 rfl
                                refine hK.out _ _ ?_
                                clear hK K
                                refine done_ (done_of HT_.out (by kernel_rfl)) ?_
                                have p74 : 0 ≤ (x11_44 : Int) := of_decide_eq_true (by first | (with_reducible assumption) | assumption)
                                have q74 : x11_44 < (a0.size : Int) := of_decide_eq_true (by first | (with_reducible assumption) | assumption)
                                have hx74 := bt_at a0 x11_44
                                replace p74 := eq_true p74
                                replace q74 := eq_true q74
                                try go_wp2
                                go_roundg kj44
                                case measure => have := HJ4.out; have := HJ10.out; have := HK3.out; have := HJ14.out; have := HJ32.out; have := HJ44.out; omega
                                case rel => exact ⟨(wrap64 (x11_44 + 1)), (false), (x126000_3), (x126002_3), (y133), (x127002_3), (.slice Ao78 y133.length co78), (by first | rfl | (simp; done) | (simp [*]; done)), (by first | rfl | (simp; done) | (simp [*]; done)), H', ⟨by have := HJ4.out; have := HJ10.out; have := HK3.out; have := HJ14.out; have := HJ32.out; have := HJ44.out; omega⟩, ⟨by (with_reducible repeat (first | apply Kd.R_alloc | apply Kd.R_drewN | apply Kd.R_drew)); exact Kd.R_mono (Kd.R_far (p := ⟨gb126, 1, none⟩) (Kd.R_types HO135.out BK126.out (by decide)) (fun _ hk => hk.2) (.slice Ao78 y133.length co78)) (fun _ hk => trivial)⟩, ⟨by (with_reducible repeat (first | refine blk_drewN ?_ _ | refine blk_drew ?_ | refine blk_alloc ?_ _)); refine blk_far ?_ NB125_126.out _; (with_reducible repeat (first | refine blk_drewN ?_ _ | refine blk_drew ?_ | refine blk_alloc ?_ _)); exact BK125.out⟩, ⟨by (with_reducible repeat (first | refine blk_drewN ?_ _ | refine blk_drew ?_ | refine blk_alloc ?_ _)); refine blk_put (cs := #[.bool x127000_10, .slice Ao48 x127001_3.length co48, .string x127002_3]) ?_ 1 _ rfl; (with_reducible repeat (first | refine blk_drewN ?_ _ | refine blk_drew ?_ | refine blk_alloc ?_ _)); exact BK126.out⟩, ⟨by repeat (first | (with_reducible first | exact HB.out | apply below_alloc | apply pw_below_drewN | apply below_drew1 | refine below_set ?_ GE125.out | refine below_set ?_ GE126.out) | exact HB.out)⟩⟩
                               ·rw [if_neg c75] at H
                                have c75b0 : ((bt a0 x11_44) == 32) = false := beq_eq_false_iff_ne.mpr c75
                                have c75b1 : ((bt a0 x11_44) != 32) = true := bne_iff_ne.mpr c75
                                simp only [Option.some.injEq, Prod.mk.injEq] at H
                                obtain ⟨rfl, rfl, rfl, rfl, rfl⟩ := H
                                try go_wp2_with (first | ((with_reducible refine gate_callee (f := 107) rfl ?_); refine goesL_ (some 97) rfl rfl Try.func107 (by kernel_rfl) rfl #[.string (a0.extract ((ji54) : Int).toNat (x11_44 : Int).toNat)] rfl (by (try simp only [List.map_toArray, List.map_cons, List.map_nil]); first | done | (simp only [hji54]; rfl) | rfl | (simp only [List.length_drop, List.length_take]; rfl)) ?_; (with_reducible refine (swarfref41_Value.calls kj44 (a0.extract ((ji54) : Int).toNat (x11_44 : Int).toNat) t131 t132 _ A58.out).mono ?_); rintro e w' ⟨rfl, ⟨nd, rfl⟩⟩; refine ⟨_, rfl, ?_⟩; (try (rw [drewN_self wc]; generalize hq_ : World.drewN wc _ = wc; have n0_ : Aside0 (Kd.R k78 78 wc w.heap.size (fun _ => True) (.slice Ao48 x127001_3.length co48) x127001_3) := ⟨by rw [← hq_]; exact (by (with_reducible repeat (first | apply Kd.R_alloc | apply Kd.R_drewN | apply Kd.R_drew)); exact HO_127001.out)⟩; have n1_ : Aside0 (wc.heap[gb125]? = some (.cells #[.bool x126000_3, .slice none 0 0, .string x126002_3] 32 (0, 0))) := ⟨by rw [← hq_]; exact (by (with_reducible repeat (first | refine blk_drewN ?_ _ | refine blk_drew ?_ | refine blk_alloc ?_ _)); exact BK125.out)⟩; have n2_ : Aside0 (wc.heap[gb126]? = some (.cells #[.bool x127000_10, .slice Ao48 x127001_3.length co48, .string x127002_3] 32 (0, 0))) := ⟨by rw [← hq_]; exact (by (with_reducible repeat (first | refine blk_drewN ?_ _ | refine blk_drew ?_ | refine blk_alloc ?_ _)); exact BK126.out)⟩; have n3_ : Aside0 (Below w.heap.size w wc) := ⟨by rw [← hq_]; exact (by repeat (first | (with_reducible first | exact HB.out | apply below_alloc | apply pw_below_drewN | apply below_drew1 | refine below_set ?_ GE125.out | refine below_set ?_ GE126.out) | exact HB.out))⟩; clear HO_127001 BK125 BK126 HB hq_; have HO_127001 := n0_; have BK125 := n1_; have BK126 := n2_; have HB := n3_; clear n0_ n1_ n2_ n3_))))
                                have n0_ := Aside0.mk (Kd.R_drew HO_127001.out)
                                have n1_ := Aside0.mk (blk_drew BK125.out)
                                have n2_ := Aside0.mk (blk_drew BK126.out)
                                have n3_ := Aside0.mk (below_drew1 HB.out)
                                clear HO_127001
                                clear BK125
                                clear BK126
                                clear HB
                                have HO_127001 := n0_
                                have BK125 := n1_
                                have BK126 := n2_
                                have HB := n3_
                                clear n0_ n1_ n2_ n3_
                                have p62 : 0 ≤ (x6_3 : Int) := of_decide_eq_true (by first | (with_reducible assumption) | assumption)
                                have q62 : x6_3 < (a0.size : Int) := of_decide_eq_true (by first | (with_reducible assumption) | assumption)
                                have hx62 := bt_at a0 x6_3
                                replace p62 := eq_true p62
                                replace q62 := eq_true q62
                                refine start_ (n := 11) (S := fun w' => w'.cell? ⟨gb126, 0, none⟩ = some (.bool x127000_10) ∧ w'.cell? ⟨gb126, 1, none⟩ = some (.slice Ao48 x127001_3.length co48) ∧ w'.cell? ⟨gb126, 2, none⟩ = some (.string x127002_3)) (ds := [10]) #[false, false, false, false, false, false, false, false, false, false, false] (by kernel_rfl) rfl rfl ⟨(blk_cell BK126.out 0).trans rfl, (blk_cell BK126.out 1).trans rfl, (blk_cell BK126.out 2).trans rfl⟩ (fun hHeld => ?_); refine with_tabW swarfref41_Parse.tab28 swarfref41_Parse.bits28 (fun HT_ HW_ => ?_)
                                generalize wc.drew = w80 at HO_127001 BK125 BK126 HB hHeld ⊢
                                refine pure_ (i := 0) (N := some 105) (v := ?_) (a' := ?_) #[true, false, false, false, false, false, false, false, false, false, false] rfl rfl (any_of HT_.out (by kernel_rfl)) (fun _ _ _ h => h) (Or.inl ⟨by rfl, ?_⟩) ?_ ?_
                                rotate_left
                                ·intro w'
                                 go_simp
                                 with_reducible rfl
                                rotate_left
                                ·simp only [Act.put, List.setIfInBounds_toArray, List.set_cons_zero, List.set_cons_succ, i64_w, i32_w]
                                 rfl
                                refine pure_ (i := 2) (N := some 107) (v := ?_) (a' := ?_) #[true, false, true, false, false, false, false, false, false, false, false] rfl rfl (any_of HT_.out (by kernel_rfl)) (fun _ _ _ h => h) (Or.inl ⟨by rfl, ?_⟩) ?_ ?_
                                rotate_left
                                ·intro w'
                                 go_simp
                                 with_reducible rfl
                                rotate_left
                                ·simp only [Act.put, List.setIfInBounds_toArray, List.set_cons_zero, List.set_cons_succ, i64_w, i32_w]
                                 rfl
                                refine pure_ (i := 3) (N := some 108) (v := ?_) (a' := ?_) #[true, false, true, true, false, false, false, false, false, false, false] rfl rfl (any_of HT_.out (by kernel_rfl)) (fun _ _ _ h => h) (Or.inl ⟨by rfl, ?_⟩) ?_ ?_
                                rotate_left
                                ·intro w'
                                 go_simp
                                 with_reducible rfl
                                rotate_left
                                ·simp only [Act.put, List.setIfInBounds_toArray, List.set_cons_zero, List.set_cons_succ, i64_w, i32_w]
                                 rfl
                                refine pure_ (i := 5) (N := some 110) (v := ?_) (a' := ?_) #[true, false, true, true, false, true, false, false, false, false, false] rfl rfl (any_of HT_.out (by kernel_rfl)) (fun _ _ _ h => h) (Or.inl ⟨by rfl, ?_⟩) ?_ ?_
                                rotate_left
                                ·intro w'
                                 go_simp
                                 with_reducible rfl
                                rotate_left
                                ·simp only [Act.put, List.setIfInBounds_toArray, List.set_cons_zero, List.set_cons_succ, i64_w, i32_w]
                                 rfl
                                refine take_ (i := 1) (N := some 106) (v := ?_) (a' := ?_) #[true, true, true, true, false, true, false, false, false, false, false] rfl rfl (take_ofW HT_.out HW_.out (by kernel_rfl)) (fun _ _ _ h => h) (Or.inl ⟨by rfl, ?_⟩) hHeld ?_ ?_
                                rotate_left
                                ·rintro w' ⟨s0, s1, s2⟩
                                 go_simp
                                 with_reducible rfl
                                rotate_left
                                ·simp only [Act.put, List.setIfInBounds_toArray, List.set_cons_zero, List.set_cons_succ, i64_w, i32_w]
                                 rfl
                                refine take_ (i := 4) (N := some 109) (v := ?_) (a' := ?_) #[true, true, true, true, true, true, false, false, false, false, false] rfl rfl (take_ofW HT_.out HW_.out (by kernel_rfl)) (fun _ _ _ h => h) (Or.inl ⟨by rfl, ?_⟩) hHeld ?_ ?_
                                rotate_left
                                ·rintro w' ⟨s0, s1, s2⟩
                                 go_simp
                                 with_reducible rfl
                                rotate_left
                                ·simp only [Act.put, List.setIfInBounds_toArray, List.set_cons_zero, List.set_cons_succ, i64_w, i32_w]
                                 rfl
                                refine pure_ (i := 6) (N := some 111) (v := ?_) (a' := ?_) #[true, true, true, true, true, true, true, false, false, false, false] rfl rfl (any_of HT_.out (by kernel_rfl)) (fun _ _ _ h => h) (Or.inl ⟨by rfl, ?_⟩) ?_ ?_
                                rotate_left
                                ·intro w'
                                 go_simp
                                 with_reducible rfl
                                rotate_left
                                ·simp only [Act.put, List.setIfInBounds_toArray, List.set_cons_zero, List.set_cons_succ, i64_w, i32_w]
                                 rfl
                                refine one_ (i := 7) (N := some 112) #[true, true, true, true, true, true, true, true, false, false, false] rfl rfl (one_of HT_.out (by kernel_rfl)) (by decide) (fun K hK => ?_)
                                refine value_ (w1 := ?_) (v := ?_) (by rfl) rfl ?_ ?_
                                rotate_left 2
                                ·go_simp
                                 constructor
                                 ·rfl
                                 ·rfl
                                refine hK.out _ _ ⟨(blk_cell (blk_alloc BK126.out _) 0).trans rfl, (blk_cell (blk_alloc BK126.out _) 1).trans rfl, (blk_cell (blk_alloc BK126.out _) 2).trans rfl⟩ (fun hHeld => ?_)
                                clear hK K
                                refine norm_ (a' := ?_) ?_ ?_
                                rotate_left
                                ·show Act.put _ (some 112) _ = _
                                 simp only [Act.put, List.setIfInBounds_toArray, List.set_cons_zero, List.set_cons_succ, i64_w, i32_w]
                                 rfl
                                refine one_ (i := 8) (N := some 113) #[true, true, true, true, true, true, true, true, true, false, false] rfl rfl (one_of HT_.out (by kernel_rfl)) (by decide) (fun K hK => ?_)
                                refine Kd.R_append_step k78 (w0 := w) w.heap.size (by rfl) (.tmp 106) (.tmp 112) 30 78 (.agg #[(.int .u8 0), (.int .i64 0)]) 16 rfl Try.underlying30 info78 rfl (by decide) (by omega) (.slice Ao48 x127001_3.length co48) x127001_3 (⟨bt a0 x6_3, t131⟩ : S78) [.int .u8 (bt a0 x6_3), .int .i64 t131] (fun _ => True) (fun _ => False) rfl rfl ?aP (fun _ hk => hk.elim) ?aF ?aO ?aB ?aS ?aL ?_
                                (case aP => exact k78_mkM _ _ _ (⟨bt a0 x6_3, t131⟩ : S78))
                                (case aB => exact (by repeat (first | (with_reducible first | exact HB.out | apply below_alloc | apply pw_below_drewN | apply below_drew1 | refine below_set ?_ GE125.out | refine below_set ?_ GE126.out) | exact HB.out)))
                                (case aF => exact (fun _ _ => trivial))
                                (case aO => exact (by (with_reducible repeat (first | apply Kd.R_alloc | apply Kd.R_drewN | apply Kd.R_drew)); exact HO_127001.out))
                                (case aS => exact (below_size (by repeat (first | (with_reducible first | exact HB.out | apply below_alloc | apply pw_below_drewN | apply below_drew1 | refine below_set ?_ GE125.out | refine below_set ?_ GE126.out) | exact HB.out))))
                                (case aL => have := LMc63.out; omega)
                                intro v134 w81 ho hb hg hat
                                rw [← Ny133.out] at ho
                                have n0_ := Aside0.mk (blk_grown (g := gb125) (o := .cells #[.bool x126000_3, .slice none 0 0, .string x126002_3] 32 (0, 0)) (by (with_reducible repeat (first | refine blk_drewN ?_ _ | refine blk_drew ?_ | refine blk_alloc ?_ _)); exact BK125.out) hg (Kd.R_ne HO_127001.out BK125.out (by decide)))
                                have n1_ := Aside0.mk (blk_grown (g := gb126) (o := .cells #[.bool x127000_10, .slice Ao48 x127001_3.length co48, .string x127002_3] 32 (0, 0)) (by (with_reducible repeat (first | refine blk_drewN ?_ _ | refine blk_drew ?_ | refine blk_alloc ?_ _)); exact BK126.out) hg (Kd.R_ne HO_127001.out BK126.out (by decide)))
                                have n2_ := Aside0.mk (hb)
                                have n3_ := Aside0.mk (ho)
                                clear BK125
                                clear BK126
                                clear HB
                                clear HO_127001
                                have BK125 := n0_
                                have BK126 := n1_
                                have HB := n2_
                                have HO135 := n3_
                                clear n0_ n1_ n2_ n3_
                                clear ho hb hg hat
                                obtain ⟨Ao82, co82, eo82⟩ := Kd.R_slice HO135.out
                                (first | subst eo82 | (injection eo82 with f1_ f2_ f3_; have f4_ := f1_.symm; have f5_ := f3_.symm; clear f1_ f2_ f3_; subst f4_; subst f5_))
                                refine hK.out _ _ ⟨(blk_cell BK126.out 0).trans rfl, (blk_cell BK126.out 1).trans rfl, (blk_cell BK126.out 2).trans rfl⟩ (fun hHeld => ?_)
                                clear hK K
                                refine norm_ (a' := ?_) ?_ ?_
                                rotate_left
                                ·show Act.put _ (some 113) _ = _
                                 simp only [Act.put, List.setIfInBounds_toArray, List.set_cons_zero, List.set_cons_succ, i64_w, i32_w]
                                 rfl
                                refine pure_ (i := 9) (N := some 114) (v := ?_) (a' := ?_) #[true, true, true, true, true, true, true, true, true, true, false] rfl rfl (any_of HT_.out (by kernel_rfl)) (fun _ _ _ h => h) (Or.inl ⟨by rfl, ?_⟩) ?_ ?_
                                rotate_left
                                ·intro w'
                                 go_simp
                                 with_reducible rfl
                                rotate_left
                                ·simp only [Act.put, List.setIfInBounds_toArray, List.set_cons_zero, List.set_cons_succ, i64_w, i32_w]
                                 rfl
                                refine last_ (i := 10) (N := none) #[true, true, true, true, true, true, true, true, true, true, true] rfl rfl (one_of HT_.out (by kernel_rfl)) (by decide) (fun K hK => ?_)
                                have hs83 : w81.cell? ⟨gb126, 1, none⟩ = some (.slice Ao48 x127001_3.length co48) := (blk_cell BK126.out 1).trans rfl
                                have hfs83 := blk_frozen BK126.out 1
                                have hns83_0 := NB125_126.out
                                have hms83_0 := NB126_125.out
                                refine skip_ (w1 := ?_) (by rfl) rfl ?_ ?_
                                rotate_left
                                ·go_simp
                                 rfl
                                refine hK.out _ _ ?_
                                clear hK K
                                refine done_ (done_of HT_.out (by kernel_rfl)) ?_
                                have p74 : 0 ≤ (x11_44 : Int) := of_decide_eq_true (by first | (with_reducible assumption) | assumption)
                                have q74 : x11_44 < (a0.size : Int) := of_decide_eq_true (by first | (with_reducible assumption) | assumption)
                                have hx74 := bt_at a0 x11_44
                                replace p74 := eq_true p74
                                replace q74 := eq_true q74
                                have hnb84 := NB125_126.out
                                have hnc84 := NB126_125.out
                                have hcz85_0 : w81.cell? ⟨gb125, 0, none⟩ = some (.bool x126000_3) := (blk_cell BK125.out 0).trans rfl
                                have hcz85_1 : w81.cell? ⟨gb125, 1, none⟩ = some (.slice none 0 0) := (blk_cell BK125.out 1).trans rfl
                                have hcz85_2 : w81.cell? ⟨gb125, 2, none⟩ = some (.string x126002_3) := (blk_cell BK125.out 2).trans rfl
                                have hfz85_0 := blk_frozen BK125.out 0
                                have hfz85_1 := blk_frozen BK125.out 1
                                have hfz85_2 := blk_frozen BK125.out 2
                                try go_wp2
                                refine bodyPost_ret (results_ctt rfl _ _ gb125 32 #[.bool false, .slice none 0 0, .string (⟨#[]⟩ : ByteArray)] (0, 0) _ rfl (by (with_reducible repeat (first | refine blk_drewN ?_ _ | refine blk_drew ?_ | refine blk_alloc ?_ _)); refine blk_put (cs := #[.bool false, .slice none 0 0, .string x126002_3]) ?_ 2 _ rfl; (with_reducible repeat (first | refine blk_drewN ?_ _ | refine blk_drew ?_ | refine blk_alloc ?_ _)); refine blk_put (cs := #[.bool false, .slice none 0 0, .string x126002_3]) ?_ 1 _ rfl; (with_reducible repeat (first | refine blk_drewN ?_ _ | refine blk_drew ?_ | refine blk_alloc ?_ _)); refine blk_put (cs := #[.bool x126000_3, .slice none 0 0, .string x126002_3]) ?_ 0 _ rfl; (with_reducible repeat (first | refine blk_drewN ?_ _ | refine blk_drew ?_ | refine blk_alloc ?_ _)); refine blk_far ?_ NB125_126.out _; (with_reducible repeat (first | refine blk_drewN ?_ _ | refine blk_drew ?_ | refine blk_alloc ?_ _)); exact BK125.out) Try.underlying32 rfl (by kernel_rfl)) rfl ?_
                                exact ⟨_, by first | rfl | (simp [errW_none, errW_some] <;> rfl) | (simp only [← hji54]; first | rfl | (simp [errW_none, errW_some] <;> rfl)) | (simp [*, errW_none, errW_some] <;> rfl), by first | exact Kd.R_nil _ _ _ _ _ | exact Kd.N_nil _ _ _ _ _ | exact Kd.V_nil _ _ _ _ _ | exact Kd.Q_nil _ _ _ _ _ | exact Kd.S_nil _ _ _ _ _, by repeat (first | (with_reducible first | exact HB.out | apply below_alloc | apply pw_below_drewN | apply below_drew1 | refine below_set ?_ GE125.out | refine below_set ?_ GE126.out) | exact HB.out)⟩
                              ·rw [if_neg c73] at H
                               exact absurd H (by simp)
                             ·rw [if_neg c72] at H
                              exact absurd H (by simp)
                           ·rw [if_neg c63] at H
                            exact absurd H (by simp)
                          ·rw [if_neg c61] at H
                           exact absurd H (by simp)
                         ·rw [if_neg c60] at H
                          exact absurd H (by simp)
                        ·rw [if_neg c59] at H
                         have c59b0 : (t132 == 0) = false := beq_eq_false_iff_ne.mpr c59
                         have c59b1 : (t132 != 0) = true := bne_iff_ne.mpr c59
                         simp only [Option.some.injEq, Prod.mk.injEq] at H
                         obtain ⟨rfl, rfl, rfl, rfl, rfl⟩ := H
                         go_wp2_with (first | ((with_reducible refine gate_callee (f := 107) rfl ?_); refine goesL_ (some 97) rfl rfl Try.func107 (by kernel_rfl) rfl #[.string (a0.extract ((ji54) : Int).toNat (x11_44 : Int).toNat)] rfl (by (try simp only [List.map_toArray, List.map_cons, List.map_nil]); first | done | (simp only [hji54]; rfl) | rfl | (simp only [List.length_drop, List.length_take]; rfl)) ?_; (with_reducible refine (swarfref41_Value.calls kj44 (a0.extract ((ji54) : Int).toNat (x11_44 : Int).toNat) t131 t132 _ A58.out).mono ?_); rintro e w' ⟨rfl, ⟨nd, rfl⟩⟩; refine ⟨_, rfl, ?_⟩; (try (rw [drewN_self wc]; generalize hq_ : World.drewN wc _ = wc; have n0_ : Aside0 (Kd.R k78 78 wc w.heap.size (fun _ => True) (.slice Ao48 x127001_3.length co48) x127001_3) := ⟨by rw [← hq_]; exact (by (with_reducible repeat (first | apply Kd.R_alloc | apply Kd.R_drewN | apply Kd.R_drew)); exact HO_127001.out)⟩; have n1_ : Aside0 (wc.heap[gb125]? = some (.cells #[.bool x126000_3, .slice none 0 0, .string x126002_3] 32 (0, 0))) := ⟨by rw [← hq_]; exact (by (with_reducible repeat (first | refine blk_drewN ?_ _ | refine blk_drew ?_ | refine blk_alloc ?_ _)); exact BK125.out)⟩; have n2_ : Aside0 (wc.heap[gb126]? = some (.cells #[.bool x127000_10, .slice Ao48 x127001_3.length co48, .string x127002_3] 32 (0, 0))) := ⟨by rw [← hq_]; exact (by (with_reducible repeat (first | refine blk_drewN ?_ _ | refine blk_drew ?_ | refine blk_alloc ?_ _)); exact BK126.out)⟩; have n3_ : Aside0 (Below w.heap.size w wc) := ⟨by rw [← hq_]; exact (by repeat (first | (with_reducible first | exact HB.out | apply below_alloc | apply pw_below_drewN | apply below_drew1 | refine below_set ?_ GE125.out | refine below_set ?_ GE126.out) | exact HB.out))⟩; clear HO_127001 BK125 BK126 HB hq_; have HO_127001 := n0_; have BK125 := n1_; have BK126 := n2_; have HB := n3_; clear n0_ n1_ n2_ n3_)); have hnb86 := NB125_126.out; have hnc86 := NB126_125.out; have hcz87_0 : wc.cell? ⟨gb125, 0, none⟩ = some (.bool x126000_3) := (blk_cell BK125.out 0).trans rfl; have hcz87_1 : wc.cell? ⟨gb125, 1, none⟩ = some (.slice none 0 0) := (blk_cell BK125.out 1).trans rfl; have hcz87_2 : wc.cell? ⟨gb125, 2, none⟩ = some (.string x126002_3) := (blk_cell BK125.out 2).trans rfl; have hfz87_0 := blk_frozen BK125.out 0; have hfz87_1 := blk_frozen BK125.out 1; have hfz87_2 := blk_frozen BK125.out 2))
                         refine bodyPost_ret (results_ctt rfl _ _ gb125 32 #[.bool false, .slice none 0 0, .string (⟨#[]⟩ : ByteArray)] (0, 0) _ rfl (by (with_reducible repeat (first | refine blk_drewN ?_ _ | refine blk_drew ?_ | refine blk_alloc ?_ _)); refine blk_put (cs := #[.bool false, .slice none 0 0, .string x126002_3]) ?_ 2 _ rfl; (with_reducible repeat (first | refine blk_drewN ?_ _ | refine blk_drew ?_ | refine blk_alloc ?_ _)); refine blk_put (cs := #[.bool false, .slice none 0 0, .string x126002_3]) ?_ 1 _ rfl; (with_reducible repeat (first | refine blk_drewN ?_ _ | refine blk_drew ?_ | refine blk_alloc ?_ _)); refine blk_put (cs := #[.bool x126000_3, .slice none 0 0, .string x126002_3]) ?_ 0 _ rfl; (with_reducible repeat (first | refine blk_drewN ?_ _ | refine blk_drew ?_ | refine blk_alloc ?_ _)); exact BK125.out) Try.underlying32 rfl (by kernel_rfl)) rfl ?_
                         exact ⟨_, by first | rfl | (simp [errW_none, errW_some] <;> rfl) | (simp only [← hji54]; first | rfl | (simp [errW_none, errW_some] <;> rfl)) | (simp [*, errW_none, errW_some] <;> rfl), by first | exact Kd.R_nil _ _ _ _ _ | exact Kd.N_nil _ _ _ _ _ | exact Kd.V_nil _ _ _ _ _ | exact Kd.Q_nil _ _ _ _ _ | exact Kd.S_nil _ _ _ _ _, by repeat (first | (with_reducible first | exact HB.out | apply below_alloc | apply pw_below_drewN | apply below_drew1 | refine below_set ?_ GE125.out | refine below_set ?_ GE126.out) | exact HB.out)⟩
                       ·rw [if_neg c57] at H
                        exact absurd H (by simp)
                      ·rw [if_neg c56] at H
                       exact absurd H (by simp)
                     ·rw [if_neg c55] at H
                      exact absurd H (by simp)
             ·rw [if_neg c22] at H
              exact absurd H (by simp)
            ·rw [if_neg c21] at H
             exact absurd H (by simp)
          ·replace c17 := Bool.eq_false_iff.mpr c17
           subst c17
           have H1 : (some (x127000_10, x127001_3, x127002_3, 0, 0)) = some (r1, r2, r3, r4, r5) := by rw [if_neg (show ¬ (false = true) by decide)] at H; exact H
           clear H
           have H := H1
           clear H1
           simp only [Option.some.injEq, Prod.mk.injEq] at H
           obtain ⟨rfl, rfl, rfl, rfl, rfl⟩ := H
           have hnb88 := NB126_125.out
           have hnc88 := NB125_126.out
           have hcz89_0 : wc.cell? ⟨gb126, 0, none⟩ = some (.bool x127000_10) := (blk_cell BK126.out 0).trans rfl
           have hcz89_1 : wc.cell? ⟨gb126, 1, none⟩ = some (u127001) := (blk_cell BK126.out 1).trans rfl
           have hcz89_2 : wc.cell? ⟨gb126, 2, none⟩ = some (.string x127002_3) := (blk_cell BK126.out 2).trans rfl
           have hfz89_0 := blk_frozen BK126.out 0
           have hfz89_1 := blk_frozen BK126.out 1
           have hfz89_2 := blk_frozen BK126.out 2
           have hcz90_0 : wc.cell? ⟨gb125, 0, none⟩ = some (.bool x126000_3) := (blk_cell BK125.out 0).trans rfl
           have hcz90_1 : wc.cell? ⟨gb125, 1, none⟩ = some (.slice none 0 0) := (blk_cell BK125.out 1).trans rfl
           have hcz90_2 : wc.cell? ⟨gb125, 2, none⟩ = some (.string x126002_3) := (blk_cell BK125.out 2).trans rfl
           have hfz90_0 := blk_frozen BK125.out 0
           have hfz90_1 := blk_frozen BK125.out 1
           have hfz90_2 := blk_frozen BK125.out 2
           obtain ⟨Ao91, co91, eo91⟩ := Kd.R_slice HO_127001.out
           subst eo91
           go_wp2
           refine bodyPost_ret (results_ctt rfl _ _ gb125 32 #[.bool x127000_10, .slice Ao91 x127001_3.length co91, .string x127002_3] (0, 0) _ rfl (by (with_reducible repeat (first | refine blk_drewN ?_ _ | refine blk_drew ?_ | refine blk_alloc ?_ _)); refine blk_put (cs := #[.bool x127000_10, .slice Ao91 x127001_3.length co91, .string x126002_3]) ?_ 2 _ rfl; (with_reducible repeat (first | refine blk_drewN ?_ _ | refine blk_drew ?_ | refine blk_alloc ?_ _)); refine blk_put (cs := #[.bool x127000_10, .slice none 0 0, .string x126002_3]) ?_ 1 _ rfl; (with_reducible repeat (first | refine blk_drewN ?_ _ | refine blk_drew ?_ | refine blk_alloc ?_ _)); refine blk_put (cs := #[.bool x126000_3, .slice none 0 0, .string x126002_3]) ?_ 0 _ rfl; (with_reducible repeat (first | refine blk_drewN ?_ _ | refine blk_drew ?_ | refine blk_alloc ?_ _)); exact BK125.out) Try.underlying32 rfl (by kernel_rfl)) rfl ?_
           exact ⟨_, by first | rfl | (simp [errW_none, errW_some] <;> rfl) | (simp [*, errW_none, errW_some] <;> rfl), by (with_reducible repeat (first | apply Kd.R_alloc | apply Kd.R_drewN | apply Kd.R_drew)); exact Kd.R_mono (Kd.R_far (p := ⟨gb125, 2, none⟩) (Kd.R_far (p := ⟨gb125, 1, none⟩) (Kd.R_far (p := ⟨gb125, 0, none⟩) (Kd.R_types HO_127001.out BK125.out (by decide)) (fun _ hk => hk.2) (.bool x127000_10)) (fun _ hk => hk.2) (.slice Ao91 x127001_3.length co91)) (fun _ hk => hk.2) (.string x127002_3)) (fun _ hk => trivial), by repeat (first | (with_reducible first | exact HB.out | apply below_alloc | apply pw_below_drewN | apply below_drew1 | refine below_set ?_ GE125.out | refine below_set ?_ GE126.out) | exact HB.out)⟩
end Go.Proofs.Ytehkhbnhmehobaa.P
namespace Go.Proofs.Ytehkhbnhmehobaa.P
open Go.RowKit Go.Proofs.YtehkhbnhmehobaaW.PrintWords Go.Proofs.YtehkhbnhmehobaaW.PrintLast Go.Proofs.YtehkhbnhmehobaaW.PrintMore
attribute [local go_sem] max2_int min2_int max_two min_two max_three min_three max_four min_four   -- for this text's walks alone
set_option linter.unusedVariables false
set_option linter.unusedSimpArgs false
/-! ### swarflaw42_parse: function 49 -/
def swarflaw42_parse.f (k : Nat) (a0 : ByteArray) : Option (Bool × (List (S78)) × ByteArray) := (swarfref41_Parse.f k a0).bind fun bt137 => (some (bt137.1, bt137.2.1, bt137.2.2.1))
theorem swarflaw42_parse.mono : ∀ a0 k, LeO (swarflaw42_parse.f k a0) (swarflaw42_parse.f (k + 1) a0) := by
 intro a0 k
 unfold swarflaw42_parse.f
 repeat' first
   | (with_reducible exact swarfref41_Parse.mono _ _)
   | (with_reducible exact LeO.refl _)
   | (with_reducible exact LeO.none _)
   | (with_reducible refine LeO.ite ?_ ?_)
   | (with_reducible refine LeO.bind ?_ (fun _ => ?_))
   | exact swarfref41_Parse.mono _ _
   | exact LeO.none _
   | refine LeO.ite ?_ ?_
   | refine LeO.bind ?_ (fun _ => ?_)
set_option maxHeartbeats 8000000 in
set_option maxRecDepth 100000 in
theorem swarflaw42_parse.calls (k : Nat) (a0 : ByteArray) (r1 : Bool) (r2 : List (S78)) (r3 : ByteArray) (w : World) (h : swarflaw42_parse.f k a0 = some (r1, r2, r3)) :
  Calls Try.prog 49 #[.string a0] w fun e w' => ∃ v1_ : Value, e = .returned (.agg #[.bool r1, v1_, .string r3]) ∧ Kd.R k78 78 w' w.heap.size (fun _ => True) v1_ r2 ∧ Below w.heap.size w w' := by
 have hu32 := Try.underlying32
 have HB := Aside0.mk (Below.refl w.heap.size w)
 have H : ((swarfref41_Parse.f k a0).bind fun bt137 => (some (bt137.1, bt137.2.1, bt137.2.2.1))) = some (r1, r2, r3) := h
 clear h
 replace H := Option.bind_eq_some_iff.mp H
 obtain ⟨⟨t137, t138, t141, t142, t143⟩, A20, H⟩ := H
 replace H : (some (t137, t138, t141)) = some (r1, r2, r3) := H
 have A2 := Aside0.mk A20
 clear A20
 simp only [Option.some.injEq, Prod.mk.injEq] at H
 obtain ⟨rfl, rfl, rfl⟩ := H
 go_enter Try.func49, Try.ntmps49
 go_wp2_with (first | ((with_reducible refine gate_dst (N := 2) rfl ?_); refine box_event ?hg (N := 2) ?hd (cs := #[.bool false, .slice none 0 0, .string (⟨#[]⟩ : ByteArray)]) (t := 32) ?hr ?_; (case hd => rfl); (case hg => rfl); (case hr => first | (go_simp; done) | (go_simp; rfl)); intro gb136 hg w3 hbox hb; have n0_ := Aside0.mk (below_step (by repeat (first | (with_reducible first | exact HB.out | apply below_alloc | apply pw_below_drewN | apply below_drew1) | exact HB.out)) hb); have n1_ := Aside0.mk (hbox); have n2_ := Aside0.mk ((by rw [hg]; exact (below_size (by repeat (first | (with_reducible first | exact HB.out | apply below_alloc | apply pw_below_drewN | apply below_drew1) | exact HB.out))) : w.heap.size ≤ gb136)); have n3_ := Aside0.mk ((by rw [hg]; exact (below_size (by repeat (first | (with_reducible first | exact HB.out | apply below_alloc | apply pw_below_drewN | apply below_drew1) | exact HB.out))) : w.heap.size ≤ gb136)); clear HB; have HB := n0_; have BK136 := n1_; have GW136 := n2_; have GE136 := n3_; clear n0_ n1_ n2_ n3_; clear hb hbox hg) | ((with_reducible refine gate_callee (f := 85) rfl ?_); refine goesL_ (some 8) rfl rfl Try.func85 (by kernel_rfl) rfl #[.string a0] rfl (by (try simp only [List.map_toArray, List.map_cons, List.map_nil]); first | done | rfl | (simp only [List.length_drop, List.length_take]; rfl)) ?_; (with_reducible refine (swarfref41_Parse.calls k a0 t137 t138 t141 t142 t143 _ A2.out).mono ?_); rintro e w4 ⟨v139, rfl, ho0, hb⟩; refine ⟨_, rfl, ?_⟩; have n0_ := Aside0.mk (Kd.R_lower ho0 (below_size (by repeat (first | (with_reducible first | exact HB.out | apply below_alloc | apply pw_below_drewN | apply below_drew1 | refine below_set ?_ GE136.out) | exact HB.out)))); have n1_ := Aside0.mk (blk_below (g := gb136) (o := .cells #[.bool false, .slice none 0 0, .string (⟨#[]⟩ : ByteArray)] 32 (0, 0)) (by (with_reducible repeat (first | refine blk_drewN ?_ _ | refine blk_drew ?_ | refine blk_alloc ?_ _)); exact BK136.out) hb); have n2_ := Aside0.mk (below_step (by repeat (first | (with_reducible first | exact HB.out | apply below_alloc | apply pw_below_drewN | apply below_drew1 | refine below_set ?_ GE136.out) | exact HB.out)) hb); clear BK136; clear HB; have HO140 := n0_; have BK136 := n1_; have HB := n2_; clear n0_ n1_ n2_; (try clear hb); (try clear hb2); (try clear hk); (try clear hi); (try clear ho0)) | ((with_reducible refine gate_dst (N := 3) rfl ?_); refine box_event ?hg (N := 3) ?hd (cs := #[.bool false, .slice none 0 0, .string (⟨#[]⟩ : ByteArray)]) (t := 32) ?hr ?_; (case hd => rfl); (case hg => rfl); (case hr => first | (go_simp; done) | (go_simp; rfl)); intro gb144 hg w5 hbox hb; have n0_ := Aside0.mk (Kd.R_below (by (with_reducible repeat (first | apply Kd.R_alloc | apply Kd.R_drewN | apply Kd.R_drew)); exact HO140.out) hb); have n1_ := Aside0.mk (blk_below (g := gb136) (o := .cells #[.bool false, .slice none 0 0, .string (⟨#[]⟩ : ByteArray)] 32 (0, 0)) (by (with_reducible repeat (first | refine blk_drewN ?_ _ | refine blk_drew ?_ | refine blk_alloc ?_ _)); exact BK136.out) hb); have n2_ := Aside0.mk (below_step (by repeat (first | (with_reducible first | exact HB.out | apply below_alloc | apply pw_below_drewN | apply below_drew1 | refine below_set ?_ GE136.out) | exact HB.out)) hb); have n3_ := Aside0.mk (hbox); have n4_ := Aside0.mk ((by rw [hg]; exact (below_size (by repeat (first | (with_reducible first | exact HB.out | apply below_alloc | apply pw_below_drewN | apply below_drew1 | refine below_set ?_ GE136.out) | exact HB.out))) : w.heap.size ≤ gb144)); have n5_ := Aside0.mk ((by rw [hg]; exact (below_size (by repeat (first | (with_reducible first | exact HB.out | apply below_alloc | apply pw_below_drewN | apply below_drew1 | refine below_set ?_ GE136.out) | exact HB.out))) : w.heap.size ≤ gb144)); have n6_ := Aside0.mk ((by rw [hg]; exact Nat.ne_of_lt (blk_lt (g := gb136) (o := .cells #[.bool false, .slice none 0 0, .string (⟨#[]⟩ : ByteArray)] 32 (0, 0)) (by (with_reducible repeat (first | refine blk_drewN ?_ _ | refine blk_drew ?_ | refine blk_alloc ?_ _)); exact BK136.out)) : gb136 ≠ gb144)); have n7_ := Aside0.mk ((by rw [hg]; exact Nat.ne_of_gt (blk_lt (g := gb136) (o := .cells #[.bool false, .slice none 0 0, .string (⟨#[]⟩ : ByteArray)] 32 (0, 0)) (by (with_reducible repeat (first | refine blk_drewN ?_ _ | refine blk_drew ?_ | refine blk_alloc ?_ _)); exact BK136.out)) : gb144 ≠ gb136)); clear HO140; clear BK136; clear HB; have HO140 := n0_; have BK136 := n1_; have HB := n2_; have BK144 := n3_; have GW144 := n4_; have GE144 := n5_; have NB136_144 := n6_; have NB144_136 := n7_; clear n0_ n1_ n2_ n3_ n4_ n5_ n6_ n7_; clear hb hbox hg; have hnb6 := NB144_136.out; have hnc6 := NB136_144.out; have hcz7_0 : w5.cell? ⟨gb144, 0, none⟩ = some (.bool false) := (blk_cell BK144.out 0).trans rfl; have hcz7_1 : w5.cell? ⟨gb144, 1, none⟩ = some (.slice none 0 0) := (blk_cell BK144.out 1).trans rfl; have hcz7_2 : w5.cell? ⟨gb144, 2, none⟩ = some (.string (⟨#[]⟩ : ByteArray)) := (blk_cell BK144.out 2).trans rfl; have hfz7_0 := blk_frozen BK144.out 0; have hfz7_1 := blk_frozen BK144.out 1; have hfz7_2 := blk_frozen BK144.out 2; obtain ⟨Ao8, co8, eo8⟩ := Kd.R_slice HO140.out; subst eo8; have hcz9_0 : w5.cell? ⟨gb136, 0, none⟩ = some (.bool false) := (blk_cell BK136.out 0).trans rfl; have hcz9_1 : w5.cell? ⟨gb136, 1, none⟩ = some (.slice none 0 0) := (blk_cell BK136.out 1).trans rfl; have hcz9_2 : w5.cell? ⟨gb136, 2, none⟩ = some (.string (⟨#[]⟩ : ByteArray)) := (blk_cell BK136.out 2).trans rfl; have hfz9_0 := blk_frozen BK136.out 0; have hfz9_1 := blk_frozen BK136.out 1; have hfz9_2 := blk_frozen BK136.out 2))
 refine bodyPost_ret (results_cell_row rfl _ _ gb136 32 #[.bool t137, .slice Ao8 t138.length co8, .string t141] (0, 0) _ rfl (by (with_reducible repeat (first | refine blk_drewN ?_ _ | refine blk_drew ?_ | refine blk_alloc ?_ _)); refine blk_put (cs := #[.bool t137, .slice Ao8 t138.length co8, .string (⟨#[]⟩ : ByteArray)]) ?_ 2 _ rfl; (with_reducible repeat (first | refine blk_drewN ?_ _ | refine blk_drew ?_ | refine blk_alloc ?_ _)); refine blk_put (cs := #[.bool t137, .slice none 0 0, .string (⟨#[]⟩ : ByteArray)]) ?_ 1 _ rfl; (with_reducible repeat (first | refine blk_drewN ?_ _ | refine blk_drew ?_ | refine blk_alloc ?_ _)); refine blk_put (cs := #[.bool false, .slice none 0 0, .string (⟨#[]⟩ : ByteArray)]) ?_ 0 _ rfl; (with_reducible repeat (first | refine blk_drewN ?_ _ | refine blk_drew ?_ | refine blk_alloc ?_ _)); refine blk_far ?_ NB136_144.out _; (with_reducible repeat (first | refine blk_drewN ?_ _ | refine blk_drew ?_ | refine blk_alloc ?_ _)); refine blk_far ?_ NB136_144.out _; (with_reducible repeat (first | refine blk_drewN ?_ _ | refine blk_drew ?_ | refine blk_alloc ?_ _)); refine blk_far ?_ NB136_144.out _; (with_reducible repeat (first | refine blk_drewN ?_ _ | refine blk_drew ?_ | refine blk_alloc ?_ _)); exact BK136.out) Try.underlying32 rfl (by kernel_rfl)) rfl ?_
 exact ⟨_, by first | rfl | (simp [errW_none, errW_some] <;> rfl) | (simp [*, errW_none, errW_some] <;> rfl), by (with_reducible repeat (first | apply Kd.R_alloc | apply Kd.R_drewN | apply Kd.R_drew)); exact Kd.R_mono (Kd.R_far (p := ⟨gb136, 2, none⟩) (Kd.R_far (p := ⟨gb136, 1, none⟩) (Kd.R_far (p := ⟨gb136, 0, none⟩) (Kd.R_far (p := ⟨gb144, 2, none⟩) (Kd.R_far (p := ⟨gb144, 1, none⟩) (Kd.R_far (p := ⟨gb144, 0, none⟩) (Kd.R_types (Kd.R_types HO140.out BK144.out (by decide)) BK136.out (by decide)) (fun _ hk => hk.1.2) (.bool t137)) (fun _ hk => hk.1.2) (.slice Ao8 t138.length co8)) (fun _ hk => hk.1.2) (.string t141)) (fun _ hk => hk.2) (.bool t137)) (fun _ hk => hk.2) (.slice Ao8 t138.length co8)) (fun _ hk => hk.2) (.string t141)) (fun _ hk => trivial), by repeat (first | (with_reducible first | exact HB.out | apply below_alloc | apply pw_below_drewN | apply below_drew1 | refine below_set ?_ GE136.out | refine below_set ?_ GE144.out) | exact HB.out)⟩
end Go.Proofs.Ytehkhbnhmehobaa.P
namespace Go.Proofs.Ytehkhbnhmehobaa.P
open Go.RowKit Go.Proofs.YtehkhbnhmehobaaW.PrintWords Go.Proofs.YtehkhbnhmehobaaW.PrintLast Go.Proofs.YtehkhbnhmehobaaW.PrintMore
attribute [local go_sem] max2_int min2_int max_two min_two max_three min_three max_four min_four   -- for this text's walks alone
set_option linter.unusedVariables false
set_option linter.unusedSimpArgs false
/-! ### slices_Index_int64_int64: function 109 -/
def slices_Index_int64_int64.l0 : Nat → List Int → Int → Int → Int → Option (Int)
 | 0, _, _, _, _ => none
 | k + 1, x0, x1, x7, x8 => if x8 < x7 then (if 0 ≤ x8 then (if x8 < (x0.length : Int) then (if x1 = (rd x0 x8) then (some x8) else (slices_Index_int64_int64.l0 k x0 x1 x7 (wrap64 (x8 + 1)))) else (none)) else (none)) else (some (-1))
def slices_Index_int64_int64.f (k : Nat) (l0 : List Int) (a1 : Int) : Option (Int) := slices_Index_int64_int64.l0 k l0 a1 (l0.length : Int) 0
theorem slices_Index_int64_int64.mono_l : ∀ k, (∀ y0 y1 y2 y3, LeO (slices_Index_int64_int64.l0 k y0 y1 y2 y3) (slices_Index_int64_int64.l0 (k + 1) y0 y1 y2 y3))
 | 0 => fun _ _ _ _ r h => by simp [slices_Index_int64_int64.l0] at h
 | k + 1 => by
  have ih0 := slices_Index_int64_int64.mono_l k
  ·intro y0 y1 y2 y3
   unfold slices_Index_int64_int64.l0
   repeat' first
   | (with_reducible exact ih0 _ _ _ _)
   | (with_reducible exact LeO.refl _)
   | (with_reducible exact LeO.none _)
   | (with_reducible refine LeO.ite ?_ ?_)
   | (with_reducible refine LeO.bind ?_ (fun _ => ?_))
   | exact ih0 _ _ _ _
   | exact LeO.none _
   | refine LeO.ite ?_ ?_
   | refine LeO.bind ?_ (fun _ => ?_)
theorem slices_Index_int64_int64.mono : ∀ a0 a1 k, LeO (slices_Index_int64_int64.f k a0 a1) (slices_Index_int64_int64.f (k + 1) a0 a1) := by
 intro a0 a1 k
 have ih0 := slices_Index_int64_int64.mono_l k
 unfold slices_Index_int64_int64.f
 repeat' first
   | (with_reducible exact ih0 _ _ _ _)
   | (with_reducible exact LeO.refl _)
   | (with_reducible exact LeO.none _)
   | (with_reducible refine LeO.ite ?_ ?_)
   | (with_reducible refine LeO.bind ?_ (fun _ => ?_))
   | exact ih0 _ _ _ _
   | exact LeO.none _
   | refine LeO.ite ?_ ?_
   | refine LeO.bind ?_ (fun _ => ?_)
set_option maxHeartbeats 8000000 in
set_option maxRecDepth 100000 in
theorem slices_Index_int64_int64.calls (k : Nat) (A0 : Option Addr) (c0 : Nat) (l0 : List Int) (a1 : Int) (r : Int) (w : World) (hr0 : Kd.C (Kd.int .i64) w A0 l0.length l0) (hc0 : l0.length ≤ c0) (h : slices_Index_int64_int64.f k l0 a1 = some r) :
  Calls Try.prog 109 #[.slice A0 l0.length c0, .int .i64 a1] w fun e w' => e = .returned (.int .i64 r) ∧ Drawn0 w w' := by
 have HR0 := Aside0.mk hr0
 have HC0 := Aside0.mk hc0
 clear hr0 hc0
 have H : (slices_Index_int64_int64.l0 k l0 a1 (l0.length : Int) 0) = some r := h
 clear h
 have H' := Aside0.mk H
 clear H
 go_enter Try.func109, Try.ntmps109
 go_wp2
 go_loopg [8] k (fun kq v8 w' => ∃ (x8_1 : Int), v8 = .int .i64 x8_1 ∧ Aside0 (slices_Index_int64_int64.l0 kq l0 a1 (l0.length : Int) x8_1 = some r) ∧ Aside0 (kq ≤ k) ∧ Drawn0 w w')
 case atStart => exact ⟨(0), (by first | rfl | (simp; done) | (simp [*]; done)), H', ⟨Nat.le_refl _⟩, by repeat (first | exact Drawn0.refl _ | apply Drawn0.step)⟩
 case round =>
  clear H'
  try clear c1
  try clear p2
  obtain ⟨x8_1, rfl, HA, HK1, ⟨m1, rfl⟩⟩ := hrel
  cases gk with
  | zero => exact absurd HA.out (by simp [slices_Index_int64_int64.l0])
  | succ k1 =>
   have H := HA.out
   clear HA
   simp only [slices_Index_int64_int64.l0] at H
   by_cases c3 : x8_1 < (l0.length : Int)
   ·rw [if_pos c3] at H
    have c3b0 : decide (x8_1 < (l0.length : Int)) = true := decide_eq_true c3
    clear c3
    by_cases c4 : 0 ≤ x8_1
    ·rw [if_pos c4] at H
     have c4b0 : decide (0 ≤ x8_1) = true := decide_eq_true c4
     clear c4
     by_cases c5 : x8_1 < (l0.length : Int)
     ·rw [if_pos c5] at H
      have c5b0 : decide (x8_1 < (l0.length : Int)) = true := decide_eq_true c5
      clear c5
      by_cases c6 : a1 = (rd l0 x8_1)
      ·rw [if_pos c6] at H
       have c6b0 : (a1 == (rd l0 x8_1)) = true := beq_iff_eq.mpr c6
       have c6b1 : (a1 != (rd l0 x8_1)) = false := bne_eq_false_iff_eq.mpr c6
       clear c6
       obtain rfl := Option.some.inj H
       have p362 : 0 ≤ (x8_1 : Int) := of_decide_eq_true (by first | (with_reducible assumption) | assumption)
       have q362 : x8_1 < (l0.length : Int) := of_decide_eq_true (by first | (with_reducible assumption) | assumption)
       obtain ⟨ad362, e362, hx362_0⟩ := Kd.at_int HR0.out x8_1 p362 q362
       cases e362
       replace p362 := eq_true p362
       replace q362 := eq_true q362
       go_wp2
       go_ret
       exact ⟨by first | rfl | (simp; done) | (simp [*]; done), by repeat (first | exact Drawn0.refl _ | apply Drawn0.step)⟩
      ·rw [if_neg c6] at H
       have c6b0 : (a1 == (rd l0 x8_1)) = false := beq_eq_false_iff_ne.mpr c6
       have c6b1 : (a1 != (rd l0 x8_1)) = true := bne_iff_ne.mpr c6
       have H' := Aside0.mk H
       clear H
       have p362 : 0 ≤ (x8_1 : Int) := of_decide_eq_true (by first | (with_reducible assumption) | assumption)
       have q362 : x8_1 < (l0.length : Int) := of_decide_eq_true (by first | (with_reducible assumption) | assumption)
       obtain ⟨ad362, e362, hx362_0⟩ := Kd.at_int HR0.out x8_1 p362 q362
       cases e362
       replace p362 := eq_true p362
       replace q362 := eq_true q362
       go_wp2
       go_roundg k1
       case measure => have := HK1.out; omega
       case rel => exact ⟨(wrap64 (x8_1 + 1)), (by first | rfl | (simp; done) | (simp [*]; done)), H', ⟨by have := HK1.out; omega⟩, by repeat (first | exact Drawn0.refl _ | apply Drawn0.step)⟩
     ·rw [if_neg c5] at H
      exact absurd H (by simp)
    ·rw [if_neg c4] at H
     exact absurd H (by simp)
   ·rw [if_neg c3] at H
    have c3b0 : decide (x8_1 < (l0.length : Int)) = false := decide_eq_false c3
    clear c3
    obtain rfl := Option.some.inj H
    go_wp2
    go_ret
    exact ⟨by first | rfl | (simp; done) | (simp [*]; done), by repeat (first | exact Drawn0.refl _ | apply Drawn0.step)⟩
end Go.Proofs.Ytehkhbnhmehobaa.P
namespace Go.Proofs.Ytehkhbnhmehobaa.P
open Go.RowKit Go.Proofs.YtehkhbnhmehobaaW.PrintWords Go.Proofs.YtehkhbnhmehobaaW.PrintLast Go.Proofs.YtehkhbnhmehobaaW.PrintMore
attribute [local go_sem] max2_int min2_int max_two min_two max_three min_three max_four min_four   -- for this text's walks alone
set_option linter.unusedVariables false
set_option linter.unusedSimpArgs false
/-! ### slices_Contains_int64_int64: function 92 -/
def slices_Contains_int64_int64.f (k : Nat) (l0 : List Int) (a1 : Int) : Option (Bool) := (slices_Index_int64_int64.f k l0 a1).bind fun t363 => (some (decide (t363 ≥ 0)))
theorem slices_Contains_int64_int64.mono : ∀ a0 a1 k, LeO (slices_Contains_int64_int64.f k a0 a1) (slices_Contains_int64_int64.f (k + 1) a0 a1) := by
 intro a0 a1 k
 unfold slices_Contains_int64_int64.f
 repeat' first
   | (with_reducible exact slices_Index_int64_int64.mono _ _ _)
   | (with_reducible exact LeO.refl _)
   | (with_reducible exact LeO.none _)
   | (with_reducible refine LeO.ite ?_ ?_)
   | (with_reducible refine LeO.bind ?_ (fun _ => ?_))
   | exact slices_Index_int64_int64.mono _ _ _
   | exact LeO.none _
   | refine LeO.ite ?_ ?_
   | refine LeO.bind ?_ (fun _ => ?_)
set_option maxHeartbeats 8000000 in
set_option maxRecDepth 100000 in
theorem slices_Contains_int64_int64.calls (k : Nat) (A0 : Option Addr) (c0 : Nat) (l0 : List Int) (a1 : Int) (r : Bool) (w : World) (hr0 : Kd.C (Kd.int .i64) w A0 l0.length l0) (hc0 : l0.length ≤ c0) (h : slices_Contains_int64_int64.f k l0 a1 = some r) :
  Calls Try.prog 92 #[.slice A0 l0.length c0, .int .i64 a1] w fun e w' => e = .returned (.bool r) ∧ Drawn0 w w' := by
 have HR0 := Aside0.mk hr0
 have HC0 := Aside0.mk hc0
 clear hr0 hc0
 have H : ((slices_Index_int64_int64.f k l0 a1).bind fun t363 => (some (decide (t363 ≥ 0)))) = some r := h
 clear h
 replace H := Option.bind_eq_some_iff.mp H
 obtain ⟨t363, A30, H⟩ := H
 replace H : (some (decide (t363 ≥ 0))) = some r := H
 have A3 := Aside0.mk A30
 clear A30
 obtain rfl := Option.some.inj H
 go_enter Try.func92, Try.ntmps92
 go_wp2_with (first | ((with_reducible refine gate_callee (f := 109) rfl ?_); refine goesL_ (some 7) rfl rfl Try.func109 (by kernel_rfl) rfl #[.slice A0 l0.length c0, .int .i64 a1] rfl (by (try simp only [List.map_toArray, List.map_cons, List.map_nil]); first | done | rfl | (simp only [List.length_drop, List.length_take]; rfl)) ?_; (with_reducible refine (slices_Index_int64_int64.calls k _ _ l0 a1 t363 _ ?side1 ?side2 A3.out).mono ?_); (case side1 => repeat (first | exact HR0.out | (with_reducible refine Kd.C_alloc ?_ _) | (with_reducible refine Kd.C_drewN ?_ _) | (with_reducible refine Kd.C_drew ?_))); (case side2 => exact HC0.out); rintro e w' ⟨rfl, ⟨nd, rfl⟩⟩; refine ⟨_, rfl, ?_⟩))
 go_ret
 exact ⟨by first | rfl | (simp; done) | (simp [*]; done), by repeat (first | exact Drawn0.refl _ | apply Drawn0.step)⟩
end Go.Proofs.Ytehkhbnhmehobaa.P
namespace Go.Proofs.Ytehkhbnhmehobaa.P
open Go.RowKit Go.Proofs.YtehkhbnhmehobaaW.PrintWords Go.Proofs.YtehkhbnhmehobaaW.PrintLast Go.Proofs.YtehkhbnhmehobaaW.PrintMore
attribute [local go_sem] max2_int min2_int max_two min_two max_three min_three max_four min_four   -- for this text's walks alone
set_option linter.unusedVariables false
set_option linter.unusedSimpArgs false
/-! ### block_Codes: function 93 -/
def block_Codes.l0 : Nat → Int → List Int → List (S78) → Int → Int → Option (List Int)
 | 0, _, _, _, _, _ => none
 | k + 1, x1, x5, x9, x10, x11 => if x11 < x10 then (if 0 ≤ x11 then (if x11 < (x9.length : Int) then (if ((rd_T78 x9 x11).f0) = x1 then (if x5.length < 17592186044416 then (block_Codes.l0 k x1 (x5 ++ [(rd_T78 x9 x11).f1]) x9 x10 (wrap64 (x11 + 1))) else (none)) else (block_Codes.l0 k x1 x5 x9 x10 (wrap64 (x11 + 1)))) else (none)) else (none)) else (some x5)
def block_Codes.f (k : Nat) (a0_0 : Bool) (l0_1 : List (S78)) (a0_2 : ByteArray) (a1 : Int) : Option (List Int) := block_Codes.l0 k a1 ([] : List Int) l0_1 (l0_1.length : Int) 0
theorem block_Codes.mono_l : ∀ k, (∀ y0 y1 y2 y3 y4, LeO (block_Codes.l0 k y0 y1 y2 y3 y4) (block_Codes.l0 (k + 1) y0 y1 y2 y3 y4))
 | 0 => fun _ _ _ _ _ r h => by simp [block_Codes.l0] at h
 | k + 1 => by
  have ih0 := block_Codes.mono_l k
  ·intro y0 y1 y2 y3 y4
   unfold block_Codes.l0
   repeat' first
   | (with_reducible exact ih0 _ _ _ _ _)
   | (with_reducible exact LeO.refl _)
   | (with_reducible exact LeO.none _)
   | (with_reducible refine LeO.ite ?_ ?_)
   | (with_reducible refine LeO.bind ?_ (fun _ => ?_))
   | exact ih0 _ _ _ _ _
   | exact LeO.none _
   | refine LeO.ite ?_ ?_
   | refine LeO.bind ?_ (fun _ => ?_)
theorem block_Codes.mono : ∀ a0 a1 a2 a3 k, LeO (block_Codes.f k a0 a1 a2 a3) (block_Codes.f (k + 1) a0 a1 a2 a3) := by
 intro a0 a1 a2 a3 k
 have ih0 := block_Codes.mono_l k
 unfold block_Codes.f
 repeat' first
   | (with_reducible exact ih0 _ _ _ _ _)
   | (with_reducible exact LeO.refl _)
   | (with_reducible exact LeO.none _)
   | (with_reducible refine LeO.ite ?_ ?_)
   | (with_reducible refine LeO.bind ?_ (fun _ => ?_))
   | exact ih0 _ _ _ _ _
   | exact LeO.none _
   | refine LeO.ite ?_ ?_
   | refine LeO.bind ?_ (fun _ => ?_)
set_option maxHeartbeats 8000000 in
set_option maxRecDepth 100000 in
theorem block_Codes.calls (k : Nat) (a0_0 : Bool) (A0_1 : Option Addr) (c0_1 : Nat) (l0_1 : List (S78)) (a0_2 : ByteArray) (a1 : Int) (r : List Int) (w : World) (hr0_1 : Kd.C k78 w A0_1 l0_1.length l0_1) (hc0_1 : l0_1.length ≤ c0_1) (h : block_Codes.f k a0_0 l0_1 a0_2 a1 = some r) :
  Calls Try.prog 93 #[.agg #[.bool a0_0, .slice A0_1 l0_1.length c0_1, .string a0_2], .int .u8 a1] w fun e w' => ∃ v0_ : Value, e = .returned (v0_) ∧ Kd.R (Kd.int .i64) 2 w' w.heap.size (fun _ => True) v0_ r ∧ Below w.heap.size w w' := by
 have hu32 := Try.underlying32
 have hu78 := Try.underlying78
 have HR0_1 := Aside0.mk hr0_1
 have HC0_1 := Aside0.mk hc0_1
 clear hr0_1 hc0_1
 have HB := Aside0.mk (Below.refl w.heap.size w)
 have H : (block_Codes.l0 k a1 ([] : List Int) l0_1 (l0_1.length : Int) 0) = some r := h
 clear h
 have H' := Aside0.mk H
 clear H
 go_enter Try.func93, Try.ntmps93
 go_wp2_with (first | ((with_reducible refine gate_dst (N := 2) rfl ?_); refine box_event ?hg (N := 2) ?hd (cs := #[.bool a0_0, .slice A0_1 l0_1.length c0_1, .string a0_2]) (t := 32) ?hr ?_; (case hd => rfl); (case hg => rfl); (case hr => first | (go_simp; done) | (go_simp; rfl)); intro gb364 hg w3 hbox hb; have n0_ := Aside0.mk (below_step (by repeat (first | (with_reducible first | exact HB.out | apply below_alloc | apply pw_below_drewN | apply below_drew1) | exact HB.out)) hb); have n1_ := Aside0.mk (hbox); have n2_ := Aside0.mk ((by rw [hg]; exact (below_size (by repeat (first | (with_reducible first | exact HB.out | apply below_alloc | apply pw_below_drewN | apply below_drew1) | exact HB.out))) : w.heap.size ≤ gb364)); have n3_ := Aside0.mk ((by rw [hg]; exact (below_size (by repeat (first | (with_reducible first | exact HB.out | apply below_alloc | apply pw_below_drewN | apply below_drew1) | exact HB.out))) : w.heap.size ≤ gb364)); clear HB; have HB := n0_; have BK364 := n1_; have GW364 := n2_; have GE364 := n3_; clear n0_ n1_ n2_ n3_; clear hb hbox hg; have hcz4_0 : w3.cell? ⟨gb364, 0, none⟩ = some (.bool a0_0) := (blk_cell BK364.out 0).trans rfl; have hcz4_1 : w3.cell? ⟨gb364, 1, none⟩ = some (.slice A0_1 l0_1.length c0_1) := (blk_cell BK364.out 1).trans rfl; have hcz4_2 : w3.cell? ⟨gb364, 2, none⟩ = some (.string a0_2) := (blk_cell BK364.out 2).trans rfl; have hfz4_0 := blk_frozen BK364.out 0; have hfz4_1 := blk_frozen BK364.out 1; have hfz4_2 := blk_frozen BK364.out 2))
 go_loopg [5, 11] k (fun kq v5 v11 w' => ∃ (x5_1 : List Int) (x11_1 : Int), v11 = .int .i64 x11_1 ∧ Aside0 (block_Codes.l0 kq a1 x5_1 l0_1 (l0_1.length : Int) x11_1 = some r) ∧ Aside0 (kq ≤ k) ∧ Aside0 (Kd.R (Kd.int .i64) 2 w' w.heap.size (fun _ => True) v5 x5_1) ∧ Aside0 (w'.heap[gb364]? = some (.cells #[.bool a0_0, (.slice A0_1 l0_1.length c0_1), .string a0_2] 32 (0, 0))) ∧ Aside0 (Below w.heap.size w w'))
 case atStart => exact ⟨(([] : List Int)), (0), (by first | rfl | (simp; done) | (simp [*]; done)), H', ⟨Nat.le_refl _⟩, ⟨by first | exact Kd.R_nil _ _ _ _ _ | exact Kd.N_nil _ _ _ _ _ | exact Kd.V_nil _ _ _ _ _ | exact Kd.Q_nil _ _ _ _ _ | exact Kd.S_nil _ _ _ _ _⟩, ⟨by (with_reducible repeat (first | refine blk_drewN ?_ _ | refine blk_drew ?_ | refine blk_alloc ?_ _)); exact BK364.out⟩, ⟨by repeat (first | (with_reducible first | exact HB.out | apply below_alloc | apply pw_below_drewN | apply below_drew1 | refine below_set ?_ GE364.out) | exact HB.out)⟩⟩
 case round =>
  clear H'
  try clear p2
  try clear hcz4_0
  try clear hcz4_1
  try clear hcz4_2
  try clear hfz4_0
  try clear hfz4_1
  try clear hfz4_2
  obtain ⟨x5_1, x11_1, rfl, HA, HK1, HO_5, BK364, HB⟩ := hrel
  cases gk with
  | zero => exact absurd HA.out (by simp [block_Codes.l0])
  | succ k1 =>
   have H := HA.out
   clear HA
   simp only [block_Codes.l0] at H
   by_cases c5 : x11_1 < (l0_1.length : Int)
   ·rw [if_pos c5] at H
    have c5b0 : decide (x11_1 < (l0_1.length : Int)) = true := decide_eq_true c5
    clear c5
    by_cases c6 : 0 ≤ x11_1
    ·rw [if_pos c6] at H
     have c6b0 : decide (0 ≤ x11_1) = true := decide_eq_true c6
     clear c6
     by_cases c7 : x11_1 < (l0_1.length : Int)
     ·rw [if_pos c7] at H
      have c7b0 : decide (x11_1 < (l0_1.length : Int)) = true := decide_eq_true c7
      clear c7
      by_cases c8 : ((rd_T78 l0_1 x11_1).f0) = a1
      ·rw [if_pos c8] at H
       have c8b0 : (((rd_T78 l0_1 x11_1).f0) == a1) = true := beq_iff_eq.mpr c8
       have c8b1 : (((rd_T78 l0_1 x11_1).f0) != a1) = false := bne_eq_false_iff_eq.mpr c8
       clear c8
       by_cases c9 : x5_1.length < 17592186044416
       ·rw [if_pos c9] at H
        have LMc9 := Aside0.mk c9
        clear c9
        obtain ⟨y367, hy367⟩ : ∃ y_ : List Int, y_ = (x5_1 ++ [(rd_T78 l0_1 x11_1).f1]) := ⟨_, rfl⟩
        replace H : (block_Codes.l0 k1 a1 y367 l0_1 (l0_1.length : Int) (wrap64 (x11_1 + 1))) = some r := by first | (rw [hy367]; with_reducible exact H) | (have H2_ := (Option.bind_some _ _).symm.trans H; rw [hy367]; with_reducible exact H2_) | (have H2_ := (Option.bind_some _ _).symm.trans H; with_reducible exact H2_) | with_reducible exact H | (rw [hy367]; exact H) | exact H
        have Ny367 := Aside0.mk hy367
        clear hy367
        have H' := Aside0.mk H
        clear H
        have p365 : 0 ≤ (x11_1 : Int) := of_decide_eq_true (by first | (with_reducible assumption) | assumption)
        have q365 : x11_1 < (l0_1.length : Int) := of_decide_eq_true (by first | (with_reducible assumption) | assumption)
        obtain ⟨ad365, e365, hx365_0, hx365_1⟩ := at_T78 HR0_1.out x11_1 p365 q365
        cases e365
        replace hx365_0 := (HB.out.cell (World.block_lt_of_cell? w _ hx365_0)).trans hx365_0
        replace hx365_1 := (HB.out.cell (World.block_lt_of_cell? w _ hx365_1)).trans hx365_1
        replace p365 := eq_true p365
        replace q365 := eq_true q365
        go_wp2_with (first | ((with_reducible refine gate_dst (N := 7) rfl ?_); refine box_event ?hg (N := 7) ?hd (cs := #[.int .u8 0, .int .i64 0]) (t := 78) ?hr ?_; (case hd => rfl); (case hg => rfl); (case hr => first | (go_simp; done) | (go_simp; rfl)); intro gb366 hg w10 hbox hb; have n0_ := Aside0.mk (Kd.R_below (by (with_reducible repeat (first | apply Kd.R_alloc | apply Kd.R_drewN | apply Kd.R_drew)); exact HO_5.out) hb); have n1_ := Aside0.mk (blk_below (g := gb364) (o := .cells #[.bool a0_0, .slice (some ad365) l0_1.length c0_1, .string a0_2] 32 (0, 0)) (by (with_reducible repeat (first | refine blk_drewN ?_ _ | refine blk_drew ?_ | refine blk_alloc ?_ _)); exact BK364.out) hb); have n2_ := Aside0.mk (below_step (by repeat (first | (with_reducible first | exact HB.out | apply below_alloc | apply pw_below_drewN | apply below_drew1 | refine below_set ?_ GE364.out) | exact HB.out)) hb); have n3_ := Aside0.mk (hbox); have n4_ := Aside0.mk ((by rw [hg]; exact (below_size (by repeat (first | (with_reducible first | exact HB.out | apply below_alloc | apply pw_below_drewN | apply below_drew1 | refine below_set ?_ GE364.out) | exact HB.out))) : w.heap.size ≤ gb366)); have n5_ := Aside0.mk ((by rw [hg]; exact (below_size (by repeat (first | (with_reducible first | exact HB.out | apply below_alloc | apply pw_below_drewN | apply below_drew1 | refine below_set ?_ GE364.out) | exact HB.out))) : w.heap.size ≤ gb366)); have n6_ := Aside0.mk ((by rw [hg]; exact Nat.ne_of_lt (blk_lt (g := gb364) (o := .cells #[.bool a0_0, .slice (some ad365) l0_1.length c0_1, .string a0_2] 32 (0, 0)) (by (with_reducible repeat (first | refine blk_drewN ?_ _ | refine blk_drew ?_ | refine blk_alloc ?_ _)); exact BK364.out)) : gb364 ≠ gb366)); have n7_ := Aside0.mk ((by rw [hg]; exact Nat.ne_of_gt (blk_lt (g := gb364) (o := .cells #[.bool a0_0, .slice (some ad365) l0_1.length c0_1, .string a0_2] 32 (0, 0)) (by (with_reducible repeat (first | refine blk_drewN ?_ _ | refine blk_drew ?_ | refine blk_alloc ?_ _)); exact BK364.out)) : gb366 ≠ gb364)); clear HO_5; clear BK364; clear HB; have HO_5 := n0_; have BK364 := n1_; have HB := n2_; have BK366 := n3_; have GW366 := n4_; have GE366 := n5_; have NB364_366 := n6_; have NB366_364 := n7_; clear n0_ n1_ n2_ n3_ n4_ n5_ n6_ n7_; clear hb hbox hg; have hnb11 := NB366_364.out; have hnc11 := NB364_366.out; have hcz12_0 : w10.cell? ⟨gb366, 0, none⟩ = some (.int .u8 0) := (blk_cell BK366.out 0).trans rfl; have hcz12_1 : w10.cell? ⟨gb366, 1, none⟩ = some (.int .i64 0) := (blk_cell BK366.out 1).trans rfl; have hfz12_0 := blk_frozen BK366.out 0; have hfz12_1 := blk_frozen BK366.out 1) | ((with_reducible refine gate_builtin (b := .append) (xs := #[.tmp 19, .tmp 22]) rfl ?_); at_builtin; refine Kd.R_append (Kd.int .i64) (w0 := w) w.heap.size rfl (.tmp 19) (.tmp 22) 91 2 (.int .i64 0) 8 rfl Try.underlying91 info2 rfl (by decide) (by omega) u5 x5_1 ((rd_T78 l0_1 x11_1).f1) [.int .i64 ((rd_T78 l0_1 x11_1).f1)] (fun _ => True) (fun _ => False) rfl (by first | (go_simp; done) | (go_simp; rfl)) ?aP (fun _ hk => hk.elim) ?aF ?aO ?aB ?aS ?aL ?_; (case aP => exact rfl); (case aB => exact (by repeat (first | (with_reducible first | exact HB.out | apply below_alloc | apply pw_below_drewN | apply below_drew1 | refine below_set ?_ GE364.out | refine below_set ?_ GE366.out) | exact HB.out))); (case aF => exact (fun _ _ => trivial)); (case aO => exact (by (with_reducible repeat (first | apply Kd.R_alloc | apply Kd.R_drewN | apply Kd.R_drew)); exact Kd.R_mono (Kd.R_far (p := ⟨gb366, 1, none⟩) (Kd.R_far (p := ⟨gb366, 0, none⟩) (Kd.R_types HO_5.out BK366.out (by decide)) (fun _ hk => hk.2) (.int .u8 ((rd_T78 l0_1 x11_1).f0))) (fun _ hk => hk.2) (.int .i64 ((rd_T78 l0_1 x11_1).f1))) (fun _ hk => trivial))); (case aS => exact (below_size (by repeat (first | (with_reducible first | exact HB.out | apply below_alloc | apply pw_below_drewN | apply below_drew1 | refine below_set ?_ GE364.out | refine below_set ?_ GE366.out) | exact HB.out)))); (case aL => have := LMc9.out; omega); intro v368 w13 ho hb hg hat; rw [← Ny367.out] at ho; have n0_ := Aside0.mk (blk_grown (g := gb364) (o := .cells #[.bool a0_0, .slice (some ad365) l0_1.length c0_1, .string a0_2] 32 (0, 0)) (by (with_reducible repeat (first | refine blk_drewN ?_ _ | refine blk_drew ?_ | refine blk_alloc ?_ _)); refine blk_far ?_ NB364_366.out _; (with_reducible repeat (first | refine blk_drewN ?_ _ | refine blk_drew ?_ | refine blk_alloc ?_ _)); refine blk_far ?_ NB364_366.out _; (with_reducible repeat (first | refine blk_drewN ?_ _ | refine blk_drew ?_ | refine blk_alloc ?_ _)); exact BK364.out) hg (Kd.R_ne HO_5.out BK364.out (by decide))); have n1_ := Aside0.mk (blk_grown (g := gb366) (o := .cells #[.int .u8 ((rd_T78 l0_1 x11_1).f0), .int .i64 ((rd_T78 l0_1 x11_1).f1)] 78 (0, 0)) (by (with_reducible repeat (first | refine blk_drewN ?_ _ | refine blk_drew ?_ | refine blk_alloc ?_ _)); refine blk_put (cs := #[.int .u8 ((rd_T78 l0_1 x11_1).f0), .int .i64 0]) ?_ 1 _ rfl; (with_reducible repeat (first | refine blk_drewN ?_ _ | refine blk_drew ?_ | refine blk_alloc ?_ _)); refine blk_put (cs := #[.int .u8 0, .int .i64 0]) ?_ 0 _ rfl; (with_reducible repeat (first | refine blk_drewN ?_ _ | refine blk_drew ?_ | refine blk_alloc ?_ _)); exact BK366.out) hg (Kd.R_ne HO_5.out BK366.out (by decide))); have n2_ := Aside0.mk (hb); have n3_ := Aside0.mk (ho); clear BK364; clear BK366; clear HB; clear HO_5; have BK364 := n0_; have BK366 := n1_; have HB := n2_; have HO369 := n3_; clear n0_ n1_ n2_ n3_; clear ho hb hg hat))
        go_roundg k1
        case measure => have := HK1.out; omega
        case rel => exact ⟨(y367), (wrap64 (x11_1 + 1)), (by first | rfl | (simp; done) | (simp [*]; done)), H', ⟨by have := HK1.out; omega⟩, ⟨by (with_reducible repeat (first | apply Kd.R_alloc | apply Kd.R_drewN | apply Kd.R_drew)); exact HO369.out⟩, ⟨by (with_reducible repeat (first | refine blk_drewN ?_ _ | refine blk_drew ?_ | refine blk_alloc ?_ _)); exact BK364.out⟩, ⟨by repeat (first | (with_reducible first | exact HB.out | apply below_alloc | apply pw_below_drewN | apply below_drew1 | refine below_set ?_ GE364.out | refine below_set ?_ GE366.out) | exact HB.out)⟩⟩
       ·rw [if_neg c9] at H
        exact absurd H (by simp)
      ·rw [if_neg c8] at H
       have c8b0 : (((rd_T78 l0_1 x11_1).f0) == a1) = false := beq_eq_false_iff_ne.mpr c8
       have c8b1 : (((rd_T78 l0_1 x11_1).f0) != a1) = true := bne_iff_ne.mpr c8
       have H' := Aside0.mk H
       clear H
       have p365 : 0 ≤ (x11_1 : Int) := of_decide_eq_true (by first | (with_reducible assumption) | assumption)
       have q365 : x11_1 < (l0_1.length : Int) := of_decide_eq_true (by first | (with_reducible assumption) | assumption)
       obtain ⟨ad365, e365, hx365_0, hx365_1⟩ := at_T78 HR0_1.out x11_1 p365 q365
       cases e365
       replace hx365_0 := (HB.out.cell (World.block_lt_of_cell? w _ hx365_0)).trans hx365_0
       replace hx365_1 := (HB.out.cell (World.block_lt_of_cell? w _ hx365_1)).trans hx365_1
       replace p365 := eq_true p365
       replace q365 := eq_true q365
       go_wp2_with (first | ((with_reducible refine gate_dst (N := 7) rfl ?_); refine box_event ?hg (N := 7) ?hd (cs := #[.int .u8 0, .int .i64 0]) (t := 78) ?hr ?_; (case hd => rfl); (case hg => rfl); (case hr => first | (go_simp; done) | (go_simp; rfl)); intro gb366 hg w14 hbox hb; have n0_ := Aside0.mk (Kd.R_below (by (with_reducible repeat (first | apply Kd.R_alloc | apply Kd.R_drewN | apply Kd.R_drew)); exact HO_5.out) hb); have n1_ := Aside0.mk (blk_below (g := gb364) (o := .cells #[.bool a0_0, .slice (some ad365) l0_1.length c0_1, .string a0_2] 32 (0, 0)) (by (with_reducible repeat (first | refine blk_drewN ?_ _ | refine blk_drew ?_ | refine blk_alloc ?_ _)); exact BK364.out) hb); have n2_ := Aside0.mk (below_step (by repeat (first | (with_reducible first | exact HB.out | apply below_alloc | apply pw_below_drewN | apply below_drew1 | refine below_set ?_ GE364.out) | exact HB.out)) hb); have n3_ := Aside0.mk (hbox); have n4_ := Aside0.mk ((by rw [hg]; exact (below_size (by repeat (first | (with_reducible first | exact HB.out | apply below_alloc | apply pw_below_drewN | apply below_drew1 | refine below_set ?_ GE364.out) | exact HB.out))) : w.heap.size ≤ gb366)); have n5_ := Aside0.mk ((by rw [hg]; exact (below_size (by repeat (first | (with_reducible first | exact HB.out | apply below_alloc | apply pw_below_drewN | apply below_drew1 | refine below_set ?_ GE364.out) | exact HB.out))) : w.heap.size ≤ gb366)); have n6_ := Aside0.mk ((by rw [hg]; exact Nat.ne_of_lt (blk_lt (g := gb364) (o := .cells #[.bool a0_0, .slice (some ad365) l0_1.length c0_1, .string a0_2] 32 (0, 0)) (by (with_reducible repeat (first | refine blk_drewN ?_ _ | refine blk_drew ?_ | refine blk_alloc ?_ _)); exact BK364.out)) : gb364 ≠ gb366)); have n7_ := Aside0.mk ((by rw [hg]; exact Nat.ne_of_gt (blk_lt (g := gb364) (o := .cells #[.bool a0_0, .slice (some ad365) l0_1.length c0_1, .string a0_2] 32 (0, 0)) (by (with_reducible repeat (first | refine blk_drewN ?_ _ | refine blk_drew ?_ | refine blk_alloc ?_ _)); exact BK364.out)) : gb366 ≠ gb364)); clear HO_5; clear BK364; clear HB; have HO_5 := n0_; have BK364 := n1_; have HB := n2_; have BK366 := n3_; have GW366 := n4_; have GE366 := n5_; have NB364_366 := n6_; have NB366_364 := n7_; clear n0_ n1_ n2_ n3_ n4_ n5_ n6_ n7_; clear hb hbox hg; have hnb15 := NB366_364.out; have hnc15 := NB364_366.out; have hcz16_0 : w14.cell? ⟨gb366, 0, none⟩ = some (.int .u8 0) := (blk_cell BK366.out 0).trans rfl; have hcz16_1 : w14.cell? ⟨gb366, 1, none⟩ = some (.int .i64 0) := (blk_cell BK366.out 1).trans rfl; have hfz16_0 := blk_frozen BK366.out 0; have hfz16_1 := blk_frozen BK366.out 1))
       go_roundg k1
       case measure => have := HK1.out; omega
       case rel => exact ⟨(x5_1), (wrap64 (x11_1 + 1)), (by first | rfl | (simp; done) | (simp [*]; done)), H', ⟨by have := HK1.out; omega⟩, ⟨by (with_reducible repeat (first | apply Kd.R_alloc | apply Kd.R_drewN | apply Kd.R_drew)); exact Kd.R_mono (Kd.R_far (p := ⟨gb366, 1, none⟩) (Kd.R_far (p := ⟨gb366, 0, none⟩) (Kd.R_types HO_5.out BK366.out (by decide)) (fun _ hk => hk.2) (.int .u8 ((rd_T78 l0_1 x11_1).f0))) (fun _ hk => hk.2) (.int .i64 ((rd_T78 l0_1 x11_1).f1))) (fun _ hk => trivial)⟩, ⟨by (with_reducible repeat (first | refine blk_drewN ?_ _ | refine blk_drew ?_ | refine blk_alloc ?_ _)); refine blk_far ?_ NB364_366.out _; (with_reducible repeat (first | refine blk_drewN ?_ _ | refine blk_drew ?_ | refine blk_alloc ?_ _)); refine blk_far ?_ NB364_366.out _; (with_reducible repeat (first | refine blk_drewN ?_ _ | refine blk_drew ?_ | refine blk_alloc ?_ _)); exact BK364.out⟩, ⟨by repeat (first | (with_reducible first | exact HB.out | apply below_alloc | apply pw_below_drewN | apply below_drew1 | refine below_set ?_ GE364.out | refine below_set ?_ GE366.out) | exact HB.out)⟩⟩
     ·rw [if_neg c7] at H
      exact absurd H (by simp)
    ·rw [if_neg c6] at H
     exact absurd H (by simp)
   ·rw [if_neg c5] at H
    have c5b0 : decide (x11_1 < (l0_1.length : Int)) = false := decide_eq_false c5
    clear c5
    obtain rfl := Option.some.inj H
    go_wp2
    go_ret
    exact ⟨_, by first | rfl | (simp [errW_none, errW_some] <;> rfl) | (simp [*, errW_none, errW_some] <;> rfl), by (with_reducible repeat (first | apply Kd.R_alloc | apply Kd.R_drewN | apply Kd.R_drew)); exact HO_5.out, by repeat (first | (with_reducible first | exact HB.out | apply below_alloc | apply pw_below_drewN | apply below_drew1 | refine below_set ?_ GE364.out) | exact HB.out)⟩
end Go.Proofs.Ytehkhbnhmehobaa.P
namespace Go.Proofs.Ytehkhbnhmehobaa.P
open Go.RowKit Go.Proofs.YtehkhbnhmehobaaW.PrintWords Go.Proofs.YtehkhbnhmehobaaW.PrintLast Go.Proofs.YtehkhbnhmehobaaW.PrintMore
attribute [local go_sem] max2_int min2_int max_two min_two max_three min_three max_four min_four   -- for this text's walks alone
set_option linter.unusedVariables false
set_option linter.unusedSimpArgs false
/-! ### subprogram_has: function 58 -/
def subprogram_has.f (k : Nat) (a0_0 : Bool) (l0_1 : List (S78)) (a0_2 : ByteArray) (a1 : Int) (a2 : Int) : Option (Bool) := (block_Codes.f k a0_0 l0_1 a0_2 a1).bind fun t371 => ((slices_Contains_int64_int64.f k t371 a2).bind fun t374 => (some t374))
theorem subprogram_has.mono : ∀ a0 a1 a2 a3 a4 k, LeO (subprogram_has.f k a0 a1 a2 a3 a4) (subprogram_has.f (k + 1) a0 a1 a2 a3 a4) := by
 intro a0 a1 a2 a3 a4 k
 unfold subprogram_has.f
 repeat' first
   | (with_reducible exact block_Codes.mono _ _ _ _ _)
   | (with_reducible exact slices_Contains_int64_int64.mono _ _ _)
   | (with_reducible exact LeO.refl _)
   | (with_reducible exact LeO.none _)
   | (with_reducible refine LeO.ite ?_ ?_)
   | (with_reducible refine LeO.bind ?_ (fun _ => ?_))
   | exact block_Codes.mono _ _ _ _ _
   | exact slices_Contains_int64_int64.mono _ _ _
   | exact LeO.none _
   | refine LeO.ite ?_ ?_
   | refine LeO.bind ?_ (fun _ => ?_)
set_option maxHeartbeats 8000000 in
set_option maxRecDepth 100000 in
theorem subprogram_has.calls (k : Nat) (a0_0 : Bool) (A0_1 : Option Addr) (c0_1 : Nat) (l0_1 : List (S78)) (a0_2 : ByteArray) (a1 : Int) (a2 : Int) (r : Bool) (w : World) (hr0_1 : Kd.C k78 w A0_1 l0_1.length l0_1) (hc0_1 : l0_1.length ≤ c0_1) (h : subprogram_has.f k a0_0 l0_1 a0_2 a1 a2 = some r) :
  Calls Try.prog 58 #[.agg #[.bool a0_0, .slice A0_1 l0_1.length c0_1, .string a0_2], .int .u8 a1, .int .i64 a2] w fun e w' => e = .returned (.bool r) ∧ Below w.heap.size w w' := by
 have hu32 := Try.underlying32
 have HR0_1 := Aside0.mk hr0_1
 have HC0_1 := Aside0.mk hc0_1
 clear hr0_1 hc0_1
 have HB := Aside0.mk (Below.refl w.heap.size w)
 have H : ((block_Codes.f k a0_0 l0_1 a0_2 a1).bind fun t371 => ((slices_Contains_int64_int64.f k t371 a2).bind fun t374 => (some t374))) = some r := h
 clear h
 replace H := Option.bind_eq_some_iff.mp H
 obtain ⟨t371, A40, H⟩ := H
 replace H : ((slices_Contains_int64_int64.f k t371 a2).bind fun t374 => (some t374)) = some r := H
 have A4 := Aside0.mk A40
 clear A40
 replace H := Option.bind_eq_some_iff.mp H
 obtain ⟨t374, A50, H⟩ := H
 replace H : (some t374) = some r := H
 have A5 := Aside0.mk A50
 clear A50
 obtain rfl := Option.some.inj H
 go_enter Try.func58, Try.ntmps58
 go_wp2_with (first | ((with_reducible refine gate_dst (N := 3) rfl ?_); refine box_event ?hg (N := 3) ?hd (cs := #[.bool a0_0, .slice A0_1 l0_1.length c0_1, .string a0_2]) (t := 32) ?hr ?_; (case hd => rfl); (case hg => rfl); (case hr => first | (go_simp; done) | (go_simp; rfl)); intro gb370 hg w6 hbox hb; have n0_ := Aside0.mk (below_step (by repeat (first | (with_reducible first | exact HB.out | apply below_alloc | apply pw_below_drewN | apply below_drew1) | exact HB.out)) hb); have n1_ := Aside0.mk (hbox); have n2_ := Aside0.mk ((by rw [hg]; exact (below_size (by repeat (first | (with_reducible first | exact HB.out | apply below_alloc | apply pw_below_drewN | apply below_drew1) | exact HB.out))) : w.heap.size ≤ gb370)); have n3_ := Aside0.mk ((by rw [hg]; exact (below_size (by repeat (first | (with_reducible first | exact HB.out | apply below_alloc | apply pw_below_drewN | apply below_drew1) | exact HB.out))) : w.heap.size ≤ gb370)); clear HB; have HB := n0_; have BK370 := n1_; have GW370 := n2_; have GE370 := n3_; clear n0_ n1_ n2_ n3_; clear hb hbox hg; have hcz7_0 : w6.cell? ⟨gb370, 0, none⟩ = some (.bool a0_0) := (blk_cell BK370.out 0).trans rfl; have hcz7_1 : w6.cell? ⟨gb370, 1, none⟩ = some (.slice A0_1 l0_1.length c0_1) := (blk_cell BK370.out 1).trans rfl; have hcz7_2 : w6.cell? ⟨gb370, 2, none⟩ = some (.string a0_2) := (blk_cell BK370.out 2).trans rfl; have hfz7_0 := blk_frozen BK370.out 0; have hfz7_1 := blk_frozen BK370.out 1; have hfz7_2 := blk_frozen BK370.out 2) | ((with_reducible refine gate_callee (f := 93) rfl ?_); refine goesL_ (some 9) rfl rfl Try.func93 (by kernel_rfl) rfl #[.agg #[.bool a0_0, .slice A0_1 l0_1.length c0_1, .string a0_2], .int .u8 a1] rfl (by (try simp only [List.map_toArray, List.map_cons, List.map_nil]); first | done | rfl | (simp only [List.length_drop, List.length_take]; rfl)) ?_; (with_reducible refine (block_Codes.calls k a0_0 _ _ l0_1 a0_2 a1 t371 _ ?side1 ?side2 A4.out).mono ?_); (case side1 => repeat (first | exact (Kd.C_below HR0_1.out HB.out) | (with_reducible refine Kd.C_alloc ?_ _) | (with_reducible refine Kd.C_drewN ?_ _) | (with_reducible refine Kd.C_drew ?_))); (case side2 => exact HC0_1.out); rintro e w8 ⟨v372, rfl, ho0, hb⟩; refine ⟨_, rfl, ?_⟩; have n0_ := Aside0.mk (Kd.R_lower ho0 (below_size (by repeat (first | (with_reducible first | exact HB.out | apply below_alloc | apply pw_below_drewN | apply below_drew1 | refine below_set ?_ GE370.out) | exact HB.out)))); have n1_ := Aside0.mk (blk_below (g := gb370) (o := .cells #[.bool a0_0, .slice A0_1 l0_1.length c0_1, .string a0_2] 32 (0, 0)) (by (with_reducible repeat (first | refine blk_drewN ?_ _ | refine blk_drew ?_ | refine blk_alloc ?_ _)); exact BK370.out) hb); have n2_ := Aside0.mk (below_step (by repeat (first | (with_reducible first | exact HB.out | apply below_alloc | apply pw_below_drewN | apply below_drew1 | refine below_set ?_ GE370.out) | exact HB.out)) hb); clear BK370; clear HB; have HO373 := n0_; have BK370 := n1_; have HB := n2_; clear n0_ n1_ n2_; (try clear hb); (try clear hb2); (try clear hk); (try clear hi); (try clear ho0); obtain ⟨Ao9, co9, eo9⟩ := Kd.R_slice HO373.out; subst eo9) | ((with_reducible refine gate_callee (f := 92) rfl ?_); refine goesL_ (some 11) rfl rfl Try.func92 (by kernel_rfl) rfl #[.slice Ao9 t371.length co9, .int .i64 a2] rfl (by (try simp only [List.map_toArray, List.map_cons, List.map_nil]); first | done | rfl | (simp only [List.length_drop, List.length_take]; rfl)) ?_; (with_reducible refine (slices_Contains_int64_int64.calls k _ _ t371 a2 t374 _ ?side1 ?side2 A5.out).mono ?_); (case side1 => repeat (first | exact (Kd.R_reads' HO373.out).2.2 | (with_reducible refine Kd.C_alloc ?_ _) | (with_reducible refine Kd.C_drewN ?_ _) | (with_reducible refine Kd.C_drew ?_))); (case side2 => exact (Kd.R_reads' HO373.out).2.1); rintro e w' ⟨rfl, ⟨nd, rfl⟩⟩; refine ⟨_, rfl, ?_⟩))
 go_ret
 exact ⟨by first | rfl | (simp [errW_none, errW_some] <;> rfl) | (simp [*, errW_none, errW_some] <;> rfl), by repeat (first | (with_reducible first | exact HB.out | apply below_alloc | apply pw_below_drewN | apply below_drew1 | refine below_set ?_ GE370.out) | exact HB.out)⟩
end Go.Proofs.Ytehkhbnhmehobaa.P
namespace Go.Proofs.Ytehkhbnhmehobaa.P
open Go.RowKit Go.Proofs.YtehkhbnhmehobaaW.PrintWords Go.Proofs.YtehkhbnhmehobaaW.PrintLast Go.Proofs.YtehkhbnhmehobaaW.PrintMore
attribute [local go_sem] max2_int min2_int max_two min_two max_three min_three max_four min_four   -- for this text's walks alone
set_option linter.unusedVariables false
set_option linter.unusedSimpArgs false
/-! ### subprogram_Split_1: function 75 -/
def subprogram_Split_1.f (k : Nat) (a0_0 : Bool) (l0_1 : List (S78)) (a0_2 : ByteArray) : Option (Bool) := (subprogram_has.f k a0_0 l0_1 a0_2 77 30000).bind fun t943 => (some t943)
theorem subprogram_Split_1.mono : ∀ a0 a1 a2 k, LeO (subprogram_Split_1.f k a0 a1 a2) (subprogram_Split_1.f (k + 1) a0 a1 a2) := by
 intro a0 a1 a2 k
 unfold subprogram_Split_1.f
 repeat' first
   | (with_reducible exact subprogram_has.mono _ _ _ _ _ _)
   | (with_reducible exact LeO.refl _)
   | (with_reducible exact LeO.none _)
   | (with_reducible refine LeO.ite ?_ ?_)
   | (with_reducible refine LeO.bind ?_ (fun _ => ?_))
   | exact subprogram_has.mono _ _ _ _ _ _
   | exact LeO.none _
   | refine LeO.ite ?_ ?_
   | refine LeO.bind ?_ (fun _ => ?_)
set_option maxHeartbeats 8000000 in
set_option maxRecDepth 100000 in
theorem subprogram_Split_1.calls (k : Nat) (a0_0 : Bool) (A0_1 : Option Addr) (c0_1 : Nat) (l0_1 : List (S78)) (a0_2 : ByteArray) (r : Bool) (w : World) (hr0_1 : Kd.C k78 w A0_1 l0_1.length l0_1) (hc0_1 : l0_1.length ≤ c0_1) (h : subprogram_Split_1.f k a0_0 l0_1 a0_2 = some r) :
  Calls Try.prog 75 #[.agg #[.bool a0_0, .slice A0_1 l0_1.length c0_1, .string a0_2]] w fun e w' => e = .returned (.bool r) ∧ Below w.heap.size w w' := by
 have hu32 := Try.underlying32
 have HR0_1 := Aside0.mk hr0_1
 have HC0_1 := Aside0.mk hc0_1
 clear hr0_1 hc0_1
 have HB := Aside0.mk (Below.refl w.heap.size w)
 have H : ((subprogram_has.f k a0_0 l0_1 a0_2 77 30000).bind fun t943 => (some t943)) = some r := h
 clear h
 replace H := Option.bind_eq_some_iff.mp H
 obtain ⟨t943, A20, H⟩ := H
 replace H : (some t943) = some r := H
 have A2 := Aside0.mk A20
 clear A20
 obtain rfl := Option.some.inj H
 go_enter Try.func75, Try.ntmps75
 go_wp2_with (first | ((with_reducible refine gate_dst (N := 1) rfl ?_); refine box_event ?hg (N := 1) ?hd (cs := #[.bool a0_0, .slice A0_1 l0_1.length c0_1, .string a0_2]) (t := 32) ?hr ?_; (case hd => rfl); (case hg => rfl); (case hr => first | (go_simp; done) | (go_simp; rfl)); intro gb942 hg w3 hbox hb; have n0_ := Aside0.mk (below_step (by repeat (first | (with_reducible first | exact HB.out | apply below_alloc | apply pw_below_drewN | apply below_drew1) | exact HB.out)) hb); have n1_ := Aside0.mk (hbox); have n2_ := Aside0.mk ((by rw [hg]; exact (below_size (by repeat (first | (with_reducible first | exact HB.out | apply below_alloc | apply pw_below_drewN | apply below_drew1) | exact HB.out))) : w.heap.size ≤ gb942)); have n3_ := Aside0.mk ((by rw [hg]; exact (below_size (by repeat (first | (with_reducible first | exact HB.out | apply below_alloc | apply pw_below_drewN | apply below_drew1) | exact HB.out))) : w.heap.size ≤ gb942)); clear HB; have HB := n0_; have BK942 := n1_; have GW942 := n2_; have GE942 := n3_; clear n0_ n1_ n2_ n3_; clear hb hbox hg; have hcz4_0 : w3.cell? ⟨gb942, 0, none⟩ = some (.bool a0_0) := (blk_cell BK942.out 0).trans rfl; have hcz4_1 : w3.cell? ⟨gb942, 1, none⟩ = some (.slice A0_1 l0_1.length c0_1) := (blk_cell BK942.out 1).trans rfl; have hcz4_2 : w3.cell? ⟨gb942, 2, none⟩ = some (.string a0_2) := (blk_cell BK942.out 2).trans rfl; have hfz4_0 := blk_frozen BK942.out 0; have hfz4_1 := blk_frozen BK942.out 1; have hfz4_2 := blk_frozen BK942.out 2) | ((with_reducible refine gate_callee (f := 58) rfl ?_); refine goesL_ (some 4) rfl rfl Try.func58 (by kernel_rfl) rfl #[.agg #[.bool a0_0, .slice A0_1 l0_1.length c0_1, .string a0_2], .int .u8 77, .int .i64 30000] rfl (by (try simp only [List.map_toArray, List.map_cons, List.map_nil]); first | done | rfl | (simp only [List.length_drop, List.length_take]; rfl)) ?_; (with_reducible refine (subprogram_has.calls k a0_0 _ _ l0_1 a0_2 77 30000 t943 _ ?side1 ?side2 A2.out).mono ?_); (case side1 => repeat (first | exact (Kd.C_below HR0_1.out HB.out) | (with_reducible refine Kd.C_alloc ?_ _) | (with_reducible refine Kd.C_drewN ?_ _) | (with_reducible refine Kd.C_drew ?_))); (case side2 => exact HC0_1.out); rintro e w5 ⟨rfl, hb⟩; refine ⟨_, rfl, ?_⟩; have n0_ := Aside0.mk (blk_below (g := gb942) (o := .cells #[.bool a0_0, .slice A0_1 l0_1.length c0_1, .string a0_2] 32 (0, 0)) (by (with_reducible repeat (first | refine blk_drewN ?_ _ | refine blk_drew ?_ | refine blk_alloc ?_ _)); exact BK942.out) hb); have n1_ := Aside0.mk (below_step (by repeat (first | (with_reducible first | exact HB.out | apply below_alloc | apply pw_below_drewN | apply below_drew1 | refine below_set ?_ GE942.out) | exact HB.out)) hb); clear BK942; clear HB; have BK942 := n0_; have HB := n1_; clear n0_ n1_; (try clear hb); (try clear hb2); (try clear hk); (try clear hi)))
 go_ret
 exact ⟨by first | rfl | (simp [errW_none, errW_some] <;> rfl) | (simp [*, errW_none, errW_some] <;> rfl), by repeat (first | (with_reducible first | exact HB.out | apply below_alloc | apply pw_below_drewN | apply below_drew1 | refine below_set ?_ GE942.out) | exact HB.out)⟩
end Go.Proofs.Ytehkhbnhmehobaa.P
namespace Go.Proofs.Ytehkhbnhmehobaa.P
open Go.RowKit Go.Proofs.YtehkhbnhmehobaaW.PrintWords Go.Proofs.YtehkhbnhmehobaaW.PrintLast Go.Proofs.YtehkhbnhmehobaaW.PrintMore
attribute [local go_sem] max2_int min2_int max_two min_two max_three min_three max_four min_four   -- for this text's walks alone
set_option linter.unusedVariables false
set_option linter.unusedSimpArgs false
/-! ### subprogram_plain: function 78 -/
def subprogram_plain.f (a0_0 : Bool) (l0_1 : List (S78)) (a0_2 : ByteArray) : Option (Bool) := if (l0_1.length : Int) = 1 then (if a0_0 = true then (some false) else (some (a0_2.toList == ([] : List UInt8)))) else (some false)
set_option maxHeartbeats 8000000 in
set_option maxRecDepth 100000 in
theorem subprogram_plain.calls (a0_0 : Bool) (A0_1 : Option Addr) (c0_1 : Nat) (l0_1 : List (S78)) (a0_2 : ByteArray) (r : Bool) (w : World) (hr0_1 : Kd.C k78 w A0_1 l0_1.length l0_1) (hc0_1 : l0_1.length ≤ c0_1) (h : subprogram_plain.f a0_0 l0_1 a0_2 = some r) :
  Calls Try.prog 78 #[.agg #[.bool a0_0, .slice A0_1 l0_1.length c0_1, .string a0_2]] w fun e w' => e = .returned (.bool r) ∧ Below w.heap.size w w' := by
 have hu32 := Try.underlying32
 have HR0_1 := Aside0.mk hr0_1
 have HC0_1 := Aside0.mk hc0_1
 clear hr0_1 hc0_1
 have HB := Aside0.mk (Below.refl w.heap.size w)
 have H : (if (l0_1.length : Int) = 1 then (if a0_0 = true then (some false) else (some (a0_2.toList == ([] : List UInt8)))) else (some false)) = some r := h
 clear h
 by_cases c2 : (l0_1.length : Int) = 1
 ·rw [if_pos c2] at H
  have c2b0 : ((l0_1.length : Int) == 1) = true := beq_iff_eq.mpr c2
  have c2b1 : ((l0_1.length : Int) != 1) = false := bne_eq_false_iff_eq.mpr c2
  clear c2
  by_cases c3 : a0_0 = true
  ·subst c3
   have H1 : (some false) = some r := by rw [if_pos rfl] at H; exact H
   clear H
   have H := H1
   clear H1
   obtain rfl := Option.some.inj H
   go_enter Try.func78, Try.ntmps78
   go_wp2_with (first | ((with_reducible refine gate_dst (N := 1) rfl ?_); refine box_event ?hg (N := 1) ?hd (cs := #[.bool true, .slice A0_1 l0_1.length c0_1, .string a0_2]) (t := 32) ?hr ?_; (case hd => rfl); (case hg => rfl); (case hr => first | (go_simp; done) | (go_simp; rfl)); intro gb451 hg w4 hbox hb; have n0_ := Aside0.mk (below_step (by repeat (first | (with_reducible first | exact HB.out | apply below_alloc | apply pw_below_drewN | apply below_drew1) | exact HB.out)) hb); have n1_ := Aside0.mk (hbox); have n2_ := Aside0.mk ((by rw [hg]; exact (below_size (by repeat (first | (with_reducible first | exact HB.out | apply below_alloc | apply pw_below_drewN | apply below_drew1) | exact HB.out))) : w.heap.size ≤ gb451)); have n3_ := Aside0.mk ((by rw [hg]; exact (below_size (by repeat (first | (with_reducible first | exact HB.out | apply below_alloc | apply pw_below_drewN | apply below_drew1) | exact HB.out))) : w.heap.size ≤ gb451)); clear HB; have HB := n0_; have BK451 := n1_; have GW451 := n2_; have GE451 := n3_; clear n0_ n1_ n2_ n3_; clear hb hbox hg; have hcz5_0 : w4.cell? ⟨gb451, 0, none⟩ = some (.bool true) := (blk_cell BK451.out 0).trans rfl; have hcz5_1 : w4.cell? ⟨gb451, 1, none⟩ = some (.slice A0_1 l0_1.length c0_1) := (blk_cell BK451.out 1).trans rfl; have hcz5_2 : w4.cell? ⟨gb451, 2, none⟩ = some (.string a0_2) := (blk_cell BK451.out 2).trans rfl; have hfz5_0 := blk_frozen BK451.out 0; have hfz5_1 := blk_frozen BK451.out 1; have hfz5_2 := blk_frozen BK451.out 2))
   go_ret
   exact ⟨by first | rfl | (simp [errW_none, errW_some] <;> rfl) | (simp [*, errW_none, errW_some] <;> rfl), by repeat (first | (with_reducible first | exact HB.out | apply below_alloc | apply pw_below_drewN | apply below_drew1 | refine below_set ?_ GE451.out) | exact HB.out)⟩
  ·replace c3 := Bool.eq_false_iff.mpr c3
   subst c3
   have H1 : (some (a0_2.toList == ([] : List UInt8))) = some r := by rw [if_neg (show ¬ (false = true) by decide)] at H; exact H
   clear H
   have H := H1
   clear H1
   obtain rfl := Option.some.inj H
   go_enter Try.func78, Try.ntmps78
   go_wp2_with (first | ((with_reducible refine gate_dst (N := 1) rfl ?_); refine box_event ?hg (N := 1) ?hd (cs := #[.bool false, .slice A0_1 l0_1.length c0_1, .string a0_2]) (t := 32) ?hr ?_; (case hd => rfl); (case hg => rfl); (case hr => first | (go_simp; done) | (go_simp; rfl)); intro gb451 hg w6 hbox hb; have n0_ := Aside0.mk (below_step (by repeat (first | (with_reducible first | exact HB.out | apply below_alloc | apply pw_below_drewN | apply below_drew1) | exact HB.out)) hb); have n1_ := Aside0.mk (hbox); have n2_ := Aside0.mk ((by rw [hg]; exact (below_size (by repeat (first | (with_reducible first | exact HB.out | apply below_alloc | apply pw_below_drewN | apply below_drew1) | exact HB.out))) : w.heap.size ≤ gb451)); have n3_ := Aside0.mk ((by rw [hg]; exact (below_size (by repeat (first | (with_reducible first | exact HB.out | apply below_alloc | apply pw_below_drewN | apply below_drew1) | exact HB.out))) : w.heap.size ≤ gb451)); clear HB; have HB := n0_; have BK451 := n1_; have GW451 := n2_; have GE451 := n3_; clear n0_ n1_ n2_ n3_; clear hb hbox hg; have hcz7_0 : w6.cell? ⟨gb451, 0, none⟩ = some (.bool false) := (blk_cell BK451.out 0).trans rfl; have hcz7_1 : w6.cell? ⟨gb451, 1, none⟩ = some (.slice A0_1 l0_1.length c0_1) := (blk_cell BK451.out 1).trans rfl; have hcz7_2 : w6.cell? ⟨gb451, 2, none⟩ = some (.string a0_2) := (blk_cell BK451.out 2).trans rfl; have hfz7_0 := blk_frozen BK451.out 0; have hfz7_1 := blk_frozen BK451.out 1; have hfz7_2 := blk_frozen BK451.out 2))
   go_ret
   exact ⟨by first | rfl | (simp [errW_none, errW_some] <;> rfl) | (simp [*, errW_none, errW_some] <;> rfl), by repeat (first | (with_reducible first | exact HB.out | apply below_alloc | apply pw_below_drewN | apply below_drew1 | refine below_set ?_ GE451.out) | exact HB.out)⟩
 ·rw [if_neg c2] at H
  have c2b0 : ((l0_1.length : Int) == 1) = false := beq_eq_false_iff_ne.mpr c2
  have c2b1 : ((l0_1.length : Int) != 1) = true := bne_iff_ne.mpr c2
  obtain rfl := Option.some.inj H
  go_enter Try.func78, Try.ntmps78
  go_wp2_with (first | ((with_reducible refine gate_dst (N := 1) rfl ?_); refine box_event ?hg (N := 1) ?hd (cs := #[.bool a0_0, .slice A0_1 l0_1.length c0_1, .string a0_2]) (t := 32) ?hr ?_; (case hd => rfl); (case hg => rfl); (case hr => first | (go_simp; done) | (go_simp; rfl)); intro gb451 hg w8 hbox hb; have n0_ := Aside0.mk (below_step (by repeat (first | (with_reducible first | exact HB.out | apply below_alloc | apply pw_below_drewN | apply below_drew1) | exact HB.out)) hb); have n1_ := Aside0.mk (hbox); have n2_ := Aside0.mk ((by rw [hg]; exact (below_size (by repeat (first | (with_reducible first | exact HB.out | apply below_alloc | apply pw_below_drewN | apply below_drew1) | exact HB.out))) : w.heap.size ≤ gb451)); have n3_ := Aside0.mk ((by rw [hg]; exact (below_size (by repeat (first | (with_reducible first | exact HB.out | apply below_alloc | apply pw_below_drewN | apply below_drew1) | exact HB.out))) : w.heap.size ≤ gb451)); clear HB; have HB := n0_; have BK451 := n1_; have GW451 := n2_; have GE451 := n3_; clear n0_ n1_ n2_ n3_; clear hb hbox hg; have hcz9_0 : w8.cell? ⟨gb451, 0, none⟩ = some (.bool a0_0) := (blk_cell BK451.out 0).trans rfl; have hcz9_1 : w8.cell? ⟨gb451, 1, none⟩ = some (.slice A0_1 l0_1.length c0_1) := (blk_cell BK451.out 1).trans rfl; have hcz9_2 : w8.cell? ⟨gb451, 2, none⟩ = some (.string a0_2) := (blk_cell BK451.out 2).trans rfl; have hfz9_0 := blk_frozen BK451.out 0; have hfz9_1 := blk_frozen BK451.out 1; have hfz9_2 := blk_frozen BK451.out 2))
  go_ret
  exact ⟨by first | rfl | (simp [errW_none, errW_some] <;> rfl) | (simp [*, errW_none, errW_some] <;> rfl), by repeat (first | (with_reducible first | exact HB.out | apply below_alloc | apply pw_below_drewN | apply below_drew1 | refine below_set ?_ GE451.out) | exact HB.out)⟩
end Go.Proofs.Ytehkhbnhmehobaa.P
