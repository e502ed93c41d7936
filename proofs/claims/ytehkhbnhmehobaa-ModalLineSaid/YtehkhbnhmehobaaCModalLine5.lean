/- A part of the proof of ModalLine. -/
import Derived.Deep.Slices
import Derived.ChangeArms
import Derived.WalkKit
import Derived.ProofKit
import Derived.WideShapes
import Derived.Test.YtehkhbnhmehobaaCModalLine1
import Derived.Test.YtehkhbnhmehobaaCModalLine2
import Derived.Test.YtehkhbnhmehobaaCModalLine3
import Derived.Test.YtehkhbnhmehobaaCModalLine4
namespace Go.Proofs.Ytehkhbnhmehobaa.P
open Go.RowKit Go.Proofs.YtehkhbnhmehobaaW.PrintWords Go.Proofs.YtehkhbnhmehobaaW.PrintLast Go.Proofs.YtehkhbnhmehobaaW.PrintMore
attribute [local go_sem] max2_int min2_int max_two min_two max_three min_three max_four min_four
set_option linter.unusedVariables false
set_option linter.unusedSimpArgs false
mutual
def swarfref42_Group.l0 : Nat → Int → Int → Option (Int)
 | 0, _, _ => none
 | k + 1, x0, x3 => if x3 ≤ 5 then ((swarfref42_codes.f x3).bind fun t260 => (swarfref42_Group.l1 k x0 x3 t260 0)) else (some 0)
def swarfref42_Group.l1 : Nat → Int → Int → List Int → Int → Option (Int)
 | 0, _, _, _, _ => none
 | k + 1, x0, x3, x4, x5 => if x5 < (x4.length : Int) then (if 0 ≤ x5 then (if x0 = (wrap64 (1000 * (rd x4 x5))) then (some x3) else (swarfref42_Group.l1 k x0 x3 x4 (wrap64 (x5 + 1)))) else (none)) else (swarfref42_Group.l0 k x0 (wrap64 (x3 + 1)))
end
def swarfref42_Group.f (k : Nat) (a0 : Int) : Option (Int) := swarfref42_Group.l0 k a0 1
theorem swarfref42_Group.mono_l : ∀ k, (∀ y0 y1, LeO (swarfref42_Group.l0 k y0 y1) (swarfref42_Group.l0 (k + 1) y0 y1)) ∧ (∀ y0 y1 y2 y3, LeO (swarfref42_Group.l1 k y0 y1 y2 y3) (swarfref42_Group.l1 (k + 1) y0 y1 y2 y3))
 | 0 => ⟨fun _ _ r h => by simp [swarfref42_Group.l0] at h, fun _ _ _ _ r h => by simp [swarfref42_Group.l1] at h⟩
 | k + 1 => by
  obtain ⟨ih0, ih1⟩ := swarfref42_Group.mono_l k
  refine ⟨?_, ?_⟩
  ·intro y0 y1
   unfold swarfref42_Group.l0
   repeat' first
   | (with_reducible exact ih0 _ _)
   | (with_reducible exact ih1 _ _ _ _)
   | (with_reducible exact LeO.refl _)
   | (with_reducible exact LeO.none _)
   | (with_reducible refine LeO.ite ?_ ?_)
   | (with_reducible refine LeO.bind ?_ (fun _ => ?_))
   | exact ih0 _ _
   | exact ih1 _ _ _ _
   | exact LeO.none _
   | refine LeO.ite ?_ ?_
   | refine LeO.bind ?_ (fun _ => ?_)
  ·intro y0 y1 y2 y3
   unfold swarfref42_Group.l1
   repeat' first
   | (with_reducible exact ih0 _ _)
   | (with_reducible exact ih1 _ _ _ _)
   | (with_reducible exact LeO.refl _)
   | (with_reducible exact LeO.none _)
   | (with_reducible refine LeO.ite ?_ ?_)
   | (with_reducible refine LeO.bind ?_ (fun _ => ?_))
   | exact ih0 _ _
   | exact ih1 _ _ _ _
   | exact LeO.none _
   | refine LeO.ite ?_ ?_
   | refine LeO.bind ?_ (fun _ => ?_)
theorem swarfref42_Group.mono : ∀ a0 k, LeO (swarfref42_Group.f k a0) (swarfref42_Group.f (k + 1) a0) := by
 intro a0 k
 obtain ⟨ih0, ih1⟩ := swarfref42_Group.mono_l k
 unfold swarfref42_Group.f
 repeat' first
   | (with_reducible exact ih0 _ _)
   | (with_reducible exact ih1 _ _ _ _)
   | (with_reducible exact LeO.refl _)
   | (with_reducible exact LeO.none _)
   | (with_reducible refine LeO.ite ?_ ?_)
   | (with_reducible refine LeO.bind ?_ (fun _ => ?_))
   | exact ih0 _ _
   | exact ih1 _ _ _ _
   | exact LeO.none _
   | refine LeO.ite ?_ ?_
   | refine LeO.bind ?_ (fun _ => ?_)
set_option maxHeartbeats 8000000 in
set_option maxRecDepth 100000 in
theorem swarfref42_Group.calls (k : Nat) (a0 : Int) (r : Int) (w : World) (h : swarfref42_Group.f k a0 = some r) :
  Calls Try.prog 15 #[.int .i64 a0] w fun e w' => e = .returned (.int .i64 r) ∧ Below w.heap.size w w' := by
 have HB := Aside0.mk (Below.refl w.heap.size w)
 have H : (swarfref42_Group.l0 k a0 1) = some r := h
 clear h
 have H' := Aside0.mk H
 clear H
 go_enter Try.func15, Try.ntmps15
 go_wp2
 go_loopg [3] k (fun kq v3 w' => ∃ (x3_1 : Int), v3 = .int .i64 x3_1 ∧ Aside0 (swarfref42_Group.l0 kq a0 x3_1 = some r) ∧ Aside0 (kq ≤ k) ∧ Aside0 (Below w.heap.size w w'))
 case atStart => exact ⟨(1), (by first | rfl | (simp; done) | (simp [*]; done)), H', ⟨Nat.le_refl _⟩, ⟨by repeat (first | (with_reducible first | exact HB.out | apply below_alloc | apply pw_below_drewN | apply below_drew1) | exact HB.out)⟩⟩
 case round =>
  clear H'
  try clear c1
  obtain ⟨x3_1, rfl, HA, HK1, HB⟩ := hrel
  cases gk with
  | zero => exact absurd HA.out (by simp [swarfref42_Group.l0])
  | succ k1 =>
   have H := HA.out
   clear HA
   simp only [swarfref42_Group.l0] at H
   by_cases c2 : x3_1 ≤ 5
   ·rw [if_pos c2] at H
    have c2b0 : decide (x3_1 ≤ 5) = true := decide_eq_true c2
    clear c2
    replace H := Option.bind_eq_some_iff.mp H
    obtain ⟨t260, A30, H⟩ := H
    replace H : (swarfref42_Group.l1 k1 a0 x3_1 t260 0) = some r := H
    have A3 := Aside0.mk A30
    clear A30
    have H' := Aside0.mk H
    clear H
    go_wp2_with (first | ((with_reducible refine gate_callee (f := 52) rfl ?_); refine goesL_ (some 11) rfl rfl Try.func52 (by kernel_rfl) rfl #[.int .i64 x3_1] rfl (by (try simp only [List.map_toArray, List.map_cons, List.map_nil]); first | done | rfl | (simp only [List.length_drop, List.length_take]; rfl)) ?_; (with_reducible refine (swarfref42_codes.calls x3_1 t260 _ A3.out).mono ?_); rintro e w4 ⟨v261, rfl, ho0, hb⟩; refine ⟨_, rfl, ?_⟩; have n0_ := Aside0.mk (Kd.R_lower ho0 (below_size (by repeat (first | (with_reducible first | exact HB.out | apply below_alloc | apply pw_below_drewN | apply below_drew1) | exact HB.out)))); have n1_ := Aside0.mk (below_step (by repeat (first | (with_reducible first | exact HB.out | apply below_alloc | apply pw_below_drewN | apply below_drew1) | exact HB.out)) hb); clear HB; have HO262 := n0_; have HB := n1_; clear n0_ n1_; (try clear hb); (try clear hb2); (try clear hk); (try clear hi); (try clear ho0)))
    go_loopg [5] k1 (fun kq v5 w' => ∃ (x5_2 : Int), v5 = .int .i64 x5_2 ∧ Aside0 (swarfref42_Group.l1 kq a0 x3_1 t260 x5_2 = some r) ∧ Aside0 (kq ≤ k1) ∧ Aside0 (Kd.R (Kd.int .i64) 2 w' w.heap.size (fun _ => True) v261 t260) ∧ Aside0 (Below w.heap.size w w'))
    case atStart => exact ⟨(0), (by first | rfl | (simp; done) | (simp [*]; done)), H', ⟨Nat.le_refl _⟩, ⟨by (with_reducible repeat (first | apply Kd.R_alloc | apply Kd.R_drewN | apply Kd.R_drew)); exact HO262.out⟩, ⟨by repeat (first | (with_reducible first | exact HB.out | apply below_alloc | apply pw_below_drewN | apply below_drew1) | exact HB.out)⟩⟩
    case round =>
     clear H'
     try clear c1
     try clear c2
     try clear c2b0
     try clear p2
     obtain ⟨x5_2, rfl, HA, HK2, HO_4, HB⟩ := hrel
     cases gk with
     | zero => exact absurd HA.out (by simp [swarfref42_Group.l1])
     | succ k2 =>
      have H := HA.out
      clear HA
      simp only [swarfref42_Group.l1] at H
      by_cases c5 : x5_2 < (t260.length : Int)
      ·rw [if_pos c5] at H
       have c5b0 : decide (x5_2 < (t260.length : Int)) = true := decide_eq_true c5
       clear c5
       by_cases c6 : 0 ≤ x5_2
       ·rw [if_pos c6] at H
        have c6b0 : decide (0 ≤ x5_2) = true := decide_eq_true c6
        clear c6
        by_cases c7 : a0 = (wrap64 (1000 * (rd t260 x5_2)))
        ·rw [if_pos c7] at H
         have c7b0 : (a0 == (wrap64 (1000 * (rd t260 x5_2)))) = true := beq_iff_eq.mpr c7
         have c7b1 : (a0 != (wrap64 (1000 * (rd t260 x5_2)))) = false := bne_eq_false_iff_eq.mpr c7
         clear c7
         obtain rfl := Option.some.inj H
         obtain ⟨Ao8, co8, eo8⟩ := Kd.R_slice HO_4.out
         subst eo8
         have p263 : 0 ≤ (x5_2 : Int) := of_decide_eq_true (by first | (with_reducible assumption) | assumption)
         have q263 : x5_2 < (t260.length : Int) := of_decide_eq_true (by first | (with_reducible assumption) | assumption)
         obtain ⟨ad263, e263, hx263_0⟩ := Kd.at_int (Kd.R_reads' HO_4.out).2.2 x5_2 p263 q263
         cases e263
         replace p263 := eq_true p263
         replace q263 := eq_true q263
         go_wp2
         go_ret
         exact ⟨by first | rfl | (simp [errW_none, errW_some] <;> rfl) | (simp [*, errW_none, errW_some] <;> rfl), by repeat (first | (with_reducible first | exact HB.out | apply below_alloc | apply pw_below_drewN | apply below_drew1) | exact HB.out)⟩
        ·rw [if_neg c7] at H
         have c7b0 : (a0 == (wrap64 (1000 * (rd t260 x5_2)))) = false := beq_eq_false_iff_ne.mpr c7
         have c7b1 : (a0 != (wrap64 (1000 * (rd t260 x5_2)))) = true := bne_iff_ne.mpr c7
         have H' := Aside0.mk H
         clear H
         obtain ⟨Ao9, co9, eo9⟩ := Kd.R_slice HO_4.out
         subst eo9
         have p263 : 0 ≤ (x5_2 : Int) := of_decide_eq_true (by first | (with_reducible assumption) | assumption)
         have q263 : x5_2 < (t260.length : Int) := of_decide_eq_true (by first | (with_reducible assumption) | assumption)
         obtain ⟨ad263, e263, hx263_0⟩ := Kd.at_int (Kd.R_reads' HO_4.out).2.2 x5_2 p263 q263
         cases e263
         replace p263 := eq_true p263
         replace q263 := eq_true q263
         go_wp2
         go_roundg k2
         case measure => have := HK1.out; have := HK2.out; omega
         case rel => exact ⟨(wrap64 (x5_2 + 1)), (by first | rfl | (simp; done) | (simp [*]; done)), H', ⟨by have := HK1.out; have := HK2.out; omega⟩, ⟨by (with_reducible repeat (first | apply Kd.R_alloc | apply Kd.R_drewN | apply Kd.R_drew)); exact HO_4.out⟩, ⟨by repeat (first | (with_reducible first | exact HB.out | apply below_alloc | apply pw_below_drewN | apply below_drew1) | exact HB.out)⟩⟩
       ·rw [if_neg c6] at H
        exact absurd H (by simp)
      ·rw [if_neg c5] at H
       have c5b0 : decide (x5_2 < (t260.length : Int)) = false := decide_eq_false c5
       clear c5
       have H' := Aside0.mk H
       clear H
       obtain ⟨Ao10, co10, eo10⟩ := Kd.R_slice HO_4.out
       subst eo10
       go_wp2
       go_roundg k2
       case measure => have := HK1.out; have := HK2.out; omega
       case rel => exact ⟨(wrap64 (x3_1 + 1)), (by first | rfl | (simp; done) | (simp [*]; done)), H', ⟨by have := HK1.out; have := HK2.out; omega⟩, ⟨by repeat (first | (with_reducible first | exact HB.out | apply below_alloc | apply pw_below_drewN | apply below_drew1) | exact HB.out)⟩⟩
   ·rw [if_neg c2] at H
    have c2b0 : decide (x3_1 ≤ 5) = false := decide_eq_false c2
    clear c2
    obtain rfl := Option.some.inj H
    go_wp2
    go_ret
    exact ⟨by first | rfl | (simp [errW_none, errW_some] <;> rfl) | (simp [*, errW_none, errW_some] <;> rfl), by repeat (first | (with_reducible first | exact HB.out | apply below_alloc | apply pw_below_drewN | apply below_drew1) | exact HB.out)⟩
end Go.Proofs.Ytehkhbnhmehobaa.P
namespace Go.Proofs.Ytehkhbnhmehobaa.P
open Go.RowKit Go.Proofs.YtehkhbnhmehobaaW.PrintWords Go.Proofs.YtehkhbnhmehobaaW.PrintLast Go.Proofs.YtehkhbnhmehobaaW.PrintMore
attribute [local go_sem] max2_int min2_int max_two min_two max_three min_three max_four min_four
set_option linter.unusedVariables false
set_option linter.unusedSimpArgs false
def swarfref42_New.f  : Option (Int × Int × Int × Int × Int × Int × Int × Int) := some (0, 90000, 54000, 49000, 98000, 0, 0, 0)
set_option maxHeartbeats 8000000 in
set_option maxRecDepth 100000 in
theorem swarfref42_New.calls  (r1 : Int) (r2 : Int) (r3 : Int) (r4 : Int) (r5 : Int) (r6 : Int) (r7 : Int) (r8 : Int) (w : World) (h : swarfref42_New.f  = some (r1, r2, r3, r4, r5, r6, r7, r8)) :
  Calls Try.prog 17 #[] w fun e w' => e = .returned (.agg #[.int .i64 r1, .int .i64 r2, .int .i64 r3, .int .i64 r4, .int .i64 r5, .int .i64 r6, .int .i64 r7, .int .i64 r8]) ∧ Below w.heap.size w w' := by
 have hu25 := Try.underlying25
 have HB := Aside0.mk (Below.refl w.heap.size w)
 have H : (some (0, 90000, 54000, 49000, 98000, 0, 0, 0)) = some (r1, r2, r3, r4, r5, r6, r7, r8) := h
 clear h
 simp only [Option.some.injEq, Prod.mk.injEq] at H
 obtain ⟨rfl, rfl, rfl, rfl, rfl, rfl, rfl, rfl⟩ := H
 go_enter Try.func17, Try.ntmps17
 go_wp2_with (first | ((with_reducible refine gate_dst (N := 0) rfl ?_); refine box_event ?hg (N := 0) ?hd (cs := #[.int .i64 0, .int .i64 0, .int .i64 0, .int .i64 0, .int .i64 0, .int .i64 0, .int .i64 0, .int .i64 0]) (t := 25) ?hr ?_; (case hd => rfl); (case hg => rfl); (case hr => first | (go_simp; done) | (go_simp; rfl)); intro gb264 hg w1 hbox hb; have n0_ := Aside0.mk (below_step (by repeat (first | (with_reducible first | exact HB.out | apply below_alloc | apply pw_below_drewN | apply below_drew1) | exact HB.out)) hb); have n1_ := Aside0.mk (hbox); have n2_ := Aside0.mk ((by rw [hg]; exact (below_size (by repeat (first | (with_reducible first | exact HB.out | apply below_alloc | apply pw_below_drewN | apply below_drew1) | exact HB.out))) : w.heap.size ≤ gb264)); have n3_ := Aside0.mk ((by rw [hg]; exact (below_size (by repeat (first | (with_reducible first | exact HB.out | apply below_alloc | apply pw_below_drewN | apply below_drew1) | exact HB.out))) : w.heap.size ≤ gb264)); clear HB; have HB := n0_; have BK264 := n1_; have GW264 := n2_; have GE264 := n3_; clear n0_ n1_ n2_ n3_; clear hb hbox hg; have hcz2_0 : w1.cell? ⟨gb264, 0, none⟩ = some (.int .i64 0) := (blk_cell BK264.out 0).trans rfl; have hcz2_1 : w1.cell? ⟨gb264, 1, none⟩ = some (.int .i64 0) := (blk_cell BK264.out 1).trans rfl; have hcz2_2 : w1.cell? ⟨gb264, 2, none⟩ = some (.int .i64 0) := (blk_cell BK264.out 2).trans rfl; have hcz2_3 : w1.cell? ⟨gb264, 3, none⟩ = some (.int .i64 0) := (blk_cell BK264.out 3).trans rfl; have hcz2_4 : w1.cell? ⟨gb264, 4, none⟩ = some (.int .i64 0) := (blk_cell BK264.out 4).trans rfl; have hcz2_5 : w1.cell? ⟨gb264, 5, none⟩ = some (.int .i64 0) := (blk_cell BK264.out 5).trans rfl; have hcz2_6 : w1.cell? ⟨gb264, 6, none⟩ = some (.int .i64 0) := (blk_cell BK264.out 6).trans rfl; have hcz2_7 : w1.cell? ⟨gb264, 7, none⟩ = some (.int .i64 0) := (blk_cell BK264.out 7).trans rfl; have hfz2_0 := blk_frozen BK264.out 0; have hfz2_1 := blk_frozen BK264.out 1; have hfz2_2 := blk_frozen BK264.out 2; have hfz2_3 := blk_frozen BK264.out 3; have hfz2_4 := blk_frozen BK264.out 4; have hfz2_5 := blk_frozen BK264.out 5; have hfz2_6 := blk_frozen BK264.out 6; have hfz2_7 := blk_frozen BK264.out 7))
 refine bodyPost_ret (results_cell_row rfl _ _ gb264 25 #[.int .i64 0, .int .i64 90000, .int .i64 54000, .int .i64 49000, .int .i64 98000, .int .i64 0, .int .i64 0, .int .i64 0] (0, 0) _ rfl (by (with_reducible repeat (first | refine blk_drewN ?_ _ | refine blk_drew ?_ | refine blk_alloc ?_ _)); refine blk_put (cs := #[.int .i64 0, .int .i64 90000, .int .i64 54000, .int .i64 49000, .int .i64 98000, .int .i64 0, .int .i64 0, .int .i64 0]) ?_ 7 _ rfl; (with_reducible repeat (first | refine blk_drewN ?_ _ | refine blk_drew ?_ | refine blk_alloc ?_ _)); refine blk_put (cs := #[.int .i64 0, .int .i64 90000, .int .i64 54000, .int .i64 49000, .int .i64 98000, .int .i64 0, .int .i64 0, .int .i64 0]) ?_ 6 _ rfl; (with_reducible repeat (first | refine blk_drewN ?_ _ | refine blk_drew ?_ | refine blk_alloc ?_ _)); refine blk_put (cs := #[.int .i64 0, .int .i64 90000, .int .i64 54000, .int .i64 49000, .int .i64 98000, .int .i64 0, .int .i64 0, .int .i64 0]) ?_ 5 _ rfl; (with_reducible repeat (first | refine blk_drewN ?_ _ | refine blk_drew ?_ | refine blk_alloc ?_ _)); refine blk_put (cs := #[.int .i64 0, .int .i64 90000, .int .i64 54000, .int .i64 49000, .int .i64 0, .int .i64 0, .int .i64 0, .int .i64 0]) ?_ 4 _ rfl; (with_reducible repeat (first | refine blk_drewN ?_ _ | refine blk_drew ?_ | refine blk_alloc ?_ _)); refine blk_put (cs := #[.int .i64 0, .int .i64 90000, .int .i64 54000, .int .i64 0, .int .i64 0, .int .i64 0, .int .i64 0, .int .i64 0]) ?_ 3 _ rfl; (with_reducible repeat (first | refine blk_drewN ?_ _ | refine blk_drew ?_ | refine blk_alloc ?_ _)); refine blk_put (cs := #[.int .i64 0, .int .i64 90000, .int .i64 0, .int .i64 0, .int .i64 0, .int .i64 0, .int .i64 0, .int .i64 0]) ?_ 2 _ rfl; (with_reducible repeat (first | refine blk_drewN ?_ _ | refine blk_drew ?_ | refine blk_alloc ?_ _)); refine blk_put (cs := #[.int .i64 0, .int .i64 0, .int .i64 0, .int .i64 0, .int .i64 0, .int .i64 0, .int .i64 0, .int .i64 0]) ?_ 1 _ rfl; (with_reducible repeat (first | refine blk_drewN ?_ _ | refine blk_drew ?_ | refine blk_alloc ?_ _)); refine blk_put (cs := #[.int .i64 0, .int .i64 0, .int .i64 0, .int .i64 0, .int .i64 0, .int .i64 0, .int .i64 0, .int .i64 0]) ?_ 0 _ rfl; (with_reducible repeat (first | refine blk_drewN ?_ _ | refine blk_drew ?_ | refine blk_alloc ?_ _)); exact BK264.out) Try.underlying25 rfl (by kernel_rfl)) rfl ?_
 exact ⟨by first | rfl | (simp [errW_none, errW_some] <;> rfl) | (simp [*, errW_none, errW_some] <;> rfl), by repeat (first | (with_reducible first | exact HB.out | apply below_alloc | apply pw_below_drewN | apply below_drew1 | refine below_set ?_ GE264.out) | exact HB.out)⟩
end Go.Proofs.Ytehkhbnhmehobaa.P
namespace Go.Proofs.Ytehkhbnhmehobaa.P
open Go.RowKit Go.Proofs.YtehkhbnhmehobaaW.PrintWords Go.Proofs.YtehkhbnhmehobaaW.PrintLast Go.Proofs.YtehkhbnhmehobaaW.PrintMore
attribute [local go_sem] max2_int min2_int max_two min_two max_three min_three max_four min_four
set_option linter.unusedVariables false
set_option linter.unusedSimpArgs false
attribute [local go_sem high] eqA25 eqA26
def swarflaw42_ModalGroup.f (k : Nat) (a0 : Int) : Option (Bool) := (swarflaw42_awake.f k).bind fun t265 => (if t265 = true then ((modal_Group.f a0).bind fun t266 => ((swarfref42_Group.f k a0).bind fun t267 => (if t266 = t267 then ((modal_New.f).bind fun bt268 => ((swarfref42_New.f).bind fun bt276 => (some (bt268.1 == bt276.1 && (bt268.2.1 == bt276.2.1 && (bt268.2.2.1 == bt276.2.2.1 && (bt268.2.2.2.1 == bt276.2.2.2.1 && (bt268.2.2.2.2.1 == bt276.2.2.2.2.1 && (bt268.2.2.2.2.2.1 == bt276.2.2.2.2.2.1 && (bt268.2.2.2.2.2.2.1 == bt276.2.2.2.2.2.2.1 && (bt268.2.2.2.2.2.2.2 == bt276.2.2.2.2.2.2.2))))))))))) else (none)))) else (none))
theorem swarflaw42_ModalGroup.mono : ∀ a0 k, LeO (swarflaw42_ModalGroup.f k a0) (swarflaw42_ModalGroup.f (k + 1) a0) := by
 intro a0 k
 unfold swarflaw42_ModalGroup.f
 repeat' first
   | (with_reducible exact swarflaw42_awake.mono _)
   | (with_reducible exact swarfref42_Group.mono _ _)
   | (with_reducible exact LeO.refl _)
   | (with_reducible exact LeO.none _)
   | (with_reducible refine LeO.ite ?_ ?_)
   | (with_reducible refine LeO.bind ?_ (fun _ => ?_))
   | exact swarflaw42_awake.mono _
   | exact swarfref42_Group.mono _ _
   | exact LeO.none _
   | refine LeO.ite ?_ ?_
   | refine LeO.bind ?_ (fun _ => ?_)
set_option maxHeartbeats 8000000 in
set_option maxRecDepth 100000 in
theorem swarflaw42_ModalGroup.calls (k : Nat) (a0 : Int) (r : Bool) (w : World) (h : swarflaw42_ModalGroup.f k a0 = some r) :
  Calls Try.prog 3 #[.int .i64 a0] w fun e w' => e = .returned (.bool r) ∧ Below w.heap.size w w' := by
 have HB := Aside0.mk (Below.refl w.heap.size w)
 have H : ((swarflaw42_awake.f k).bind fun t265 => (if t265 = true then ((modal_Group.f a0).bind fun t266 => ((swarfref42_Group.f k a0).bind fun t267 => (if t266 = t267 then ((modal_New.f).bind fun bt268 => ((swarfref42_New.f).bind fun bt276 => (some (bt268.1 == bt276.1 && (bt268.2.1 == bt276.2.1 && (bt268.2.2.1 == bt276.2.2.1 && (bt268.2.2.2.1 == bt276.2.2.2.1 && (bt268.2.2.2.2.1 == bt276.2.2.2.2.1 && (bt268.2.2.2.2.2.1 == bt276.2.2.2.2.2.1 && (bt268.2.2.2.2.2.2.1 == bt276.2.2.2.2.2.2.1 && (bt268.2.2.2.2.2.2.2 == bt276.2.2.2.2.2.2.2))))))))))) else (none)))) else (none))) = some r := h
 clear h
 replace H := Option.bind_eq_some_iff.mp H
 obtain ⟨t265, A20, H⟩ := H
 replace H : (if t265 = true then ((modal_Group.f a0).bind fun t266 => ((swarfref42_Group.f k a0).bind fun t267 => (if t266 = t267 then ((modal_New.f).bind fun bt268 => ((swarfref42_New.f).bind fun bt276 => (some (bt268.1 == bt276.1 && (bt268.2.1 == bt276.2.1 && (bt268.2.2.1 == bt276.2.2.1 && (bt268.2.2.2.1 == bt276.2.2.2.1 && (bt268.2.2.2.2.1 == bt276.2.2.2.2.1 && (bt268.2.2.2.2.2.1 == bt276.2.2.2.2.2.1 && (bt268.2.2.2.2.2.2.1 == bt276.2.2.2.2.2.2.1 && (bt268.2.2.2.2.2.2.2 == bt276.2.2.2.2.2.2.2))))))))))) else (none)))) else (none)) = some r := H
 have A2 := Aside0.mk A20
 clear A20
 by_cases c3 : t265 = true
 ·subst c3
  have H1 : ((modal_Group.f a0).bind fun t266 => ((swarfref42_Group.f k a0).bind fun t267 => (if t266 = t267 then ((modal_New.f).bind fun bt268 => ((swarfref42_New.f).bind fun bt276 => (some (bt268.1 == bt276.1 && (bt268.2.1 == bt276.2.1 && (bt268.2.2.1 == bt276.2.2.1 && (bt268.2.2.2.1 == bt276.2.2.2.1 && (bt268.2.2.2.2.1 == bt276.2.2.2.2.1 && (bt268.2.2.2.2.2.1 == bt276.2.2.2.2.2.1 && (bt268.2.2.2.2.2.2.1 == bt276.2.2.2.2.2.2.1 && (bt268.2.2.2.2.2.2.2 == bt276.2.2.2.2.2.2.2))))))))))) else (none)))) = some r := by rw [if_pos rfl] at H; exact H
  clear H
  have H := H1
  clear H1
  replace H := Option.bind_eq_some_iff.mp H
  obtain ⟨t266, A40, H⟩ := H
  replace H : ((swarfref42_Group.f k a0).bind fun t267 => (if t266 = t267 then ((modal_New.f).bind fun bt268 => ((swarfref42_New.f).bind fun bt276 => (some (bt268.1 == bt276.1 && (bt268.2.1 == bt276.2.1 && (bt268.2.2.1 == bt276.2.2.1 && (bt268.2.2.2.1 == bt276.2.2.2.1 && (bt268.2.2.2.2.1 == bt276.2.2.2.2.1 && (bt268.2.2.2.2.2.1 == bt276.2.2.2.2.2.1 && (bt268.2.2.2.2.2.2.1 == bt276.2.2.2.2.2.2.1 && (bt268.2.2.2.2.2.2.2 == bt276.2.2.2.2.2.2.2))))))))))) else (none))) = some r := H
  have A4 := Aside0.mk A40
  clear A40
  replace H := Option.bind_eq_some_iff.mp H
  obtain ⟨t267, A50, H⟩ := H
  replace H : (if t266 = t267 then ((modal_New.f).bind fun bt268 => ((swarfref42_New.f).bind fun bt276 => (some (bt268.1 == bt276.1 && (bt268.2.1 == bt276.2.1 && (bt268.2.2.1 == bt276.2.2.1 && (bt268.2.2.2.1 == bt276.2.2.2.1 && (bt268.2.2.2.2.1 == bt276.2.2.2.2.1 && (bt268.2.2.2.2.2.1 == bt276.2.2.2.2.2.1 && (bt268.2.2.2.2.2.2.1 == bt276.2.2.2.2.2.2.1 && (bt268.2.2.2.2.2.2.2 == bt276.2.2.2.2.2.2.2))))))))))) else (none)) = some r := H
  have A5 := Aside0.mk A50
  clear A50
  by_cases c6 : t266 = t267
  ·rw [if_pos c6] at H
   have c6b0 : (t266 == t267) = true := beq_iff_eq.mpr c6
   have c6b1 : (t266 != t267) = false := bne_eq_false_iff_eq.mpr c6
   clear c6
   replace H := Option.bind_eq_some_iff.mp H
   obtain ⟨⟨t268, t269, t270, t271, t272, t273, t274, t275⟩, A70, H⟩ := H
   replace H : ((swarfref42_New.f).bind fun bt276 => (some (t268 == bt276.1 && (t269 == bt276.2.1 && (t270 == bt276.2.2.1 && (t271 == bt276.2.2.2.1 && (t272 == bt276.2.2.2.2.1 && (t273 == bt276.2.2.2.2.2.1 && (t274 == bt276.2.2.2.2.2.2.1 && (t275 == bt276.2.2.2.2.2.2.2)))))))))) = some r := H
   have A7 := Aside0.mk A70
   clear A70
   replace H := Option.bind_eq_some_iff.mp H
   obtain ⟨⟨t276, t277, t278, t279, t280, t281, t282, t283⟩, A80, H⟩ := H
   replace H : (some (t268 == t276 && (t269 == t277 && (t270 == t278 && (t271 == t279 && (t272 == t280 && (t273 == t281 && (t274 == t282 && (t275 == t283))))))))) = some r := H
   have A8 := Aside0.mk A80
   clear A80
   obtain rfl := Option.some.inj H
   go_enter Try.func3, Try.ntmps3
   go_wp2_with (first | ((with_reducible refine gate_callee (f := 13) rfl ?_); refine goesL_ (some 3) rfl rfl Try.func13 (by kernel_rfl) rfl #[] rfl (by (try simp only [List.map_toArray, List.map_cons, List.map_nil]); first | done | rfl | (simp only [List.length_drop, List.length_take]; rfl)) ?_; (with_reducible refine (swarflaw42_awake.calls k  true _ A2.out).mono ?_); rintro e w9 ⟨rfl, hb⟩; refine ⟨_, rfl, ?_⟩; have n0_ := Aside0.mk (below_step (by repeat (first | (with_reducible first | exact HB.out | apply below_alloc | apply pw_below_drewN | apply below_drew1) | exact HB.out)) hb); clear HB; have HB := n0_; clear n0_; (try clear hb); (try clear hb2); (try clear hk); (try clear hi)) | (go_at_call 14; (with_reducible refine (modal_Group.calls a0 t266 _ A4.out).mono ?_); rintro e w10 ⟨rfl, hb⟩; have n0_ := Aside0.mk (below_step (by repeat (first | (with_reducible first | exact HB.out | apply below_alloc | apply pw_below_drewN | apply below_drew1) | exact HB.out)) hb); clear HB; have HB := n0_; clear n0_; (try clear hb); (try clear hb2); (try clear hk); (try clear hi)) | (go_at_call 15; (with_reducible refine (swarfref42_Group.calls k a0 t267 _ A5.out).mono ?_); rintro e w11 ⟨rfl, hb⟩; have n0_ := Aside0.mk (below_step (by repeat (first | (with_reducible first | exact HB.out | apply below_alloc | apply pw_below_drewN | apply below_drew1) | exact HB.out)) hb); clear HB; have HB := n0_; clear n0_; (try clear hb); (try clear hb2); (try clear hk); (try clear hi)) | (go_at_call 16; (with_reducible refine (modal_New.calls  t268 t269 t270 t271 t272 t273 t274 t275 _ A7.out).mono ?_); rintro e w12 ⟨rfl, hb⟩; have n0_ := Aside0.mk (below_step (by repeat (first | (with_reducible first | exact HB.out | apply below_alloc | apply pw_below_drewN | apply below_drew1) | exact HB.out)) hb); clear HB; have HB := n0_; clear n0_; (try clear hb); (try clear hb2); (try clear hk); (try clear hi)) | (go_at_call 17; (with_reducible refine (swarfref42_New.calls  t276 t277 t278 t279 t280 t281 t282 t283 _ A8.out).mono ?_); rintro e w13 ⟨rfl, hb⟩; have n0_ := Aside0.mk (below_step (by repeat (first | (with_reducible first | exact HB.out | apply below_alloc | apply pw_below_drewN | apply below_drew1) | exact HB.out)) hb); clear HB; have HB := n0_; clear n0_; (try clear hb); (try clear hb2); (try clear hk); (try clear hi)))
   go_ret
   exact ⟨by first | rfl | (simp [errW_none, errW_some] <;> rfl) | (simp [*, errW_none, errW_some] <;> rfl), by repeat (first | (with_reducible first | exact HB.out | apply below_alloc | apply pw_below_drewN | apply below_drew1) | exact HB.out)⟩
  ·rw [if_neg c6] at H
   exact absurd H (by simp)
 ·replace c3 := Bool.eq_false_iff.mpr c3
  subst c3
  have H1 : (none) = some r := by rw [if_neg (show ¬ (false = true) by decide)] at H; exact H
  clear H
  have H := H1
  clear H1
  exact absurd H (by simp)
end Go.Proofs.Ytehkhbnhmehobaa.P
namespace Go.Proofs.Ytehkhbnhmehobaa.P
open Go.RowKit Go.Proofs.YtehkhbnhmehobaaW.PrintWords Go.Proofs.YtehkhbnhmehobaaW.PrintLast Go.Proofs.YtehkhbnhmehobaaW.PrintMore
theorem ref_miss (a g : Int) (l : List Int) : ∀ (n : Nat) (i : Nat) (k : Nat), i + n = l.length → l.length < 1000 → (∀ j : Nat, i ≤ j → j < l.length → a ≠ wrap64 (1000 * rd l (j : Int))) → swarfref42_Group.l1 (k + n + 1) a g l (i : Int) = swarfref42_Group.l0 k a (wrap64 (g + 1)) := by
  intro n
  induction n with
  | zero =>
    intro i k hn hl h
    simp only [swarfref42_Group.l1]
    rw [if_neg (by omega)]
  | succ n ih =>
    intro i k hn hl h
    rw [show k + (n + 1) + 1 = (k + n + 1) + 1 by omega]
    rw [swarfref42_Group.l1]
    rw [if_pos (by omega), if_pos (by omega), if_neg (h i (Nat.le_refl _) (by omega))]
    rw [show wrap64 ((i : Int) + 1) = ((i + 1 : Nat) : Int) from wrap_succ (n := l.length) (by omega) (by omega)]
    exact ih (i + 1) k (by omega) hl (fun j hj hlt => h j (by omega) hlt)
theorem ref_Group_f (c : Int) : swarfref42_Group.f 60 c = some (groupS c) := by
  by_cases h : c ∈ [0, 1000, 2000, 3000, 80000, 81000, 82000, 83000, 90000, 91000, 54000, 55000, 56000, 57000, 58000, 59000, 43000, 49000, 98000, 99000]
  · simp only [List.mem_cons, List.not_mem_nil, or_false] at h
    rcases h with h | h | h | h | h | h | h | h | h | h | h | h | h | h | h | h | h | h | h | h <;> (subst h; kernel_rfl)
  · simp only [List.mem_cons, List.not_mem_nil, or_false, not_or] at h
    have hg : groupS c = 0 := by simp [groupS, h]
    rw [hg]
    have step : ∀ (k n : Nat) (g : Int) (l : List Int), swarfref42_codes.f g = some l → g ≤ 5 → l.length = n → n < 1000 → (∀ x ∈ l, c ≠ wrap64 (1000 * x)) → swarfref42_Group.l0 (k + n + 2) c g = swarfref42_Group.l0 k c (wrap64 (g + 1)) := by
      intro k n g l hc hg5 hn hl hx
      rw [swarfref42_Group.l0, if_pos hg5, hc, Option.bind_some]
      refine ref_miss c g l n 0 k (by omega) (by omega) (fun j _ hj => ?_)
      have : rd l (j : Int) = l[j] := by simp [rd, hj]
      rw [this]
      exact hx _ (List.getElem_mem hj)
    show swarfref42_Group.l0 60 c 1 = some 0
    rw [step 50 8 1 _ rfl (by decide) rfl (by decide) (by simp [wrap64]; omega)]
    rw [show wrap64 (1 + 1) = 2 by simp [wrap64], step 46 2 2 _ rfl (by decide) rfl (by decide) (by simp [wrap64]; omega)]
    rw [show wrap64 (2 + 1) = 3 by simp [wrap64], step 38 6 3 _ rfl (by decide) rfl (by decide) (by simp [wrap64]; omega)]
    rw [show wrap64 (3 + 1) = 4 by simp [wrap64], step 34 2 4 _ rfl (by decide) rfl (by decide) (by simp [wrap64]; omega)]
    rw [show wrap64 (4 + 1) = 5 by simp [wrap64], step 30 2 5 _ rfl (by decide) rfl (by decide) (by simp [wrap64]; omega)]
    rw [show wrap64 (5 + 1) = 6 by simp [wrap64]]
    show swarfref42_Group.l0 (29 + 1) c 6 = some 0
    rw [swarfref42_Group.l0, if_neg (by decide)]
theorem awake42 : swarflaw42_awake.f 60 = some true := by kernel_rfl
end Go.Proofs.Ytehkhbnhmehobaa.P
namespace Go.Proofs.Ytehkhbnhmehobaa.P
open Go.RowKit Go.Proofs.YtehkhbnhmehobaaW.PrintWords Go.Proofs.YtehkhbnhmehobaaW.PrintLast Go.Proofs.YtehkhbnhmehobaaW.PrintMore
set_option linter.unusedVariables false
def Ev {α : Type} (g : Nat → Option α) (v : α) : Prop := ∃ k0, ∀ k, k0 ≤ k → g k = some v
theorem Ev.get {α : Type} {g : Nat → Option α} {v : α} (h : Ev g v) : ∃ k, g k = some v := by
  obtain ⟨k0, h⟩ := h
  exact ⟨k0, h k0 (Nat.le_refl _)⟩
theorem Ev.some {α : Type} {v : α} : Ev (fun _ => Option.some v) v := ⟨0, fun _ _ => rfl⟩
theorem Ev.of {α : Type} {g : Nat → Option α} {v : α} (h : ∀ k, g k = Option.some v) : Ev g v := ⟨0, fun k _ => h k⟩
theorem Ev.congr {α : Type} {g h : Nat → Option α} {v : α} (e : ∀ k, g k = h k) (hh : Ev h v) : Ev g v := by
  obtain ⟨k0, hh⟩ := hh
  exact ⟨k0, fun k hk => (e k).trans (hh k hk)⟩
theorem Ev.step {α : Type} {F B : Nat → Option α} {v : α} (h : ∀ k, F (k + 1) = B k) (hb : Ev B v) : Ev F v := by
  obtain ⟨k0, hb⟩ := hb
  refine ⟨k0 + 1, fun k hk => ?_⟩
  obtain ⟨k', rfl⟩ : ∃ k', k = k' + 1 := ⟨k - 1, by omega⟩
  rw [h k']
  exact hb k' (by omega)
theorem Ev.bind {α β : Type} {g : Nat → Option α} {h : Nat → α → Option β} {v : α} {u : β} (hg : Ev g v) (hh : Ev (fun k => h k v) u) : Ev (fun k => (g k).bind (h k)) u := by
  obtain ⟨k1, h1⟩ := hg
  obtain ⟨k2, h2⟩ := hh
  refine ⟨max k1 k2, fun k hk => ?_⟩
  show (g k).bind (h k) = _
  rw [h1 k (by omega), Option.bind_some]
  exact h2 k (by omega)
theorem Ev.pos {α : Type} {c : Prop} [Decidable c] {g h : Nat → Option α} {v : α} (hc : c) (hg : Ev g v) : Ev (fun k => if c then g k else h k) v := hg.congr (fun k => if_pos hc)
theorem Ev.neg {α : Type} {c : Prop} [Decidable c] {g h : Nat → Option α} {v : α} (hc : ¬ c) (hg : Ev h v) : Ev (fun k => if c then g k else h k) v := hg.congr (fun k => if_neg hc)
theorem Ev.mono {α : Type} {g : Nat → Option α} (h : ∀ k, LeO (g k) (g (k + 1))) {k0 : Nat} {v : α} (h0 : g k0 = Option.some v) : Ev g v := by
  refine ⟨k0, fun k hk => ?_⟩
  obtain ⟨d, rfl⟩ : ∃ d, k = k0 + d := ⟨k - k0, by omega⟩
  clear hk
  induction d with
  | zero => exact h0
  | succ d ih => exact h _ _ ih
theorem wrapI {j : Nat} (h : j < 9223372036854775807) : wrap64 ((j : Int) + 1) = ((j + 1 : Nat) : Int) := by unfold wrap64; omega
theorem rd_T78_at {l : List S78} {j : Nat} (h : j < l.length) : rd_T78 l (j : Int) = l[j] := by simp [rd_T78, h]
theorem rd_T32_at {l : List S32} {j : Nat} (h : j < l.length) : rd_T32 l (j : Int) = l[j] := by simp [rd_T32, h]
instance : DecidableEq S78 := fun a b => if h0 : a.f0 = b.f0 then if h1 : a.f1 = b.f1 then isTrue (by cases a; cases b; simp_all) else isFalse (fun h => h1 (by rw [h])) else isFalse (fun h => h0 (by rw [h]))
instance : DecidableEq S32 := fun a b => if h0 : a.f0 = b.f0 then if h1 : a.f1 = b.f1 then if h2 : a.f2 = b.f2 then isTrue (by cases a; cases b; simp_all) else isFalse (fun h => h2 (by rw [h])) else isFalse (fun h => h1 (by rw [h])) else isFalse (fun h => h0 (by rw [h]))
theorem dropW_eq {α : Type} {l m : List α} {j : Nat} (h : j < l.length) (h' : j < m.length) : (l.drop j = m.drop j) ↔ (l[j] = m[j] ∧ l.drop (j + 1) = m.drop (j + 1)) := by
  rw [List.drop_eq_getElem_cons h, List.drop_eq_getElem_cons h']
  exact ⟨fun e => by injection e with a b; exact ⟨a, b⟩, fun ⟨a, b⟩ => by rw [a, b]⟩
theorem Equal_l0 (s t : Bool) (c d : ByteArray) (l m : List S78) (hl : l.length = m.length) (hm : l.length ≤ 9223372036854775807) : ∀ (n j : Nat), j + n = l.length → Ev (fun k => swarfref41_Equal.l0 k (j : Int) s l c t m d) (decide (l.drop j = m.drop j)) := by
  intro n
  induction n with
  | zero =>
    intro j hj
    refine Ev.step (fun k => by rw [swarfref41_Equal.l0]) ?_
    refine Ev.neg (by omega) ?_
    rw [List.drop_eq_nil_of_le (by omega), List.drop_eq_nil_of_le (by omega)]
    exact Ev.some
  | succ n ih =>
    intro j hj
    refine Ev.step (fun k => by rw [swarfref41_Equal.l0]) ?_
    refine Ev.pos (by omega) (Ev.pos (by omega) (Ev.pos (by omega) ?_))
    rw [rd_T78_at (show j < l.length by omega), rd_T78_at (show j < m.length by omega)]
    have hd := dropW_eq (show j < l.length by omega) (show j < m.length by omega)
    have h2 := ih (j + 1) (by omega)
    by_cases he : l[j]'(by omega) = m[j]'(by omega)
    · refine Ev.neg (by simp [he]) ?_
      rw [wrapI (by omega)]
      rw [decide_eq_decide.mpr (hd.trans ⟨fun h => h.2, fun h => ⟨he, h⟩⟩)]
      exact h2
    · refine Ev.pos ?_ ?_
      · simp only [Bool.or_eq_true, Bool.not_eq_true', beq_eq_false_iff_ne]
        by_cases h0 : (l[j]'(by omega)).f0 = (m[j]'(by omega)).f0
        · right; intro h1; exact he (by cases h : l[j]'(by omega); cases h' : m[j]'(by omega); simp_all)
        · exact .inl h0
      · rw [decide_eq_false (fun h => he (hd.mp h).1)]
        exact Ev.some
theorem data_eq {a b : ByteArray} : a.toList = b.toList ↔ a = b := by
  constructor
  · intro h
    have := congrArg (fun l : List UInt8 => (⟨l.toArray⟩ : ByteArray)) h
    exact ByteArray.ext (by simpa [ByteArray.toList_eq] using this)
  · intro h; rw [h]
theorem Equal_f (a b : S32) (hm : a.f1.length ≤ 9223372036854775807) : Ev (fun k => swarfref41_Equal.f k a.f0 a.f1 a.f2 b.f0 b.f1 b.f2) (decide (a = b)) := by
  unfold swarfref41_Equal.f
  have hj : ∀ c, c = true → ¬ a = b → Ev (fun k => swarfref41_Equal.j0 k c a.f0 a.f1 a.f2 b.f0 b.f1 b.f2) (decide (a = b)) := by
    intro c hc hne
    refine Ev.step (fun k => by rw [swarfref41_Equal.j0]) ?_
    refine Ev.pos hc ?_
    rw [decide_eq_false hne]
    exact Ev.some
  by_cases h0 : a.f0 = b.f0
  · refine Ev.neg (by simp [h0]) ?_
    by_cases h2 : a.f2 = b.f2
    · refine Ev.pos (by rw [h2]) ?_
      by_cases hl : a.f1.length = b.f1.length
      · refine Ev.step (fun k => by rw [swarfref41_Equal.j0]) ?_
        refine Ev.neg (by simp [hl]) ?_
        have := Equal_l0 a.f0 b.f0 a.f2 b.f2 a.f1 b.f1 hl hm a.f1.length 0 (by omega)
        rw [List.drop_zero, List.drop_zero] at this
        have he : decide (a = b) = decide (a.f1 = b.f1) := decide_eq_decide.mpr ⟨fun h => by rw [h], fun h => by cases a; cases b; simp_all⟩
        rw [he]
        exact this
      · exact hj _ (by simp; omega) (fun h => hl (by rw [h]))
    · exact Ev.neg (fun h => h2 (data_eq.mp h)) (hj _ rfl (fun h => h2 (by rw [h])))
  · exact Ev.pos (by simpa using h0) (hj _ rfl (fun h => h0 (by rw [h])))
theorem Same_l0 (l m : List S32) (hl : l.length = m.length) (hm : l.length ≤ 9223372036854775807) (hw : ∀ b ∈ l, b.f1.length ≤ 9223372036854775807) : ∀ (n j : Nat), j + n = l.length → Ev (fun k => swarfref41_Same.l0 k l m (j : Int)) (decide (l.drop j = m.drop j)) := by
  intro n
  induction n with
  | zero =>
    intro j hj
    refine Ev.step (fun k => by rw [swarfref41_Same.l0]) ?_
    refine Ev.neg (by omega) ?_
    rw [List.drop_eq_nil_of_le (by omega), List.drop_eq_nil_of_le (by omega)]
    exact Ev.some
  | succ n ih =>
    intro j hj
    refine Ev.step (fun k => by rw [swarfref41_Same.l0]) ?_
    refine Ev.pos (by omega) (Ev.pos (by omega) (Ev.pos (by omega) ?_))
    rw [rd_T32_at (show j < l.length by omega), rd_T32_at (show j < m.length by omega)]
    have hd := dropW_eq (show j < l.length by omega) (show j < m.length by omega)
    refine Ev.bind (Equal_f _ _ (hw _ (List.getElem_mem _))) ?_
    by_cases he : l[j]'(by omega) = m[j]'(by omega)
    · refine Ev.pos (by simp [he]) ?_
      rw [wrapI (by omega), decide_eq_decide.mpr (hd.trans ⟨fun h => h.2, fun h => ⟨he, h⟩⟩)]
      exact ih (j + 1) (by omega)
    · refine Ev.neg (by simp [he]) ?_
      rw [decide_eq_false (fun h => he (hd.mp h).1)]
      exact Ev.some
theorem Same_f (l m : List S32) (hm : l.length ≤ 9223372036854775807) (hw : ∀ b ∈ l, b.f1.length ≤ 9223372036854775807) : Ev (fun k => swarfref41_Same.f k l m) (decide (l = m)) := by
  unfold swarfref41_Same.f
  by_cases hl : l.length = m.length
  · refine Ev.pos (by omega) ?_
    have := Same_l0 l m hl hm hw l.length 0 (by omega)
    rw [List.drop_zero, List.drop_zero] at this
    exact this
  · refine Ev.neg (by omega) ?_
    rw [decide_eq_false (fun h => hl (by rw [h]))]
    exact Ev.some
end Go.Proofs.Ytehkhbnhmehobaa.P
namespace Go.Proofs.Ytehkhbnhmehobaa.P
open Go.RowKit Go.ChangeShapes Go.WideShapes Go.Deep Go.Proofs.YtehkhbnhmehobaaW.PrintWords Go.Proofs.YtehkhbnhmehobaaW.PrintLast Go.Proofs.YtehkhbnhmehobaaW.PrintMore
set_option linter.unusedVariables false
structure Opens (P : Program) (t : TypeId) {α : Type} (d : Kd α) (wf : α → Prop) : Prop where
  of : ∀ {H : Type} {enc : TypeId × Value → H} {w : World} {base : Nat} {spare : Nat → Bool} {held : Bool} {fuel : Nat} {cs : List Value} {x : DataW H × List MemPlace}, DataW.trod enc P w base spare held fuel t cs = some x → ∃ y, d.K w y cs ∧ wf y
section
variable {P : Program} {t e : TypeId}
theorem opens_int {k : IntKind} (ht : P.underlying t = some (.int k)) : Opens P t (Kd.int k) (fun n => k.min ≤ n ∧ n ≤ k.max) :=
  ⟨fun h => by obtain ⟨n, rfl, _, hw⟩ := DataW.trod_int ht h; exact ⟨n, rfl, by simpa [Lit.wf] using hw⟩⟩
structure OpensF (P : Program) (fs : List Field) (off : Nat) {α : Type} (d : Kd α) (wf : α → Prop) : Prop where
  of : ∀ {H : Type} {enc : TypeId × Value → H} {w : World} {base : Nat} {spare : Nat → Bool} {held : Bool} {n : Nat} {cs : List Value}, (∀ (i : Nat) (f : Field), fs[i]? = some f → ∃ x : DataW H × List MemPlace, DataW.trod enc P w base spare held n f.type ((cs.drop f.offset).take (P.cellsOf f.type)) = some x) → ∃ y, d.K w y ((cs.drop off).take d.sz) ∧ wf y
theorem opensF_one {α : Type} {d : Kd α} {wf : α → Prop} {f : Field} {off : Nat} (ho : f.offset = off) (hc : P.cellsOf f.type = d.sz) (h : Opens P f.type d wf) : OpensF P [f] off d wf :=
  ⟨fun hx => by obtain ⟨x, hx⟩ := hx 0 f rfl; rw [ho, hc] at hx; exact h.of hx⟩
theorem opensF_cons {α β : Type} {d : Kd α} {d' : Kd β} {wf : α → Prop} {wf' : β → Prop} {f : Field} {fs : List Field} {off : Nat} (ho : f.offset = off) (hc : P.cellsOf f.type = d.sz) (h : Opens P f.type d wf) (h' : OpensF P fs (off + d.sz) d' wf') : OpensF P (f :: fs) off (Kd.pair d d') (fun x => wf x.1 ∧ wf' x.2) := by
  refine ⟨fun hx => ?_⟩
  obtain ⟨x, hx0⟩ := hx 0 f rfl
  rw [ho, hc] at hx0
  obtain ⟨y, hy, hw⟩ := h.of hx0
  obtain ⟨y', hy', hw'⟩ := h'.of (fun i f hf => hx (i + 1) f hf)
  refine ⟨(y, y'), ⟨_, _, ?_, hy, hy'⟩, hw, hw'⟩
  show List.take (d.sz + d'.sz) _ = _
  rw [List.take_add, List.drop_drop]
theorem opens_struct {α : Type} {d : Kd α} {wf : α → Prop} {fs : Array Field} (ht : P.underlying t = some (.struct fs)) (hc : P.cellsOf t = d.sz) (h : OpensF P fs.toList 0 d wf) : Opens P t d wf := by
  refine ⟨fun hx => ?_⟩
  obtain ⟨xs, n, _, _, hl, hlen, hf⟩ := DataW.trod_struct ht hx
  obtain ⟨y, hy, hw⟩ := h.of (fun i f hi => by
    rw [Array.getElem?_toList] at hi
    have hlt : i < xs.length := by rw [hlen]; exact (Array.getElem?_eq_some_iff.1 hi).1
    exact ⟨xs[i], (hf i f hi).trans (List.getElem?_eq_getElem hlt)⟩)
  rw [List.drop_zero, List.take_of_length_le (by omega)] at hy
  exact ⟨y, hy, hw⟩
end
end Go.Proofs.Ytehkhbnhmehobaa.P
namespace Go.Proofs.Ytehkhbnhmehobaa.P
open Go.RowKit Go.ChangeShapes Go.WideShapes Go.Proofs.YtehkhbnhmehobaaW.PrintWords Go.Proofs.YtehkhbnhmehobaaW.PrintLast Go.Proofs.YtehkhbnhmehobaaW.PrintMore
set_option linter.unusedVariables false
def I64 (n : Int) : Prop := -9223372036854775808 ≤ n ∧ n ≤ 9223372036854775807
section
variable {H : Type} {enc : TypeId × Value → H} {w : World} {base : Nat} {spare : Nat → Bool} {held : Bool} {r : Reach} {b0 : Nat} {v : Value} {d : DataW H} {p : List MemPlace}
end
end Go.Proofs.Ytehkhbnhmehobaa.P
namespace Go.Proofs.Ytehkhbnhmehobaa.P
open Go.RowKit Go.Proofs.YtehkhbnhmehobaaW.PrintWords Go.Proofs.YtehkhbnhmehobaaW.PrintLast Go.Proofs.YtehkhbnhmehobaaW.PrintMore
attribute [local go_sem] max2_int min2_int max_two min_two max_three min_three max_four min_four
set_option linter.unusedVariables false
set_option linter.unusedSimpArgs false
def modal_Line.l0 : Nat → List Int → Int → Int → Int → Int → Int → Int → Int → Int → Int → Int → Bool → List (S78) → ByteArray → Option (Bool × (List (S78)) × ByteArray)
 | 0, _, _, _, _, _, _, _, _, _, _, _, _, _, _ => none
 | k + 1, x16, x17, x18, x285000, x285001, x285002, x285003, x285004, x285005, x285006, x285007, x287000, x287001, x287002 => if x18 < x17 then (if 0 ≤ x18 then (if x18 < (x16.length : Int) then (if x287001.length < 8796093022208 then (modal_Line.l0 k x16 x17 (wrap64 (x18 + 1)) x285000 x285001 x285002 x285003 x285004 x285005 x285006 x285007 x287000 (x287001 ++ [(⟨71, rd x16 x18⟩ : S78)]) x287002) else (none)) else (none)) else (none)) else ((some (([(⟨70, x285005⟩ : S78), (⟨84, x285006⟩ : S78), (⟨72, x285007⟩ : S78)] : List (S78)) : List (S78))).bind fun y294 => (if x287001.length + y294.length < 8796093022208 then (some (x287000, (x287001 ++ y294), x287002)) else (none)))
def modal_Line.f (k : Nat) (a0_0 : Int) (a0_1 : Int) (a0_2 : Int) (a0_3 : Int) (a0_4 : Int) (a0_5 : Int) (a0_6 : Int) (a0_7 : Int) : Option (Bool × (List (S78)) × ByteArray) := (some (([a0_0, a0_1, a0_2, a0_3, a0_4] : List Int) : List Int)).bind fun y287 => (modal_Line.l0 k y287 (y287.length : Int) 0 a0_0 a0_1 a0_2 a0_3 a0_4 a0_5 a0_6 a0_7 false ([] : List (S78)) (⟨#[]⟩ : ByteArray))
theorem modal_Line.mono_l : ∀ k, (∀ y0 y1 y2 y3 y4 y5 y6 y7 y8 y9 y10 y11 y12 y13, LeO (modal_Line.l0 k y0 y1 y2 y3 y4 y5 y6 y7 y8 y9 y10 y11 y12 y13) (modal_Line.l0 (k + 1) y0 y1 y2 y3 y4 y5 y6 y7 y8 y9 y10 y11 y12 y13))
 | 0 => fun _ _ _ _ _ _ _ _ _ _ _ _ _ _ r h => by simp [modal_Line.l0] at h
 | k + 1 => by
  have ih0 := modal_Line.mono_l k
  ·intro y0 y1 y2 y3 y4 y5 y6 y7 y8 y9 y10 y11 y12 y13
   unfold modal_Line.l0
   repeat' first
   | (with_reducible exact ih0 _ _ _ _ _ _ _ _ _ _ _ _ _ _)
   | (with_reducible exact LeO.refl _)
   | (with_reducible exact LeO.none _)
   | (with_reducible refine LeO.ite ?_ ?_)
   | (with_reducible refine LeO.bind ?_ (fun _ => ?_))
   | exact ih0 _ _ _ _ _ _ _ _ _ _ _ _ _ _
   | exact LeO.none _
   | refine LeO.ite ?_ ?_
   | refine LeO.bind ?_ (fun _ => ?_)
theorem modal_Line.mono : ∀ a0 a1 a2 a3 a4 a5 a6 a7 k, LeO (modal_Line.f k a0 a1 a2 a3 a4 a5 a6 a7) (modal_Line.f (k + 1) a0 a1 a2 a3 a4 a5 a6 a7) := by
 intro a0 a1 a2 a3 a4 a5 a6 a7 k
 have ih0 := modal_Line.mono_l k
 unfold modal_Line.f
 repeat' first
   | (with_reducible exact ih0 _ _ _ _ _ _ _ _ _ _ _ _ _ _)
   | (with_reducible exact LeO.refl _)
   | (with_reducible exact LeO.none _)
   | (with_reducible refine LeO.ite ?_ ?_)
   | (with_reducible refine LeO.bind ?_ (fun _ => ?_))
   | exact ih0 _ _ _ _ _ _ _ _ _ _ _ _ _ _
   | exact LeO.none _
   | refine LeO.ite ?_ ?_
   | refine LeO.bind ?_ (fun _ => ?_)
set_option maxHeartbeats 8000000 in
set_option maxRecDepth 100000 in
theorem modal_Line.calls (k : Nat) (a0_0 : Int) (a0_1 : Int) (a0_2 : Int) (a0_3 : Int) (a0_4 : Int) (a0_5 : Int) (a0_6 : Int) (a0_7 : Int) (r1 : Bool) (r2 : List (S78)) (r3 : ByteArray) (w : World) (h : modal_Line.f k a0_0 a0_1 a0_2 a0_3 a0_4 a0_5 a0_6 a0_7 = some (r1, r2, r3)) :
  Calls Try.prog 18 #[.agg #[.int .i64 a0_0, .int .i64 a0_1, .int .i64 a0_2, .int .i64 a0_3, .int .i64 a0_4, .int .i64 a0_5, .int .i64 a0_6, .int .i64 a0_7]] w fun e w' => ∃ v1_ : Value, e = .returned (.agg #[.bool r1, v1_, .string r3]) ∧ Kd.R k78 78 w' w.heap.size (fun _ => True) v1_ r2 ∧ Below w.heap.size w w' := by
 have hu26 := Try.underlying26
 have hu32 := Try.underlying32
 have hu78 := Try.underlying78
 have HB := Aside0.mk (Below.refl w.heap.size w)
 have H : ((some (([a0_0, a0_1, a0_2, a0_3, a0_4] : List Int) : List Int)).bind fun y287 => (modal_Line.l0 k y287 (y287.length : Int) 0 a0_0 a0_1 a0_2 a0_3 a0_4 a0_5 a0_6 a0_7 false ([] : List (S78)) (⟨#[]⟩ : ByteArray))) = some (r1, r2, r3) := h
 clear h
 obtain ⟨y287, hy287⟩ : ∃ y_ : List Int, y_ = (([a0_0, a0_1, a0_2, a0_3, a0_4] : List Int)) := ⟨_, rfl⟩
 replace H : (modal_Line.l0 k y287 (y287.length : Int) 0 a0_0 a0_1 a0_2 a0_3 a0_4 a0_5 a0_6 a0_7 false ([] : List (S78)) (⟨#[]⟩ : ByteArray)) = some (r1, r2, r3) := by first | (rw [hy287]; with_reducible exact H) | (have H2_ := (Option.bind_some _ _).symm.trans H; rw [hy287]; with_reducible exact H2_) | (have H2_ := (Option.bind_some _ _).symm.trans H; with_reducible exact H2_) | with_reducible exact H | (rw [hy287]; exact H) | exact H
 have Ny287 := Aside0.mk hy287
 clear hy287
 have H' := Aside0.mk H
 clear H
 go_enter Try.func18, Try.ntmps18
 go_wp2_with (first | ((with_reducible refine gate_dst (N := 1) rfl ?_); refine box_event ?hg (N := 1) ?hd (cs := #[.int .i64 a0_0, .int .i64 a0_1, .int .i64 a0_2, .int .i64 a0_3, .int .i64 a0_4, .int .i64 a0_5, .int .i64 a0_6, .int .i64 a0_7]) (t := 26) ?hr ?_; (case hd => rfl); (case hg => rfl); (case hr => first | (go_simp; done) | (go_simp; rfl)); intro gb284 hg w2 hbox hb; have n0_ := Aside0.mk (below_step (by repeat (first | (with_reducible first | exact HB.out | apply below_alloc | apply pw_below_drewN | apply below_drew1) | exact HB.out)) hb); have n1_ := Aside0.mk (hbox); have n2_ := Aside0.mk ((by rw [hg]; exact (below_size (by repeat (first | (with_reducible first | exact HB.out | apply below_alloc | apply pw_below_drewN | apply below_drew1) | exact HB.out))) : w.heap.size ≤ gb284)); have n3_ := Aside0.mk ((by rw [hg]; exact (below_size (by repeat (first | (with_reducible first | exact HB.out | apply below_alloc | apply pw_below_drewN | apply below_drew1) | exact HB.out))) : w.heap.size ≤ gb284)); clear HB; have HB := n0_; have BK284 := n1_; have GW284 := n2_; have GE284 := n3_; clear n0_ n1_ n2_ n3_; clear hb hbox hg) | ((with_reducible refine gate_dst (N := 2) rfl ?_); refine box_event ?hg (N := 2) ?hd (cs := #[.bool false, .slice none 0 0, .string (⟨#[]⟩ : ByteArray)]) (t := 32) ?hr ?_; (case hd => rfl); (case hg => rfl); (case hr => first | (go_simp; done) | (go_simp; rfl)); intro gb285 hg w3 hbox hb; have n0_ := Aside0.mk (blk_below (g := gb284) (o := .cells #[.int .i64 a0_0, .int .i64 a0_1, .int .i64 a0_2, .int .i64 a0_3, .int .i64 a0_4, .int .i64 a0_5, .int .i64 a0_6, .int .i64 a0_7] 26 (0, 0)) (by (with_reducible repeat (first | refine blk_drewN ?_ _ | refine blk_drew ?_ | refine blk_alloc ?_ _)); exact BK284.out) hb); have n1_ := Aside0.mk (below_step (by repeat (first | (with_reducible first | exact HB.out | apply below_alloc | apply pw_below_drewN | apply below_drew1 | refine below_set ?_ GE284.out) | exact HB.out)) hb); have n2_ := Aside0.mk (hbox); have n3_ := Aside0.mk ((by rw [hg]; exact (below_size (by repeat (first | (with_reducible first | exact HB.out | apply below_alloc | apply pw_below_drewN | apply below_drew1 | refine below_set ?_ GE284.out) | exact HB.out))) : w.heap.size ≤ gb285)); have n4_ := Aside0.mk ((by rw [hg]; exact (below_size (by repeat (first | (with_reducible first | exact HB.out | apply below_alloc | apply pw_below_drewN | apply below_drew1 | refine below_set ?_ GE284.out) | exact HB.out))) : w.heap.size ≤ gb285)); have n5_ := Aside0.mk ((by rw [hg]; exact Nat.ne_of_lt (blk_lt (g := gb284) (o := .cells #[.int .i64 a0_0, .int .i64 a0_1, .int .i64 a0_2, .int .i64 a0_3, .int .i64 a0_4, .int .i64 a0_5, .int .i64 a0_6, .int .i64 a0_7] 26 (0, 0)) (by (with_reducible repeat (first | refine blk_drewN ?_ _ | refine blk_drew ?_ | refine blk_alloc ?_ _)); exact BK284.out)) : gb284 ≠ gb285)); have n6_ := Aside0.mk ((by rw [hg]; exact Nat.ne_of_gt (blk_lt (g := gb284) (o := .cells #[.int .i64 a0_0, .int .i64 a0_1, .int .i64 a0_2, .int .i64 a0_3, .int .i64 a0_4, .int .i64 a0_5, .int .i64 a0_6, .int .i64 a0_7] 26 (0, 0)) (by (with_reducible repeat (first | refine blk_drewN ?_ _ | refine blk_drew ?_ | refine blk_alloc ?_ _)); exact BK284.out)) : gb285 ≠ gb284)); clear BK284; clear HB; have BK284 := n0_; have HB := n1_; have BK285 := n2_; have GW285 := n3_; have GE285 := n4_; have NB284_285 := n5_; have NB285_284 := n6_; clear n0_ n1_ n2_ n3_ n4_ n5_ n6_; clear hb hbox hg) | ((with_reducible refine gate_dst (N := 3) rfl ?_); refine box_event ?hg (N := 3) ?hd (cs := #[.bool false, .slice none 0 0, .string (⟨#[]⟩ : ByteArray)]) (t := 32) ?hr ?_; (case hd => rfl); (case hg => rfl); (case hr => first | (go_simp; done) | (go_simp; rfl)); intro gb286 hg w4 hbox hb; have n0_ := Aside0.mk (blk_below (g := gb284) (o := .cells #[.int .i64 a0_0, .int .i64 a0_1, .int .i64 a0_2, .int .i64 a0_3, .int .i64 a0_4, .int .i64 a0_5, .int .i64 a0_6, .int .i64 a0_7] 26 (0, 0)) (by (with_reducible repeat (first | refine blk_drewN ?_ _ | refine blk_drew ?_ | refine blk_alloc ?_ _)); exact BK284.out) hb); have n1_ := Aside0.mk (blk_below (g := gb285) (o := .cells #[.bool false, .slice none 0 0, .string (⟨#[]⟩ : ByteArray)] 32 (0, 0)) (by (with_reducible repeat (first | refine blk_drewN ?_ _ | refine blk_drew ?_ | refine blk_alloc ?_ _)); exact BK285.out) hb); have n2_ := Aside0.mk (below_step (by repeat (first | (with_reducible first | exact HB.out | apply below_alloc | apply pw_below_drewN | apply below_drew1 | refine below_set ?_ GE284.out | refine below_set ?_ GE285.out) | exact HB.out)) hb); have n3_ := Aside0.mk (hbox); have n4_ := Aside0.mk ((by rw [hg]; exact (below_size (by repeat (first | (with_reducible first | exact HB.out | apply below_alloc | apply pw_below_drewN | apply below_drew1 | refine below_set ?_ GE284.out | refine below_set ?_ GE285.out) | exact HB.out))) : w.heap.size ≤ gb286)); have n5_ := Aside0.mk ((by rw [hg]; exact (below_size (by repeat (first | (with_reducible first | exact HB.out | apply below_alloc | apply pw_below_drewN | apply below_drew1 | refine below_set ?_ GE284.out | refine below_set ?_ GE285.out) | exact HB.out))) : w.heap.size ≤ gb286)); have n6_ := Aside0.mk ((by rw [hg]; exact Nat.ne_of_lt (blk_lt (g := gb284) (o := .cells #[.int .i64 a0_0, .int .i64 a0_1, .int .i64 a0_2, .int .i64 a0_3, .int .i64 a0_4, .int .i64 a0_5, .int .i64 a0_6, .int .i64 a0_7] 26 (0, 0)) (by (with_reducible repeat (first | refine blk_drewN ?_ _ | refine blk_drew ?_ | refine blk_alloc ?_ _)); exact BK284.out)) : gb284 ≠ gb286)); have n7_ := Aside0.mk ((by rw [hg]; exact Nat.ne_of_gt (blk_lt (g := gb284) (o := .cells #[.int .i64 a0_0, .int .i64 a0_1, .int .i64 a0_2, .int .i64 a0_3, .int .i64 a0_4, .int .i64 a0_5, .int .i64 a0_6, .int .i64 a0_7] 26 (0, 0)) (by (with_reducible repeat (first | refine blk_drewN ?_ _ | refine blk_drew ?_ | refine blk_alloc ?_ _)); exact BK284.out)) : gb286 ≠ gb284)); have n8_ := Aside0.mk ((by rw [hg]; exact Nat.ne_of_lt (blk_lt (g := gb285) (o := .cells #[.bool false, .slice none 0 0, .string (⟨#[]⟩ : ByteArray)] 32 (0, 0)) (by (with_reducible repeat (first | refine blk_drewN ?_ _ | refine blk_drew ?_ | refine blk_alloc ?_ _)); exact BK285.out)) : gb285 ≠ gb286)); have n9_ := Aside0.mk ((by rw [hg]; exact Nat.ne_of_gt (blk_lt (g := gb285) (o := .cells #[.bool false, .slice none 0 0, .string (⟨#[]⟩ : ByteArray)] 32 (0, 0)) (by (with_reducible repeat (first | refine blk_drewN ?_ _ | refine blk_drew ?_ | refine blk_alloc ?_ _)); exact BK285.out)) : gb286 ≠ gb285)); clear BK284; clear BK285; clear HB; have BK284 := n0_; have BK285 := n1_; have HB := n2_; have BK286 := n3_; have GW286 := n4_; have GE286 := n5_; have NB284_286 := n6_; have NB286_284 := n7_; have NB285_286 := n8_; have NB286_285 := n9_; clear n0_ n1_ n2_ n3_ n4_ n5_ n6_ n7_ n8_ n9_; clear hb hbox hg; have hnb5 := NB284_285.out; have hnc5 := NB285_284.out; have hnb6 := NB284_286.out; have hnc6 := NB286_284.out; have hcz7_0 : w4.cell? ⟨gb284, 0, none⟩ = some (.int .i64 a0_0) := (blk_cell BK284.out 0).trans rfl; have hcz7_1 : w4.cell? ⟨gb284, 1, none⟩ = some (.int .i64 a0_1) := (blk_cell BK284.out 1).trans rfl; have hcz7_2 : w4.cell? ⟨gb284, 2, none⟩ = some (.int .i64 a0_2) := (blk_cell BK284.out 2).trans rfl; have hcz7_3 : w4.cell? ⟨gb284, 3, none⟩ = some (.int .i64 a0_3) := (blk_cell BK284.out 3).trans rfl; have hcz7_4 : w4.cell? ⟨gb284, 4, none⟩ = some (.int .i64 a0_4) := (blk_cell BK284.out 4).trans rfl; have hcz7_5 : w4.cell? ⟨gb284, 5, none⟩ = some (.int .i64 a0_5) := (blk_cell BK284.out 5).trans rfl; have hcz7_6 : w4.cell? ⟨gb284, 6, none⟩ = some (.int .i64 a0_6) := (blk_cell BK284.out 6).trans rfl; have hcz7_7 : w4.cell? ⟨gb284, 7, none⟩ = some (.int .i64 a0_7) := (blk_cell BK284.out 7).trans rfl; have hfz7_0 := blk_frozen BK284.out 0; have hfz7_1 := blk_frozen BK284.out 1; have hfz7_2 := blk_frozen BK284.out 2; have hfz7_3 := blk_frozen BK284.out 3; have hfz7_4 := blk_frozen BK284.out 4; have hfz7_5 := blk_frozen BK284.out 5; have hfz7_6 := blk_frozen BK284.out 6; have hfz7_7 := blk_frozen BK284.out 7) | ((with_reducible refine gate_dst (N := 16) rfl ?_); refine Kd.R_lit (Kd.int .i64) _ 2 ?hg (N := 16) ?hd (xs := ([a0_0, a0_1, a0_2, a0_3, a0_4] : List Int)) (inner := [.int .i64 a0_0, .int .i64 a0_1, .int .i64 a0_2, .int .i64 a0_3, .int .i64 a0_4]) (ok := fun _ => True) (okp := fun _ => True) ?hr ?hp (fun _ hk => hk) trivial (Below.refl _ _) (Nat.le_refl _) (by simp) ?_; (case hd => rfl); (case hg => rfl); (case hr => first | (go_simp; done) | (go_simp; rfl)); (case hp => exact (Reps.one (show Kd.M (Kd.int .i64) _ _ _ a0_0 [.int .i64 a0_0] from rfl) (Reps.one (show Kd.M (Kd.int .i64) _ _ _ a0_1 [.int .i64 a0_1] from rfl) (Reps.one (show Kd.M (Kd.int .i64) _ _ _ a0_2 [.int .i64 a0_2] from rfl) (Reps.one (show Kd.M (Kd.int .i64) _ _ _ a0_3 [.int .i64 a0_3] from rfl) (Reps.one (show Kd.M (Kd.int .i64) _ _ _ a0_4 [.int .i64 a0_4] from rfl) (Reps.none _ _))))))); intro v288 w8 ho9 hb hg_ hnew_; clear hg_ hnew_; (first | rw [← Ny287.out] at ho9 | (simp only [Int.reduceToNat] at ho9; rw [← Ny287.out] at ho9)); have n0_ := Aside0.mk (Kd.R_lower ho9 (below_size (by repeat (first | (with_reducible first | exact HB.out | apply below_alloc | apply pw_below_drewN | apply below_drew1 | refine below_set ?_ GE284.out | refine below_set ?_ GE285.out | refine below_set ?_ GE286.out) | exact HB.out)))); have n1_ := Aside0.mk (blk_below (g := gb284) (o := .cells #[.int .i64 a0_0, .int .i64 a0_1, .int .i64 a0_2, .int .i64 a0_3, .int .i64 a0_4, .int .i64 a0_5, .int .i64 a0_6, .int .i64 a0_7] 26 (0, 0)) (by (with_reducible repeat (first | refine blk_drewN ?_ _ | refine blk_drew ?_ | refine blk_alloc ?_ _)); exact BK284.out) hb); have n2_ := Aside0.mk (blk_below (g := gb285) (o := .cells #[.bool false, .slice none 0 0, .string (⟨#[]⟩ : ByteArray)] 32 (0, 0)) (by (with_reducible repeat (first | refine blk_drewN ?_ _ | refine blk_drew ?_ | refine blk_alloc ?_ _)); exact BK285.out) hb); have n3_ := Aside0.mk (blk_below (g := gb286) (o := .cells #[.bool false, .slice none 0 0, .string (⟨#[]⟩ : ByteArray)] 32 (0, 0)) (by (with_reducible repeat (first | refine blk_drewN ?_ _ | refine blk_drew ?_ | refine blk_alloc ?_ _)); exact BK286.out) hb); have n4_ := Aside0.mk (below_step (by repeat (first | (with_reducible first | exact HB.out | apply below_alloc | apply pw_below_drewN | apply below_drew1 | refine below_set ?_ GE284.out | refine below_set ?_ GE285.out | refine below_set ?_ GE286.out) | exact HB.out)) hb); clear BK284; clear BK285; clear BK286; clear HB; have HO289 := n0_; have BK284 := n1_; have BK285 := n2_; have BK286 := n3_; have HB := n4_; clear n0_ n1_ n2_ n3_ n4_; clear hb ho9; obtain ⟨Ao10, co10, eo10⟩ := Kd.R_slice HO289.out; subst eo10))
 go_loopg [18] k (fun kq v18 w' => ∃ (x18_1 : Int) (x287001_1 : List (S78)) (u287001 : Value), v18 = .int .i64 x18_1 ∧ Aside0 (modal_Line.l0 kq y287 (y287.length : Int) x18_1 a0_0 a0_1 a0_2 a0_3 a0_4 a0_5 a0_6 a0_7 false x287001_1 (⟨#[]⟩ : ByteArray) = some (r1, r2, r3)) ∧ Aside0 (kq ≤ k) ∧ Aside0 (Kd.R (Kd.int .i64) 2 w' w.heap.size (fun _ => True) (.slice Ao10 y287.length co10) y287) ∧ Aside0 (Kd.R k78 78 w' w.heap.size (fun _ => True) u287001 x287001_1) ∧ Aside0 (w'.heap[gb284]? = some (.cells #[.int .i64 a0_0, .int .i64 a0_1, .int .i64 a0_2, .int .i64 a0_3, .int .i64 a0_4, .int .i64 a0_5, .int .i64 a0_6, .int .i64 a0_7] 26 (0, 0))) ∧ Aside0 (w'.heap[gb285]? = some (.cells #[.bool false, (.slice none 0 0), .string (⟨#[]⟩ : ByteArray)] 32 (0, 0))) ∧ Aside0 (w'.heap[gb286]? = some (.cells #[.bool false, u287001, .string (⟨#[]⟩ : ByteArray)] 32 (0, 0))) ∧ Aside0 (Below w.heap.size w w'))
 case atStart => exact ⟨(0), (([] : List (S78))), (.slice none 0 0), (by first | rfl | (simp; done) | (simp [*]; done)), H', ⟨Nat.le_refl _⟩, ⟨by (with_reducible repeat (first | apply Kd.R_alloc | apply Kd.R_drewN | apply Kd.R_drew)); exact HO289.out⟩, ⟨by first | exact Kd.R_nil _ _ _ _ _ | exact Kd.N_nil _ _ _ _ _ | exact Kd.V_nil _ _ _ _ _ | exact Kd.Q_nil _ _ _ _ _ | exact Kd.S_nil _ _ _ _ _⟩, ⟨by (with_reducible repeat (first | refine blk_drewN ?_ _ | refine blk_drew ?_ | refine blk_alloc ?_ _)); exact BK284.out⟩, ⟨by (with_reducible repeat (first | refine blk_drewN ?_ _ | refine blk_drew ?_ | refine blk_alloc ?_ _)); exact BK285.out⟩, ⟨by (with_reducible repeat (first | refine blk_drewN ?_ _ | refine blk_drew ?_ | refine blk_alloc ?_ _)); exact BK286.out⟩, ⟨by repeat (first | (with_reducible first | exact HB.out | apply below_alloc | apply pw_below_drewN | apply below_drew1 | refine below_set ?_ GE284.out | refine below_set ?_ GE285.out | refine below_set ?_ GE286.out) | exact HB.out)⟩⟩
 case round =>
  clear H'
  try clear c1
  try clear p2
  try clear c5
  try clear c6
  try clear hcz7_0
  try clear hcz7_1
  try clear hcz7_2
  try clear hcz7_3
  try clear hcz7_4
  try clear hcz7_5
  try clear hcz7_6
  try clear hcz7_7
  try clear hfz7_0
  try clear hfz7_1
  try clear hfz7_2
  try clear hfz7_3
  try clear hfz7_4
  try clear hfz7_5
  try clear hfz7_6
  try clear hfz7_7
  obtain ⟨x18_1, x287001_1, u287001, rfl, HA, HK1, HO_16, HO_287001, BK284, BK285, BK286, HB⟩ := hrel
  cases gk with
  | zero => exact absurd HA.out (by simp [modal_Line.l0])
  | succ k1 =>
   have H := HA.out
   clear HA
   simp only [modal_Line.l0] at H
   by_cases c11 : x18_1 < (y287.length : Int)
   ·rw [if_pos c11] at H
    have c11b0 : decide (x18_1 < (y287.length : Int)) = true := decide_eq_true c11
    clear c11
    by_cases c12 : 0 ≤ x18_1
    ·rw [if_pos c12] at H
     have c12b0 : decide (0 ≤ x18_1) = true := decide_eq_true c12
     clear c12
     by_cases c13 : x18_1 < (y287.length : Int)
     ·rw [if_pos c13] at H
      have c13b0 : decide (x18_1 < (y287.length : Int)) = true := decide_eq_true c13
      clear c13
      by_cases c14 : x287001_1.length < 8796093022208
      ·rw [if_pos c14] at H
       have LMc14 := Aside0.mk c14
       clear c14
       obtain ⟨y291, hy291⟩ : ∃ y_ : List (S78), y_ = (x287001_1 ++ [(⟨71, rd y287 x18_1⟩ : S78)]) := ⟨_, rfl⟩
       replace H : (modal_Line.l0 k1 y287 (y287.length : Int) (wrap64 (x18_1 + 1)) a0_0 a0_1 a0_2 a0_3 a0_4 a0_5 a0_6 a0_7 false y291 (⟨#[]⟩ : ByteArray)) = some (r1, r2, r3) := by first | (rw [hy291]; with_reducible exact H) | (have H2_ := (Option.bind_some _ _).symm.trans H; rw [hy291]; with_reducible exact H2_) | (have H2_ := (Option.bind_some _ _).symm.trans H; with_reducible exact H2_) | with_reducible exact H | (rw [hy291]; exact H) | exact H
       have Ny291 := Aside0.mk hy291
       clear hy291
       have H' := Aside0.mk H
       clear H
       have p290 : 0 ≤ (x18_1 : Int) := of_decide_eq_true (by first | (with_reducible assumption) | assumption)
       have q290 : x18_1 < (y287.length : Int) := of_decide_eq_true (by first | (with_reducible assumption) | assumption)
       obtain ⟨ad290, e290, hx290_0⟩ := Kd.at_int (Kd.R_reads' HO_16.out).2.2 x18_1 p290 q290
       cases e290
       replace p290 := eq_true p290
       replace q290 := eq_true q290
       have hnb15 := NB286_284.out
       have hnc15 := NB284_286.out
       have hnb16 := NB286_285.out
       have hnc16 := NB285_286.out
       have hcz17_0 : wr.cell? ⟨gb286, 0, none⟩ = some (.bool false) := (blk_cell BK286.out 0).trans rfl
       have hcz17_1 : wr.cell? ⟨gb286, 1, none⟩ = some (u287001) := (blk_cell BK286.out 1).trans rfl
       have hcz17_2 : wr.cell? ⟨gb286, 2, none⟩ = some (.string (⟨#[]⟩ : ByteArray)) := (blk_cell BK286.out 2).trans rfl
       have hfz17_0 := blk_frozen BK286.out 0
       have hfz17_1 := blk_frozen BK286.out 1
       have hfz17_2 := blk_frozen BK286.out 2
       go_wp2_with (first | ((with_reducible refine gate_builtin (b := .append) (xs := #[.tmp 23, .tmp 26]) rfl ?_); at_builtin; refine Kd.R_append k78 (w0 := w) w.heap.size rfl (.tmp 23) (.tmp 26) 30 78 (.agg #[(.int .u8 0), (.int .i64 0)]) 16 rfl Try.underlying30 info78 rfl (by decide) (by omega) u287001 x287001_1 (⟨71, rd y287 x18_1⟩ : S78) [.int .u8 71, .int .i64 (rd y287 x18_1)] (fun _ => True) (fun _ => False) rfl rfl ?aP (fun _ hk => hk.elim) ?aF ?aO ?aB ?aS ?aL ?_; (case aP => exact k78_mkM _ _ _ (⟨71, rd y287 x18_1⟩ : S78)); (case aB => exact (by repeat (first | (with_reducible first | exact HB.out | apply below_alloc | apply pw_below_drewN | apply below_drew1 | refine below_set ?_ GE284.out | refine below_set ?_ GE285.out | refine below_set ?_ GE286.out) | exact HB.out))); (case aF => exact (fun _ _ => trivial)); (case aO => exact (by (with_reducible repeat (first | apply Kd.R_alloc | apply Kd.R_drewN | apply Kd.R_drew)); exact HO_287001.out)); (case aS => exact (below_size (by repeat (first | (with_reducible first | exact HB.out | apply below_alloc | apply pw_below_drewN | apply below_drew1 | refine below_set ?_ GE284.out | refine below_set ?_ GE285.out | refine below_set ?_ GE286.out) | exact HB.out)))); (case aL => have := LMc14.out; omega); intro v292 w18 ho hb hg hat; rw [← Ny291.out] at ho; have n0_ := Aside0.mk (Kd.R_over' (by (with_reducible repeat (first | apply Kd.R_alloc | apply Kd.R_drewN | apply Kd.R_drew)); exact HO_16.out) (Kd.R_typed (by (with_reducible repeat (first | apply Kd.R_alloc | apply Kd.R_drewN | apply Kd.R_drew)); exact HO_287001.out)) (by decide) hg); have n1_ := Aside0.mk (blk_grown (g := gb284) (o := .cells #[.int .i64 a0_0, .int .i64 a0_1, .int .i64 a0_2, .int .i64 a0_3, .int .i64 a0_4, .int .i64 a0_5, .int .i64 a0_6, .int .i64 a0_7] 26 (0, 0)) (by (with_reducible repeat (first | refine blk_drewN ?_ _ | refine blk_drew ?_ | refine blk_alloc ?_ _)); exact BK284.out) hg (Kd.R_ne HO_287001.out BK284.out (by decide))); have n2_ := Aside0.mk (blk_grown (g := gb285) (o := .cells #[.bool false, .slice none 0 0, .string (⟨#[]⟩ : ByteArray)] 32 (0, 0)) (by (with_reducible repeat (first | refine blk_drewN ?_ _ | refine blk_drew ?_ | refine blk_alloc ?_ _)); exact BK285.out) hg (Kd.R_ne HO_287001.out BK285.out (by decide))); have n3_ := Aside0.mk (blk_grown (g := gb286) (o := .cells #[.bool false, u287001, .string (⟨#[]⟩ : ByteArray)] 32 (0, 0)) (by (with_reducible repeat (first | refine blk_drewN ?_ _ | refine blk_drew ?_ | refine blk_alloc ?_ _)); exact BK286.out) hg (Kd.R_ne HO_287001.out BK286.out (by decide))); have n4_ := Aside0.mk (hb); have n5_ := Aside0.mk (ho); clear HO_16; clear BK284; clear BK285; clear BK286; clear HB; clear HO_287001; have HO_16 := n0_; have BK284 := n1_; have BK285 := n2_; have BK286 := n3_; have HB := n4_; have HO293 := n5_; clear n0_ n1_ n2_ n3_ n4_ n5_; clear ho hb hg hat; obtain ⟨Ao19, co19, eo19⟩ := Kd.R_slice HO293.out; subst eo19; have hcz20_0 : w18.cell? ⟨gb286, 0, none⟩ = some (.bool false) := (blk_cell BK286.out 0).trans rfl; have hcz20_1 : w18.cell? ⟨gb286, 1, none⟩ = some (u287001) := (blk_cell BK286.out 1).trans rfl; have hcz20_2 : w18.cell? ⟨gb286, 2, none⟩ = some (.string (⟨#[]⟩ : ByteArray)) := (blk_cell BK286.out 2).trans rfl; have hfz20_0 := blk_frozen BK286.out 0; have hfz20_1 := blk_frozen BK286.out 1; have hfz20_2 := blk_frozen BK286.out 2))
       go_roundg k1
       case measure => have := HK1.out; omega
       case rel => exact ⟨(wrap64 (x18_1 + 1)), (y291), (.slice Ao19 y291.length co19), (by first | rfl | (simp; done) | (simp [*]; done)), H', ⟨by have := HK1.out; omega⟩, ⟨by (with_reducible repeat (first | apply Kd.R_alloc | apply Kd.R_drewN | apply Kd.R_drew)); exact Kd.R_mono (Kd.R_far (p := ⟨gb286, 1, none⟩) (Kd.R_types HO_16.out BK286.out (by decide)) (fun _ hk => hk.2) (.slice Ao19 y291.length co19)) (fun _ hk => trivial)⟩, ⟨by (with_reducible repeat (first | apply Kd.R_alloc | apply Kd.R_drewN | apply Kd.R_drew)); exact Kd.R_mono (Kd.R_far (p := ⟨gb286, 1, none⟩) (Kd.R_types HO293.out BK286.out (by decide)) (fun _ hk => hk.2) (.slice Ao19 y291.length co19)) (fun _ hk => trivial)⟩, ⟨by (with_reducible repeat (first | refine blk_drewN ?_ _ | refine blk_drew ?_ | refine blk_alloc ?_ _)); refine blk_far ?_ NB284_286.out _; (with_reducible repeat (first | refine blk_drewN ?_ _ | refine blk_drew ?_ | refine blk_alloc ?_ _)); exact BK284.out⟩, ⟨by (with_reducible repeat (first | refine blk_drewN ?_ _ | refine blk_drew ?_ | refine blk_alloc ?_ _)); refine blk_far ?_ NB285_286.out _; (with_reducible repeat (first | refine blk_drewN ?_ _ | refine blk_drew ?_ | refine blk_alloc ?_ _)); exact BK285.out⟩, ⟨by (with_reducible repeat (first | refine blk_drewN ?_ _ | refine blk_drew ?_ | refine blk_alloc ?_ _)); refine blk_put (cs := #[.bool false, u287001, .string (⟨#[]⟩ : ByteArray)]) ?_ 1 _ rfl; (with_reducible repeat (first | refine blk_drewN ?_ _ | refine blk_drew ?_ | refine blk_alloc ?_ _)); exact BK286.out⟩, ⟨by repeat (first | (with_reducible first | exact HB.out | apply below_alloc | apply pw_below_drewN | apply below_drew1 | refine below_set ?_ GE284.out | refine below_set ?_ GE285.out | refine below_set ?_ GE286.out) | exact HB.out)⟩⟩
      ·rw [if_neg c14] at H
       exact absurd H (by simp)
     ·rw [if_neg c13] at H
      exact absurd H (by simp)
    ·rw [if_neg c12] at H
     exact absurd H (by simp)
   ·rw [if_neg c11] at H
    have c11b0 : decide (x18_1 < (y287.length : Int)) = false := decide_eq_false c11
    clear c11
    obtain ⟨y294, hy294⟩ : ∃ y_ : List (S78), y_ = (([(⟨70, a0_5⟩ : S78), (⟨84, a0_6⟩ : S78), (⟨72, a0_7⟩ : S78)] : List (S78))) := ⟨_, rfl⟩
    replace H : (if x287001_1.length + y294.length < 8796093022208 then (some (false, (x287001_1 ++ y294), (⟨#[]⟩ : ByteArray))) else (none)) = some (r1, r2, r3) := by first | (rw [hy294]; with_reducible exact H) | (have H2_ := (Option.bind_some _ _).symm.trans H; rw [hy294]; with_reducible exact H2_) | (have H2_ := (Option.bind_some _ _).symm.trans H; with_reducible exact H2_) | with_reducible exact H | (rw [hy294]; exact H) | exact H
    have Ny294 := Aside0.mk hy294
    clear hy294
    by_cases c21 : x287001_1.length + y294.length < 8796093022208
    ·rw [if_pos c21] at H
     have LMc21 := Aside0.mk c21
     clear c21
     obtain ⟨y297, hy297⟩ : ∃ y_ : List (S78), y_ = (x287001_1 ++ y294) := ⟨_, rfl⟩
     replace H : (some (false, y297, (⟨#[]⟩ : ByteArray))) = some (r1, r2, r3) := by first | (rw [hy297]; with_reducible exact H) | (have H2_ := (Option.bind_some _ _).symm.trans H; rw [hy297]; with_reducible exact H2_) | (have H2_ := (Option.bind_some _ _).symm.trans H; with_reducible exact H2_) | with_reducible exact H | (rw [hy297]; exact H) | exact H
     have Ny297 := Aside0.mk hy297
     clear hy297
     simp only [Option.some.injEq, Prod.mk.injEq] at H
     obtain ⟨rfl, rfl, rfl⟩ := H
     have hnb22 := NB286_284.out
     have hnc22 := NB284_286.out
     have hnb23 := NB286_285.out
     have hnc23 := NB285_286.out
     have hcz24_0 : wr.cell? ⟨gb286, 0, none⟩ = some (.bool false) := (blk_cell BK286.out 0).trans rfl
     have hcz24_1 : wr.cell? ⟨gb286, 1, none⟩ = some (u287001) := (blk_cell BK286.out 1).trans rfl
     have hcz24_2 : wr.cell? ⟨gb286, 2, none⟩ = some (.string (⟨#[]⟩ : ByteArray)) := (blk_cell BK286.out 2).trans rfl
     have hfz24_0 := blk_frozen BK286.out 0
     have hfz24_1 := blk_frozen BK286.out 1
     have hfz24_2 := blk_frozen BK286.out 2
     have hnb25 := NB284_285.out
     have hnc25 := NB285_284.out
     have hcz26_0 : wr.cell? ⟨gb284, 0, none⟩ = some (.int .i64 a0_0) := (blk_cell BK284.out 0).trans rfl
     have hcz26_1 : wr.cell? ⟨gb284, 1, none⟩ = some (.int .i64 a0_1) := (blk_cell BK284.out 1).trans rfl
     have hcz26_2 : wr.cell? ⟨gb284, 2, none⟩ = some (.int .i64 a0_2) := (blk_cell BK284.out 2).trans rfl
     have hcz26_3 : wr.cell? ⟨gb284, 3, none⟩ = some (.int .i64 a0_3) := (blk_cell BK284.out 3).trans rfl
     have hcz26_4 : wr.cell? ⟨gb284, 4, none⟩ = some (.int .i64 a0_4) := (blk_cell BK284.out 4).trans rfl
     have hcz26_5 : wr.cell? ⟨gb284, 5, none⟩ = some (.int .i64 a0_5) := (blk_cell BK284.out 5).trans rfl
     have hcz26_6 : wr.cell? ⟨gb284, 6, none⟩ = some (.int .i64 a0_6) := (blk_cell BK284.out 6).trans rfl
     have hcz26_7 : wr.cell? ⟨gb284, 7, none⟩ = some (.int .i64 a0_7) := (blk_cell BK284.out 7).trans rfl
     have hfz26_0 := blk_frozen BK284.out 0
     have hfz26_1 := blk_frozen BK284.out 1
     have hfz26_2 := blk_frozen BK284.out 2
     have hfz26_3 := blk_frozen BK284.out 3
     have hfz26_4 := blk_frozen BK284.out 4
     have hfz26_5 := blk_frozen BK284.out 5
     have hfz26_6 := blk_frozen BK284.out 6
     have hfz26_7 := blk_frozen BK284.out 7
     go_wp2_with (first | ((with_reducible refine gate_dst (N := 41) rfl ?_); refine Kd.R_lit k78 _ 78 ?hg (N := 41) ?hd (xs := ([(⟨70, a0_5⟩ : S78), (⟨84, a0_6⟩ : S78), (⟨72, a0_7⟩ : S78)] : List (S78))) (inner := [.int .u8 70, .int .i64 a0_5, .int .u8 84, .int .i64 a0_6, .int .u8 72, .int .i64 a0_7]) (ok := fun _ => True) (okp := fun _ => True) ?hr ?hp (fun _ hk => hk) trivial (Below.refl _ _) (Nat.le_refl _) (by simp) ?_; (case hd => rfl); (case hg => rfl); (case hr => first | (go_simp; done) | (go_simp; rfl)); (case hp => exact (Reps.c2 (show Kd.M k78 _ _ _ (⟨70, a0_5⟩ : S78) [.int .u8 70, .int .i64 a0_5] from (k78_mkM _ _ _ (⟨70, a0_5⟩ : S78) )) (Reps.c2 (show Kd.M k78 _ _ _ (⟨84, a0_6⟩ : S78) [.int .u8 84, .int .i64 a0_6] from (k78_mkM _ _ _ (⟨84, a0_6⟩ : S78) )) (Reps.c2 (show Kd.M k78 _ _ _ (⟨72, a0_7⟩ : S78) [.int .u8 72, .int .i64 a0_7] from (k78_mkM _ _ _ (⟨72, a0_7⟩ : S78) )) (Reps.none _ _))))); intro v295 w27 ho28 hb hg_ hnew_; clear hg_ hnew_; (first | rw [← Ny294.out] at ho28 | (simp only [Int.reduceToNat] at ho28; rw [← Ny294.out] at ho28)); have n0_ := Aside0.mk (Kd.R_below (by (with_reducible repeat (first | apply Kd.R_alloc | apply Kd.R_drewN | apply Kd.R_drew)); exact HO_16.out) hb); have n1_ := Aside0.mk (Kd.R_elder' (by (with_reducible repeat (first | apply Kd.R_alloc | apply Kd.R_drewN | apply Kd.R_drew)); exact HO_287001.out) (Kd.R_base ho28) hb); have n2_ := Aside0.mk (Kd.R_lower (Kd.R_new' ho28 (Kd.R_lt (by (with_reducible repeat (first | apply Kd.R_alloc | apply Kd.R_drewN | apply Kd.R_drew)); exact HO_287001.out))) (below_size (by repeat (first | (with_reducible first | exact HB.out | apply below_alloc | apply pw_below_drewN | apply below_drew1 | refine below_set ?_ GE284.out | refine below_set ?_ GE285.out | refine below_set ?_ GE286.out) | exact HB.out)))); have n3_ := Aside0.mk (blk_below (g := gb284) (o := .cells #[.int .i64 a0_0, .int .i64 a0_1, .int .i64 a0_2, .int .i64 a0_3, .int .i64 a0_4, .int .i64 a0_5, .int .i64 a0_6, .int .i64 a0_7] 26 (0, 0)) (by (with_reducible repeat (first | refine blk_drewN ?_ _ | refine blk_drew ?_ | refine blk_alloc ?_ _)); exact BK284.out) hb); have n4_ := Aside0.mk (blk_below (g := gb285) (o := .cells #[.bool false, .slice none 0 0, .string (⟨#[]⟩ : ByteArray)] 32 (0, 0)) (by (with_reducible repeat (first | refine blk_drewN ?_ _ | refine blk_drew ?_ | refine blk_alloc ?_ _)); exact BK285.out) hb); have n5_ := Aside0.mk (blk_below (g := gb286) (o := .cells #[.bool false, u287001, .string (⟨#[]⟩ : ByteArray)] 32 (0, 0)) (by (with_reducible repeat (first | refine blk_drewN ?_ _ | refine blk_drew ?_ | refine blk_alloc ?_ _)); exact BK286.out) hb); have n6_ := Aside0.mk (below_step (by repeat (first | (with_reducible first | exact HB.out | apply below_alloc | apply pw_below_drewN | apply below_drew1 | refine below_set ?_ GE284.out | refine below_set ?_ GE285.out | refine below_set ?_ GE286.out) | exact HB.out)) hb); clear HO_16; clear HO_287001; clear BK284; clear BK285; clear BK286; clear HB; have HO_16 := n0_; have HO_287001 := n1_; have HO296 := n2_; have BK284 := n3_; have BK285 := n4_; have BK286 := n5_; have HB := n6_; clear n0_ n1_ n2_ n3_ n4_ n5_ n6_; clear hb ho28; obtain ⟨Ao30, co30, eo30⟩ := Kd.R_slice HO296.out; subst eo30) | ((with_reducible refine gate_builtin (b := .append) (xs := #[.tmp 31, .tmp 41]) rfl ?_); at_builtin; refine Kd.R_append_rows k78 (w0 := w) w.heap.size rfl (.tmp 31) (.tmp 41) 30 78 (.agg #[(.int .u8 0), (.int .i64 0)]) 16 rfl Try.underlying30 info78 rfl (by decide) (by omega) u287001 x287001_1 y294 _ _ _ (fun k_ => some k_ ≠ (.slice Ao30 y294.length co30 : Value).ownBlock) (fun _ => False) rfl rfl ?aO ?aR (fun _ _ h => h) (fun _ h => h.elim) ?aF ?aB ?aS ?aL ?_; (case aR => repeat (first | exact (Kd.R_reads' HO296.out).2.2 | (with_reducible refine Kd.C_alloc ?_ _) | (with_reducible refine Kd.C_drewN ?_ _) | (with_reducible refine Kd.C_drew ?_))); (case aB => exact (by repeat (first | (with_reducible first | exact HB.out | apply below_alloc | apply pw_below_drewN | apply below_drew1 | refine below_set ?_ GE284.out | refine below_set ?_ GE285.out | refine below_set ?_ GE286.out) | exact HB.out))); (case aF => exact (fun k_ hk => Kd.fresh' (Kd.R_lt (by (with_reducible repeat (first | apply Kd.R_alloc | apply Kd.R_drewN | apply Kd.R_drew)); exact HO296.out)) k_ hk)); (case aO => exact (by (with_reducible repeat (first | apply Kd.R_alloc | apply Kd.R_drewN | apply Kd.R_drew)); exact Kd.R_mono HO_287001.out (fun _ hk => hk.2))); (case aS => exact (below_size (by repeat (first | (with_reducible first | exact HB.out | apply below_alloc | apply pw_below_drewN | apply below_drew1 | refine below_set ?_ GE284.out | refine below_set ?_ GE285.out | refine below_set ?_ GE286.out) | exact HB.out)))); (case aL => have := LMc21.out; omega); intro v298 w29 ho hb hg hat; rw [← Ny297.out] at ho; have n0_ := Aside0.mk (Kd.R_over' (by (with_reducible repeat (first | apply Kd.R_alloc | apply Kd.R_drewN | apply Kd.R_drew)); exact HO_16.out) (Kd.R_typed (by (with_reducible repeat (first | apply Kd.R_alloc | apply Kd.R_drewN | apply Kd.R_drew)); exact HO_287001.out)) (by decide) hg); have n1_ := Aside0.mk (blk_grown (g := gb284) (o := .cells #[.int .i64 a0_0, .int .i64 a0_1, .int .i64 a0_2, .int .i64 a0_3, .int .i64 a0_4, .int .i64 a0_5, .int .i64 a0_6, .int .i64 a0_7] 26 (0, 0)) (by (with_reducible repeat (first | refine blk_drewN ?_ _ | refine blk_drew ?_ | refine blk_alloc ?_ _)); exact BK284.out) hg (Kd.R_ne HO_287001.out BK284.out (by decide))); have n2_ := Aside0.mk (blk_grown (g := gb285) (o := .cells #[.bool false, .slice none 0 0, .string (⟨#[]⟩ : ByteArray)] 32 (0, 0)) (by (with_reducible repeat (first | refine blk_drewN ?_ _ | refine blk_drew ?_ | refine blk_alloc ?_ _)); exact BK285.out) hg (Kd.R_ne HO_287001.out BK285.out (by decide))); have n3_ := Aside0.mk (blk_grown (g := gb286) (o := .cells #[.bool false, u287001, .string (⟨#[]⟩ : ByteArray)] 32 (0, 0)) (by (with_reducible repeat (first | refine blk_drewN ?_ _ | refine blk_drew ?_ | refine blk_alloc ?_ _)); exact BK286.out) hg (Kd.R_ne HO_287001.out BK286.out (by decide))); have n4_ := Aside0.mk (Kd.R_after (ok := (fun _ => True)) (by (with_reducible repeat (first | apply Kd.R_alloc | apply Kd.R_drewN | apply Kd.R_drew)); exact HO296.out) hg hat); have n5_ := Aside0.mk (hb); have n6_ := Aside0.mk (ho); clear HO_16; clear BK284; clear BK285; clear BK286; clear HO296; clear HB; clear HO_287001; have HO_16 := n0_; have BK284 := n1_; have BK285 := n2_; have BK286 := n3_; have HO296 := n4_; have HB := n5_; have HO299 := n6_; clear n0_ n1_ n2_ n3_ n4_ n5_ n6_; clear ho hb hg hat; obtain ⟨Ao31, co31, eo31⟩ := Kd.R_slice HO299.out; subst eo31; have hcz32_0 : w29.cell? ⟨gb286, 0, none⟩ = some (.bool false) := (blk_cell BK286.out 0).trans rfl; have hcz32_1 : w29.cell? ⟨gb286, 1, none⟩ = some (u287001) := (blk_cell BK286.out 1).trans rfl; have hcz32_2 : w29.cell? ⟨gb286, 2, none⟩ = some (.string (⟨#[]⟩ : ByteArray)) := (blk_cell BK286.out 2).trans rfl; have hfz32_0 := blk_frozen BK286.out 0; have hfz32_1 := blk_frozen BK286.out 1; have hfz32_2 := blk_frozen BK286.out 2; have hcz33_0 : w29.cell? ⟨gb285, 0, none⟩ = some (.bool false) := (blk_cell BK285.out 0).trans rfl; have hcz33_1 : w29.cell? ⟨gb285, 1, none⟩ = some (.slice none 0 0) := (blk_cell BK285.out 1).trans rfl; have hcz33_2 : w29.cell? ⟨gb285, 2, none⟩ = some (.string (⟨#[]⟩ : ByteArray)) := (blk_cell BK285.out 2).trans rfl; have hfz33_0 := blk_frozen BK285.out 0; have hfz33_1 := blk_frozen BK285.out 1; have hfz33_2 := blk_frozen BK285.out 2))
     refine bodyPost_ret (results_cell_row rfl _ _ gb285 32 #[.bool false, .slice Ao31 y297.length co31, .string (⟨#[]⟩ : ByteArray)] (0, 0) _ rfl (by (with_reducible repeat (first | refine blk_drewN ?_ _ | refine blk_drew ?_ | refine blk_alloc ?_ _)); refine blk_put (cs := #[.bool false, .slice Ao31 y297.length co31, .string (⟨#[]⟩ : ByteArray)]) ?_ 2 _ rfl; (with_reducible repeat (first | refine blk_drewN ?_ _ | refine blk_drew ?_ | refine blk_alloc ?_ _)); refine blk_put (cs := #[.bool false, .slice none 0 0, .string (⟨#[]⟩ : ByteArray)]) ?_ 1 _ rfl; (with_reducible repeat (first | refine blk_drewN ?_ _ | refine blk_drew ?_ | refine blk_alloc ?_ _)); refine blk_put (cs := #[.bool false, .slice none 0 0, .string (⟨#[]⟩ : ByteArray)]) ?_ 0 _ rfl; (with_reducible repeat (first | refine blk_drewN ?_ _ | refine blk_drew ?_ | refine blk_alloc ?_ _)); refine blk_far ?_ NB285_286.out _; (with_reducible repeat (first | refine blk_drewN ?_ _ | refine blk_drew ?_ | refine blk_alloc ?_ _)); exact BK285.out) Try.underlying32 rfl (by kernel_rfl)) rfl ?_
     exact ⟨_, by first | rfl | (simp [errW_none, errW_some] <;> rfl) | (simp [*, errW_none, errW_some] <;> rfl), by (with_reducible repeat (first | apply Kd.R_alloc | apply Kd.R_drewN | apply Kd.R_drew)); exact Kd.R_mono (Kd.R_far (p := ⟨gb285, 2, none⟩) (Kd.R_far (p := ⟨gb285, 1, none⟩) (Kd.R_far (p := ⟨gb285, 0, none⟩) (Kd.R_far (p := ⟨gb286, 1, none⟩) (Kd.R_types (Kd.R_types HO299.out BK286.out (by decide)) BK285.out (by decide)) (fun _ hk => hk.1.2) (.slice Ao31 y297.length co31)) (fun _ hk => hk.2) (.bool false)) (fun _ hk => hk.2) (.slice Ao31 y297.length co31)) (fun _ hk => hk.2) (.string (⟨#[]⟩ : ByteArray))) (fun _ hk => trivial), by repeat (first | (with_reducible first | exact HB.out | apply below_alloc | apply pw_below_drewN | apply below_drew1 | refine below_set ?_ GE284.out | refine below_set ?_ GE285.out | refine below_set ?_ GE286.out) | exact HB.out)⟩
    ·rw [if_neg c21] at H
     exact absurd H (by simp)
end Go.Proofs.Ytehkhbnhmehobaa.P
namespace Go.Proofs.Ytehkhbnhmehobaa.P
open Go.RowKit Go.Proofs.YtehkhbnhmehobaaW.PrintWords Go.Proofs.YtehkhbnhmehobaaW.PrintLast Go.Proofs.YtehkhbnhmehobaaW.PrintMore
attribute [local go_sem] max2_int min2_int max_two min_two max_three min_three max_four min_four
set_option linter.unusedVariables false
set_option linter.unusedSimpArgs false
def swarfref42_Line.f (a0_0 : Int) (a0_1 : Int) (a0_2 : Int) (a0_3 : Int) (a0_4 : Int) (a0_5 : Int) (a0_6 : Int) (a0_7 : Int) : Option (Bool × (List (S78)) × ByteArray) := some (false, (([(⟨71, a0_0⟩ : S78), (⟨71, a0_1⟩ : S78), (⟨71, a0_2⟩ : S78), (⟨71, a0_3⟩ : S78), (⟨71, a0_4⟩ : S78), (⟨70, a0_5⟩ : S78), (⟨84, a0_6⟩ : S78), (⟨72, a0_7⟩ : S78)] : List (S78))), (⟨#[]⟩ : ByteArray))
set_option maxHeartbeats 8000000 in
set_option maxRecDepth 100000 in
theorem swarfref42_Line.calls (a0_0 : Int) (a0_1 : Int) (a0_2 : Int) (a0_3 : Int) (a0_4 : Int) (a0_5 : Int) (a0_6 : Int) (a0_7 : Int) (r1 : Bool) (r2 : List (S78)) (r3 : ByteArray) (w : World) (h : swarfref42_Line.f a0_0 a0_1 a0_2 a0_3 a0_4 a0_5 a0_6 a0_7 = some (r1, r2, r3)) :
  Calls Try.prog 20 #[.agg #[.int .i64 a0_0, .int .i64 a0_1, .int .i64 a0_2, .int .i64 a0_3, .int .i64 a0_4, .int .i64 a0_5, .int .i64 a0_6, .int .i64 a0_7]] w fun e w' => ∃ v1_ : Value, e = .returned (.agg #[.bool r1, v1_, .string r3]) ∧ Kd.R k78 78 w' w.heap.size (fun _ => True) v1_ r2 ∧ Below w.heap.size w w' := by
 have hu25 := Try.underlying25
 have hu32 := Try.underlying32
 have hu78 := Try.underlying78
 have HB := Aside0.mk (Below.refl w.heap.size w)
 have H : (some (false, (([(⟨71, a0_0⟩ : S78), (⟨71, a0_1⟩ : S78), (⟨71, a0_2⟩ : S78), (⟨71, a0_3⟩ : S78), (⟨71, a0_4⟩ : S78), (⟨70, a0_5⟩ : S78), (⟨84, a0_6⟩ : S78), (⟨72, a0_7⟩ : S78)] : List (S78))), (⟨#[]⟩ : ByteArray))) = some (r1, r2, r3) := h
 clear h
 obtain ⟨y302, hy302⟩ : ∃ y_ : List (S78), y_ = (([(⟨71, a0_0⟩ : S78), (⟨71, a0_1⟩ : S78), (⟨71, a0_2⟩ : S78), (⟨71, a0_3⟩ : S78), (⟨71, a0_4⟩ : S78), (⟨70, a0_5⟩ : S78), (⟨84, a0_6⟩ : S78), (⟨72, a0_7⟩ : S78)] : List (S78))) := ⟨_, rfl⟩
 replace H : (some (false, y302, (⟨#[]⟩ : ByteArray))) = some (r1, r2, r3) := by first | (rw [hy302]; with_reducible exact H) | (have H2_ := (Option.bind_some _ _).symm.trans H; rw [hy302]; with_reducible exact H2_) | (have H2_ := (Option.bind_some _ _).symm.trans H; with_reducible exact H2_) | with_reducible exact H | (rw [hy302]; exact H) | exact H
 have Ny302 := Aside0.mk hy302
 clear hy302
 simp only [Option.some.injEq, Prod.mk.injEq] at H
 obtain ⟨rfl, rfl, rfl⟩ := H
 go_enter Try.func20, Try.ntmps20
 go_wp2_with (first | ((with_reducible refine gate_dst (N := 1) rfl ?_); refine box_event ?hg (N := 1) ?hd (cs := #[.int .i64 a0_0, .int .i64 a0_1, .int .i64 a0_2, .int .i64 a0_3, .int .i64 a0_4, .int .i64 a0_5, .int .i64 a0_6, .int .i64 a0_7]) (t := 25) ?hr ?_; (case hd => rfl); (case hg => rfl); (case hr => first | (go_simp; done) | (go_simp; rfl)); intro gb300 hg w2 hbox hb; have n0_ := Aside0.mk (below_step (by repeat (first | (with_reducible first | exact HB.out | apply below_alloc | apply pw_below_drewN | apply below_drew1) | exact HB.out)) hb); have n1_ := Aside0.mk (hbox); have n2_ := Aside0.mk ((by rw [hg]; exact (below_size (by repeat (first | (with_reducible first | exact HB.out | apply below_alloc | apply pw_below_drewN | apply below_drew1) | exact HB.out))) : w.heap.size ≤ gb300)); have n3_ := Aside0.mk ((by rw [hg]; exact (below_size (by repeat (first | (with_reducible first | exact HB.out | apply below_alloc | apply pw_below_drewN | apply below_drew1) | exact HB.out))) : w.heap.size ≤ gb300)); clear HB; have HB := n0_; have BK300 := n1_; have GW300 := n2_; have GE300 := n3_; clear n0_ n1_ n2_ n3_; clear hb hbox hg) | ((with_reducible refine gate_dst (N := 2) rfl ?_); refine box_event ?hg (N := 2) ?hd (cs := #[.bool false, .slice none 0 0, .string (⟨#[]⟩ : ByteArray)]) (t := 32) ?hr ?_; (case hd => rfl); (case hg => rfl); (case hr => first | (go_simp; done) | (go_simp; rfl)); intro gb301 hg w3 hbox hb; have n0_ := Aside0.mk (blk_below (g := gb300) (o := .cells #[.int .i64 a0_0, .int .i64 a0_1, .int .i64 a0_2, .int .i64 a0_3, .int .i64 a0_4, .int .i64 a0_5, .int .i64 a0_6, .int .i64 a0_7] 25 (0, 0)) (by (with_reducible repeat (first | refine blk_drewN ?_ _ | refine blk_drew ?_ | refine blk_alloc ?_ _)); exact BK300.out) hb); have n1_ := Aside0.mk (below_step (by repeat (first | (with_reducible first | exact HB.out | apply below_alloc | apply pw_below_drewN | apply below_drew1 | refine below_set ?_ GE300.out) | exact HB.out)) hb); have n2_ := Aside0.mk (hbox); have n3_ := Aside0.mk ((by rw [hg]; exact (below_size (by repeat (first | (with_reducible first | exact HB.out | apply below_alloc | apply pw_below_drewN | apply below_drew1 | refine below_set ?_ GE300.out) | exact HB.out))) : w.heap.size ≤ gb301)); have n4_ := Aside0.mk ((by rw [hg]; exact (below_size (by repeat (first | (with_reducible first | exact HB.out | apply below_alloc | apply pw_below_drewN | apply below_drew1 | refine below_set ?_ GE300.out) | exact HB.out))) : w.heap.size ≤ gb301)); have n5_ := Aside0.mk ((by rw [hg]; exact Nat.ne_of_lt (blk_lt (g := gb300) (o := .cells #[.int .i64 a0_0, .int .i64 a0_1, .int .i64 a0_2, .int .i64 a0_3, .int .i64 a0_4, .int .i64 a0_5, .int .i64 a0_6, .int .i64 a0_7] 25 (0, 0)) (by (with_reducible repeat (first | refine blk_drewN ?_ _ | refine blk_drew ?_ | refine blk_alloc ?_ _)); exact BK300.out)) : gb300 ≠ gb301)); have n6_ := Aside0.mk ((by rw [hg]; exact Nat.ne_of_gt (blk_lt (g := gb300) (o := .cells #[.int .i64 a0_0, .int .i64 a0_1, .int .i64 a0_2, .int .i64 a0_3, .int .i64 a0_4, .int .i64 a0_5, .int .i64 a0_6, .int .i64 a0_7] 25 (0, 0)) (by (with_reducible repeat (first | refine blk_drewN ?_ _ | refine blk_drew ?_ | refine blk_alloc ?_ _)); exact BK300.out)) : gb301 ≠ gb300)); clear BK300; clear HB; have BK300 := n0_; have HB := n1_; have BK301 := n2_; have GW301 := n3_; have GE301 := n4_; have NB300_301 := n5_; have NB301_300 := n6_; clear n0_ n1_ n2_ n3_ n4_ n5_ n6_; clear hb hbox hg; have hnb4 := NB300_301.out; have hnc4 := NB301_300.out; have hcz5_0 : w3.cell? ⟨gb300, 0, none⟩ = some (.int .i64 a0_0) := (blk_cell BK300.out 0).trans rfl; have hcz5_1 : w3.cell? ⟨gb300, 1, none⟩ = some (.int .i64 a0_1) := (blk_cell BK300.out 1).trans rfl; have hcz5_2 : w3.cell? ⟨gb300, 2, none⟩ = some (.int .i64 a0_2) := (blk_cell BK300.out 2).trans rfl; have hcz5_3 : w3.cell? ⟨gb300, 3, none⟩ = some (.int .i64 a0_3) := (blk_cell BK300.out 3).trans rfl; have hcz5_4 : w3.cell? ⟨gb300, 4, none⟩ = some (.int .i64 a0_4) := (blk_cell BK300.out 4).trans rfl; have hcz5_5 : w3.cell? ⟨gb300, 5, none⟩ = some (.int .i64 a0_5) := (blk_cell BK300.out 5).trans rfl; have hcz5_6 : w3.cell? ⟨gb300, 6, none⟩ = some (.int .i64 a0_6) := (blk_cell BK300.out 6).trans rfl; have hcz5_7 : w3.cell? ⟨gb300, 7, none⟩ = some (.int .i64 a0_7) := (blk_cell BK300.out 7).trans rfl; have hfz5_0 := blk_frozen BK300.out 0; have hfz5_1 := blk_frozen BK300.out 1; have hfz5_2 := blk_frozen BK300.out 2; have hfz5_3 := blk_frozen BK300.out 3; have hfz5_4 := blk_frozen BK300.out 4; have hfz5_5 := blk_frozen BK300.out 5; have hfz5_6 := blk_frozen BK300.out 6; have hfz5_7 := blk_frozen BK300.out 7) | ((with_reducible refine gate_dst (N := 27) rfl ?_); refine Kd.R_lit k78 _ 78 ?hg (N := 27) ?hd (xs := ([(⟨71, a0_0⟩ : S78), (⟨71, a0_1⟩ : S78), (⟨71, a0_2⟩ : S78), (⟨71, a0_3⟩ : S78), (⟨71, a0_4⟩ : S78), (⟨70, a0_5⟩ : S78), (⟨84, a0_6⟩ : S78), (⟨72, a0_7⟩ : S78)] : List (S78))) (inner := [.int .u8 71, .int .i64 a0_0, .int .u8 71, .int .i64 a0_1, .int .u8 71, .int .i64 a0_2, .int .u8 71, .int .i64 a0_3, .int .u8 71, .int .i64 a0_4, .int .u8 70, .int .i64 a0_5, .int .u8 84, .int .i64 a0_6, .int .u8 72, .int .i64 a0_7]) (ok := fun _ => True) (okp := fun _ => True) ?hr ?hp (fun _ hk => hk) trivial (Below.refl _ _) (Nat.le_refl _) (by simp) ?_; (case hd => rfl); (case hg => rfl); (case hr => first | (go_simp; done) | (go_simp; rfl)); (case hp => exact (Reps.c2 (show Kd.M k78 _ _ _ (⟨71, a0_0⟩ : S78) [.int .u8 71, .int .i64 a0_0] from (k78_mkM _ _ _ (⟨71, a0_0⟩ : S78) )) (Reps.c2 (show Kd.M k78 _ _ _ (⟨71, a0_1⟩ : S78) [.int .u8 71, .int .i64 a0_1] from (k78_mkM _ _ _ (⟨71, a0_1⟩ : S78) )) (Reps.c2 (show Kd.M k78 _ _ _ (⟨71, a0_2⟩ : S78) [.int .u8 71, .int .i64 a0_2] from (k78_mkM _ _ _ (⟨71, a0_2⟩ : S78) )) (Reps.c2 (show Kd.M k78 _ _ _ (⟨71, a0_3⟩ : S78) [.int .u8 71, .int .i64 a0_3] from (k78_mkM _ _ _ (⟨71, a0_3⟩ : S78) )) (Reps.c2 (show Kd.M k78 _ _ _ (⟨71, a0_4⟩ : S78) [.int .u8 71, .int .i64 a0_4] from (k78_mkM _ _ _ (⟨71, a0_4⟩ : S78) )) (Reps.c2 (show Kd.M k78 _ _ _ (⟨70, a0_5⟩ : S78) [.int .u8 70, .int .i64 a0_5] from (k78_mkM _ _ _ (⟨70, a0_5⟩ : S78) )) (Reps.c2 (show Kd.M k78 _ _ _ (⟨84, a0_6⟩ : S78) [.int .u8 84, .int .i64 a0_6] from (k78_mkM _ _ _ (⟨84, a0_6⟩ : S78) )) (Reps.c2 (show Kd.M k78 _ _ _ (⟨72, a0_7⟩ : S78) [.int .u8 72, .int .i64 a0_7] from (k78_mkM _ _ _ (⟨72, a0_7⟩ : S78) )) (Reps.none _ _)))))))))); intro v303 w6 ho7 hb hg_ hnew_; clear hg_ hnew_; (first | rw [← Ny302.out] at ho7 | (simp only [Int.reduceToNat] at ho7; rw [← Ny302.out] at ho7)); have n0_ := Aside0.mk (Kd.R_lower ho7 (below_size (by repeat (first | (with_reducible first | exact HB.out | apply below_alloc | apply pw_below_drewN | apply below_drew1 | refine below_set ?_ GE300.out | refine below_set ?_ GE301.out) | exact HB.out)))); have n1_ := Aside0.mk (blk_below (g := gb300) (o := .cells #[.int .i64 a0_0, .int .i64 a0_1, .int .i64 a0_2, .int .i64 a0_3, .int .i64 a0_4, .int .i64 a0_5, .int .i64 a0_6, .int .i64 a0_7] 25 (0, 0)) (by (with_reducible repeat (first | refine blk_drewN ?_ _ | refine blk_drew ?_ | refine blk_alloc ?_ _)); exact BK300.out) hb); have n2_ := Aside0.mk (blk_below (g := gb301) (o := .cells #[.bool false, .slice none 0 0, .string (⟨#[]⟩ : ByteArray)] 32 (0, 0)) (by (with_reducible repeat (first | refine blk_drewN ?_ _ | refine blk_drew ?_ | refine blk_alloc ?_ _)); exact BK301.out) hb); have n3_ := Aside0.mk (below_step (by repeat (first | (with_reducible first | exact HB.out | apply below_alloc | apply pw_below_drewN | apply below_drew1 | refine below_set ?_ GE300.out | refine below_set ?_ GE301.out) | exact HB.out)) hb); clear BK300; clear BK301; clear HB; have HO304 := n0_; have BK300 := n1_; have BK301 := n2_; have HB := n3_; clear n0_ n1_ n2_ n3_; clear hb ho7; obtain ⟨Ao8, co8, eo8⟩ := Kd.R_slice HO304.out; subst eo8; have hcz9_0 : w6.cell? ⟨gb301, 0, none⟩ = some (.bool false) := (blk_cell BK301.out 0).trans rfl; have hcz9_1 : w6.cell? ⟨gb301, 1, none⟩ = some (.slice none 0 0) := (blk_cell BK301.out 1).trans rfl; have hcz9_2 : w6.cell? ⟨gb301, 2, none⟩ = some (.string (⟨#[]⟩ : ByteArray)) := (blk_cell BK301.out 2).trans rfl; have hfz9_0 := blk_frozen BK301.out 0; have hfz9_1 := blk_frozen BK301.out 1; have hfz9_2 := blk_frozen BK301.out 2))
 refine bodyPost_ret (results_cell_row rfl _ _ gb301 32 #[.bool false, .slice Ao8 y302.length co8, .string (⟨#[]⟩ : ByteArray)] (0, 0) _ rfl (by (with_reducible repeat (first | refine blk_drewN ?_ _ | refine blk_drew ?_ | refine blk_alloc ?_ _)); refine blk_put (cs := #[.bool false, .slice Ao8 y302.length co8, .string (⟨#[]⟩ : ByteArray)]) ?_ 2 _ rfl; (with_reducible repeat (first | refine blk_drewN ?_ _ | refine blk_drew ?_ | refine blk_alloc ?_ _)); refine blk_put (cs := #[.bool false, .slice none 0 0, .string (⟨#[]⟩ : ByteArray)]) ?_ 1 _ rfl; (with_reducible repeat (first | refine blk_drewN ?_ _ | refine blk_drew ?_ | refine blk_alloc ?_ _)); refine blk_put (cs := #[.bool false, .slice none 0 0, .string (⟨#[]⟩ : ByteArray)]) ?_ 0 _ rfl; (with_reducible repeat (first | refine blk_drewN ?_ _ | refine blk_drew ?_ | refine blk_alloc ?_ _)); exact BK301.out) Try.underlying32 rfl (by kernel_rfl)) rfl ?_
 exact ⟨_, by first | rfl | (simp [errW_none, errW_some] <;> rfl) | (simp [*, errW_none, errW_some] <;> rfl), by (with_reducible repeat (first | apply Kd.R_alloc | apply Kd.R_drewN | apply Kd.R_drew)); exact Kd.R_mono (Kd.R_far (p := ⟨gb301, 2, none⟩) (Kd.R_far (p := ⟨gb301, 1, none⟩) (Kd.R_far (p := ⟨gb301, 0, none⟩) (Kd.R_types HO304.out BK301.out (by decide)) (fun _ hk => hk.2) (.bool false)) (fun _ hk => hk.2) (.slice Ao8 y302.length co8)) (fun _ hk => hk.2) (.string (⟨#[]⟩ : ByteArray))) (fun _ hk => trivial), by repeat (first | (with_reducible first | exact HB.out | apply below_alloc | apply pw_below_drewN | apply below_drew1 | refine below_set ?_ GE300.out | refine below_set ?_ GE301.out) | exact HB.out)⟩
end Go.Proofs.Ytehkhbnhmehobaa.P
namespace Go.Proofs.Ytehkhbnhmehobaa.P
open Go.RowKit Go.Proofs.YtehkhbnhmehobaaW.PrintWords Go.Proofs.YtehkhbnhmehobaaW.PrintLast Go.Proofs.YtehkhbnhmehobaaW.PrintMore
attribute [local go_sem] max2_int min2_int max_two min_two max_three min_three max_four min_four
set_option linter.unusedVariables false
set_option linter.unusedSimpArgs false
def swarfref42_class.f (k : Nat) (a0_0 : Int) (a0_1 : Int) : Option (Int) := if a0_0 = 71 then ((swarfref42_Group.f k a0_1).bind fun t306 => (some t306)) else (some (wrap64 (10 + (wrap64 (a0_0)))))
theorem swarfref42_class.mono : ∀ a0 a1 k, LeO (swarfref42_class.f k a0 a1) (swarfref42_class.f (k + 1) a0 a1) := by
 intro a0 a1 k
 unfold swarfref42_class.f
 repeat' first
   | (with_reducible exact swarfref42_Group.mono _ _)
   | (with_reducible exact LeO.refl _)
   | (with_reducible exact LeO.none _)
   | (with_reducible refine LeO.ite ?_ ?_)
   | (with_reducible refine LeO.bind ?_ (fun _ => ?_))
   | exact swarfref42_Group.mono _ _
   | exact LeO.none _
   | refine LeO.ite ?_ ?_
   | refine LeO.bind ?_ (fun _ => ?_)
set_option maxHeartbeats 8000000 in
set_option maxRecDepth 100000 in
theorem swarfref42_class.calls (k : Nat) (a0_0 : Int) (a0_1 : Int) (r : Int) (w : World) (h : swarfref42_class.f k a0_0 a0_1 = some r) :
  Calls Try.prog 89 #[.agg #[.int .u8 a0_0, .int .i64 a0_1]] w fun e w' => e = .returned (.int .i64 r) ∧ Below w.heap.size w w' := by
 have hu78 := Try.underlying78
 have HB := Aside0.mk (Below.refl w.heap.size w)
 have H : (if a0_0 = 71 then ((swarfref42_Group.f k a0_1).bind fun t306 => (some t306)) else (some (wrap64 (10 + (wrap64 (a0_0)))))) = some r := h
 clear h
 by_cases c2 : a0_0 = 71
 ·rw [if_pos c2] at H
  have c2b0 : (a0_0 == 71) = true := beq_iff_eq.mpr c2
  have c2b1 : (a0_0 != 71) = false := bne_eq_false_iff_eq.mpr c2
  clear c2
  replace H := Option.bind_eq_some_iff.mp H
  obtain ⟨t306, A30, H⟩ := H
  replace H : (some t306) = some r := H
  have A3 := Aside0.mk A30
  clear A30
  obtain rfl := Option.some.inj H
  go_enter Try.func89, Try.ntmps89
  go_wp2_with (first | ((with_reducible refine gate_dst (N := 1) rfl ?_); refine box_event ?hg (N := 1) ?hd (cs := #[.int .u8 a0_0, .int .i64 a0_1]) (t := 78) ?hr ?_; (case hd => rfl); (case hg => rfl); (case hr => first | (go_simp; done) | (go_simp; rfl)); intro gb305 hg w4 hbox hb; have n0_ := Aside0.mk (below_step (by repeat (first | (with_reducible first | exact HB.out | apply below_alloc | apply pw_below_drewN | apply below_drew1) | exact HB.out)) hb); have n1_ := Aside0.mk (hbox); have n2_ := Aside0.mk ((by rw [hg]; exact (below_size (by repeat (first | (with_reducible first | exact HB.out | apply below_alloc | apply pw_below_drewN | apply below_drew1) | exact HB.out))) : w.heap.size ≤ gb305)); have n3_ := Aside0.mk ((by rw [hg]; exact (below_size (by repeat (first | (with_reducible first | exact HB.out | apply below_alloc | apply pw_below_drewN | apply below_drew1) | exact HB.out))) : w.heap.size ≤ gb305)); clear HB; have HB := n0_; have BK305 := n1_; have GW305 := n2_; have GE305 := n3_; clear n0_ n1_ n2_ n3_; clear hb hbox hg; have hcz5_0 : w4.cell? ⟨gb305, 0, none⟩ = some (.int .u8 a0_0) := (blk_cell BK305.out 0).trans rfl; have hcz5_1 : w4.cell? ⟨gb305, 1, none⟩ = some (.int .i64 a0_1) := (blk_cell BK305.out 1).trans rfl; have hfz5_0 := blk_frozen BK305.out 0; have hfz5_1 := blk_frozen BK305.out 1) | ((with_reducible refine gate_callee (f := 15) rfl ?_); refine goesL_ (some 8) rfl rfl Try.func15 (by kernel_rfl) rfl #[.int .i64 a0_1] rfl (by (try simp only [List.map_toArray, List.map_cons, List.map_nil]); first | done | rfl | (simp only [List.length_drop, List.length_take]; rfl)) ?_; (with_reducible refine (swarfref42_Group.calls k a0_1 t306 _ A3.out).mono ?_); rintro e w6 ⟨rfl, hb⟩; refine ⟨_, rfl, ?_⟩; have n0_ := Aside0.mk (blk_below (g := gb305) (o := .cells #[.int .u8 a0_0, .int .i64 a0_1] 78 (0, 0)) (by (with_reducible repeat (first | refine blk_drewN ?_ _ | refine blk_drew ?_ | refine blk_alloc ?_ _)); exact BK305.out) hb); have n1_ := Aside0.mk (below_step (by repeat (first | (with_reducible first | exact HB.out | apply below_alloc | apply pw_below_drewN | apply below_drew1 | refine below_set ?_ GE305.out) | exact HB.out)) hb); clear BK305; clear HB; have BK305 := n0_; have HB := n1_; clear n0_ n1_; (try clear hb); (try clear hb2); (try clear hk); (try clear hi)))
  go_ret
  exact ⟨by first | rfl | (simp [errW_none, errW_some] <;> rfl) | (simp [*, errW_none, errW_some] <;> rfl), by repeat (first | (with_reducible first | exact HB.out | apply below_alloc | apply pw_below_drewN | apply below_drew1 | refine below_set ?_ GE305.out) | exact HB.out)⟩
 ·rw [if_neg c2] at H
  have c2b0 : (a0_0 == 71) = false := beq_eq_false_iff_ne.mpr c2
  have c2b1 : (a0_0 != 71) = true := bne_iff_ne.mpr c2
  obtain rfl := Option.some.inj H
  go_enter Try.func89, Try.ntmps89
  go_wp2_with (first | ((with_reducible refine gate_dst (N := 1) rfl ?_); refine box_event ?hg (N := 1) ?hd (cs := #[.int .u8 a0_0, .int .i64 a0_1]) (t := 78) ?hr ?_; (case hd => rfl); (case hg => rfl); (case hr => first | (go_simp; done) | (go_simp; rfl)); intro gb305 hg w7 hbox hb; have n0_ := Aside0.mk (below_step (by repeat (first | (with_reducible first | exact HB.out | apply below_alloc | apply pw_below_drewN | apply below_drew1) | exact HB.out)) hb); have n1_ := Aside0.mk (hbox); have n2_ := Aside0.mk ((by rw [hg]; exact (below_size (by repeat (first | (with_reducible first | exact HB.out | apply below_alloc | apply pw_below_drewN | apply below_drew1) | exact HB.out))) : w.heap.size ≤ gb305)); have n3_ := Aside0.mk ((by rw [hg]; exact (below_size (by repeat (first | (with_reducible first | exact HB.out | apply below_alloc | apply pw_below_drewN | apply below_drew1) | exact HB.out))) : w.heap.size ≤ gb305)); clear HB; have HB := n0_; have BK305 := n1_; have GW305 := n2_; have GE305 := n3_; clear n0_ n1_ n2_ n3_; clear hb hbox hg; have hcz8_0 : w7.cell? ⟨gb305, 0, none⟩ = some (.int .u8 a0_0) := (blk_cell BK305.out 0).trans rfl; have hcz8_1 : w7.cell? ⟨gb305, 1, none⟩ = some (.int .i64 a0_1) := (blk_cell BK305.out 1).trans rfl; have hfz8_0 := blk_frozen BK305.out 0; have hfz8_1 := blk_frozen BK305.out 1))
  go_ret
  exact ⟨by first | rfl | (simp [errW_none, errW_some] <;> rfl) | (simp [*, errW_none, errW_some] <;> rfl), by repeat (first | (with_reducible first | exact HB.out | apply below_alloc | apply pw_below_drewN | apply below_drew1 | refine below_set ?_ GE305.out) | exact HB.out)⟩
end Go.Proofs.Ytehkhbnhmehobaa.P
namespace Go.Proofs.Ytehkhbnhmehobaa.P
open Go.RowKit Go.Proofs.YtehkhbnhmehobaaW.PrintWords Go.Proofs.YtehkhbnhmehobaaW.PrintLast Go.Proofs.YtehkhbnhmehobaaW.PrintMore
attribute [local go_sem] max2_int min2_int max_two min_two max_three min_three max_four min_four
set_option linter.unusedVariables false
set_option linter.unusedSimpArgs false
def swarfref42_whole.f (a0_0 : Int) (a0_1 : Int) : Option (Bool) := if a0_0 = 70 then (some (decide (a0_1 ≥ 0))) else (if a0_0 = 84 then (if a0_1 ≥ 0 then (some ((Int.tmod a0_1 1000) == 0)) else (some false)) else (if a0_0 = 72 then (if a0_1 ≥ 0 then (some ((Int.tmod a0_1 1000) == 0)) else (some false)) else (some true)))
set_option maxHeartbeats 8000000 in
set_option maxRecDepth 100000 in
theorem swarfref42_whole.calls (a0_0 : Int) (a0_1 : Int) (r : Bool) (w : World) (h : swarfref42_whole.f a0_0 a0_1 = some r) :
  Calls Try.prog 90 #[.agg #[.int .u8 a0_0, .int .i64 a0_1]] w fun e w' => e = .returned (.bool r) ∧ Below w.heap.size w w' := by
 have hu78 := Try.underlying78
 have HB := Aside0.mk (Below.refl w.heap.size w)
 have H : (if a0_0 = 70 then (some (decide (a0_1 ≥ 0))) else (if a0_0 = 84 then (if a0_1 ≥ 0 then (some ((Int.tmod a0_1 1000) == 0)) else (some false)) else (if a0_0 = 72 then (if a0_1 ≥ 0 then (some ((Int.tmod a0_1 1000) == 0)) else (some false)) else (some true)))) = some r := h
 clear h
 by_cases c2 : a0_0 = 70
 ·rw [if_pos c2] at H
  have c2b0 : (a0_0 == 70) = true := beq_iff_eq.mpr c2
  have c2b1 : (a0_0 != 70) = false := bne_eq_false_iff_eq.mpr c2
  clear c2
  obtain rfl := Option.some.inj H
  go_enter Try.func90, Try.ntmps90
  go_wp2_with (first | ((with_reducible refine gate_dst (N := 1) rfl ?_); refine box_event ?hg (N := 1) ?hd (cs := #[.int .u8 a0_0, .int .i64 a0_1]) (t := 78) ?hr ?_; (case hd => rfl); (case hg => rfl); (case hr => first | (go_simp; done) | (go_simp; rfl)); intro gb307 hg w3 hbox hb; have n0_ := Aside0.mk (below_step (by repeat (first | (with_reducible first | exact HB.out | apply below_alloc | apply pw_below_drewN | apply below_drew1) | exact HB.out)) hb); have n1_ := Aside0.mk (hbox); have n2_ := Aside0.mk ((by rw [hg]; exact (below_size (by repeat (first | (with_reducible first | exact HB.out | apply below_alloc | apply pw_below_drewN | apply below_drew1) | exact HB.out))) : w.heap.size ≤ gb307)); have n3_ := Aside0.mk ((by rw [hg]; exact (below_size (by repeat (first | (with_reducible first | exact HB.out | apply below_alloc | apply pw_below_drewN | apply below_drew1) | exact HB.out))) : w.heap.size ≤ gb307)); clear HB; have HB := n0_; have BK307 := n1_; have GW307 := n2_; have GE307 := n3_; clear n0_ n1_ n2_ n3_; clear hb hbox hg; have hcz4_0 : w3.cell? ⟨gb307, 0, none⟩ = some (.int .u8 a0_0) := (blk_cell BK307.out 0).trans rfl; have hcz4_1 : w3.cell? ⟨gb307, 1, none⟩ = some (.int .i64 a0_1) := (blk_cell BK307.out 1).trans rfl; have hfz4_0 := blk_frozen BK307.out 0; have hfz4_1 := blk_frozen BK307.out 1))
  go_ret
  exact ⟨by first | rfl | (simp [errW_none, errW_some] <;> rfl) | (simp [*, errW_none, errW_some] <;> rfl), by repeat (first | (with_reducible first | exact HB.out | apply below_alloc | apply pw_below_drewN | apply below_drew1 | refine below_set ?_ GE307.out) | exact HB.out)⟩
 ·rw [if_neg c2] at H
  have c2b0 : (a0_0 == 70) = false := beq_eq_false_iff_ne.mpr c2
  have c2b1 : (a0_0 != 70) = true := bne_iff_ne.mpr c2
  by_cases c5 : a0_0 = 84
  ·rw [if_pos c5] at H
   have c5b0 : (a0_0 == 84) = true := beq_iff_eq.mpr c5
   have c5b1 : (a0_0 != 84) = false := bne_eq_false_iff_eq.mpr c5
   clear c5
   by_cases c6 : a0_1 ≥ 0
   ·rw [if_pos c6] at H
    have c6b0 : decide (0 ≤ a0_1) = true := decide_eq_true c6
    clear c6
    obtain rfl := Option.some.inj H
    go_enter Try.func90, Try.ntmps90
    go_wp2_with (first | ((with_reducible refine gate_dst (N := 1) rfl ?_); refine box_event ?hg (N := 1) ?hd (cs := #[.int .u8 a0_0, .int .i64 a0_1]) (t := 78) ?hr ?_; (case hd => rfl); (case hg => rfl); (case hr => first | (go_simp; done) | (go_simp; rfl)); intro gb307 hg w7 hbox hb; have n0_ := Aside0.mk (below_step (by repeat (first | (with_reducible first | exact HB.out | apply below_alloc | apply pw_below_drewN | apply below_drew1) | exact HB.out)) hb); have n1_ := Aside0.mk (hbox); have n2_ := Aside0.mk ((by rw [hg]; exact (below_size (by repeat (first | (with_reducible first | exact HB.out | apply below_alloc | apply pw_below_drewN | apply below_drew1) | exact HB.out))) : w.heap.size ≤ gb307)); have n3_ := Aside0.mk ((by rw [hg]; exact (below_size (by repeat (first | (with_reducible first | exact HB.out | apply below_alloc | apply pw_below_drewN | apply below_drew1) | exact HB.out))) : w.heap.size ≤ gb307)); clear HB; have HB := n0_; have BK307 := n1_; have GW307 := n2_; have GE307 := n3_; clear n0_ n1_ n2_ n3_; clear hb hbox hg; have hcz8_0 : w7.cell? ⟨gb307, 0, none⟩ = some (.int .u8 a0_0) := (blk_cell BK307.out 0).trans rfl; have hcz8_1 : w7.cell? ⟨gb307, 1, none⟩ = some (.int .i64 a0_1) := (blk_cell BK307.out 1).trans rfl; have hfz8_0 := blk_frozen BK307.out 0; have hfz8_1 := blk_frozen BK307.out 1))
    go_ret
    exact ⟨by first | rfl | (simp [errW_none, errW_some] <;> rfl) | (simp [*, errW_none, errW_some] <;> rfl), by repeat (first | (with_reducible first | exact HB.out | apply below_alloc | apply pw_below_drewN | apply below_drew1 | refine below_set ?_ GE307.out) | exact HB.out)⟩
   ·rw [if_neg c6] at H
    have c6b0 : decide (0 ≤ a0_1) = false := decide_eq_false c6
    clear c6
    obtain rfl := Option.some.inj H
    go_enter Try.func90, Try.ntmps90
    go_wp2_with (first | ((with_reducible refine gate_dst (N := 1) rfl ?_); refine box_event ?hg (N := 1) ?hd (cs := #[.int .u8 a0_0, .int .i64 a0_1]) (t := 78) ?hr ?_; (case hd => rfl); (case hg => rfl); (case hr => first | (go_simp; done) | (go_simp; rfl)); intro gb307 hg w9 hbox hb; have n0_ := Aside0.mk (below_step (by repeat (first | (with_reducible first | exact HB.out | apply below_alloc | apply pw_below_drewN | apply below_drew1) | exact HB.out)) hb); have n1_ := Aside0.mk (hbox); have n2_ := Aside0.mk ((by rw [hg]; exact (below_size (by repeat (first | (with_reducible first | exact HB.out | apply below_alloc | apply pw_below_drewN | apply below_drew1) | exact HB.out))) : w.heap.size ≤ gb307)); have n3_ := Aside0.mk ((by rw [hg]; exact (below_size (by repeat (first | (with_reducible first | exact HB.out | apply below_alloc | apply pw_below_drewN | apply below_drew1) | exact HB.out))) : w.heap.size ≤ gb307)); clear HB; have HB := n0_; have BK307 := n1_; have GW307 := n2_; have GE307 := n3_; clear n0_ n1_ n2_ n3_; clear hb hbox hg; have hcz10_0 : w9.cell? ⟨gb307, 0, none⟩ = some (.int .u8 a0_0) := (blk_cell BK307.out 0).trans rfl; have hcz10_1 : w9.cell? ⟨gb307, 1, none⟩ = some (.int .i64 a0_1) := (blk_cell BK307.out 1).trans rfl; have hfz10_0 := blk_frozen BK307.out 0; have hfz10_1 := blk_frozen BK307.out 1))
    go_ret
    exact ⟨by first | rfl | (simp [errW_none, errW_some] <;> rfl) | (simp [*, errW_none, errW_some] <;> rfl), by repeat (first | (with_reducible first | exact HB.out | apply below_alloc | apply pw_below_drewN | apply below_drew1 | refine below_set ?_ GE307.out) | exact HB.out)⟩
  ·rw [if_neg c5] at H
   have c5b0 : (a0_0 == 84) = false := beq_eq_false_iff_ne.mpr c5
   have c5b1 : (a0_0 != 84) = true := bne_iff_ne.mpr c5
   by_cases c11 : a0_0 = 72
   ·rw [if_pos c11] at H
    have c11b0 : (a0_0 == 72) = true := beq_iff_eq.mpr c11
    have c11b1 : (a0_0 != 72) = false := bne_eq_false_iff_eq.mpr c11
    clear c11
    by_cases c12 : a0_1 ≥ 0
    ·rw [if_pos c12] at H
     have c12b0 : decide (0 ≤ a0_1) = true := decide_eq_true c12
     clear c12
     obtain rfl := Option.some.inj H
     go_enter Try.func90, Try.ntmps90
     go_wp2_with (first | ((with_reducible refine gate_dst (N := 1) rfl ?_); refine box_event ?hg (N := 1) ?hd (cs := #[.int .u8 a0_0, .int .i64 a0_1]) (t := 78) ?hr ?_; (case hd => rfl); (case hg => rfl); (case hr => first | (go_simp; done) | (go_simp; rfl)); intro gb307 hg w13 hbox hb; have n0_ := Aside0.mk (below_step (by repeat (first | (with_reducible first | exact HB.out | apply below_alloc | apply pw_below_drewN | apply below_drew1) | exact HB.out)) hb); have n1_ := Aside0.mk (hbox); have n2_ := Aside0.mk ((by rw [hg]; exact (below_size (by repeat (first | (with_reducible first | exact HB.out | apply below_alloc | apply pw_below_drewN | apply below_drew1) | exact HB.out))) : w.heap.size ≤ gb307)); have n3_ := Aside0.mk ((by rw [hg]; exact (below_size (by repeat (first | (with_reducible first | exact HB.out | apply below_alloc | apply pw_below_drewN | apply below_drew1) | exact HB.out))) : w.heap.size ≤ gb307)); clear HB; have HB := n0_; have BK307 := n1_; have GW307 := n2_; have GE307 := n3_; clear n0_ n1_ n2_ n3_; clear hb hbox hg; have hcz14_0 : w13.cell? ⟨gb307, 0, none⟩ = some (.int .u8 a0_0) := (blk_cell BK307.out 0).trans rfl; have hcz14_1 : w13.cell? ⟨gb307, 1, none⟩ = some (.int .i64 a0_1) := (blk_cell BK307.out 1).trans rfl; have hfz14_0 := blk_frozen BK307.out 0; have hfz14_1 := blk_frozen BK307.out 1))
     go_ret
     exact ⟨by first | rfl | (simp [errW_none, errW_some] <;> rfl) | (simp [*, errW_none, errW_some] <;> rfl), by repeat (first | (with_reducible first | exact HB.out | apply below_alloc | apply pw_below_drewN | apply below_drew1 | refine below_set ?_ GE307.out) | exact HB.out)⟩
    ·rw [if_neg c12] at H
     have c12b0 : decide (0 ≤ a0_1) = false := decide_eq_false c12
     clear c12
     obtain rfl := Option.some.inj H
     go_enter Try.func90, Try.ntmps90
     go_wp2_with (first | ((with_reducible refine gate_dst (N := 1) rfl ?_); refine box_event ?hg (N := 1) ?hd (cs := #[.int .u8 a0_0, .int .i64 a0_1]) (t := 78) ?hr ?_; (case hd => rfl); (case hg => rfl); (case hr => first | (go_simp; done) | (go_simp; rfl)); intro gb307 hg w15 hbox hb; have n0_ := Aside0.mk (below_step (by repeat (first | (with_reducible first | exact HB.out | apply below_alloc | apply pw_below_drewN | apply below_drew1) | exact HB.out)) hb); have n1_ := Aside0.mk (hbox); have n2_ := Aside0.mk ((by rw [hg]; exact (below_size (by repeat (first | (with_reducible first | exact HB.out | apply below_alloc | apply pw_below_drewN | apply below_drew1) | exact HB.out))) : w.heap.size ≤ gb307)); have n3_ := Aside0.mk ((by rw [hg]; exact (below_size (by repeat (first | (with_reducible first | exact HB.out | apply below_alloc | apply pw_below_drewN | apply below_drew1) | exact HB.out))) : w.heap.size ≤ gb307)); clear HB; have HB := n0_; have BK307 := n1_; have GW307 := n2_; have GE307 := n3_; clear n0_ n1_ n2_ n3_; clear hb hbox hg; have hcz16_0 : w15.cell? ⟨gb307, 0, none⟩ = some (.int .u8 a0_0) := (blk_cell BK307.out 0).trans rfl; have hcz16_1 : w15.cell? ⟨gb307, 1, none⟩ = some (.int .i64 a0_1) := (blk_cell BK307.out 1).trans rfl; have hfz16_0 := blk_frozen BK307.out 0; have hfz16_1 := blk_frozen BK307.out 1))
     go_ret
     exact ⟨by first | rfl | (simp [errW_none, errW_some] <;> rfl) | (simp [*, errW_none, errW_some] <;> rfl), by repeat (first | (with_reducible first | exact HB.out | apply below_alloc | apply pw_below_drewN | apply below_drew1 | refine below_set ?_ GE307.out) | exact HB.out)⟩
   ·rw [if_neg c11] at H
    have c11b0 : (a0_0 == 72) = false := beq_eq_false_iff_ne.mpr c11
    have c11b1 : (a0_0 != 72) = true := bne_iff_ne.mpr c11
    obtain rfl := Option.some.inj H
    go_enter Try.func90, Try.ntmps90
    go_wp2_with (first | ((with_reducible refine gate_dst (N := 1) rfl ?_); refine box_event ?hg (N := 1) ?hd (cs := #[.int .u8 a0_0, .int .i64 a0_1]) (t := 78) ?hr ?_; (case hd => rfl); (case hg => rfl); (case hr => first | (go_simp; done) | (go_simp; rfl)); intro gb307 hg w17 hbox hb; have n0_ := Aside0.mk (below_step (by repeat (first | (with_reducible first | exact HB.out | apply below_alloc | apply pw_below_drewN | apply below_drew1) | exact HB.out)) hb); have n1_ := Aside0.mk (hbox); have n2_ := Aside0.mk ((by rw [hg]; exact (below_size (by repeat (first | (with_reducible first | exact HB.out | apply below_alloc | apply pw_below_drewN | apply below_drew1) | exact HB.out))) : w.heap.size ≤ gb307)); have n3_ := Aside0.mk ((by rw [hg]; exact (below_size (by repeat (first | (with_reducible first | exact HB.out | apply below_alloc | apply pw_below_drewN | apply below_drew1) | exact HB.out))) : w.heap.size ≤ gb307)); clear HB; have HB := n0_; have BK307 := n1_; have GW307 := n2_; have GE307 := n3_; clear n0_ n1_ n2_ n3_; clear hb hbox hg; have hcz18_0 : w17.cell? ⟨gb307, 0, none⟩ = some (.int .u8 a0_0) := (blk_cell BK307.out 0).trans rfl; have hcz18_1 : w17.cell? ⟨gb307, 1, none⟩ = some (.int .i64 a0_1) := (blk_cell BK307.out 1).trans rfl; have hfz18_0 := blk_frozen BK307.out 0; have hfz18_1 := blk_frozen BK307.out 1))
    go_ret
    exact ⟨by first | rfl | (simp [errW_none, errW_some] <;> rfl) | (simp [*, errW_none, errW_some] <;> rfl), by repeat (first | (with_reducible first | exact HB.out | apply below_alloc | apply pw_below_drewN | apply below_drew1 | refine below_set ?_ GE307.out) | exact HB.out)⟩
end Go.Proofs.Ytehkhbnhmehobaa.P
namespace Go.Proofs.Ytehkhbnhmehobaa.P
open Go.RowKit Go.Proofs.YtehkhbnhmehobaaW.PrintWords Go.Proofs.YtehkhbnhmehobaaW.PrintLast Go.Proofs.YtehkhbnhmehobaaW.PrintMore
attribute [local go_sem] max2_int min2_int max_two min_two max_three min_three max_four min_four
set_option linter.unusedVariables false
set_option linter.unusedSimpArgs false
mutual
def swarfref42_Check.l0 : Nat → Int → Bool → List (S78) → ByteArray → Option (Int)
 | 0, _, _, _, _ => none
 | k + 1, x3, x309000, x309001, x309002 => if x3 < (x309001.length : Int) then (if 0 ≤ x3 then ((swarfref42_class.f k ((rd_T78 x309001 x3).f0) ((rd_T78 x309001 x3).f1)).bind fun t310 => (if t310 = 0 then (swarfref42_Check.j1 k x3 t310 true x309000 x309001 x309002) else ((swarfref42_whole.f ((rd_T78 x309001 x3).f0) ((rd_T78 x309001 x3).f1)).bind fun t312 => (swarfref42_Check.j1 k x3 t310 (!t312) x309000 x309001 x309002)))) else (none)) else (some 0)
def swarfref42_Check.j1 : Nat → Int → Int → Bool → Bool → List (S78) → ByteArray → Option (Int)
 | 0, _, _, _, _, _, _ => none
 | k + 1, x3, x4, x29, x309000, x309001, x309002 => if x29 = true then (some 1) else (swarfref42_Check.l1 k x3 x4 0 x309000 x309001 x309002)
def swarfref42_Check.l1 : Nat → Int → Int → Int → Bool → List (S78) → ByteArray → Option (Int)
 | 0, _, _, _, _, _, _ => none
 | k + 1, x3, x4, x5, x309000, x309001, x309002 => if x5 < x3 then (if 0 ≤ x5 then (if x5 < (x309001.length : Int) then ((swarfref42_class.f k ((rd_T78 x309001 x5).f0) ((rd_T78 x309001 x5).f1)).bind fun t314 => (if t314 = x4 then (some 1) else (swarfref42_Check.l1 k x3 x4 (wrap64 (x5 + 1)) x309000 x309001 x309002))) else (none)) else (none)) else (swarfref42_Check.l0 k (wrap64 (x3 + 1)) x309000 x309001 x309002)
end
def swarfref42_Check.f (k : Nat) (a0_0 : Bool) (l0_1 : List (S78)) (a0_2 : ByteArray) : Option (Int) := swarfref42_Check.l0 k 0 a0_0 l0_1 a0_2
theorem swarfref42_Check.mono_l : ∀ k, (∀ y0 y1 y2 y3, LeO (swarfref42_Check.l0 k y0 y1 y2 y3) (swarfref42_Check.l0 (k + 1) y0 y1 y2 y3)) ∧ (∀ y0 y1 y2 y3 y4 y5, LeO (swarfref42_Check.j1 k y0 y1 y2 y3 y4 y5) (swarfref42_Check.j1 (k + 1) y0 y1 y2 y3 y4 y5)) ∧ (∀ y0 y1 y2 y3 y4 y5, LeO (swarfref42_Check.l1 k y0 y1 y2 y3 y4 y5) (swarfref42_Check.l1 (k + 1) y0 y1 y2 y3 y4 y5))
 | 0 => ⟨fun _ _ _ _ r h => by simp [swarfref42_Check.l0] at h, fun _ _ _ _ _ _ r h => by simp [swarfref42_Check.j1] at h, fun _ _ _ _ _ _ r h => by simp [swarfref42_Check.l1] at h⟩
 | k + 1 => by
  obtain ⟨ih0, ih1, ih2⟩ := swarfref42_Check.mono_l k
  refine ⟨?_, ?_, ?_⟩
  ·intro y0 y1 y2 y3
   unfold swarfref42_Check.l0
   repeat' first
   | (with_reducible exact ih0 _ _ _ _)
   | (with_reducible exact ih1 _ _ _ _ _ _)
   | (with_reducible exact ih2 _ _ _ _ _ _)
   | (with_reducible exact swarfref42_class.mono _ _ _)
   | (with_reducible exact LeO.refl _)
   | (with_reducible exact LeO.none _)
   | (with_reducible refine LeO.ite ?_ ?_)
   | (with_reducible refine LeO.bind ?_ (fun _ => ?_))
   | exact ih0 _ _ _ _
   | exact ih1 _ _ _ _ _ _
   | exact ih2 _ _ _ _ _ _
   | exact swarfref42_class.mono _ _ _
   | exact LeO.none _
   | refine LeO.ite ?_ ?_
   | refine LeO.bind ?_ (fun _ => ?_)
  ·intro y0 y1 y2 y3 y4 y5
   unfold swarfref42_Check.j1
   repeat' first
   | (with_reducible exact ih0 _ _ _ _)
   | (with_reducible exact ih1 _ _ _ _ _ _)
   | (with_reducible exact ih2 _ _ _ _ _ _)
   | (with_reducible exact swarfref42_class.mono _ _ _)
   | (with_reducible exact LeO.refl _)
   | (with_reducible exact LeO.none _)
   | (with_reducible refine LeO.ite ?_ ?_)
   | (with_reducible refine LeO.bind ?_ (fun _ => ?_))
   | exact ih0 _ _ _ _
   | exact ih1 _ _ _ _ _ _
   | exact ih2 _ _ _ _ _ _
   | exact swarfref42_class.mono _ _ _
   | exact LeO.none _
   | refine LeO.ite ?_ ?_
   | refine LeO.bind ?_ (fun _ => ?_)
  ·intro y0 y1 y2 y3 y4 y5
   unfold swarfref42_Check.l1
   repeat' first
   | (with_reducible exact ih0 _ _ _ _)
   | (with_reducible exact ih1 _ _ _ _ _ _)
   | (with_reducible exact ih2 _ _ _ _ _ _)
   | (with_reducible exact swarfref42_class.mono _ _ _)
   | (with_reducible exact LeO.refl _)
   | (with_reducible exact LeO.none _)
   | (with_reducible refine LeO.ite ?_ ?_)
   | (with_reducible refine LeO.bind ?_ (fun _ => ?_))
   | exact ih0 _ _ _ _
   | exact ih1 _ _ _ _ _ _
   | exact ih2 _ _ _ _ _ _
   | exact swarfref42_class.mono _ _ _
   | exact LeO.none _
   | refine LeO.ite ?_ ?_
   | refine LeO.bind ?_ (fun _ => ?_)
theorem swarfref42_Check.mono : ∀ a0 a1 a2 k, LeO (swarfref42_Check.f k a0 a1 a2) (swarfref42_Check.f (k + 1) a0 a1 a2) := by
 intro a0 a1 a2 k
 obtain ⟨ih0, ih1, ih2⟩ := swarfref42_Check.mono_l k
 unfold swarfref42_Check.f
 repeat' first
   | (with_reducible exact ih0 _ _ _ _)
   | (with_reducible exact ih1 _ _ _ _ _ _)
   | (with_reducible exact ih2 _ _ _ _ _ _)
   | (with_reducible exact swarfref42_class.mono _ _ _)
   | (with_reducible exact LeO.refl _)
   | (with_reducible exact LeO.none _)
   | (with_reducible refine LeO.ite ?_ ?_)
   | (with_reducible refine LeO.bind ?_ (fun _ => ?_))
   | exact ih0 _ _ _ _
   | exact ih1 _ _ _ _ _ _
   | exact ih2 _ _ _ _ _ _
   | exact swarfref42_class.mono _ _ _
   | exact LeO.none _
   | refine LeO.ite ?_ ?_
   | refine LeO.bind ?_ (fun _ => ?_)
set_option maxHeartbeats 8000000 in
set_option maxRecDepth 100000 in
theorem swarfref42_Check.calls (k : Nat) (a0_0 : Bool) (A0_1 : Option Addr) (c0_1 : Nat) (l0_1 : List (S78)) (a0_2 : ByteArray) (r : Int) (w : World) (hr0_1 : Kd.C k78 w A0_1 l0_1.length l0_1) (hc0_1 : l0_1.length ≤ c0_1) (h : swarfref42_Check.f k a0_0 l0_1 a0_2 = some r) :
  Calls Try.prog 55 #[.agg #[.bool a0_0, .slice A0_1 l0_1.length c0_1, .string a0_2]] w fun e w' => e = .returned (.int .i64 r) ∧ Below w.heap.size w w' := by
 have hu32 := Try.underlying32
 have hu78 := Try.underlying78
 have HR0_1 := Aside0.mk hr0_1
 have HC0_1 := Aside0.mk hc0_1
 clear hr0_1 hc0_1
 have HB := Aside0.mk (Below.refl w.heap.size w)
 have H : (swarfref42_Check.l0 k 0 a0_0 l0_1 a0_2) = some r := h
 clear h
 have H' := Aside0.mk H
 clear H
 go_enter Try.func55, Try.ntmps55
 go_wp2_with (first | ((with_reducible refine gate_dst (N := 1) rfl ?_); refine box_event ?hg (N := 1) ?hd (cs := #[.bool a0_0, .slice A0_1 l0_1.length c0_1, .string a0_2]) (t := 32) ?hr ?_; (case hd => rfl); (case hg => rfl); (case hr => first | (go_simp; done) | (go_simp; rfl)); intro gb308 hg w2 hbox hb; have n0_ := Aside0.mk (below_step (by repeat (first | (with_reducible first | exact HB.out | apply below_alloc | apply pw_below_drewN | apply below_drew1) | exact HB.out)) hb); have n1_ := Aside0.mk (hbox); have n2_ := Aside0.mk ((by rw [hg]; exact (below_size (by repeat (first | (with_reducible first | exact HB.out | apply below_alloc | apply pw_below_drewN | apply below_drew1) | exact HB.out))) : w.heap.size ≤ gb308)); have n3_ := Aside0.mk ((by rw [hg]; exact (below_size (by repeat (first | (with_reducible first | exact HB.out | apply below_alloc | apply pw_below_drewN | apply below_drew1) | exact HB.out))) : w.heap.size ≤ gb308)); clear HB; have HB := n0_; have BK308 := n1_; have GW308 := n2_; have GE308 := n3_; clear n0_ n1_ n2_ n3_; clear hb hbox hg))
 go_loopg [3] k (fun kq v3 w' => ∃ (x3_1 : Int), v3 = .int .i64 x3_1 ∧ Aside0 (swarfref42_Check.l0 kq x3_1 a0_0 l0_1 a0_2 = some r) ∧ Aside0 (kq ≤ k) ∧ Aside0 (w'.heap[gb308]? = some (.cells #[.bool a0_0, (.slice A0_1 l0_1.length c0_1), .string a0_2] 32 (0, 0))) ∧ Aside0 (Below w.heap.size w w'))
 case atStart => exact ⟨(0), (by first | rfl | (simp; done) | (simp [*]; done)), H', ⟨Nat.le_refl _⟩, ⟨by (with_reducible repeat (first | refine blk_drewN ?_ _ | refine blk_drew ?_ | refine blk_alloc ?_ _)); exact BK308.out⟩, ⟨by repeat (first | (with_reducible first | exact HB.out | apply below_alloc | apply pw_below_drewN | apply below_drew1 | refine below_set ?_ GE308.out) | exact HB.out)⟩⟩
 case round =>
  clear H'
  try clear p2
  obtain ⟨x3_1, rfl, HA, HK1, BK308, HB⟩ := hrel
  cases gk with
  | zero => exact absurd HA.out (by simp [swarfref42_Check.l0])
  | succ k1 =>
   have H := HA.out
   clear HA
   simp only [swarfref42_Check.l0] at H
   by_cases c3 : x3_1 < (l0_1.length : Int)
   ·rw [if_pos c3] at H
    have c3b0 : decide (x3_1 < (l0_1.length : Int)) = true := decide_eq_true c3
    clear c3
    by_cases c4 : 0 ≤ x3_1
    ·rw [if_pos c4] at H
     have c4b0 : decide (0 ≤ x3_1) = true := decide_eq_true c4
     clear c4
     replace H := Option.bind_eq_some_iff.mp H
     obtain ⟨t310, A50, H⟩ := H
     replace H : (if t310 = 0 then (swarfref42_Check.j1 k1 x3_1 t310 true a0_0 l0_1 a0_2) else ((swarfref42_whole.f ((rd_T78 l0_1 x3_1).f0) ((rd_T78 l0_1 x3_1).f1)).bind fun t312 => (swarfref42_Check.j1 k1 x3_1 t310 (!t312) a0_0 l0_1 a0_2))) = some r := H
     have A5 := Aside0.mk A50
     clear A50
     have HC6 := Aside0.mk H
     clear H
     have hcz7_0 : wr.cell? ⟨gb308, 0, none⟩ = some (.bool a0_0) := (blk_cell BK308.out 0).trans rfl
     have hcz7_1 : wr.cell? ⟨gb308, 1, none⟩ = some (.slice A0_1 l0_1.length c0_1) := (blk_cell BK308.out 1).trans rfl
     have hcz7_2 : wr.cell? ⟨gb308, 2, none⟩ = some (.string a0_2) := (blk_cell BK308.out 2).trans rfl
     have hfz7_0 := blk_frozen BK308.out 0
     have hfz7_1 := blk_frozen BK308.out 1
     have hfz7_2 := blk_frozen BK308.out 2
     have p309 : 0 ≤ (x3_1 : Int) := of_decide_eq_true (by first | (with_reducible assumption) | assumption)
     have q309 : x3_1 < (l0_1.length : Int) := of_decide_eq_true (by first | (with_reducible assumption) | assumption)
     obtain ⟨ad309, e309, hx309_0, hx309_1⟩ := at_T78 HR0_1.out x3_1 p309 q309
     cases e309
     replace hx309_0 := (HB.out.cell (World.block_lt_of_cell? w _ hx309_0)).trans hx309_0
     replace hx309_1 := (HB.out.cell (World.block_lt_of_cell? w _ hx309_1)).trans hx309_1
     replace p309 := eq_true p309
     replace q309 := eq_true q309
     go_upto_region 5 with (first | ((with_reducible refine gate_callee (f := 89) rfl ?_); refine goesL_ (some 18) rfl rfl Try.func89 (by kernel_rfl) rfl #[.agg #[.int .u8 ((rd_T78 l0_1 x3_1).f0), .int .i64 ((rd_T78 l0_1 x3_1).f1)]] rfl (by (try simp only [List.map_toArray, List.map_cons, List.map_nil]); first | done | rfl | (simp only [List.length_drop, List.length_take]; rfl)) ?_; (with_reducible refine (swarfref42_class.calls k1 ((rd_T78 l0_1 x3_1).f0) ((rd_T78 l0_1 x3_1).f1) t310 _ A5.out).mono ?_); rintro e w8 ⟨rfl, hb⟩; refine ⟨_, rfl, ?_⟩; have n0_ := Aside0.mk (blk_below (g := gb308) (o := .cells #[.bool a0_0, .slice (some ad309) l0_1.length c0_1, .string a0_2] 32 (0, 0)) (by (with_reducible repeat (first | refine blk_drewN ?_ _ | refine blk_drew ?_ | refine blk_alloc ?_ _)); exact BK308.out) hb); have n1_ := Aside0.mk (below_step (by repeat (first | (with_reducible first | exact HB.out | apply below_alloc | apply pw_below_drewN | apply below_drew1 | refine below_set ?_ GE308.out) | exact HB.out)) hb); clear BK308; clear HB; have BK308 := n0_; have HB := n1_; clear n0_ n1_; (try clear hb); (try clear hb2); (try clear hk); (try clear hi)))
     (try simp only [Act.put, List.setIfInBounds_toArray, List.set_cons_zero, List.set_cons_succ])
     go_cut [29] (fun v29 wc => ∃ (kq : Nat) (x29_5 : Bool), v29 = .bool x29_5 ∧ Aside0 (swarfref42_Check.j1 kq x3_1 t310 x29_5 a0_0 l0_1 a0_2 = some r) ∧ Aside0 (kq ≤ k1) ∧ Aside0 (wc.heap[gb308]? = some (.cells #[.bool a0_0, (.slice (some ad309) l0_1.length c0_1), .string a0_2] 32 (0, 0))) ∧ Aside0 (Below w.heap.size w wc))
     case first =>
      have H := HC6.out
      clear HC6
      by_cases c9 : t310 = 0
      ·rw [if_pos c9] at H
       have c9b0 : (t310 == 0) = true := beq_iff_eq.mpr c9
       have c9b1 : (t310 != 0) = false := bne_eq_false_iff_eq.mpr c9
       clear c9
       (first | rw [c9b0] | (simp only [i64_w, i32_w]; rw [c9b0]) | skip)
       have H' := Aside0.mk H
       clear H
       go_wp2
       go_meet
       case rel => exact ⟨_, (true), (by first | rfl | (simp; done) | (simp [*]; done)), H', ⟨by have := HK1.out; first | omega | exact Nat.le_refl _⟩, ⟨by (with_reducible repeat (first | refine blk_drewN ?_ _ | refine blk_drew ?_ | refine blk_alloc ?_ _)); exact BK308.out⟩, ⟨by repeat (first | (with_reducible first | exact HB.out | apply below_alloc | apply pw_below_drewN | apply below_drew1 | refine below_set ?_ GE308.out) | exact HB.out)⟩⟩
      ·rw [if_neg c9] at H
       have c9b0 : (t310 == 0) = false := beq_eq_false_iff_ne.mpr c9
       have c9b1 : (t310 != 0) = true := bne_iff_ne.mpr c9
       (first | rw [c9b0] | (simp only [i64_w, i32_w]; rw [c9b0]) | skip)
       replace H := Option.bind_eq_some_iff.mp H
       obtain ⟨t312, A100, H⟩ := H
       replace H : (swarfref42_Check.j1 k1 x3_1 t310 (!t312) a0_0 l0_1 a0_2) = some r := H
       have A10 := Aside0.mk A100
       clear A100
       have H' := Aside0.mk H
       clear H
       have hcz11_0 : w8.cell? ⟨gb308, 0, none⟩ = some (.bool a0_0) := (blk_cell BK308.out 0).trans rfl
       have hcz11_1 : w8.cell? ⟨gb308, 1, none⟩ = some (.slice (some ad309) l0_1.length c0_1) := (blk_cell BK308.out 1).trans rfl
       have hcz11_2 : w8.cell? ⟨gb308, 2, none⟩ = some (.string a0_2) := (blk_cell BK308.out 2).trans rfl
       have hfz11_0 := blk_frozen BK308.out 0
       have hfz11_1 := blk_frozen BK308.out 1
       have hfz11_2 := blk_frozen BK308.out 2
       have p311 : 0 ≤ (x3_1 : Int) := of_decide_eq_true (by first | (with_reducible assumption) | assumption)
       have q311 : x3_1 < (l0_1.length : Int) := of_decide_eq_true (by first | (with_reducible assumption) | assumption)
       obtain ⟨ad311, e311, hx311_0, hx311_1⟩ := at_T78 HR0_1.out x3_1 p311 q311
       obtain rfl : ad309 = ad311 := (by injection e311)
       replace hx311_0 := (HB.out.cell (World.block_lt_of_cell? w _ hx311_0)).trans hx311_0
       replace hx311_1 := (HB.out.cell (World.block_lt_of_cell? w _ hx311_1)).trans hx311_1
       replace p311 := eq_true p311
       replace q311 := eq_true q311
       go_wp2_with (first | (go_at_call 90; (with_reducible refine (swarfref42_whole.calls ((rd_T78 l0_1 x3_1).f0) ((rd_T78 l0_1 x3_1).f1) t312 _ A10.out).mono ?_); rintro e w12 ⟨rfl, hb⟩; have n0_ := Aside0.mk (blk_below (g := gb308) (o := .cells #[.bool a0_0, .slice (some ad309) l0_1.length c0_1, .string a0_2] 32 (0, 0)) (by (with_reducible repeat (first | refine blk_drewN ?_ _ | refine blk_drew ?_ | refine blk_alloc ?_ _)); exact BK308.out) hb); have n1_ := Aside0.mk (below_step (by repeat (first | (with_reducible first | exact HB.out | apply below_alloc | apply pw_below_drewN | apply below_drew1 | refine below_set ?_ GE308.out) | exact HB.out)) hb); clear BK308; clear HB; have BK308 := n0_; have HB := n1_; clear n0_ n1_; (try clear hb); (try clear hb2); (try clear hk); (try clear hi)))
       go_meet
       case rel => exact ⟨_, (!t312), (by first | rfl | (simp; done) | (simp [*]; done)), H', ⟨by have := HK1.out; first | omega | exact Nat.le_refl _⟩, ⟨by (with_reducible repeat (first | refine blk_drewN ?_ _ | refine blk_drew ?_ | refine blk_alloc ?_ _)); exact BK308.out⟩, ⟨by repeat (first | (with_reducible first | exact HB.out | apply below_alloc | apply pw_below_drewN | apply below_drew1 | refine below_set ?_ GE308.out) | exact HB.out)⟩⟩
     case rest =>
      clear HC6
      try clear p2
      try clear c3
      try clear c3b0
      try clear p3
      try clear q3
      try clear hx3
      try clear c4
      try clear c4b0
      try clear c5
      try clear c8
      try clear c9
      try clear c9b0
      try clear c9b1
      try clear hcz11_0
      try clear hcz11_1
      try clear hcz11_2
      try clear hcz7_0
      try clear hcz7_1
      try clear hcz7_2
      try clear hfz11_0
      try clear hfz11_1
      try clear hfz11_2
      try clear hfz7_0
      try clear hfz7_1
      try clear hfz7_2
      try clear hx309_0
      try clear hx309_1
      try clear hx311_0
      try clear hx311_1
      try clear p2
      try clear p309
      try clear p311
      try clear q309
      try clear q311
      obtain ⟨kq, x29_5, rfl, HA, HJ5, BK308, HB⟩ := hcut
      cases kq with
      | zero => exact absurd HA.out (by simp [swarfref42_Check.j1])
      | succ kj5 =>
       have H := HA.out
       clear HA
       simp only [swarfref42_Check.j1] at H
       by_cases c13 : x29_5 = true
       ·subst c13
        have H1 : (some 1) = some r := by rw [if_pos rfl] at H; exact H
        clear H
        have H := H1
        clear H1
        obtain rfl := Option.some.inj H
        go_wp2
        go_ret
        exact ⟨by first | rfl | (simp [errW_none, errW_some] <;> rfl) | (simp [*, errW_none, errW_some] <;> rfl), by repeat (first | (with_reducible first | exact HB.out | apply below_alloc | apply pw_below_drewN | apply below_drew1 | refine below_set ?_ GE308.out) | exact HB.out)⟩
       ·replace c13 := Bool.eq_false_iff.mpr c13
        subst c13
        have H1 : (swarfref42_Check.l1 kj5 x3_1 t310 0 a0_0 l0_1 a0_2) = some r := by rw [if_neg (show ¬ (false = true) by decide)] at H; exact H
        clear H
        have H := H1
        clear H1
        have H' := Aside0.mk H
        clear H
        go_wp2
        go_loopg [5] kj5 (fun kq v5 w' => ∃ (x5_3 : Int), v5 = .int .i64 x5_3 ∧ Aside0 (swarfref42_Check.l1 kq x3_1 t310 x5_3 a0_0 l0_1 a0_2 = some r) ∧ Aside0 (kq ≤ kj5) ∧ Aside0 (w'.heap[gb308]? = some (.cells #[.bool a0_0, (.slice (some ad309) l0_1.length c0_1), .string a0_2] 32 (0, 0))) ∧ Aside0 (Below w.heap.size w w'))
        case atStart => exact ⟨(0), (by first | rfl | (simp; done) | (simp [*]; done)), H', ⟨Nat.le_refl _⟩, ⟨by (with_reducible repeat (first | refine blk_drewN ?_ _ | refine blk_drew ?_ | refine blk_alloc ?_ _)); exact BK308.out⟩, ⟨by repeat (first | (with_reducible first | exact HB.out | apply below_alloc | apply pw_below_drewN | apply below_drew1 | refine below_set ?_ GE308.out) | exact HB.out)⟩⟩
        case round =>
         clear H'
         try clear c1
         try clear p2
         try clear c3
         try clear c3b0
         try clear p3
         try clear q3
         try clear hx3
         try clear c4
         try clear c4b0
         try clear c5
         try clear c8
         try clear c9
         try clear c9b0
         try clear c9b1
         try clear c13
         try clear hcz11_0
         try clear hcz11_1
         try clear hcz11_2
         try clear hcz7_0
         try clear hcz7_1
         try clear hcz7_2
         try clear hfz11_0
         try clear hfz11_1
         try clear hfz11_2
         try clear hfz7_0
         try clear hfz7_1
         try clear hfz7_2
         try clear hx309_0
         try clear hx309_1
         try clear hx311_0
         try clear hx311_1
         try clear p2
         try clear p3
         try clear p309
         try clear p311
         try clear q3
         try clear q309
         try clear q311
         obtain ⟨x5_3, rfl, HA, HK3, BK308, HB⟩ := hrel
         cases gk with
         | zero => exact absurd HA.out (by simp [swarfref42_Check.l1])
         | succ k3 =>
          have H := HA.out
          clear HA
          simp only [swarfref42_Check.l1] at H
          by_cases c14 : x5_3 < x3_1
          ·rw [if_pos c14] at H
           have c14b0 : decide (x5_3 < x3_1) = true := decide_eq_true c14
           clear c14
           by_cases c15 : 0 ≤ x5_3
           ·rw [if_pos c15] at H
            have c15b0 : decide (0 ≤ x5_3) = true := decide_eq_true c15
            clear c15
            by_cases c16 : x5_3 < (l0_1.length : Int)
            ·rw [if_pos c16] at H
             have c16b0 : decide (x5_3 < (l0_1.length : Int)) = true := decide_eq_true c16
             clear c16
             replace H := Option.bind_eq_some_iff.mp H
             obtain ⟨t314, A170, H⟩ := H
             replace H : (if t314 = t310 then (some 1) else (swarfref42_Check.l1 k3 x3_1 t310 (wrap64 (x5_3 + 1)) a0_0 l0_1 a0_2)) = some r := H
             have A17 := Aside0.mk A170
             clear A170
             by_cases c18 : t314 = t310
             ·rw [if_pos c18] at H
              have c18b0 : (t314 == t310) = true := beq_iff_eq.mpr c18
              have c18b1 : (t314 != t310) = false := bne_eq_false_iff_eq.mpr c18
              clear c18
              obtain rfl := Option.some.inj H
              have hcz19_0 : wr.cell? ⟨gb308, 0, none⟩ = some (.bool a0_0) := (blk_cell BK308.out 0).trans rfl
              have hcz19_1 : wr.cell? ⟨gb308, 1, none⟩ = some (.slice (some ad309) l0_1.length c0_1) := (blk_cell BK308.out 1).trans rfl
              have hcz19_2 : wr.cell? ⟨gb308, 2, none⟩ = some (.string a0_2) := (blk_cell BK308.out 2).trans rfl
              have hfz19_0 := blk_frozen BK308.out 0
              have hfz19_1 := blk_frozen BK308.out 1
              have hfz19_2 := blk_frozen BK308.out 2
              have p313 : 0 ≤ (x5_3 : Int) := of_decide_eq_true (by first | (with_reducible assumption) | assumption)
              have q313 : x5_3 < (l0_1.length : Int) := of_decide_eq_true (by first | (with_reducible assumption) | assumption)
              obtain ⟨ad313, e313, hx313_0, hx313_1⟩ := at_T78 HR0_1.out x5_3 p313 q313
              obtain rfl : ad309 = ad313 := (by injection e313)
              replace hx313_0 := (HB.out.cell (World.block_lt_of_cell? w _ hx313_0)).trans hx313_0
              replace hx313_1 := (HB.out.cell (World.block_lt_of_cell? w _ hx313_1)).trans hx313_1
              replace p313 := eq_true p313
              replace q313 := eq_true q313
              go_wp2_with (first | ((with_reducible refine gate_callee (f := 89) rfl ?_); refine goesL_ (some 40) rfl rfl Try.func89 (by kernel_rfl) rfl #[.agg #[.int .u8 ((rd_T78 l0_1 x5_3).f0), .int .i64 ((rd_T78 l0_1 x5_3).f1)]] rfl (by (try simp only [List.map_toArray, List.map_cons, List.map_nil]); first | done | rfl | (simp only [List.length_drop, List.length_take]; rfl)) ?_; (with_reducible refine (swarfref42_class.calls k3 ((rd_T78 l0_1 x5_3).f0) ((rd_T78 l0_1 x5_3).f1) t314 _ A17.out).mono ?_); rintro e w20 ⟨rfl, hb⟩; refine ⟨_, rfl, ?_⟩; have n0_ := Aside0.mk (blk_below (g := gb308) (o := .cells #[.bool a0_0, .slice (some ad309) l0_1.length c0_1, .string a0_2] 32 (0, 0)) (by (with_reducible repeat (first | refine blk_drewN ?_ _ | refine blk_drew ?_ | refine blk_alloc ?_ _)); exact BK308.out) hb); have n1_ := Aside0.mk (below_step (by repeat (first | (with_reducible first | exact HB.out | apply below_alloc | apply pw_below_drewN | apply below_drew1 | refine below_set ?_ GE308.out) | exact HB.out)) hb); clear BK308; clear HB; have BK308 := n0_; have HB := n1_; clear n0_ n1_; (try clear hb); (try clear hb2); (try clear hk); (try clear hi)))
              go_ret
              exact ⟨by first | rfl | (simp [errW_none, errW_some] <;> rfl) | (simp [*, errW_none, errW_some] <;> rfl), by repeat (first | (with_reducible first | exact HB.out | apply below_alloc | apply pw_below_drewN | apply below_drew1 | refine below_set ?_ GE308.out) | exact HB.out)⟩
             ·rw [if_neg c18] at H
              have c18b0 : (t314 == t310) = false := beq_eq_false_iff_ne.mpr c18
              have c18b1 : (t314 != t310) = true := bne_iff_ne.mpr c18
              have H' := Aside0.mk H
              clear H
              have hcz21_0 : wr.cell? ⟨gb308, 0, none⟩ = some (.bool a0_0) := (blk_cell BK308.out 0).trans rfl
              have hcz21_1 : wr.cell? ⟨gb308, 1, none⟩ = some (.slice (some ad309) l0_1.length c0_1) := (blk_cell BK308.out 1).trans rfl
              have hcz21_2 : wr.cell? ⟨gb308, 2, none⟩ = some (.string a0_2) := (blk_cell BK308.out 2).trans rfl
              have hfz21_0 := blk_frozen BK308.out 0
              have hfz21_1 := blk_frozen BK308.out 1
              have hfz21_2 := blk_frozen BK308.out 2
              have p313 : 0 ≤ (x5_3 : Int) := of_decide_eq_true (by first | (with_reducible assumption) | assumption)
              have q313 : x5_3 < (l0_1.length : Int) := of_decide_eq_true (by first | (with_reducible assumption) | assumption)
              obtain ⟨ad313, e313, hx313_0, hx313_1⟩ := at_T78 HR0_1.out x5_3 p313 q313
              obtain rfl : ad309 = ad313 := (by injection e313)
              replace hx313_0 := (HB.out.cell (World.block_lt_of_cell? w _ hx313_0)).trans hx313_0
              replace hx313_1 := (HB.out.cell (World.block_lt_of_cell? w _ hx313_1)).trans hx313_1
              replace p313 := eq_true p313
              replace q313 := eq_true q313
              go_wp2_with (first | ((with_reducible refine gate_callee (f := 89) rfl ?_); refine goesL_ (some 40) rfl rfl Try.func89 (by kernel_rfl) rfl #[.agg #[.int .u8 ((rd_T78 l0_1 x5_3).f0), .int .i64 ((rd_T78 l0_1 x5_3).f1)]] rfl (by (try simp only [List.map_toArray, List.map_cons, List.map_nil]); first | done | rfl | (simp only [List.length_drop, List.length_take]; rfl)) ?_; (with_reducible refine (swarfref42_class.calls k3 ((rd_T78 l0_1 x5_3).f0) ((rd_T78 l0_1 x5_3).f1) t314 _ A17.out).mono ?_); rintro e w22 ⟨rfl, hb⟩; refine ⟨_, rfl, ?_⟩; have n0_ := Aside0.mk (blk_below (g := gb308) (o := .cells #[.bool a0_0, .slice (some ad309) l0_1.length c0_1, .string a0_2] 32 (0, 0)) (by (with_reducible repeat (first | refine blk_drewN ?_ _ | refine blk_drew ?_ | refine blk_alloc ?_ _)); exact BK308.out) hb); have n1_ := Aside0.mk (below_step (by repeat (first | (with_reducible first | exact HB.out | apply below_alloc | apply pw_below_drewN | apply below_drew1 | refine below_set ?_ GE308.out) | exact HB.out)) hb); clear BK308; clear HB; have BK308 := n0_; have HB := n1_; clear n0_ n1_; (try clear hb); (try clear hb2); (try clear hk); (try clear hi)))
              go_roundg k3
              case measure => have := HK1.out; have := HJ5.out; have := HK3.out; omega
              case rel => exact ⟨(wrap64 (x5_3 + 1)), (by first | rfl | (simp; done) | (simp [*]; done)), H', ⟨by have := HK1.out; have := HJ5.out; have := HK3.out; omega⟩, ⟨by (with_reducible repeat (first | refine blk_drewN ?_ _ | refine blk_drew ?_ | refine blk_alloc ?_ _)); exact BK308.out⟩, ⟨by repeat (first | (with_reducible first | exact HB.out | apply below_alloc | apply pw_below_drewN | apply below_drew1 | refine below_set ?_ GE308.out) | exact HB.out)⟩⟩
            ·rw [if_neg c16] at H
             exact absurd H (by simp)
           ·rw [if_neg c15] at H
            exact absurd H (by simp)
          ·rw [if_neg c14] at H
           have c14b0 : decide (x5_3 < x3_1) = false := decide_eq_false c14
           clear c14
           have H' := Aside0.mk H
           clear H
           go_wp2
           go_roundg k3
           case measure => have := HK1.out; have := HJ5.out; have := HK3.out; omega
           case rel => exact ⟨(wrap64 (x3_1 + 1)), (by first | rfl | (simp; done) | (simp [*]; done)), H', ⟨by have := HK1.out; have := HJ5.out; have := HK3.out; omega⟩, ⟨by (with_reducible repeat (first | refine blk_drewN ?_ _ | refine blk_drew ?_ | refine blk_alloc ?_ _)); exact BK308.out⟩, ⟨by repeat (first | (with_reducible first | exact HB.out | apply below_alloc | apply pw_below_drewN | apply below_drew1 | refine below_set ?_ GE308.out) | exact HB.out)⟩⟩
    ·rw [if_neg c4] at H
     exact absurd H (by simp)
   ·rw [if_neg c3] at H
    have c3b0 : decide (x3_1 < (l0_1.length : Int)) = false := decide_eq_false c3
    clear c3
    obtain rfl := Option.some.inj H
    have hcz23_0 : wr.cell? ⟨gb308, 0, none⟩ = some (.bool a0_0) := (blk_cell BK308.out 0).trans rfl
    have hcz23_1 : wr.cell? ⟨gb308, 1, none⟩ = some (.slice A0_1 l0_1.length c0_1) := (blk_cell BK308.out 1).trans rfl
    have hcz23_2 : wr.cell? ⟨gb308, 2, none⟩ = some (.string a0_2) := (blk_cell BK308.out 2).trans rfl
    have hfz23_0 := blk_frozen BK308.out 0
    have hfz23_1 := blk_frozen BK308.out 1
    have hfz23_2 := blk_frozen BK308.out 2
    go_wp2
    go_ret
    exact ⟨by first | rfl | (simp [errW_none, errW_some] <;> rfl) | (simp [*, errW_none, errW_some] <;> rfl), by repeat (first | (with_reducible first | exact HB.out | apply below_alloc | apply pw_below_drewN | apply below_drew1 | refine below_set ?_ GE308.out) | exact HB.out)⟩
end Go.Proofs.Ytehkhbnhmehobaa.P
namespace Go.Proofs.Ytehkhbnhmehobaa.P
open Go.RowKit Go.Proofs.YtehkhbnhmehobaaW.PrintWords Go.Proofs.YtehkhbnhmehobaaW.PrintLast Go.Proofs.YtehkhbnhmehobaaW.PrintMore
attribute [local go_sem] max2_int min2_int max_two min_two max_three min_three max_four min_four
set_option linter.unusedVariables false
set_option linter.unusedSimpArgs false
def swarfref42_Regular.l0 : Nat → List Int → Int → Int → Int → Int → Int → Int → Int → Int → Int → Option (Bool)
 | 0, _, _, _, _, _, _, _, _, _, _ => none
 | k + 1, x3, x4, x316000, x316001, x316002, x316003, x316004, x316005, x316006, x316007 => if x4 < 5 then (if 0 ≤ x4 then (if x4 < (x3.length : Int) then ((swarfref42_Group.f k (rd x3 x4)).bind fun t320 => (if t320 = (wrap64 (x4 + 1)) then (swarfref42_Regular.l0 k x3 (wrap64 (x4 + 1)) x316000 x316001 x316002 x316003 x316004 x316005 x316006 x316007) else (some false))) else (none)) else (none)) else ((swarfref42_Line.f x316000 x316001 x316002 x316003 x316004 x316005 x316006 x316007).bind fun bt321 => ((swarfref42_Check.f k bt321.1 bt321.2.1 bt321.2.2).bind fun t326 => (some (t326 == 0))))
def swarfref42_Regular.f (k : Nat) (a0_0 : Int) (a0_1 : Int) (a0_2 : Int) (a0_3 : Int) (a0_4 : Int) (a0_5 : Int) (a0_6 : Int) (a0_7 : Int) : Option (Bool) := swarfref42_Regular.l0 k (([a0_0, a0_1, a0_2, a0_3, a0_4] : List Int)) 0 a0_0 a0_1 a0_2 a0_3 a0_4 a0_5 a0_6 a0_7
theorem swarfref42_Regular.mono_l : ∀ k, (∀ y0 y1 y2 y3 y4 y5 y6 y7 y8 y9, LeO (swarfref42_Regular.l0 k y0 y1 y2 y3 y4 y5 y6 y7 y8 y9) (swarfref42_Regular.l0 (k + 1) y0 y1 y2 y3 y4 y5 y6 y7 y8 y9))
 | 0 => fun _ _ _ _ _ _ _ _ _ _ r h => by simp [swarfref42_Regular.l0] at h
 | k + 1 => by
  have ih0 := swarfref42_Regular.mono_l k
  ·intro y0 y1 y2 y3 y4 y5 y6 y7 y8 y9
   unfold swarfref42_Regular.l0
   repeat' first
   | (with_reducible exact ih0 _ _ _ _ _ _ _ _ _ _)
   | (with_reducible exact swarfref42_Check.mono _ _ _ _)
   | (with_reducible exact swarfref42_Group.mono _ _)
   | (with_reducible exact LeO.refl _)
   | (with_reducible exact LeO.none _)
   | (with_reducible refine LeO.ite ?_ ?_)
   | (with_reducible refine LeO.bind ?_ (fun _ => ?_))
   | exact ih0 _ _ _ _ _ _ _ _ _ _
   | exact swarfref42_Check.mono _ _ _ _
   | exact swarfref42_Group.mono _ _
   | exact LeO.none _
   | refine LeO.ite ?_ ?_
   | refine LeO.bind ?_ (fun _ => ?_)
theorem swarfref42_Regular.mono : ∀ a0 a1 a2 a3 a4 a5 a6 a7 k, LeO (swarfref42_Regular.f k a0 a1 a2 a3 a4 a5 a6 a7) (swarfref42_Regular.f (k + 1) a0 a1 a2 a3 a4 a5 a6 a7) := by
 intro a0 a1 a2 a3 a4 a5 a6 a7 k
 have ih0 := swarfref42_Regular.mono_l k
 unfold swarfref42_Regular.f
 repeat' first
   | (with_reducible exact ih0 _ _ _ _ _ _ _ _ _ _)
   | (with_reducible exact swarfref42_Check.mono _ _ _ _)
   | (with_reducible exact swarfref42_Group.mono _ _)
   | (with_reducible exact LeO.refl _)
   | (with_reducible exact LeO.none _)
   | (with_reducible refine LeO.ite ?_ ?_)
   | (with_reducible refine LeO.bind ?_ (fun _ => ?_))
   | exact ih0 _ _ _ _ _ _ _ _ _ _
   | exact swarfref42_Check.mono _ _ _ _
   | exact swarfref42_Group.mono _ _
   | exact LeO.none _
   | refine LeO.ite ?_ ?_
   | refine LeO.bind ?_ (fun _ => ?_)
set_option maxHeartbeats 8000000 in
set_option maxRecDepth 100000 in
theorem swarfref42_Regular.calls (k : Nat) (a0_0 : Int) (a0_1 : Int) (a0_2 : Int) (a0_3 : Int) (a0_4 : Int) (a0_5 : Int) (a0_6 : Int) (a0_7 : Int) (r : Bool) (w : World) (h : swarfref42_Regular.f k a0_0 a0_1 a0_2 a0_3 a0_4 a0_5 a0_6 a0_7 = some r) :
  Calls Try.prog 22 #[.agg #[.int .i64 a0_0, .int .i64 a0_1, .int .i64 a0_2, .int .i64 a0_3, .int .i64 a0_4, .int .i64 a0_5, .int .i64 a0_6, .int .i64 a0_7]] w fun e w' => e = .returned (.bool r) ∧ Below w.heap.size w w' := by
 have hu25 := Try.underlying25
 have HB := Aside0.mk (Below.refl w.heap.size w)
 have H : (swarfref42_Regular.l0 k (([a0_0, a0_1, a0_2, a0_3, a0_4] : List Int)) 0 a0_0 a0_1 a0_2 a0_3 a0_4 a0_5 a0_6 a0_7) = some r := h
 clear h
 obtain ⟨y316, hy316⟩ : ∃ y_ : List Int, y_ = (([a0_0, a0_1, a0_2, a0_3, a0_4] : List Int)) := ⟨_, rfl⟩
 replace H : (swarfref42_Regular.l0 k y316 0 a0_0 a0_1 a0_2 a0_3 a0_4 a0_5 a0_6 a0_7) = some r := by first | (rw [hy316]; with_reducible exact H) | (have H2_ := (Option.bind_some _ _).symm.trans H; rw [hy316]; with_reducible exact H2_) | (have H2_ := (Option.bind_some _ _).symm.trans H; with_reducible exact H2_) | with_reducible exact H | (rw [hy316]; exact H) | exact H
 have Ny316 := Aside0.mk hy316
 clear hy316
 have H' := Aside0.mk H
 clear H
 go_enter Try.func22, Try.ntmps22
 go_wp2_with (first | ((with_reducible refine gate_dst (N := 1) rfl ?_); refine box_event ?hg (N := 1) ?hd (cs := #[.int .i64 a0_0, .int .i64 a0_1, .int .i64 a0_2, .int .i64 a0_3, .int .i64 a0_4, .int .i64 a0_5, .int .i64 a0_6, .int .i64 a0_7]) (t := 25) ?hr ?_; (case hd => rfl); (case hg => rfl); (case hr => first | (go_simp; done) | (go_simp; rfl)); intro gb315 hg w2 hbox hb; have n0_ := Aside0.mk (below_step (by repeat (first | (with_reducible first | exact HB.out | apply below_alloc | apply pw_below_drewN | apply below_drew1) | exact HB.out)) hb); have n1_ := Aside0.mk (hbox); have n2_ := Aside0.mk ((by rw [hg]; exact (below_size (by repeat (first | (with_reducible first | exact HB.out | apply below_alloc | apply pw_below_drewN | apply below_drew1) | exact HB.out))) : w.heap.size ≤ gb315)); have n3_ := Aside0.mk ((by rw [hg]; exact (below_size (by repeat (first | (with_reducible first | exact HB.out | apply below_alloc | apply pw_below_drewN | apply below_drew1) | exact HB.out))) : w.heap.size ≤ gb315)); clear HB; have HB := n0_; have BK315 := n1_; have GW315 := n2_; have GE315 := n3_; clear n0_ n1_ n2_ n3_; clear hb hbox hg; have hcz3_0 : w2.cell? ⟨gb315, 0, none⟩ = some (.int .i64 a0_0) := (blk_cell BK315.out 0).trans rfl; have hcz3_1 : w2.cell? ⟨gb315, 1, none⟩ = some (.int .i64 a0_1) := (blk_cell BK315.out 1).trans rfl; have hcz3_2 : w2.cell? ⟨gb315, 2, none⟩ = some (.int .i64 a0_2) := (blk_cell BK315.out 2).trans rfl; have hcz3_3 : w2.cell? ⟨gb315, 3, none⟩ = some (.int .i64 a0_3) := (blk_cell BK315.out 3).trans rfl; have hcz3_4 : w2.cell? ⟨gb315, 4, none⟩ = some (.int .i64 a0_4) := (blk_cell BK315.out 4).trans rfl; have hcz3_5 : w2.cell? ⟨gb315, 5, none⟩ = some (.int .i64 a0_5) := (blk_cell BK315.out 5).trans rfl; have hcz3_6 : w2.cell? ⟨gb315, 6, none⟩ = some (.int .i64 a0_6) := (blk_cell BK315.out 6).trans rfl; have hcz3_7 : w2.cell? ⟨gb315, 7, none⟩ = some (.int .i64 a0_7) := (blk_cell BK315.out 7).trans rfl; have hfz3_0 := blk_frozen BK315.out 0; have hfz3_1 := blk_frozen BK315.out 1; have hfz3_2 := blk_frozen BK315.out 2; have hfz3_3 := blk_frozen BK315.out 3; have hfz3_4 := blk_frozen BK315.out 4; have hfz3_5 := blk_frozen BK315.out 5; have hfz3_6 := blk_frozen BK315.out 6; have hfz3_7 := blk_frozen BK315.out 7) | ((with_reducible refine gate_dst (N := 15) rfl ?_); refine Kd.R_lit (Kd.int .i64) _ 2 ?hg (N := 15) ?hd (xs := ([a0_0, a0_1, a0_2, a0_3, a0_4] : List Int)) (inner := [.int .i64 a0_0, .int .i64 a0_1, .int .i64 a0_2, .int .i64 a0_3, .int .i64 a0_4]) (ok := fun _ => True) (okp := fun _ => True) ?hr ?hp (fun _ hk => hk) trivial (Below.refl _ _) (Nat.le_refl _) (by simp) ?_; (case hd => rfl); (case hg => rfl); (case hr => first | (go_simp; done) | (go_simp; rfl)); (case hp => exact (Reps.one (show Kd.M (Kd.int .i64) _ _ _ a0_0 [.int .i64 a0_0] from rfl) (Reps.one (show Kd.M (Kd.int .i64) _ _ _ a0_1 [.int .i64 a0_1] from rfl) (Reps.one (show Kd.M (Kd.int .i64) _ _ _ a0_2 [.int .i64 a0_2] from rfl) (Reps.one (show Kd.M (Kd.int .i64) _ _ _ a0_3 [.int .i64 a0_3] from rfl) (Reps.one (show Kd.M (Kd.int .i64) _ _ _ a0_4 [.int .i64 a0_4] from rfl) (Reps.none _ _))))))); intro v317 w4 ho5 hb hg_ hnew_; clear hg_ hnew_; (first | rw [← Ny316.out] at ho5 | (simp only [Int.reduceToNat] at ho5; rw [← Ny316.out] at ho5)); have n0_ := Aside0.mk (Kd.R_lower ho5 (below_size (by repeat (first | (with_reducible first | exact HB.out | apply below_alloc | apply pw_below_drewN | apply below_drew1 | refine below_set ?_ GE315.out) | exact HB.out)))); have n1_ := Aside0.mk (blk_below (g := gb315) (o := .cells #[.int .i64 a0_0, .int .i64 a0_1, .int .i64 a0_2, .int .i64 a0_3, .int .i64 a0_4, .int .i64 a0_5, .int .i64 a0_6, .int .i64 a0_7] 25 (0, 0)) (by (with_reducible repeat (first | refine blk_drewN ?_ _ | refine blk_drew ?_ | refine blk_alloc ?_ _)); exact BK315.out) hb); have n2_ := Aside0.mk (below_step (by repeat (first | (with_reducible first | exact HB.out | apply below_alloc | apply pw_below_drewN | apply below_drew1 | refine below_set ?_ GE315.out) | exact HB.out)) hb); clear BK315; clear HB; have HO318 := n0_; have BK315 := n1_; have HB := n2_; clear n0_ n1_ n2_; clear hb ho5))
 go_loopg [4] k (fun kq v4 w' => ∃ (x4_1 : Int), v4 = .int .i64 x4_1 ∧ Aside0 (swarfref42_Regular.l0 kq y316 x4_1 a0_0 a0_1 a0_2 a0_3 a0_4 a0_5 a0_6 a0_7 = some r) ∧ Aside0 (kq ≤ k) ∧ Aside0 (Kd.R (Kd.int .i64) 2 w' w.heap.size (fun _ => True) v317 y316) ∧ Aside0 (w'.heap[gb315]? = some (.cells #[.int .i64 a0_0, .int .i64 a0_1, .int .i64 a0_2, .int .i64 a0_3, .int .i64 a0_4, .int .i64 a0_5, .int .i64 a0_6, .int .i64 a0_7] 25 (0, 0))) ∧ Aside0 (Below w.heap.size w w'))
 case atStart => exact ⟨(0), (by first | rfl | (simp; done) | (simp [*]; done)), H', ⟨Nat.le_refl _⟩, ⟨by (with_reducible repeat (first | apply Kd.R_alloc | apply Kd.R_drewN | apply Kd.R_drew)); exact HO318.out⟩, ⟨by (with_reducible repeat (first | refine blk_drewN ?_ _ | refine blk_drew ?_ | refine blk_alloc ?_ _)); exact BK315.out⟩, ⟨by repeat (first | (with_reducible first | exact HB.out | apply below_alloc | apply pw_below_drewN | apply below_drew1 | refine below_set ?_ GE315.out) | exact HB.out)⟩⟩
 case round =>
  clear H'
  try clear c2
  try clear p2
  try clear hcz3_0
  try clear hcz3_1
  try clear hcz3_2
  try clear hcz3_3
  try clear hcz3_4
  try clear hcz3_5
  try clear hcz3_6
  try clear hcz3_7
  try clear hfz3_0
  try clear hfz3_1
  try clear hfz3_2
  try clear hfz3_3
  try clear hfz3_4
  try clear hfz3_5
  try clear hfz3_6
  try clear hfz3_7
  obtain ⟨x4_1, rfl, HA, HK1, HO_3, BK315, HB⟩ := hrel
  cases gk with
  | zero => exact absurd HA.out (by simp [swarfref42_Regular.l0])
  | succ k1 =>
   have H := HA.out
   clear HA
   simp only [swarfref42_Regular.l0] at H
   by_cases c6 : x4_1 < 5
   ·rw [if_pos c6] at H
    have c6b0 : decide (x4_1 < 5) = true := decide_eq_true c6
    clear c6
    by_cases c7 : 0 ≤ x4_1
    ·rw [if_pos c7] at H
     have c7b0 : decide (0 ≤ x4_1) = true := decide_eq_true c7
     clear c7
     by_cases c8 : x4_1 < (y316.length : Int)
     ·rw [if_pos c8] at H
      have c8b0 : decide (x4_1 < (y316.length : Int)) = true := decide_eq_true c8
      clear c8
      replace H := Option.bind_eq_some_iff.mp H
      obtain ⟨t320, A90, H⟩ := H
      replace H : (if t320 = (wrap64 (x4_1 + 1)) then (swarfref42_Regular.l0 k1 y316 (wrap64 (x4_1 + 1)) a0_0 a0_1 a0_2 a0_3 a0_4 a0_5 a0_6 a0_7) else (some false)) = some r := H
      have A9 := Aside0.mk A90
      clear A90
      by_cases c10 : t320 = (wrap64 (x4_1 + 1))
      ·rw [if_pos c10] at H
       have c10b0 : (t320 == (wrap64 (x4_1 + 1))) = true := beq_iff_eq.mpr c10
       have c10b1 : (t320 != (wrap64 (x4_1 + 1))) = false := bne_eq_false_iff_eq.mpr c10
       clear c10
       have H' := Aside0.mk H
       clear H
       obtain ⟨Ao11, co11, eo11⟩ := Kd.R_slice HO_3.out
       subst eo11
       have p319 : 0 ≤ (x4_1 : Int) := of_decide_eq_true (by first | (with_reducible assumption) | assumption)
       have q319 : x4_1 < (y316.length : Int) := of_decide_eq_true (by first | (with_reducible assumption) | assumption)
       obtain ⟨ad319, e319, hx319_0⟩ := Kd.at_int (Kd.R_reads' HO_3.out).2.2 x4_1 p319 q319
       cases e319
       replace p319 := eq_true p319
       replace q319 := eq_true q319
       go_wp2_with (first | ((with_reducible refine gate_callee (f := 15) rfl ?_); refine goesL_ (some 24) rfl rfl Try.func15 (by kernel_rfl) rfl #[.int .i64 (rd y316 x4_1)] rfl (by (try simp only [List.map_toArray, List.map_cons, List.map_nil]); first | done | rfl | (simp only [List.length_drop, List.length_take]; rfl)) ?_; (with_reducible refine (swarfref42_Group.calls k1 (rd y316 x4_1) t320 _ A9.out).mono ?_); rintro e w12 ⟨rfl, hb⟩; refine ⟨_, rfl, ?_⟩; have n0_ := Aside0.mk (Kd.R_below (by (with_reducible repeat (first | apply Kd.R_alloc | apply Kd.R_drewN | apply Kd.R_drew)); exact HO_3.out) hb); have n1_ := Aside0.mk (blk_below (g := gb315) (o := .cells #[.int .i64 a0_0, .int .i64 a0_1, .int .i64 a0_2, .int .i64 a0_3, .int .i64 a0_4, .int .i64 a0_5, .int .i64 a0_6, .int .i64 a0_7] 25 (0, 0)) (by (with_reducible repeat (first | refine blk_drewN ?_ _ | refine blk_drew ?_ | refine blk_alloc ?_ _)); exact BK315.out) hb); have n2_ := Aside0.mk (below_step (by repeat (first | (with_reducible first | exact HB.out | apply below_alloc | apply pw_below_drewN | apply below_drew1 | refine below_set ?_ GE315.out) | exact HB.out)) hb); clear HO_3; clear BK315; clear HB; have HO_3 := n0_; have BK315 := n1_; have HB := n2_; clear n0_ n1_ n2_; (try clear hb); (try clear hb2); (try clear hk); (try clear hi)))
       go_roundg k1
       case measure => have := HK1.out; omega
       case rel => exact ⟨(wrap64 (x4_1 + 1)), (by first | rfl | (simp; done) | (simp [*]; done)), H', ⟨by have := HK1.out; omega⟩, ⟨by (with_reducible repeat (first | apply Kd.R_alloc | apply Kd.R_drewN | apply Kd.R_drew)); exact HO_3.out⟩, ⟨by (with_reducible repeat (first | refine blk_drewN ?_ _ | refine blk_drew ?_ | refine blk_alloc ?_ _)); exact BK315.out⟩, ⟨by repeat (first | (with_reducible first | exact HB.out | apply below_alloc | apply pw_below_drewN | apply below_drew1 | refine below_set ?_ GE315.out) | exact HB.out)⟩⟩
      ·rw [if_neg c10] at H
       have c10b0 : (t320 == (wrap64 (x4_1 + 1))) = false := beq_eq_false_iff_ne.mpr c10
       have c10b1 : (t320 != (wrap64 (x4_1 + 1))) = true := bne_iff_ne.mpr c10
       obtain rfl := Option.some.inj H
       obtain ⟨Ao13, co13, eo13⟩ := Kd.R_slice HO_3.out
       subst eo13
       have p319 : 0 ≤ (x4_1 : Int) := of_decide_eq_true (by first | (with_reducible assumption) | assumption)
       have q319 : x4_1 < (y316.length : Int) := of_decide_eq_true (by first | (with_reducible assumption) | assumption)
       obtain ⟨ad319, e319, hx319_0⟩ := Kd.at_int (Kd.R_reads' HO_3.out).2.2 x4_1 p319 q319
       cases e319
       replace p319 := eq_true p319
       replace q319 := eq_true q319
       go_wp2_with (first | ((with_reducible refine gate_callee (f := 15) rfl ?_); refine goesL_ (some 24) rfl rfl Try.func15 (by kernel_rfl) rfl #[.int .i64 (rd y316 x4_1)] rfl (by (try simp only [List.map_toArray, List.map_cons, List.map_nil]); first | done | rfl | (simp only [List.length_drop, List.length_take]; rfl)) ?_; (with_reducible refine (swarfref42_Group.calls k1 (rd y316 x4_1) t320 _ A9.out).mono ?_); rintro e w14 ⟨rfl, hb⟩; refine ⟨_, rfl, ?_⟩; have n0_ := Aside0.mk (Kd.R_below (by (with_reducible repeat (first | apply Kd.R_alloc | apply Kd.R_drewN | apply Kd.R_drew)); exact HO_3.out) hb); have n1_ := Aside0.mk (blk_below (g := gb315) (o := .cells #[.int .i64 a0_0, .int .i64 a0_1, .int .i64 a0_2, .int .i64 a0_3, .int .i64 a0_4, .int .i64 a0_5, .int .i64 a0_6, .int .i64 a0_7] 25 (0, 0)) (by (with_reducible repeat (first | refine blk_drewN ?_ _ | refine blk_drew ?_ | refine blk_alloc ?_ _)); exact BK315.out) hb); have n2_ := Aside0.mk (below_step (by repeat (first | (with_reducible first | exact HB.out | apply below_alloc | apply pw_below_drewN | apply below_drew1 | refine below_set ?_ GE315.out) | exact HB.out)) hb); clear HO_3; clear BK315; clear HB; have HO_3 := n0_; have BK315 := n1_; have HB := n2_; clear n0_ n1_ n2_; (try clear hb); (try clear hb2); (try clear hk); (try clear hi)))
       go_ret
       exact ⟨by first | rfl | (simp [errW_none, errW_some] <;> rfl) | (simp [*, errW_none, errW_some] <;> rfl), by repeat (first | (with_reducible first | exact HB.out | apply below_alloc | apply pw_below_drewN | apply below_drew1 | refine below_set ?_ GE315.out) | exact HB.out)⟩
     ·rw [if_neg c8] at H
      exact absurd H (by simp)
    ·rw [if_neg c7] at H
     exact absurd H (by simp)
   ·rw [if_neg c6] at H
    have c6b0 : decide (x4_1 < 5) = false := decide_eq_false c6
    clear c6
    replace H := Option.bind_eq_some_iff.mp H
    obtain ⟨⟨t321, t322, t325⟩, A150, H⟩ := H
    replace H : ((swarfref42_Check.f k1 t321 t322 t325).bind fun t326 => (some (t326 == 0))) = some r := H
    have A15 := Aside0.mk A150
    clear A150
    replace H := Option.bind_eq_some_iff.mp H
    obtain ⟨t326, A160, H⟩ := H
    replace H : (some (t326 == 0)) = some r := H
    have A16 := Aside0.mk A160
    clear A160
    obtain rfl := Option.some.inj H
    have hcz17_0 : wr.cell? ⟨gb315, 0, none⟩ = some (.int .i64 a0_0) := (blk_cell BK315.out 0).trans rfl
    have hcz17_1 : wr.cell? ⟨gb315, 1, none⟩ = some (.int .i64 a0_1) := (blk_cell BK315.out 1).trans rfl
    have hcz17_2 : wr.cell? ⟨gb315, 2, none⟩ = some (.int .i64 a0_2) := (blk_cell BK315.out 2).trans rfl
    have hcz17_3 : wr.cell? ⟨gb315, 3, none⟩ = some (.int .i64 a0_3) := (blk_cell BK315.out 3).trans rfl
    have hcz17_4 : wr.cell? ⟨gb315, 4, none⟩ = some (.int .i64 a0_4) := (blk_cell BK315.out 4).trans rfl
    have hcz17_5 : wr.cell? ⟨gb315, 5, none⟩ = some (.int .i64 a0_5) := (blk_cell BK315.out 5).trans rfl
    have hcz17_6 : wr.cell? ⟨gb315, 6, none⟩ = some (.int .i64 a0_6) := (blk_cell BK315.out 6).trans rfl
    have hcz17_7 : wr.cell? ⟨gb315, 7, none⟩ = some (.int .i64 a0_7) := (blk_cell BK315.out 7).trans rfl
    have hfz17_0 := blk_frozen BK315.out 0
    have hfz17_1 := blk_frozen BK315.out 1
    have hfz17_2 := blk_frozen BK315.out 2
    have hfz17_3 := blk_frozen BK315.out 3
    have hfz17_4 := blk_frozen BK315.out 4
    have hfz17_5 := blk_frozen BK315.out 5
    have hfz17_6 := blk_frozen BK315.out 6
    have hfz17_7 := blk_frozen BK315.out 7
    go_wp2_with (first | ((with_reducible refine gate_callee (f := 20) rfl ?_); refine goesL_ (some 29) rfl rfl Try.func20 (by kernel_rfl) rfl #[.agg #[.int .i64 a0_0, .int .i64 a0_1, .int .i64 a0_2, .int .i64 a0_3, .int .i64 a0_4, .int .i64 a0_5, .int .i64 a0_6, .int .i64 a0_7]] rfl (by (try simp only [List.map_toArray, List.map_cons, List.map_nil]); first | done | rfl | (simp only [List.length_drop, List.length_take]; rfl)) ?_; (with_reducible refine (swarfref42_Line.calls a0_0 a0_1 a0_2 a0_3 a0_4 a0_5 a0_6 a0_7 t321 t322 t325 _ A15.out).mono ?_); rintro e w18 ⟨v323, rfl, ho0, hb⟩; refine ⟨_, rfl, ?_⟩; have n0_ := Aside0.mk (Kd.R_below (by (with_reducible repeat (first | apply Kd.R_alloc | apply Kd.R_drewN | apply Kd.R_drew)); exact HO_3.out) hb); have n1_ := Aside0.mk (Kd.R_lower ho0 (below_size (by repeat (first | (with_reducible first | exact HB.out | apply below_alloc | apply pw_below_drewN | apply below_drew1 | refine below_set ?_ GE315.out) | exact HB.out)))); have n2_ := Aside0.mk (blk_below (g := gb315) (o := .cells #[.int .i64 a0_0, .int .i64 a0_1, .int .i64 a0_2, .int .i64 a0_3, .int .i64 a0_4, .int .i64 a0_5, .int .i64 a0_6, .int .i64 a0_7] 25 (0, 0)) (by (with_reducible repeat (first | refine blk_drewN ?_ _ | refine blk_drew ?_ | refine blk_alloc ?_ _)); exact BK315.out) hb); have n3_ := Aside0.mk (below_step (by repeat (first | (with_reducible first | exact HB.out | apply below_alloc | apply pw_below_drewN | apply below_drew1 | refine below_set ?_ GE315.out) | exact HB.out)) hb); clear HO_3; clear BK315; clear HB; have HO_3 := n0_; have HO324 := n1_; have BK315 := n2_; have HB := n3_; clear n0_ n1_ n2_ n3_; (try clear hb); (try clear hb2); (try clear hk); (try clear hi); (try clear ho0); obtain ⟨Ao19, co19, eo19⟩ := Kd.R_slice HO324.out; subst eo19) | ((with_reducible refine gate_callee (f := 55) rfl ?_); refine goesL_ (some 30) rfl rfl Try.func55 (by kernel_rfl) rfl #[.agg #[.bool t321, .slice Ao19 t322.length co19, .string t325]] rfl (by (try simp only [List.map_toArray, List.map_cons, List.map_nil]); first | done | rfl | (simp only [List.length_drop, List.length_take]; rfl)) ?_; (with_reducible refine (swarfref42_Check.calls k1 t321 _ _ t322 t325 t326 _ ?side1 ?side2 A16.out).mono ?_); (case side1 => repeat (first | exact (Kd.R_reads' HO324.out).2.2 | (with_reducible refine Kd.C_alloc ?_ _) | (with_reducible refine Kd.C_drewN ?_ _) | (with_reducible refine Kd.C_drew ?_))); (case side2 => exact (Kd.R_reads' HO324.out).2.1); rintro e w20 ⟨rfl, hb⟩; refine ⟨_, rfl, ?_⟩; have n0_ := Aside0.mk (Kd.R_below (by (with_reducible repeat (first | apply Kd.R_alloc | apply Kd.R_drewN | apply Kd.R_drew)); exact HO_3.out) hb); have n1_ := Aside0.mk (Kd.R_below (by (with_reducible repeat (first | apply Kd.R_alloc | apply Kd.R_drewN | apply Kd.R_drew)); exact HO324.out) hb); have n2_ := Aside0.mk (blk_below (g := gb315) (o := .cells #[.int .i64 a0_0, .int .i64 a0_1, .int .i64 a0_2, .int .i64 a0_3, .int .i64 a0_4, .int .i64 a0_5, .int .i64 a0_6, .int .i64 a0_7] 25 (0, 0)) (by (with_reducible repeat (first | refine blk_drewN ?_ _ | refine blk_drew ?_ | refine blk_alloc ?_ _)); exact BK315.out) hb); have n3_ := Aside0.mk (below_step (by repeat (first | (with_reducible first | exact HB.out | apply below_alloc | apply pw_below_drewN | apply below_drew1 | refine below_set ?_ GE315.out) | exact HB.out)) hb); clear HO_3; clear HO324; clear BK315; clear HB; have HO_3 := n0_; have HO324 := n1_; have BK315 := n2_; have HB := n3_; clear n0_ n1_ n2_ n3_; (try clear hb); (try clear hb2); (try clear hk); (try clear hi)))
    go_ret
    exact ⟨by first | rfl | (simp [errW_none, errW_some] <;> rfl) | (simp [*, errW_none, errW_some] <;> rfl), by repeat (first | (with_reducible first | exact HB.out | apply below_alloc | apply pw_below_drewN | apply below_drew1 | refine below_set ?_ GE315.out) | exact HB.out)⟩
end Go.Proofs.Ytehkhbnhmehobaa.P
