/- A part of the proof of SubprogramCall. -/
import Derived.Maps.Range
import Derived.Test.YtehkhbnhmehobaaCSubprogramCall1
import Derived.Test.YtehkhbnhmehobaaCSubprogramCall2
namespace Go.Proofs.Ytehkhbnhmehobaa.P
open Go.RowKit Go.Proofs.YtehkhbnhmehobaaW.PrintWords Go.Proofs.YtehkhbnhmehobaaW.PrintLast Go.Proofs.YtehkhbnhmehobaaW.PrintMore
attribute [local go_sem] max2_int min2_int max_two min_two max_three min_three max_four min_four
set_option linter.unusedVariables false
set_option linter.unusedSimpArgs false
mutual
def swarfref41_Valid.j0 : Nat → Bool → Bool → List (S78) → ByteArray → Option (Int)
 | 0, _, _, _, _ => none
 | k + 1, x15, x496000, x496001, x496002 => if x15 = true then (some 1) else (swarfref41_Valid.l0 k 0 x496000 x496001 x496002)
def swarfref41_Valid.l0 : Nat → Int → Bool → List (S78) → ByteArray → Option (Int)
 | 0, _, _, _, _ => none
 | k + 1, x3, x496000, x496001, x496002 => if x3 < (x496001.length : Int) then (if 0 ≤ x3 then (if ((rd_T78 x496001 x3).f0) < 65 then (some 1) else (if ((rd_T78 x496001 x3).f0) > 90 then (some 1) else (if ((rd_T78 x496001 x3).f1) > 1000000000000 then (some 1) else (if ((rd_T78 x496001 x3).f1) < (-1000000000000) then (some 1) else (swarfref41_Valid.l0 k (wrap64 (x3 + 1)) x496000 x496001 x496002))))) else (none)) else (swarfref41_Valid.l1 k 0 x496000 x496001 x496002)
def swarfref41_Valid.l1 : Nat → Int → Bool → List (S78) → ByteArray → Option (Int)
 | 0, _, _, _, _ => none
 | k + 1, x5, x496000, x496001, x496002 => if x5 < (x496002.size : Int) then (if 0 ≤ x5 then ((swarfref41_printable.f (bt x496002 x5)).bind fun t498 => (if t498 = true then (swarfref41_Valid.l1 k (wrap64 (x5 + 1)) x496000 x496001 x496002) else (some 1))) else (none)) else (some 0)
end
def swarfref41_Valid.f (k : Nat) (a0_0 : Bool) (l0_1 : List (S78)) (a0_2 : ByteArray) : Option (Int) := if (l0_1.length : Int) > 16 then (swarfref41_Valid.j0 k true a0_0 l0_1 a0_2) else (swarfref41_Valid.j0 k (decide ((a0_2.size : Int) > 100)) a0_0 l0_1 a0_2)
theorem swarfref41_Valid.mono_l : ∀ k, (∀ y0 y1 y2 y3, LeO (swarfref41_Valid.j0 k y0 y1 y2 y3) (swarfref41_Valid.j0 (k + 1) y0 y1 y2 y3)) ∧ (∀ y0 y1 y2 y3, LeO (swarfref41_Valid.l0 k y0 y1 y2 y3) (swarfref41_Valid.l0 (k + 1) y0 y1 y2 y3)) ∧ (∀ y0 y1 y2 y3, LeO (swarfref41_Valid.l1 k y0 y1 y2 y3) (swarfref41_Valid.l1 (k + 1) y0 y1 y2 y3))
 | 0 => ⟨fun _ _ _ _ r h => by simp [swarfref41_Valid.j0] at h, fun _ _ _ _ r h => by simp [swarfref41_Valid.l0] at h, fun _ _ _ _ r h => by simp [swarfref41_Valid.l1] at h⟩
 | k + 1 => by
  obtain ⟨ih0, ih1, ih2⟩ := swarfref41_Valid.mono_l k
  refine ⟨?_, ?_, ?_⟩
  ·intro y0 y1 y2 y3
   unfold swarfref41_Valid.j0
   repeat' first
   | (with_reducible exact ih0 _ _ _ _)
   | (with_reducible exact ih1 _ _ _ _)
   | (with_reducible exact ih2 _ _ _ _)
   | (with_reducible exact LeO.refl _)
   | (with_reducible exact LeO.none _)
   | (with_reducible refine LeO.ite ?_ ?_)
   | (with_reducible refine LeO.bind ?_ (fun _ => ?_))
   | exact ih0 _ _ _ _
   | exact ih1 _ _ _ _
   | exact ih2 _ _ _ _
   | exact LeO.none _
   | refine LeO.ite ?_ ?_
   | refine LeO.bind ?_ (fun _ => ?_)
  ·intro y0 y1 y2 y3
   unfold swarfref41_Valid.l0
   repeat' first
   | (with_reducible exact ih0 _ _ _ _)
   | (with_reducible exact ih1 _ _ _ _)
   | (with_reducible exact ih2 _ _ _ _)
   | (with_reducible exact LeO.refl _)
   | (with_reducible exact LeO.none _)
   | (with_reducible refine LeO.ite ?_ ?_)
   | (with_reducible refine LeO.bind ?_ (fun _ => ?_))
   | exact ih0 _ _ _ _
   | exact ih1 _ _ _ _
   | exact ih2 _ _ _ _
   | exact LeO.none _
   | refine LeO.ite ?_ ?_
   | refine LeO.bind ?_ (fun _ => ?_)
  ·intro y0 y1 y2 y3
   unfold swarfref41_Valid.l1
   repeat' first
   | (with_reducible exact ih0 _ _ _ _)
   | (with_reducible exact ih1 _ _ _ _)
   | (with_reducible exact ih2 _ _ _ _)
   | (with_reducible exact LeO.refl _)
   | (with_reducible exact LeO.none _)
   | (with_reducible refine LeO.ite ?_ ?_)
   | (with_reducible refine LeO.bind ?_ (fun _ => ?_))
   | exact ih0 _ _ _ _
   | exact ih1 _ _ _ _
   | exact ih2 _ _ _ _
   | exact LeO.none _
   | refine LeO.ite ?_ ?_
   | refine LeO.bind ?_ (fun _ => ?_)
theorem swarfref41_Valid.mono : ∀ a0 a1 a2 k, LeO (swarfref41_Valid.f k a0 a1 a2) (swarfref41_Valid.f (k + 1) a0 a1 a2) := by
 intro a0 a1 a2 k
 obtain ⟨ih0, ih1, ih2⟩ := swarfref41_Valid.mono_l k
 unfold swarfref41_Valid.f
 repeat' first
   | (with_reducible exact ih0 _ _ _ _)
   | (with_reducible exact ih1 _ _ _ _)
   | (with_reducible exact ih2 _ _ _ _)
   | (with_reducible exact LeO.refl _)
   | (with_reducible exact LeO.none _)
   | (with_reducible refine LeO.ite ?_ ?_)
   | (with_reducible refine LeO.bind ?_ (fun _ => ?_))
   | exact ih0 _ _ _ _
   | exact ih1 _ _ _ _
   | exact ih2 _ _ _ _
   | exact LeO.none _
   | refine LeO.ite ?_ ?_
   | refine LeO.bind ?_ (fun _ => ?_)
set_option maxHeartbeats 8000000 in
set_option maxRecDepth 100000 in
theorem swarfref41_Valid.calls (k : Nat) (a0_0 : Bool) (A0_1 : Option Addr) (c0_1 : Nat) (l0_1 : List (S78)) (a0_2 : ByteArray) (r : Int) (w : World) (hr0_1 : Kd.C k78 w A0_1 l0_1.length l0_1) (hc0_1 : l0_1.length ≤ c0_1) (h : swarfref41_Valid.f k a0_0 l0_1 a0_2 = some r) :
  Calls Try.prog 57 #[.agg #[.bool a0_0, .slice A0_1 l0_1.length c0_1, .string a0_2]] w fun e w' => e = .returned (.int .i64 r) ∧ Below w.heap.size w w' := by
 have hu32 := Try.underlying32
 have hu78 := Try.underlying78
 have HR0_1 := Aside0.mk hr0_1
 have HC0_1 := Aside0.mk hc0_1
 clear hr0_1 hc0_1
 have HB := Aside0.mk (Below.refl w.heap.size w)
 have H : (if (l0_1.length : Int) > 16 then (swarfref41_Valid.j0 k true a0_0 l0_1 a0_2) else (swarfref41_Valid.j0 k (decide ((a0_2.size : Int) > 100)) a0_0 l0_1 a0_2)) = some r := h
 clear h
 have HC2 := Aside0.mk H
 clear H
 go_enter Try.func57, Try.ntmps57
 go_upto_region 1 with (first | ((with_reducible refine gate_dst (N := 1) rfl ?_); (try (refine gate_guard (by rfl) ?_; dsimp only)); refine box_event ?hg (N := 1) ?hd (cs := #[.bool a0_0, .slice A0_1 l0_1.length c0_1, .string a0_2]) (t := 32) ?hr ?_; (case hd => rfl); (case hg => rfl); (case hr => first | (go_simp; done) | (go_simp; rfl)); intro gb495 hg w3 hbox hb; have n0_ := Aside0.mk (below_step (by repeat (first | (with_reducible first | exact HB.out | apply below_alloc | apply pw_below_drewN | apply below_drew1) | exact HB.out)) hb); have n1_ := Aside0.mk (hbox); have n2_ := Aside0.mk ((by rw [hg]; exact (below_size (by repeat (first | (with_reducible first | exact HB.out | apply below_alloc | apply pw_below_drewN | apply below_drew1) | exact HB.out))) : w.heap.size ≤ gb495)); have n3_ := Aside0.mk ((by rw [hg]; exact (below_size (by repeat (first | (with_reducible first | exact HB.out | apply below_alloc | apply pw_below_drewN | apply below_drew1) | exact HB.out))) : w.heap.size ≤ gb495)); clear HB; have HB := n0_; have BK495 := n1_; have GW495 := n2_; have GE495 := n3_; clear n0_ n1_ n2_ n3_; clear hb hbox hg))
 (try simp only [Act.put, List.setIfInBounds_toArray, List.set_cons_zero, List.set_cons_succ])
 go_cut [15] (fun v15 wc => ∃ (kq : Nat) (x15_1 : Bool), v15 = .bool x15_1 ∧ Aside0 (swarfref41_Valid.j0 kq x15_1 a0_0 l0_1 a0_2 = some r) ∧ Aside0 (kq ≤ k) ∧ Aside0 (wc.heap[gb495]? = some (.cells #[.bool a0_0, (.slice A0_1 l0_1.length c0_1), .string a0_2] 32 (0, 0))) ∧ Aside0 (Below w.heap.size w wc))
 case first =>
  have H := HC2.out
  clear HC2
  by_cases c4 : (l0_1.length : Int) > 16
  ·rw [if_pos c4] at H
   have c4b0 : decide (16 < (l0_1.length : Int)) = true := decide_eq_true c4
   have c4b1 : decide (16 < l0_1.length) = true := decide_eq_true (by omega)
   clear c4
   (first | rw [c4b0] | (simp only [i64_w, i32_w]; rw [c4b0]) | skip)
   have H' := Aside0.mk H
   clear H
   have hcz5_0 : w3.cell? ⟨gb495, 0, none⟩ = some (.bool a0_0) := (blk_cell BK495.out 0).trans rfl
   have hcz5_1 : w3.cell? ⟨gb495, 1, none⟩ = some (.slice A0_1 l0_1.length c0_1) := (blk_cell BK495.out 1).trans rfl
   have hcz5_2 : w3.cell? ⟨gb495, 2, none⟩ = some (.string a0_2) := (blk_cell BK495.out 2).trans rfl
   have hfz5_0 := blk_frozen BK495.out 0
   have hfz5_1 := blk_frozen BK495.out 1
   have hfz5_2 := blk_frozen BK495.out 2
   go_wp2
   go_meet
   case rel => exact ⟨_, (true), (by first | rfl | (simp; done) | (simp [*]; done)), H', ⟨by first | omega | exact Nat.le_refl _⟩, ⟨by (with_reducible repeat (first | refine blk_drewN ?_ _ | refine blk_drew ?_ | refine blk_alloc ?_ _)); exact BK495.out⟩, ⟨by repeat (first | (with_reducible first | exact HB.out | apply below_alloc | apply pw_below_drewN | apply below_drew1 | refine below_set ?_ GE495.out) | exact HB.out)⟩⟩
  ·rw [if_neg c4] at H
   have c4b0 : decide (16 < (l0_1.length : Int)) = false := decide_eq_false c4
   have c4b1 : decide (16 < l0_1.length) = false := decide_eq_false (by omega)
   clear c4
   (first | rw [c4b0] | (simp only [i64_w, i32_w]; rw [c4b0]) | skip)
   have H' := Aside0.mk H
   clear H
   have hcz6_0 : w3.cell? ⟨gb495, 0, none⟩ = some (.bool a0_0) := (blk_cell BK495.out 0).trans rfl
   have hcz6_1 : w3.cell? ⟨gb495, 1, none⟩ = some (.slice A0_1 l0_1.length c0_1) := (blk_cell BK495.out 1).trans rfl
   have hcz6_2 : w3.cell? ⟨gb495, 2, none⟩ = some (.string a0_2) := (blk_cell BK495.out 2).trans rfl
   have hfz6_0 := blk_frozen BK495.out 0
   have hfz6_1 := blk_frozen BK495.out 1
   have hfz6_2 := blk_frozen BK495.out 2
   go_wp2
   go_meet
   case rel => exact ⟨_, (decide ((a0_2.size : Int) > 100)), (by first | rfl | (simp; done) | (simp [*]; done)), H', ⟨by first | omega | exact Nat.le_refl _⟩, ⟨by (with_reducible repeat (first | refine blk_drewN ?_ _ | refine blk_drew ?_ | refine blk_alloc ?_ _)); exact BK495.out⟩, ⟨by repeat (first | (with_reducible first | exact HB.out | apply below_alloc | apply pw_below_drewN | apply below_drew1 | refine below_set ?_ GE495.out) | exact HB.out)⟩⟩
 case rest =>
  clear HC2
  try clear p2
  try clear c4
  try clear c4b0
  try clear c4b1
  try clear c5
  try clear hcz5_0
  try clear hcz5_1
  try clear hcz5_2
  try clear hcz6_0
  try clear hcz6_1
  try clear hcz6_2
  try clear hfz5_0
  try clear hfz5_1
  try clear hfz5_2
  try clear hfz6_0
  try clear hfz6_1
  try clear hfz6_2
  obtain ⟨kq, x15_1, rfl, HA, HJ1, BK495, HB⟩ := hcut
  cases kq with
  | zero => exact absurd HA.out (by simp [swarfref41_Valid.j0])
  | succ kj1 =>
   have H := HA.out
   clear HA
   simp only [swarfref41_Valid.j0] at H
   by_cases c7 : x15_1 = true
   ·subst c7
    have H1 : (some 1) = some r := by rw [if_pos rfl] at H; exact H
    clear H
    have H := H1
    clear H1
    obtain rfl := Option.some.inj H
    go_wp2
    go_ret
    exact ⟨by first | rfl | (simp [errW_none, errW_some] <;> rfl) | (simp [*, errW_none, errW_some] <;> rfl), by repeat (first | (with_reducible first | exact HB.out | apply below_alloc | apply pw_below_drewN | apply below_drew1 | refine below_set ?_ GE495.out) | exact HB.out)⟩
   ·replace c7 := Bool.eq_false_iff.mpr c7
    subst c7
    have H1 : (swarfref41_Valid.l0 kj1 0 a0_0 l0_1 a0_2) = some r := by rw [if_neg (show ¬ (false = true) by decide)] at H; exact H
    clear H
    have H := H1
    clear H1
    have H' := Aside0.mk H
    clear H
    go_wp2
    go_loopg [3] kj1 (fun kq v3 w' => ∃ (x3_2 : Int), v3 = .int .i64 x3_2 ∧ Aside0 (swarfref41_Valid.l0 kq x3_2 a0_0 l0_1 a0_2 = some r) ∧ Aside0 (kq ≤ kj1) ∧ Aside0 (w'.heap[gb495]? = some (.cells #[.bool a0_0, (.slice A0_1 l0_1.length c0_1), .string a0_2] 32 (0, 0))) ∧ Aside0 (Below w.heap.size w w'))
    case atStart => exact ⟨(0), (by first | rfl | (simp; done) | (simp [*]; done)), H', ⟨Nat.le_refl _⟩, ⟨by (with_reducible repeat (first | refine blk_drewN ?_ _ | refine blk_drew ?_ | refine blk_alloc ?_ _)); exact BK495.out⟩, ⟨by repeat (first | (with_reducible first | exact HB.out | apply below_alloc | apply pw_below_drewN | apply below_drew1 | refine below_set ?_ GE495.out) | exact HB.out)⟩⟩
    case round =>
     clear H'
     try clear p2
     try clear c4
     try clear c4b0
     try clear c4b1
     try clear c5
     try clear c7
     try clear hcz5_0
     try clear hcz5_1
     try clear hcz5_2
     try clear hcz6_0
     try clear hcz6_1
     try clear hcz6_2
     try clear hfz5_0
     try clear hfz5_1
     try clear hfz5_2
     try clear hfz6_0
     try clear hfz6_1
     try clear hfz6_2
     try clear p2
     obtain ⟨x3_2, rfl, HA, HK2, BK495, HB⟩ := hrel
     cases gk with
     | zero => exact absurd HA.out (by simp [swarfref41_Valid.l0])
     | succ k2 =>
      have H := HA.out
      clear HA
      simp only [swarfref41_Valid.l0] at H
      by_cases c8 : x3_2 < (l0_1.length : Int)
      ·rw [if_pos c8] at H
       have c8b0 : decide (x3_2 < (l0_1.length : Int)) = true := decide_eq_true c8
       clear c8
       by_cases c9 : 0 ≤ x3_2
       ·rw [if_pos c9] at H
        have c9b0 : decide (0 ≤ x3_2) = true := decide_eq_true c9
        clear c9
        by_cases c10 : ((rd_T78 l0_1 x3_2).f0) < 65
        ·rw [if_pos c10] at H
         have c10b0 : decide (((rd_T78 l0_1 x3_2).f0) < 65) = true := decide_eq_true c10
         clear c10
         obtain rfl := Option.some.inj H
         have hcz11_0 : wr.cell? ⟨gb495, 0, none⟩ = some (.bool a0_0) := (blk_cell BK495.out 0).trans rfl
         have hcz11_1 : wr.cell? ⟨gb495, 1, none⟩ = some (.slice A0_1 l0_1.length c0_1) := (blk_cell BK495.out 1).trans rfl
         have hcz11_2 : wr.cell? ⟨gb495, 2, none⟩ = some (.string a0_2) := (blk_cell BK495.out 2).trans rfl
         have hfz11_0 := blk_frozen BK495.out 0
         have hfz11_1 := blk_frozen BK495.out 1
         have hfz11_2 := blk_frozen BK495.out 2
         have p496 : 0 ≤ (x3_2 : Int) := of_decide_eq_true (by first | (with_reducible assumption) | assumption)
         have q496 : x3_2 < (l0_1.length : Int) := of_decide_eq_true (by first | (with_reducible assumption) | assumption)
         obtain ⟨ad496, e496, hx496_0, hx496_1⟩ := at_T78 HR0_1.out x3_2 p496 q496
         cases e496
         replace hx496_0 := (HB.out.cell (World.block_lt_of_cell? w _ hx496_0)).trans hx496_0
         replace hx496_1 := (HB.out.cell (World.block_lt_of_cell? w _ hx496_1)).trans hx496_1
         replace p496 := eq_true p496
         replace q496 := eq_true q496
         go_wp2_with (first | ((with_reducible refine gate_dst (N := 4) rfl ?_); (try (refine gate_guard (by rfl) ?_; dsimp only)); refine box_event ?hg (N := 4) ?hd (cs := #[.int .u8 0, .int .i64 0]) (t := 78) ?hr ?_; (case hd => rfl); (case hg => rfl); (case hr => first | (go_simp; done) | (go_simp; rfl)); intro gb497 hg w12 hbox hb; have n0_ := Aside0.mk (blk_below (g := gb495) (o := .cells #[.bool a0_0, .slice (some ad496) l0_1.length c0_1, .string a0_2] 32 (0, 0)) (by (with_reducible repeat (first | refine blk_drewN ?_ _ | refine blk_drew ?_ | refine blk_alloc ?_ _)); exact BK495.out) hb); have n1_ := Aside0.mk (below_step (by repeat (first | (with_reducible first | exact HB.out | apply below_alloc | apply pw_below_drewN | apply below_drew1 | refine below_set ?_ GE495.out) | exact HB.out)) hb); have n2_ := Aside0.mk (hbox); have n3_ := Aside0.mk ((by rw [hg]; exact (below_size (by repeat (first | (with_reducible first | exact HB.out | apply below_alloc | apply pw_below_drewN | apply below_drew1 | refine below_set ?_ GE495.out) | exact HB.out))) : w.heap.size ≤ gb497)); have n4_ := Aside0.mk ((by rw [hg]; exact (below_size (by repeat (first | (with_reducible first | exact HB.out | apply below_alloc | apply pw_below_drewN | apply below_drew1 | refine below_set ?_ GE495.out) | exact HB.out))) : w.heap.size ≤ gb497)); have n5_ := Aside0.mk ((by rw [hg]; exact Nat.ne_of_lt (blk_lt (g := gb495) (o := .cells #[.bool a0_0, .slice (some ad496) l0_1.length c0_1, .string a0_2] 32 (0, 0)) (by (with_reducible repeat (first | refine blk_drewN ?_ _ | refine blk_drew ?_ | refine blk_alloc ?_ _)); exact BK495.out)) : gb495 ≠ gb497)); have n6_ := Aside0.mk ((by rw [hg]; exact Nat.ne_of_gt (blk_lt (g := gb495) (o := .cells #[.bool a0_0, .slice (some ad496) l0_1.length c0_1, .string a0_2] 32 (0, 0)) (by (with_reducible repeat (first | refine blk_drewN ?_ _ | refine blk_drew ?_ | refine blk_alloc ?_ _)); exact BK495.out)) : gb497 ≠ gb495)); clear BK495; clear HB; have BK495 := n0_; have HB := n1_; have BK497 := n2_; have GW497 := n3_; have GE497 := n4_; have NB495_497 := n5_; have NB497_495 := n6_; clear n0_ n1_ n2_ n3_ n4_ n5_ n6_; clear hb hbox hg; have hnb13 := NB497_495.out; have hnc13 := NB495_497.out; have hcz14_0 : w12.cell? ⟨gb497, 0, none⟩ = some (.int .u8 0) := (blk_cell BK497.out 0).trans rfl; have hcz14_1 : w12.cell? ⟨gb497, 1, none⟩ = some (.int .i64 0) := (blk_cell BK497.out 1).trans rfl; have hfz14_0 := blk_frozen BK497.out 0; have hfz14_1 := blk_frozen BK497.out 1))
         go_ret
         exact ⟨by first | rfl | (simp [errW_none, errW_some] <;> rfl) | (simp [*, errW_none, errW_some] <;> rfl), by repeat (first | (with_reducible first | exact HB.out | apply below_alloc | apply pw_below_drewN | apply below_drew1 | refine below_set ?_ GE495.out | refine below_set ?_ GE497.out) | exact HB.out)⟩
        ·rw [if_neg c10] at H
         have c10b0 : decide (((rd_T78 l0_1 x3_2).f0) < 65) = false := decide_eq_false c10
         clear c10
         by_cases c15 : ((rd_T78 l0_1 x3_2).f0) > 90
         ·rw [if_pos c15] at H
          have c15b0 : decide (90 < ((rd_T78 l0_1 x3_2).f0)) = true := decide_eq_true c15
          clear c15
          obtain rfl := Option.some.inj H
          have hcz16_0 : wr.cell? ⟨gb495, 0, none⟩ = some (.bool a0_0) := (blk_cell BK495.out 0).trans rfl
          have hcz16_1 : wr.cell? ⟨gb495, 1, none⟩ = some (.slice A0_1 l0_1.length c0_1) := (blk_cell BK495.out 1).trans rfl
          have hcz16_2 : wr.cell? ⟨gb495, 2, none⟩ = some (.string a0_2) := (blk_cell BK495.out 2).trans rfl
          have hfz16_0 := blk_frozen BK495.out 0
          have hfz16_1 := blk_frozen BK495.out 1
          have hfz16_2 := blk_frozen BK495.out 2
          have p496 : 0 ≤ (x3_2 : Int) := of_decide_eq_true (by first | (with_reducible assumption) | assumption)
          have q496 : x3_2 < (l0_1.length : Int) := of_decide_eq_true (by first | (with_reducible assumption) | assumption)
          obtain ⟨ad496, e496, hx496_0, hx496_1⟩ := at_T78 HR0_1.out x3_2 p496 q496
          cases e496
          replace hx496_0 := (HB.out.cell (World.block_lt_of_cell? w _ hx496_0)).trans hx496_0
          replace hx496_1 := (HB.out.cell (World.block_lt_of_cell? w _ hx496_1)).trans hx496_1
          replace p496 := eq_true p496
          replace q496 := eq_true q496
          go_wp2_with (first | ((with_reducible refine gate_dst (N := 4) rfl ?_); (try (refine gate_guard (by rfl) ?_; dsimp only)); refine box_event ?hg (N := 4) ?hd (cs := #[.int .u8 0, .int .i64 0]) (t := 78) ?hr ?_; (case hd => rfl); (case hg => rfl); (case hr => first | (go_simp; done) | (go_simp; rfl)); intro gb497 hg w17 hbox hb; have n0_ := Aside0.mk (blk_below (g := gb495) (o := .cells #[.bool a0_0, .slice (some ad496) l0_1.length c0_1, .string a0_2] 32 (0, 0)) (by (with_reducible repeat (first | refine blk_drewN ?_ _ | refine blk_drew ?_ | refine blk_alloc ?_ _)); exact BK495.out) hb); have n1_ := Aside0.mk (below_step (by repeat (first | (with_reducible first | exact HB.out | apply below_alloc | apply pw_below_drewN | apply below_drew1 | refine below_set ?_ GE495.out) | exact HB.out)) hb); have n2_ := Aside0.mk (hbox); have n3_ := Aside0.mk ((by rw [hg]; exact (below_size (by repeat (first | (with_reducible first | exact HB.out | apply below_alloc | apply pw_below_drewN | apply below_drew1 | refine below_set ?_ GE495.out) | exact HB.out))) : w.heap.size ≤ gb497)); have n4_ := Aside0.mk ((by rw [hg]; exact (below_size (by repeat (first | (with_reducible first | exact HB.out | apply below_alloc | apply pw_below_drewN | apply below_drew1 | refine below_set ?_ GE495.out) | exact HB.out))) : w.heap.size ≤ gb497)); have n5_ := Aside0.mk ((by rw [hg]; exact Nat.ne_of_lt (blk_lt (g := gb495) (o := .cells #[.bool a0_0, .slice (some ad496) l0_1.length c0_1, .string a0_2] 32 (0, 0)) (by (with_reducible repeat (first | refine blk_drewN ?_ _ | refine blk_drew ?_ | refine blk_alloc ?_ _)); exact BK495.out)) : gb495 ≠ gb497)); have n6_ := Aside0.mk ((by rw [hg]; exact Nat.ne_of_gt (blk_lt (g := gb495) (o := .cells #[.bool a0_0, .slice (some ad496) l0_1.length c0_1, .string a0_2] 32 (0, 0)) (by (with_reducible repeat (first | refine blk_drewN ?_ _ | refine blk_drew ?_ | refine blk_alloc ?_ _)); exact BK495.out)) : gb497 ≠ gb495)); clear BK495; clear HB; have BK495 := n0_; have HB := n1_; have BK497 := n2_; have GW497 := n3_; have GE497 := n4_; have NB495_497 := n5_; have NB497_495 := n6_; clear n0_ n1_ n2_ n3_ n4_ n5_ n6_; clear hb hbox hg; have hnb18 := NB497_495.out; have hnc18 := NB495_497.out; have hcz19_0 : w17.cell? ⟨gb497, 0, none⟩ = some (.int .u8 0) := (blk_cell BK497.out 0).trans rfl; have hcz19_1 : w17.cell? ⟨gb497, 1, none⟩ = some (.int .i64 0) := (blk_cell BK497.out 1).trans rfl; have hfz19_0 := blk_frozen BK497.out 0; have hfz19_1 := blk_frozen BK497.out 1))
          go_ret
          exact ⟨by first | rfl | (simp [errW_none, errW_some] <;> rfl) | (simp [*, errW_none, errW_some] <;> rfl), by repeat (first | (with_reducible first | exact HB.out | apply below_alloc | apply pw_below_drewN | apply below_drew1 | refine below_set ?_ GE495.out | refine below_set ?_ GE497.out) | exact HB.out)⟩
         ·rw [if_neg c15] at H
          have c15b0 : decide (90 < ((rd_T78 l0_1 x3_2).f0)) = false := decide_eq_false c15
          clear c15
          by_cases c20 : ((rd_T78 l0_1 x3_2).f1) > 1000000000000
          ·rw [if_pos c20] at H
           have c20b0 : decide (1000000000000 < ((rd_T78 l0_1 x3_2).f1)) = true := decide_eq_true c20
           clear c20
           obtain rfl := Option.some.inj H
           have hcz21_0 : wr.cell? ⟨gb495, 0, none⟩ = some (.bool a0_0) := (blk_cell BK495.out 0).trans rfl
           have hcz21_1 : wr.cell? ⟨gb495, 1, none⟩ = some (.slice A0_1 l0_1.length c0_1) := (blk_cell BK495.out 1).trans rfl
           have hcz21_2 : wr.cell? ⟨gb495, 2, none⟩ = some (.string a0_2) := (blk_cell BK495.out 2).trans rfl
           have hfz21_0 := blk_frozen BK495.out 0
           have hfz21_1 := blk_frozen BK495.out 1
           have hfz21_2 := blk_frozen BK495.out 2
           have p496 : 0 ≤ (x3_2 : Int) := of_decide_eq_true (by first | (with_reducible assumption) | assumption)
           have q496 : x3_2 < (l0_1.length : Int) := of_decide_eq_true (by first | (with_reducible assumption) | assumption)
           obtain ⟨ad496, e496, hx496_0, hx496_1⟩ := at_T78 HR0_1.out x3_2 p496 q496
           cases e496
           replace hx496_0 := (HB.out.cell (World.block_lt_of_cell? w _ hx496_0)).trans hx496_0
           replace hx496_1 := (HB.out.cell (World.block_lt_of_cell? w _ hx496_1)).trans hx496_1
           replace p496 := eq_true p496
           replace q496 := eq_true q496
           go_wp2_with (first | ((with_reducible refine gate_dst (N := 4) rfl ?_); (try (refine gate_guard (by rfl) ?_; dsimp only)); refine box_event ?hg (N := 4) ?hd (cs := #[.int .u8 0, .int .i64 0]) (t := 78) ?hr ?_; (case hd => rfl); (case hg => rfl); (case hr => first | (go_simp; done) | (go_simp; rfl)); intro gb497 hg w22 hbox hb; have n0_ := Aside0.mk (blk_below (g := gb495) (o := .cells #[.bool a0_0, .slice (some ad496) l0_1.length c0_1, .string a0_2] 32 (0, 0)) (by (with_reducible repeat (first | refine blk_drewN ?_ _ | refine blk_drew ?_ | refine blk_alloc ?_ _)); exact BK495.out) hb); have n1_ := Aside0.mk (below_step (by repeat (first | (with_reducible first | exact HB.out | apply below_alloc | apply pw_below_drewN | apply below_drew1 | refine below_set ?_ GE495.out) | exact HB.out)) hb); have n2_ := Aside0.mk (hbox); have n3_ := Aside0.mk ((by rw [hg]; exact (below_size (by repeat (first | (with_reducible first | exact HB.out | apply below_alloc | apply pw_below_drewN | apply below_drew1 | refine below_set ?_ GE495.out) | exact HB.out))) : w.heap.size ≤ gb497)); have n4_ := Aside0.mk ((by rw [hg]; exact (below_size (by repeat (first | (with_reducible first | exact HB.out | apply below_alloc | apply pw_below_drewN | apply below_drew1 | refine below_set ?_ GE495.out) | exact HB.out))) : w.heap.size ≤ gb497)); have n5_ := Aside0.mk ((by rw [hg]; exact Nat.ne_of_lt (blk_lt (g := gb495) (o := .cells #[.bool a0_0, .slice (some ad496) l0_1.length c0_1, .string a0_2] 32 (0, 0)) (by (with_reducible repeat (first | refine blk_drewN ?_ _ | refine blk_drew ?_ | refine blk_alloc ?_ _)); exact BK495.out)) : gb495 ≠ gb497)); have n6_ := Aside0.mk ((by rw [hg]; exact Nat.ne_of_gt (blk_lt (g := gb495) (o := .cells #[.bool a0_0, .slice (some ad496) l0_1.length c0_1, .string a0_2] 32 (0, 0)) (by (with_reducible repeat (first | refine blk_drewN ?_ _ | refine blk_drew ?_ | refine blk_alloc ?_ _)); exact BK495.out)) : gb497 ≠ gb495)); clear BK495; clear HB; have BK495 := n0_; have HB := n1_; have BK497 := n2_; have GW497 := n3_; have GE497 := n4_; have NB495_497 := n5_; have NB497_495 := n6_; clear n0_ n1_ n2_ n3_ n4_ n5_ n6_; clear hb hbox hg; have hnb23 := NB497_495.out; have hnc23 := NB495_497.out; have hcz24_0 : w22.cell? ⟨gb497, 0, none⟩ = some (.int .u8 0) := (blk_cell BK497.out 0).trans rfl; have hcz24_1 : w22.cell? ⟨gb497, 1, none⟩ = some (.int .i64 0) := (blk_cell BK497.out 1).trans rfl; have hfz24_0 := blk_frozen BK497.out 0; have hfz24_1 := blk_frozen BK497.out 1))
           go_ret
           exact ⟨by first | rfl | (simp [errW_none, errW_some] <;> rfl) | (simp [*, errW_none, errW_some] <;> rfl), by repeat (first | (with_reducible first | exact HB.out | apply below_alloc | apply pw_below_drewN | apply below_drew1 | refine below_set ?_ GE495.out | refine below_set ?_ GE497.out) | exact HB.out)⟩
          ·rw [if_neg c20] at H
           have c20b0 : decide (1000000000000 < ((rd_T78 l0_1 x3_2).f1)) = false := decide_eq_false c20
           clear c20
           by_cases c25 : ((rd_T78 l0_1 x3_2).f1) < (-1000000000000)
           ·rw [if_pos c25] at H
            have c25b0 : decide (((rd_T78 l0_1 x3_2).f1) < (-1000000000000)) = true := decide_eq_true c25
            clear c25
            obtain rfl := Option.some.inj H
            have hcz26_0 : wr.cell? ⟨gb495, 0, none⟩ = some (.bool a0_0) := (blk_cell BK495.out 0).trans rfl
            have hcz26_1 : wr.cell? ⟨gb495, 1, none⟩ = some (.slice A0_1 l0_1.length c0_1) := (blk_cell BK495.out 1).trans rfl
            have hcz26_2 : wr.cell? ⟨gb495, 2, none⟩ = some (.string a0_2) := (blk_cell BK495.out 2).trans rfl
            have hfz26_0 := blk_frozen BK495.out 0
            have hfz26_1 := blk_frozen BK495.out 1
            have hfz26_2 := blk_frozen BK495.out 2
            have p496 : 0 ≤ (x3_2 : Int) := of_decide_eq_true (by first | (with_reducible assumption) | assumption)
            have q496 : x3_2 < (l0_1.length : Int) := of_decide_eq_true (by first | (with_reducible assumption) | assumption)
            obtain ⟨ad496, e496, hx496_0, hx496_1⟩ := at_T78 HR0_1.out x3_2 p496 q496
            cases e496
            replace hx496_0 := (HB.out.cell (World.block_lt_of_cell? w _ hx496_0)).trans hx496_0
            replace hx496_1 := (HB.out.cell (World.block_lt_of_cell? w _ hx496_1)).trans hx496_1
            replace p496 := eq_true p496
            replace q496 := eq_true q496
            go_wp2_with (first | ((with_reducible refine gate_dst (N := 4) rfl ?_); (try (refine gate_guard (by rfl) ?_; dsimp only)); refine box_event ?hg (N := 4) ?hd (cs := #[.int .u8 0, .int .i64 0]) (t := 78) ?hr ?_; (case hd => rfl); (case hg => rfl); (case hr => first | (go_simp; done) | (go_simp; rfl)); intro gb497 hg w27 hbox hb; have n0_ := Aside0.mk (blk_below (g := gb495) (o := .cells #[.bool a0_0, .slice (some ad496) l0_1.length c0_1, .string a0_2] 32 (0, 0)) (by (with_reducible repeat (first | refine blk_drewN ?_ _ | refine blk_drew ?_ | refine blk_alloc ?_ _)); exact BK495.out) hb); have n1_ := Aside0.mk (below_step (by repeat (first | (with_reducible first | exact HB.out | apply below_alloc | apply pw_below_drewN | apply below_drew1 | refine below_set ?_ GE495.out) | exact HB.out)) hb); have n2_ := Aside0.mk (hbox); have n3_ := Aside0.mk ((by rw [hg]; exact (below_size (by repeat (first | (with_reducible first | exact HB.out | apply below_alloc | apply pw_below_drewN | apply below_drew1 | refine below_set ?_ GE495.out) | exact HB.out))) : w.heap.size ≤ gb497)); have n4_ := Aside0.mk ((by rw [hg]; exact (below_size (by repeat (first | (with_reducible first | exact HB.out | apply below_alloc | apply pw_below_drewN | apply below_drew1 | refine below_set ?_ GE495.out) | exact HB.out))) : w.heap.size ≤ gb497)); have n5_ := Aside0.mk ((by rw [hg]; exact Nat.ne_of_lt (blk_lt (g := gb495) (o := .cells #[.bool a0_0, .slice (some ad496) l0_1.length c0_1, .string a0_2] 32 (0, 0)) (by (with_reducible repeat (first | refine blk_drewN ?_ _ | refine blk_drew ?_ | refine blk_alloc ?_ _)); exact BK495.out)) : gb495 ≠ gb497)); have n6_ := Aside0.mk ((by rw [hg]; exact Nat.ne_of_gt (blk_lt (g := gb495) (o := .cells #[.bool a0_0, .slice (some ad496) l0_1.length c0_1, .string a0_2] 32 (0, 0)) (by (with_reducible repeat (first | refine blk_drewN ?_ _ | refine blk_drew ?_ | refine blk_alloc ?_ _)); exact BK495.out)) : gb497 ≠ gb495)); clear BK495; clear HB; have BK495 := n0_; have HB := n1_; have BK497 := n2_; have GW497 := n3_; have GE497 := n4_; have NB495_497 := n5_; have NB497_495 := n6_; clear n0_ n1_ n2_ n3_ n4_ n5_ n6_; clear hb hbox hg; have hnb28 := NB497_495.out; have hnc28 := NB495_497.out; have hcz29_0 : w27.cell? ⟨gb497, 0, none⟩ = some (.int .u8 0) := (blk_cell BK497.out 0).trans rfl; have hcz29_1 : w27.cell? ⟨gb497, 1, none⟩ = some (.int .i64 0) := (blk_cell BK497.out 1).trans rfl; have hfz29_0 := blk_frozen BK497.out 0; have hfz29_1 := blk_frozen BK497.out 1))
            go_ret
            exact ⟨by first | rfl | (simp [errW_none, errW_some] <;> rfl) | (simp [*, errW_none, errW_some] <;> rfl), by repeat (first | (with_reducible first | exact HB.out | apply below_alloc | apply pw_below_drewN | apply below_drew1 | refine below_set ?_ GE495.out | refine below_set ?_ GE497.out) | exact HB.out)⟩
           ·rw [if_neg c25] at H
            have c25b0 : decide (((rd_T78 l0_1 x3_2).f1) < (-1000000000000)) = false := decide_eq_false c25
            clear c25
            have H' := Aside0.mk H
            clear H
            have hcz30_0 : wr.cell? ⟨gb495, 0, none⟩ = some (.bool a0_0) := (blk_cell BK495.out 0).trans rfl
            have hcz30_1 : wr.cell? ⟨gb495, 1, none⟩ = some (.slice A0_1 l0_1.length c0_1) := (blk_cell BK495.out 1).trans rfl
            have hcz30_2 : wr.cell? ⟨gb495, 2, none⟩ = some (.string a0_2) := (blk_cell BK495.out 2).trans rfl
            have hfz30_0 := blk_frozen BK495.out 0
            have hfz30_1 := blk_frozen BK495.out 1
            have hfz30_2 := blk_frozen BK495.out 2
            have p496 : 0 ≤ (x3_2 : Int) := of_decide_eq_true (by first | (with_reducible assumption) | assumption)
            have q496 : x3_2 < (l0_1.length : Int) := of_decide_eq_true (by first | (with_reducible assumption) | assumption)
            obtain ⟨ad496, e496, hx496_0, hx496_1⟩ := at_T78 HR0_1.out x3_2 p496 q496
            cases e496
            replace hx496_0 := (HB.out.cell (World.block_lt_of_cell? w _ hx496_0)).trans hx496_0
            replace hx496_1 := (HB.out.cell (World.block_lt_of_cell? w _ hx496_1)).trans hx496_1
            replace p496 := eq_true p496
            replace q496 := eq_true q496
            go_wp2_with (first | ((with_reducible refine gate_dst (N := 4) rfl ?_); (try (refine gate_guard (by rfl) ?_; dsimp only)); refine box_event ?hg (N := 4) ?hd (cs := #[.int .u8 0, .int .i64 0]) (t := 78) ?hr ?_; (case hd => rfl); (case hg => rfl); (case hr => first | (go_simp; done) | (go_simp; rfl)); intro gb497 hg w31 hbox hb; have n0_ := Aside0.mk (blk_below (g := gb495) (o := .cells #[.bool a0_0, .slice (some ad496) l0_1.length c0_1, .string a0_2] 32 (0, 0)) (by (with_reducible repeat (first | refine blk_drewN ?_ _ | refine blk_drew ?_ | refine blk_alloc ?_ _)); exact BK495.out) hb); have n1_ := Aside0.mk (below_step (by repeat (first | (with_reducible first | exact HB.out | apply below_alloc | apply pw_below_drewN | apply below_drew1 | refine below_set ?_ GE495.out) | exact HB.out)) hb); have n2_ := Aside0.mk (hbox); have n3_ := Aside0.mk ((by rw [hg]; exact (below_size (by repeat (first | (with_reducible first | exact HB.out | apply below_alloc | apply pw_below_drewN | apply below_drew1 | refine below_set ?_ GE495.out) | exact HB.out))) : w.heap.size ≤ gb497)); have n4_ := Aside0.mk ((by rw [hg]; exact (below_size (by repeat (first | (with_reducible first | exact HB.out | apply below_alloc | apply pw_below_drewN | apply below_drew1 | refine below_set ?_ GE495.out) | exact HB.out))) : w.heap.size ≤ gb497)); have n5_ := Aside0.mk ((by rw [hg]; exact Nat.ne_of_lt (blk_lt (g := gb495) (o := .cells #[.bool a0_0, .slice (some ad496) l0_1.length c0_1, .string a0_2] 32 (0, 0)) (by (with_reducible repeat (first | refine blk_drewN ?_ _ | refine blk_drew ?_ | refine blk_alloc ?_ _)); exact BK495.out)) : gb495 ≠ gb497)); have n6_ := Aside0.mk ((by rw [hg]; exact Nat.ne_of_gt (blk_lt (g := gb495) (o := .cells #[.bool a0_0, .slice (some ad496) l0_1.length c0_1, .string a0_2] 32 (0, 0)) (by (with_reducible repeat (first | refine blk_drewN ?_ _ | refine blk_drew ?_ | refine blk_alloc ?_ _)); exact BK495.out)) : gb497 ≠ gb495)); clear BK495; clear HB; have BK495 := n0_; have HB := n1_; have BK497 := n2_; have GW497 := n3_; have GE497 := n4_; have NB495_497 := n5_; have NB497_495 := n6_; clear n0_ n1_ n2_ n3_ n4_ n5_ n6_; clear hb hbox hg; have hnb32 := NB497_495.out; have hnc32 := NB495_497.out; have hcz33_0 : w31.cell? ⟨gb497, 0, none⟩ = some (.int .u8 0) := (blk_cell BK497.out 0).trans rfl; have hcz33_1 : w31.cell? ⟨gb497, 1, none⟩ = some (.int .i64 0) := (blk_cell BK497.out 1).trans rfl; have hfz33_0 := blk_frozen BK497.out 0; have hfz33_1 := blk_frozen BK497.out 1))
            go_roundg k2
            case measure => have := HJ1.out; have := HK2.out; omega
            case rel => exact ⟨(wrap64 (x3_2 + 1)), (by first | rfl | (simp; done) | (simp [*]; done)), H', ⟨by have := HJ1.out; have := HK2.out; omega⟩, ⟨by (with_reducible repeat (first | refine blk_drewN ?_ _ | refine blk_drew ?_ | refine blk_alloc ?_ _)); refine blk_far ?_ NB495_497.out _; (with_reducible repeat (first | refine blk_drewN ?_ _ | refine blk_drew ?_ | refine blk_alloc ?_ _)); refine blk_far ?_ NB495_497.out _; (with_reducible repeat (first | refine blk_drewN ?_ _ | refine blk_drew ?_ | refine blk_alloc ?_ _)); exact BK495.out⟩, ⟨by repeat (first | (with_reducible first | exact HB.out | apply below_alloc | apply pw_below_drewN | apply below_drew1 | refine below_set ?_ GE495.out | refine below_set ?_ GE497.out) | exact HB.out)⟩⟩
       ·rw [if_neg c9] at H
        exact absurd H (by simp)
      ·rw [if_neg c8] at H
       have c8b0 : decide (x3_2 < (l0_1.length : Int)) = false := decide_eq_false c8
       clear c8
       have H' := Aside0.mk H
       clear H
       have hcz34_0 : wr.cell? ⟨gb495, 0, none⟩ = some (.bool a0_0) := (blk_cell BK495.out 0).trans rfl
       have hcz34_1 : wr.cell? ⟨gb495, 1, none⟩ = some (.slice A0_1 l0_1.length c0_1) := (blk_cell BK495.out 1).trans rfl
       have hcz34_2 : wr.cell? ⟨gb495, 2, none⟩ = some (.string a0_2) := (blk_cell BK495.out 2).trans rfl
       have hfz34_0 := blk_frozen BK495.out 0
       have hfz34_1 := blk_frozen BK495.out 1
       have hfz34_2 := blk_frozen BK495.out 2
       go_wp2
       go_loopg [5] k2 (fun kq v5 w' => ∃ (x5_3 : Int), v5 = .int .i64 x5_3 ∧ Aside0 (swarfref41_Valid.l1 kq x5_3 a0_0 l0_1 a0_2 = some r) ∧ Aside0 (kq ≤ k2) ∧ Aside0 (w'.heap[gb495]? = some (.cells #[.bool a0_0, (.slice A0_1 l0_1.length c0_1), .string a0_2] 32 (0, 0))) ∧ Aside0 (Below w.heap.size w w'))
       case atStart => exact ⟨(0), (by first | rfl | (simp; done) | (simp [*]; done)), H', ⟨Nat.le_refl _⟩, ⟨by (with_reducible repeat (first | refine blk_drewN ?_ _ | refine blk_drew ?_ | refine blk_alloc ?_ _)); exact BK495.out⟩, ⟨by repeat (first | (with_reducible first | exact HB.out | apply below_alloc | apply pw_below_drewN | apply below_drew1 | refine below_set ?_ GE495.out) | exact HB.out)⟩⟩
       case round =>
        clear H'
        try clear c1
        try clear c2
        try clear p2
        try clear c3
        try clear c4
        try clear c4b0
        try clear c4b1
        try clear p4
        try clear q4
        try clear hx4
        try clear c5
        try clear p6
        try clear c7
        try clear c8
        try clear c8b0
        try clear c9
        try clear c9b0
        try clear c10
        try clear c10b0
        try clear c13
        try clear c15
        try clear c15b0
        try clear c18
        try clear c20
        try clear c20b0
        try clear c23
        try clear c25
        try clear c25b0
        try clear c28
        try clear c32
        try clear hcz11_0
        try clear hcz11_1
        try clear hcz11_2
        try clear hcz14_0
        try clear hcz14_1
        try clear hcz16_0
        try clear hcz16_1
        try clear hcz16_2
        try clear hcz19_0
        try clear hcz19_1
        try clear hcz21_0
        try clear hcz21_1
        try clear hcz21_2
        try clear hcz24_0
        try clear hcz24_1
        try clear hcz26_0
        try clear hcz26_1
        try clear hcz26_2
        try clear hcz29_0
        try clear hcz29_1
        try clear hcz30_0
        try clear hcz30_1
        try clear hcz30_2
        try clear hcz33_0
        try clear hcz33_1
        try clear hcz34_0
        try clear hcz34_1
        try clear hcz34_2
        try clear hcz5_0
        try clear hcz5_1
        try clear hcz5_2
        try clear hcz6_0
        try clear hcz6_1
        try clear hcz6_2
        try clear hfz11_0
        try clear hfz11_1
        try clear hfz11_2
        try clear hfz14_0
        try clear hfz14_1
        try clear hfz16_0
        try clear hfz16_1
        try clear hfz16_2
        try clear hfz19_0
        try clear hfz19_1
        try clear hfz21_0
        try clear hfz21_1
        try clear hfz21_2
        try clear hfz24_0
        try clear hfz24_1
        try clear hfz26_0
        try clear hfz26_1
        try clear hfz26_2
        try clear hfz29_0
        try clear hfz29_1
        try clear hfz30_0
        try clear hfz30_1
        try clear hfz30_2
        try clear hfz33_0
        try clear hfz33_1
        try clear hfz34_0
        try clear hfz34_1
        try clear hfz34_2
        try clear hfz5_0
        try clear hfz5_1
        try clear hfz5_2
        try clear hfz6_0
        try clear hfz6_1
        try clear hfz6_2
        try clear hx496_0
        try clear hx496_1
        try clear p2
        try clear p496
        try clear q496
        obtain ⟨x5_3, rfl, HA, HK3, BK495, HB⟩ := hrel
        cases gk with
        | zero => exact absurd HA.out (by simp [swarfref41_Valid.l1])
        | succ k3 =>
         have H := HA.out
         clear HA
         simp only [swarfref41_Valid.l1] at H
         by_cases c35 : x5_3 < (a0_2.size : Int)
         ·rw [if_pos c35] at H
          have c35b0 : decide (x5_3 < (a0_2.size : Int)) = true := decide_eq_true c35
          clear c35
          by_cases c36 : 0 ≤ x5_3
          ·rw [if_pos c36] at H
           have c36b0 : decide (0 ≤ x5_3) = true := decide_eq_true c36
           clear c36
           replace H := Option.bind_eq_some_iff.mp H
           obtain ⟨t498, A380, H⟩ := H
           replace H : (if t498 = true then (swarfref41_Valid.l1 k3 (wrap64 (x5_3 + 1)) a0_0 l0_1 a0_2) else (some 1)) = some r := H
           have A38 := Aside0.mk A380
           clear A380
           by_cases c39 : t498 = true
           ·subst c39
            have H1 : (swarfref41_Valid.l1 k3 (wrap64 (x5_3 + 1)) a0_0 l0_1 a0_2) = some r := by rw [if_pos rfl] at H; exact H
            clear H
            have H := H1
            clear H1
            have H' := Aside0.mk H
            clear H
            have hcz40_0 : wr.cell? ⟨gb495, 0, none⟩ = some (.bool a0_0) := (blk_cell BK495.out 0).trans rfl
            have hcz40_1 : wr.cell? ⟨gb495, 1, none⟩ = some (.slice A0_1 l0_1.length c0_1) := (blk_cell BK495.out 1).trans rfl
            have hcz40_2 : wr.cell? ⟨gb495, 2, none⟩ = some (.string a0_2) := (blk_cell BK495.out 2).trans rfl
            have hfz40_0 := blk_frozen BK495.out 0
            have hfz40_1 := blk_frozen BK495.out 1
            have hfz40_2 := blk_frozen BK495.out 2
            have p37 : 0 ≤ (x5_3 : Int) := of_decide_eq_true (by first | (with_reducible assumption) | assumption)
            have q37 : x5_3 < (a0_2.size : Int) := of_decide_eq_true (by first | (with_reducible assumption) | assumption)
            have hx37 := bt_at a0_2 x5_3
            replace p37 := eq_true p37
            replace q37 := eq_true q37
            go_wp2_with (first | ((with_reducible refine gate_callee (f := 91) rfl ?_); refine goesL_ (some 57) rfl rfl Try.func91 (by kernel_rfl) rfl #[.int .u8 (bt a0_2 x5_3)] rfl (by (try simp only [List.map_toArray, List.map_cons, List.map_nil]); first | done | rfl | (simp only [List.length_drop, List.length_take]; rfl)) ?_; (with_reducible refine (swarfref41_printable.calls (bt a0_2 x5_3) true _ A38.out).mono ?_); rintro e w' ⟨rfl, ⟨nd, rfl⟩⟩; refine ⟨_, rfl, ?_⟩))
            go_roundg k3
            case measure => have := HJ1.out; have := HK2.out; have := HK3.out; omega
            case rel => exact ⟨(wrap64 (x5_3 + 1)), (by first | rfl | (simp; done) | (simp [*]; done)), H', ⟨by have := HJ1.out; have := HK2.out; have := HK3.out; omega⟩, ⟨by (with_reducible repeat (first | refine blk_drewN ?_ _ | refine blk_drew ?_ | refine blk_alloc ?_ _)); exact BK495.out⟩, ⟨by repeat (first | (with_reducible first | exact HB.out | apply below_alloc | apply pw_below_drewN | apply below_drew1 | refine below_set ?_ GE495.out) | exact HB.out)⟩⟩
           ·replace c39 := Bool.eq_false_iff.mpr c39
            subst c39
            have H1 : (some 1) = some r := by rw [if_neg (show ¬ (false = true) by decide)] at H; exact H
            clear H
            have H := H1
            clear H1
            obtain rfl := Option.some.inj H
            have hcz41_0 : wr.cell? ⟨gb495, 0, none⟩ = some (.bool a0_0) := (blk_cell BK495.out 0).trans rfl
            have hcz41_1 : wr.cell? ⟨gb495, 1, none⟩ = some (.slice A0_1 l0_1.length c0_1) := (blk_cell BK495.out 1).trans rfl
            have hcz41_2 : wr.cell? ⟨gb495, 2, none⟩ = some (.string a0_2) := (blk_cell BK495.out 2).trans rfl
            have hfz41_0 := blk_frozen BK495.out 0
            have hfz41_1 := blk_frozen BK495.out 1
            have hfz41_2 := blk_frozen BK495.out 2
            have p37 : 0 ≤ (x5_3 : Int) := of_decide_eq_true (by first | (with_reducible assumption) | assumption)
            have q37 : x5_3 < (a0_2.size : Int) := of_decide_eq_true (by first | (with_reducible assumption) | assumption)
            have hx37 := bt_at a0_2 x5_3
            replace p37 := eq_true p37
            replace q37 := eq_true q37
            go_wp2_with (first | ((with_reducible refine gate_callee (f := 91) rfl ?_); refine goesL_ (some 57) rfl rfl Try.func91 (by kernel_rfl) rfl #[.int .u8 (bt a0_2 x5_3)] rfl (by (try simp only [List.map_toArray, List.map_cons, List.map_nil]); first | done | rfl | (simp only [List.length_drop, List.length_take]; rfl)) ?_; (with_reducible refine (swarfref41_printable.calls (bt a0_2 x5_3) false _ A38.out).mono ?_); rintro e w' ⟨rfl, ⟨nd, rfl⟩⟩; refine ⟨_, rfl, ?_⟩))
            go_ret
            exact ⟨by first | rfl | (simp [errW_none, errW_some] <;> rfl) | (simp [*, errW_none, errW_some] <;> rfl), by repeat (first | (with_reducible first | exact HB.out | apply below_alloc | apply pw_below_drewN | apply below_drew1 | refine below_set ?_ GE495.out) | exact HB.out)⟩
          ·rw [if_neg c36] at H
           exact absurd H (by simp)
         ·rw [if_neg c35] at H
          have c35b0 : decide (x5_3 < (a0_2.size : Int)) = false := decide_eq_false c35
          clear c35
          obtain rfl := Option.some.inj H
          have hcz42_0 : wr.cell? ⟨gb495, 0, none⟩ = some (.bool a0_0) := (blk_cell BK495.out 0).trans rfl
          have hcz42_1 : wr.cell? ⟨gb495, 1, none⟩ = some (.slice A0_1 l0_1.length c0_1) := (blk_cell BK495.out 1).trans rfl
          have hcz42_2 : wr.cell? ⟨gb495, 2, none⟩ = some (.string a0_2) := (blk_cell BK495.out 2).trans rfl
          have hfz42_0 := blk_frozen BK495.out 0
          have hfz42_1 := blk_frozen BK495.out 1
          have hfz42_2 := blk_frozen BK495.out 2
          go_wp2
          go_ret
          exact ⟨by first | rfl | (simp [errW_none, errW_some] <;> rfl) | (simp [*, errW_none, errW_some] <;> rfl), by repeat (first | (with_reducible first | exact HB.out | apply below_alloc | apply pw_below_drewN | apply below_drew1 | refine below_set ?_ GE495.out) | exact HB.out)⟩
end Go.Proofs.Ytehkhbnhmehobaa.P
namespace Go.Proofs.Ytehkhbnhmehobaa.P
open Go.RowKit Go.Proofs.YtehkhbnhmehobaaW.PrintWords Go.Proofs.YtehkhbnhmehobaaW.PrintLast Go.Proofs.YtehkhbnhmehobaaW.PrintMore
attribute [local go_sem] max2_int min2_int max_two min_two max_three min_three max_four min_four
set_option linter.unusedVariables false
set_option linter.unusedSimpArgs false
def swarflaw43_valid.l0 : Nat → List (S32) → Int → Int → Option (Bool)
 | 0, _, _, _ => none
 | k + 1, x11, x12, x13 => if x13 < x12 then (if 0 ≤ x13 then (if x13 < (x11.length : Int) then ((swarfref41_Valid.f k ((rd_T32 x11 x13).f0) ((rd_T32 x11 x13).f1) ((rd_T32 x11 x13).f2)).bind fun t502 => (if t502 = 0 then (swarflaw43_valid.l0 k x11 x12 (wrap64 (x13 + 1))) else (some false))) else (none)) else (none)) else (some true)
def swarflaw43_valid.f (k : Nat) (l0 : List (S32)) (a1 : Int) : Option (Bool) := (swarfref41_Few.f k l0 a1).bind fun t499 => (if t499 = true then (swarflaw43_valid.l0 k l0 (l0.length : Int) 0) else (some false))
theorem swarflaw43_valid.mono_l : ∀ k, (∀ y0 y1 y2, LeO (swarflaw43_valid.l0 k y0 y1 y2) (swarflaw43_valid.l0 (k + 1) y0 y1 y2))
 | 0 => fun _ _ _ r h => by simp [swarflaw43_valid.l0] at h
 | k + 1 => by
  have ih0 := swarflaw43_valid.mono_l k
  ·intro y0 y1 y2
   unfold swarflaw43_valid.l0
   repeat' first
   | (with_reducible exact ih0 _ _ _)
   | (with_reducible exact swarfref41_Few.mono _ _ _)
   | (with_reducible exact swarfref41_Valid.mono _ _ _ _)
   | (with_reducible exact LeO.refl _)
   | (with_reducible exact LeO.none _)
   | (with_reducible refine LeO.ite ?_ ?_)
   | (with_reducible refine LeO.bind ?_ (fun _ => ?_))
   | exact ih0 _ _ _
   | exact swarfref41_Few.mono _ _ _
   | exact swarfref41_Valid.mono _ _ _ _
   | exact LeO.none _
   | refine LeO.ite ?_ ?_
   | refine LeO.bind ?_ (fun _ => ?_)
theorem swarflaw43_valid.mono : ∀ a0 a1 k, LeO (swarflaw43_valid.f k a0 a1) (swarflaw43_valid.f (k + 1) a0 a1) := by
 intro a0 a1 k
 have ih0 := swarflaw43_valid.mono_l k
 unfold swarflaw43_valid.f
 repeat' first
   | (with_reducible exact ih0 _ _ _)
   | (with_reducible exact swarfref41_Few.mono _ _ _)
   | (with_reducible exact swarfref41_Valid.mono _ _ _ _)
   | (with_reducible exact LeO.refl _)
   | (with_reducible exact LeO.none _)
   | (with_reducible refine LeO.ite ?_ ?_)
   | (with_reducible refine LeO.bind ?_ (fun _ => ?_))
   | exact ih0 _ _ _
   | exact swarfref41_Few.mono _ _ _
   | exact swarfref41_Valid.mono _ _ _ _
   | exact LeO.none _
   | refine LeO.ite ?_ ?_
   | refine LeO.bind ?_ (fun _ => ?_)
set_option maxHeartbeats 8000000 in
set_option maxRecDepth 100000 in
theorem swarflaw43_valid.calls (k : Nat) (A0 : Option Addr) (c0 : Nat) (l0 : List (S32)) (a1 : Int) (r : Bool) (w : World) (hr0 : Kd.C k32 w A0 l0.length l0) (hc0 : l0.length ≤ c0) (h : swarflaw43_valid.f k l0 a1 = some r) :
  Calls Try.prog 24 #[.slice A0 l0.length c0, .int .i64 a1] w fun e w' => e = .returned (.bool r) ∧ Below w.heap.size w w' := by
 have hu32 := Try.underlying32
 have HR0 := Aside0.mk hr0
 have HC0 := Aside0.mk hc0
 clear hr0 hc0
 have HB := Aside0.mk (Below.refl w.heap.size w)
 have H : ((swarfref41_Few.f k l0 a1).bind fun t499 => (if t499 = true then (swarflaw43_valid.l0 k l0 (l0.length : Int) 0) else (some false))) = some r := h
 clear h
 replace H := Option.bind_eq_some_iff.mp H
 obtain ⟨t499, A30, H⟩ := H
 replace H : (if t499 = true then (swarflaw43_valid.l0 k l0 (l0.length : Int) 0) else (some false)) = some r := H
 have A3 := Aside0.mk A30
 clear A30
 by_cases c4 : t499 = true
 ·subst c4
  have H1 : (swarflaw43_valid.l0 k l0 (l0.length : Int) 0) = some r := by rw [if_pos rfl] at H; exact H
  clear H
  have H := H1
  clear H1
  have H' := Aside0.mk H
  clear H
  go_enter Try.func24, Try.ntmps24
  go_wp2_with (first | ((with_reducible refine gate_callee (f := 56) rfl ?_); refine goesL_ (some 9) rfl rfl Try.func56 (by kernel_rfl) rfl #[.slice A0 l0.length c0, .int .i64 a1] rfl (by (try simp only [List.map_toArray, List.map_cons, List.map_nil]); first | done | rfl | (simp only [List.length_drop, List.length_take]; rfl)) ?_; (with_reducible refine (swarfref41_Few.calls k _ _ l0 a1 true _ ?side1 ?side2 A3.out).mono ?_); (case side1 => repeat (first | exact HR0.out | (with_reducible refine Kd.C_alloc ?_ _) | (with_reducible refine Kd.C_drewN ?_ _) | (with_reducible refine Kd.C_drew ?_))); (case side2 => exact HC0.out); rintro e w' ⟨rfl, ⟨nd, rfl⟩⟩; refine ⟨_, rfl, ?_⟩))
  go_loopg [13] k (fun kq v13 w' => ∃ (x13_1 : Int), v13 = .int .i64 x13_1 ∧ Aside0 (swarflaw43_valid.l0 kq l0 (l0.length : Int) x13_1 = some r) ∧ Aside0 (kq ≤ k) ∧ Aside0 (Below w.heap.size w w'))
  case atStart => exact ⟨(0), (by first | rfl | (simp; done) | (simp [*]; done)), H', ⟨Nat.le_refl _⟩, ⟨by repeat (first | (with_reducible first | exact HB.out | apply below_alloc | apply pw_below_drewN | apply below_drew1) | exact HB.out)⟩⟩
  case round =>
   clear H'
   try clear c2
   try clear p2
   try clear c4
   obtain ⟨x13_1, rfl, HA, HK1, HB⟩ := hrel
   cases gk with
   | zero => exact absurd HA.out (by simp [swarflaw43_valid.l0])
   | succ k1 =>
    have H := HA.out
    clear HA
    simp only [swarflaw43_valid.l0] at H
    by_cases c5 : x13_1 < (l0.length : Int)
    ·rw [if_pos c5] at H
     have c5b0 : decide (x13_1 < (l0.length : Int)) = true := decide_eq_true c5
     clear c5
     by_cases c6 : 0 ≤ x13_1
     ·rw [if_pos c6] at H
      have c6b0 : decide (0 ≤ x13_1) = true := decide_eq_true c6
      clear c6
      by_cases c7 : x13_1 < (l0.length : Int)
      ·rw [if_pos c7] at H
       have c7b0 : decide (x13_1 < (l0.length : Int)) = true := decide_eq_true c7
       clear c7
       replace H := Option.bind_eq_some_iff.mp H
       obtain ⟨t502, A80, H⟩ := H
       replace H : (if t502 = 0 then (swarflaw43_valid.l0 k1 l0 (l0.length : Int) (wrap64 (x13_1 + 1))) else (some false)) = some r := H
       have A8 := Aside0.mk A80
       clear A80
       by_cases c9 : t502 = 0
       ·rw [if_pos c9] at H
        have c9b0 : (t502 == 0) = true := beq_iff_eq.mpr c9
        have c9b1 : (t502 != 0) = false := bne_eq_false_iff_eq.mpr c9
        clear c9
        have H' := Aside0.mk H
        clear H
        have p500 : 0 ≤ (x13_1 : Int) := of_decide_eq_true (by first | (with_reducible assumption) | assumption)
        have q500 : x13_1 < (l0.length : Int) := of_decide_eq_true (by first | (with_reducible assumption) | assumption)
        obtain ⟨ad500, A500_1, c500_1, e500, hx500_0, hx500_1, hx500_2, hl500_1, hi500_1⟩ := at_T32 HR0.out x13_1 p500 q500
        cases e500
        replace hx500_0 := (HB.out.cell (World.block_lt_of_cell? w _ hx500_0)).trans hx500_0
        replace hx500_1 := (HB.out.cell (World.block_lt_of_cell? w _ hx500_1)).trans hx500_1
        replace hx500_2 := (HB.out.cell (World.block_lt_of_cell? w _ hx500_2)).trans hx500_2
        have HR500_1 := Aside0.mk hi500_1
        have HC500_1 := Aside0.mk hl500_1
        clear hi500_1 hl500_1
        replace p500 := eq_true p500
        replace q500 := eq_true q500
        go_wp2_with (first | ((with_reducible refine gate_dst (N := 6) rfl ?_); refine box_event ?hg (N := 6) ?hd (cs := #[.bool false, .slice none 0 0, .string (⟨#[]⟩ : ByteArray)]) (t := 32) ?hr ?_; (case hd => rfl); (case hg => rfl); (case hr => first | (go_simp; done) | (go_simp; rfl)); intro gb501 hg w10 hbox hb; have n0_ := Aside0.mk (below_step (by repeat (first | (with_reducible first | exact HB.out | apply below_alloc | apply pw_below_drewN | apply below_drew1) | exact HB.out)) hb); have n1_ := Aside0.mk (hbox); have n2_ := Aside0.mk ((by rw [hg]; exact (below_size (by repeat (first | (with_reducible first | exact HB.out | apply below_alloc | apply pw_below_drewN | apply below_drew1) | exact HB.out))) : w.heap.size ≤ gb501)); have n3_ := Aside0.mk ((by rw [hg]; exact (below_size (by repeat (first | (with_reducible first | exact HB.out | apply below_alloc | apply pw_below_drewN | apply below_drew1) | exact HB.out))) : w.heap.size ≤ gb501)); clear HB; have HB := n0_; have BK501 := n1_; have GW501 := n2_; have GE501 := n3_; clear n0_ n1_ n2_ n3_; clear hb hbox hg; have hcz11_0 : w10.cell? ⟨gb501, 0, none⟩ = some (.bool false) := (blk_cell BK501.out 0).trans rfl; have hcz11_1 : w10.cell? ⟨gb501, 1, none⟩ = some (.slice none 0 0) := (blk_cell BK501.out 1).trans rfl; have hcz11_2 : w10.cell? ⟨gb501, 2, none⟩ = some (.string (⟨#[]⟩ : ByteArray)) := (blk_cell BK501.out 2).trans rfl; have hfz11_0 := blk_frozen BK501.out 0; have hfz11_1 := blk_frozen BK501.out 1; have hfz11_2 := blk_frozen BK501.out 2) | ((with_reducible refine gate_callee (f := 57) rfl ?_); refine goesL_ (some 18) rfl rfl Try.func57 (by kernel_rfl) rfl #[.agg #[.bool ((rd_T32 l0 x13_1).f0), .slice A500_1 ((rd_T32 l0 x13_1).f1).length c500_1, .string ((rd_T32 l0 x13_1).f2)]] rfl (by (try simp only [List.map_toArray, List.map_cons, List.map_nil]); first | done | rfl | (simp only [List.length_drop, List.length_take]; rfl)) ?_; (with_reducible refine (swarfref41_Valid.calls k1 ((rd_T32 l0 x13_1).f0) _ _ ((rd_T32 l0 x13_1).f1) ((rd_T32 l0 x13_1).f2) t502 _ ?side1 ?side2 A8.out).mono ?_); (case side1 => exact Kd.C_below HR500_1.out (by repeat (first | (with_reducible first | exact HB.out | apply below_alloc | apply pw_below_drewN | apply below_drew1 | refine below_set ?_ GE501.out) | exact HB.out))); (case side2 => exact HC500_1.out); rintro e w12 ⟨rfl, hb⟩; refine ⟨_, rfl, ?_⟩; have n0_ := Aside0.mk (blk_below (g := gb501) (o := .cells #[.bool ((rd_T32 l0 x13_1).f0), .slice A500_1 ((rd_T32 l0 x13_1).f1).length c500_1, .string ((rd_T32 l0 x13_1).f2)] 32 (0, 0)) (by (with_reducible repeat (first | refine blk_drewN ?_ _ | refine blk_drew ?_ | refine blk_alloc ?_ _)); refine blk_put (cs := #[.bool ((rd_T32 l0 x13_1).f0), .slice A500_1 ((rd_T32 l0 x13_1).f1).length c500_1, .string (⟨#[]⟩ : ByteArray)]) ?_ 2 _ rfl; (with_reducible repeat (first | refine blk_drewN ?_ _ | refine blk_drew ?_ | refine blk_alloc ?_ _)); refine blk_put (cs := #[.bool ((rd_T32 l0 x13_1).f0), .slice none 0 0, .string (⟨#[]⟩ : ByteArray)]) ?_ 1 _ rfl; (with_reducible repeat (first | refine blk_drewN ?_ _ | refine blk_drew ?_ | refine blk_alloc ?_ _)); refine blk_put (cs := #[.bool false, .slice none 0 0, .string (⟨#[]⟩ : ByteArray)]) ?_ 0 _ rfl; (with_reducible repeat (first | refine blk_drewN ?_ _ | refine blk_drew ?_ | refine blk_alloc ?_ _)); exact BK501.out) hb); have n1_ := Aside0.mk (below_step (by repeat (first | (with_reducible first | exact HB.out | apply below_alloc | apply pw_below_drewN | apply below_drew1 | refine below_set ?_ GE501.out) | exact HB.out)) hb); clear BK501; clear HB; have BK501 := n0_; have HB := n1_; clear n0_ n1_; (try clear hb); (try clear hb2); (try clear hk); (try clear hi)))
        go_roundg k1
        case measure => have := HK1.out; omega
        case rel => exact ⟨(wrap64 (x13_1 + 1)), (by first | rfl | (simp; done) | (simp [*]; done)), H', ⟨by have := HK1.out; omega⟩, ⟨by repeat (first | (with_reducible first | exact HB.out | apply below_alloc | apply pw_below_drewN | apply below_drew1 | refine below_set ?_ GE501.out) | exact HB.out)⟩⟩
       ·rw [if_neg c9] at H
        have c9b0 : (t502 == 0) = false := beq_eq_false_iff_ne.mpr c9
        have c9b1 : (t502 != 0) = true := bne_iff_ne.mpr c9
        obtain rfl := Option.some.inj H
        have p500 : 0 ≤ (x13_1 : Int) := of_decide_eq_true (by first | (with_reducible assumption) | assumption)
        have q500 : x13_1 < (l0.length : Int) := of_decide_eq_true (by first | (with_reducible assumption) | assumption)
        obtain ⟨ad500, A500_1, c500_1, e500, hx500_0, hx500_1, hx500_2, hl500_1, hi500_1⟩ := at_T32 HR0.out x13_1 p500 q500
        cases e500
        replace hx500_0 := (HB.out.cell (World.block_lt_of_cell? w _ hx500_0)).trans hx500_0
        replace hx500_1 := (HB.out.cell (World.block_lt_of_cell? w _ hx500_1)).trans hx500_1
        replace hx500_2 := (HB.out.cell (World.block_lt_of_cell? w _ hx500_2)).trans hx500_2
        have HR500_1 := Aside0.mk hi500_1
        have HC500_1 := Aside0.mk hl500_1
        clear hi500_1 hl500_1
        replace p500 := eq_true p500
        replace q500 := eq_true q500
        go_wp2_with (first | ((with_reducible refine gate_dst (N := 6) rfl ?_); refine box_event ?hg (N := 6) ?hd (cs := #[.bool false, .slice none 0 0, .string (⟨#[]⟩ : ByteArray)]) (t := 32) ?hr ?_; (case hd => rfl); (case hg => rfl); (case hr => first | (go_simp; done) | (go_simp; rfl)); intro gb501 hg w13 hbox hb; have n0_ := Aside0.mk (below_step (by repeat (first | (with_reducible first | exact HB.out | apply below_alloc | apply pw_below_drewN | apply below_drew1) | exact HB.out)) hb); have n1_ := Aside0.mk (hbox); have n2_ := Aside0.mk ((by rw [hg]; exact (below_size (by repeat (first | (with_reducible first | exact HB.out | apply below_alloc | apply pw_below_drewN | apply below_drew1) | exact HB.out))) : w.heap.size ≤ gb501)); have n3_ := Aside0.mk ((by rw [hg]; exact (below_size (by repeat (first | (with_reducible first | exact HB.out | apply below_alloc | apply pw_below_drewN | apply below_drew1) | exact HB.out))) : w.heap.size ≤ gb501)); clear HB; have HB := n0_; have BK501 := n1_; have GW501 := n2_; have GE501 := n3_; clear n0_ n1_ n2_ n3_; clear hb hbox hg; have hcz14_0 : w13.cell? ⟨gb501, 0, none⟩ = some (.bool false) := (blk_cell BK501.out 0).trans rfl; have hcz14_1 : w13.cell? ⟨gb501, 1, none⟩ = some (.slice none 0 0) := (blk_cell BK501.out 1).trans rfl; have hcz14_2 : w13.cell? ⟨gb501, 2, none⟩ = some (.string (⟨#[]⟩ : ByteArray)) := (blk_cell BK501.out 2).trans rfl; have hfz14_0 := blk_frozen BK501.out 0; have hfz14_1 := blk_frozen BK501.out 1; have hfz14_2 := blk_frozen BK501.out 2) | ((with_reducible refine gate_callee (f := 57) rfl ?_); refine goesL_ (some 18) rfl rfl Try.func57 (by kernel_rfl) rfl #[.agg #[.bool ((rd_T32 l0 x13_1).f0), .slice A500_1 ((rd_T32 l0 x13_1).f1).length c500_1, .string ((rd_T32 l0 x13_1).f2)]] rfl (by (try simp only [List.map_toArray, List.map_cons, List.map_nil]); first | done | rfl | (simp only [List.length_drop, List.length_take]; rfl)) ?_; (with_reducible refine (swarfref41_Valid.calls k1 ((rd_T32 l0 x13_1).f0) _ _ ((rd_T32 l0 x13_1).f1) ((rd_T32 l0 x13_1).f2) t502 _ ?side1 ?side2 A8.out).mono ?_); (case side1 => exact Kd.C_below HR500_1.out (by repeat (first | (with_reducible first | exact HB.out | apply below_alloc | apply pw_below_drewN | apply below_drew1 | refine below_set ?_ GE501.out) | exact HB.out))); (case side2 => exact HC500_1.out); rintro e w15 ⟨rfl, hb⟩; refine ⟨_, rfl, ?_⟩; have n0_ := Aside0.mk (blk_below (g := gb501) (o := .cells #[.bool ((rd_T32 l0 x13_1).f0), .slice A500_1 ((rd_T32 l0 x13_1).f1).length c500_1, .string ((rd_T32 l0 x13_1).f2)] 32 (0, 0)) (by (with_reducible repeat (first | refine blk_drewN ?_ _ | refine blk_drew ?_ | refine blk_alloc ?_ _)); refine blk_put (cs := #[.bool ((rd_T32 l0 x13_1).f0), .slice A500_1 ((rd_T32 l0 x13_1).f1).length c500_1, .string (⟨#[]⟩ : ByteArray)]) ?_ 2 _ rfl; (with_reducible repeat (first | refine blk_drewN ?_ _ | refine blk_drew ?_ | refine blk_alloc ?_ _)); refine blk_put (cs := #[.bool ((rd_T32 l0 x13_1).f0), .slice none 0 0, .string (⟨#[]⟩ : ByteArray)]) ?_ 1 _ rfl; (with_reducible repeat (first | refine blk_drewN ?_ _ | refine blk_drew ?_ | refine blk_alloc ?_ _)); refine blk_put (cs := #[.bool false, .slice none 0 0, .string (⟨#[]⟩ : ByteArray)]) ?_ 0 _ rfl; (with_reducible repeat (first | refine blk_drewN ?_ _ | refine blk_drew ?_ | refine blk_alloc ?_ _)); exact BK501.out) hb); have n1_ := Aside0.mk (below_step (by repeat (first | (with_reducible first | exact HB.out | apply below_alloc | apply pw_below_drewN | apply below_drew1 | refine below_set ?_ GE501.out) | exact HB.out)) hb); clear BK501; clear HB; have BK501 := n0_; have HB := n1_; clear n0_ n1_; (try clear hb); (try clear hb2); (try clear hk); (try clear hi)))
        go_ret
        exact ⟨by first | rfl | (simp [errW_none, errW_some] <;> rfl) | (simp [*, errW_none, errW_some] <;> rfl), by repeat (first | (with_reducible first | exact HB.out | apply below_alloc | apply pw_below_drewN | apply below_drew1 | refine below_set ?_ GE501.out) | exact HB.out)⟩
      ·rw [if_neg c7] at H
       exact absurd H (by simp)
     ·rw [if_neg c6] at H
      exact absurd H (by simp)
    ·rw [if_neg c5] at H
     have c5b0 : decide (x13_1 < (l0.length : Int)) = false := decide_eq_false c5
     clear c5
     obtain rfl := Option.some.inj H
     go_wp2
     go_ret
     exact ⟨by first | rfl | (simp [errW_none, errW_some] <;> rfl) | (simp [*, errW_none, errW_some] <;> rfl), by repeat (first | (with_reducible first | exact HB.out | apply below_alloc | apply pw_below_drewN | apply below_drew1) | exact HB.out)⟩
 ·replace c4 := Bool.eq_false_iff.mpr c4
  subst c4
  have H1 : (some false) = some r := by rw [if_neg (show ¬ (false = true) by decide)] at H; exact H
  clear H
  have H := H1
  clear H1
  obtain rfl := Option.some.inj H
  go_enter Try.func24, Try.ntmps24
  go_wp2_with (first | ((with_reducible refine gate_callee (f := 56) rfl ?_); refine goesL_ (some 9) rfl rfl Try.func56 (by kernel_rfl) rfl #[.slice A0 l0.length c0, .int .i64 a1] rfl (by (try simp only [List.map_toArray, List.map_cons, List.map_nil]); first | done | rfl | (simp only [List.length_drop, List.length_take]; rfl)) ?_; (with_reducible refine (swarfref41_Few.calls k _ _ l0 a1 false _ ?side1 ?side2 A3.out).mono ?_); (case side1 => repeat (first | exact HR0.out | (with_reducible refine Kd.C_alloc ?_ _) | (with_reducible refine Kd.C_drewN ?_ _) | (with_reducible refine Kd.C_drew ?_))); (case side2 => exact HC0.out); rintro e w' ⟨rfl, ⟨nd, rfl⟩⟩; refine ⟨_, rfl, ?_⟩))
  go_ret
  exact ⟨by first | rfl | (simp [errW_none, errW_some] <;> rfl) | (simp [*, errW_none, errW_some] <;> rfl), by repeat (first | (with_reducible first | exact HB.out | apply below_alloc | apply pw_below_drewN | apply below_drew1) | exact HB.out)⟩
end Go.Proofs.Ytehkhbnhmehobaa.P
namespace Go.Proofs.Ytehkhbnhmehobaa.P
open Go.RowKit Go.Proofs.YtehkhbnhmehobaaW.PrintWords Go.Proofs.YtehkhbnhmehobaaW.PrintLast Go.Proofs.YtehkhbnhmehobaaW.PrintMore
set_option linter.unusedVariables false
set_option linter.unusedSimpArgs false
abbrev Wd := S78
abbrev Bk := S32
def hasS (l : List Wd) (a v : Int) : Bool := l.any (fun w => decide (w.f0 = a) && decide (w.f1 = v))
def codesS (l : List Wd) (a : Int) : List Int := (l.filter (fun w => decide (w.f0 = a))).map (fun w => w.f1)
theorem codesS_cons (w : Wd) (l : List Wd) (a : Int) : codesS (w :: l) a = if w.f0 = a then w.f1 :: codesS l a else codesS l a := by
  unfold codesS
  by_cases h : w.f0 = a <;> simp [List.filter_cons, h]
theorem hasS_cons (w : Wd) (l : List Wd) (a v : Int) : hasS (w :: l) a v = (decide (w.f0 = a) && decide (w.f1 = v) || hasS l a v) := rfl
theorem codesS_length (l : List Wd) (a : Int) : (codesS l a).length ≤ l.length := by
  unfold codesS
  rw [List.length_map]
  exact List.length_filter_le _ _
theorem mem_codesS (l : List Wd) (a v : Int) : decide (v ∈ codesS l a) = hasS l a v := by
  induction l with
  | nil => simp [codesS, hasS]
  | cons w l ih =>
    rw [codesS_cons]
    unfold hasS at ih ⊢
    rw [List.any_cons, ← ih]
    by_cases h : w.f0 = a
    · by_cases h2 : w.f1 = v
      · simp [h, h2]
      · have h3 : ¬ v = w.f1 := fun e => h2 e.symm
        simp [h, h2, h3]
    · simp [h]
theorem Codes_l0 (a : Int) (l : List Wd) (hl : l.length ≤ 1000000) : ∀ (n j : Nat) (acc : List Int), j + n = l.length → acc.length ≤ j → Ev (fun k => block_Codes.l0 k a acc l (l.length : Int) (j : Int)) (acc ++ codesS (l.drop j) a) := by
  intro n
  induction n with
  | zero =>
    intro j acc hj ha
    refine Ev.step (fun k => by rw [block_Codes.l0]) (Ev.neg (by omega) ?_)
    rw [List.drop_eq_nil_of_le (by omega)]
    simpa [codesS] using Ev.some
  | succ n ih =>
    intro j acc hj ha
    refine Ev.step (fun k => by rw [block_Codes.l0]) (Ev.pos (by omega) (Ev.pos (by omega) (Ev.pos (by omega) ?_)))
    rw [rd_T78_at (show j < l.length by omega), List.drop_eq_getElem_cons (show j < l.length by omega), codesS_cons]
    by_cases h : (l[j]'(by omega)).f0 = a
    · rw [if_pos h]
      refine Ev.pos h (Ev.pos (by omega) ?_)
      rw [wrapI (by omega)]
      have := ih (j + 1) (acc ++ [(l[j]'(by omega)).f1]) (by omega) (by simp; omega)
      simpa using this
    · rw [if_neg h]
      refine Ev.neg h ?_
      rw [wrapI (by omega)]
      exact ih (j + 1) acc (by omega) (by omega)
theorem Codes_ev (s : Bool) (l : List Wd) (c : ByteArray) (a : Int) (hl : l.length ≤ 1000000) : Ev (fun k => block_Codes.f k s l c a) (codesS l a) := by
  unfold block_Codes.f
  simpa using Codes_l0 a l hl l.length 0 [] (by omega) (by simp)
theorem Index_l0 (v : Int) (l : List Int) (hl : l.length ≤ 1000000) : ∀ (n j : Nat), j + n = l.length → ∃ r : Int, Ev (fun k => slices_Index_int64_int64.l0 k l v (l.length : Int) (j : Int)) r ∧ (0 ≤ r ↔ v ∈ l.drop j) := by
  intro n
  induction n with
  | zero =>
    intro j hj
    refine ⟨-1, Ev.step (fun k => by rw [slices_Index_int64_int64.l0]) (Ev.neg (by omega) Ev.some), ?_⟩
    rw [List.drop_eq_nil_of_le (by omega)]
    simp
  | succ n ih =>
    intro j hj
    obtain ⟨r, h1, h2⟩ := ih (j + 1) (by omega)
    rw [List.drop_eq_getElem_cons (show j < l.length by omega)]
    by_cases h : v = l[j]'(by omega)
    · refine ⟨j, Ev.step (fun k => by rw [slices_Index_int64_int64.l0]) (Ev.pos (by omega) (Ev.pos (by omega) (Ev.pos (by omega) (Ev.pos ?_ Ev.some)))), ?_⟩
      · rw [rd_at (show j < l.length by omega)]; exact h
      · exact ⟨fun _ => List.mem_cons.mpr (.inl h), fun _ => by omega⟩
    · refine ⟨r, Ev.step (fun k => by rw [slices_Index_int64_int64.l0]) (Ev.pos (by omega) (Ev.pos (by omega) (Ev.pos (by omega) (Ev.neg ?_ ?_)))), ?_⟩
      · rw [rd_at (show j < l.length by omega)]; exact h
      · rw [wrapI (by omega)]; exact h1
      · rw [h2, List.mem_cons]; exact ⟨fun h3 => .inr h3, fun h3 => h3.resolve_left h⟩
theorem has_ev (s : Bool) (l : List Wd) (c : ByteArray) (a v : Int) (hl : l.length ≤ 1000000) : Ev (fun k => subprogram_has.f k s l c a v) (hasS l a v) := by
  unfold subprogram_has.f
  refine Ev.bind (Codes_ev s l c a hl) ?_
  have hl2 : (codesS l a).length ≤ 1000000 := Nat.le_trans (codesS_length l a) hl
  obtain ⟨r, h1, h2⟩ := Index_l0 v (codesS l a) hl2 (codesS l a).length 0 (by omega)
  have h3 : Ev (fun k => slices_Contains_int64_int64.f k (codesS l a) v) (hasS l a v) := by
    unfold slices_Contains_int64_int64.f slices_Index_int64_int64.f
    refine Ev.bind h1 ?_
    rw [← mem_codesS, show decide (r ≥ 0) = decide (v ∈ codesS l a) from decide_eq_decide.mpr (by simpa using h2)]
    exact Ev.some
  exact Ev.bind h3 Ev.some
theorem hasR_l0 (s : Bool) (c : ByteArray) (a v : Int) (l : List Wd) (hl : l.length ≤ 1000000) : ∀ (n j : Nat), j + n = l.length → Ev (fun k => swarfref43_has.l0 k a v (j : Int) s l c) (hasS (l.drop j) a v) := by
  intro n
  induction n with
  | zero =>
    intro j hj
    refine Ev.step (fun k => by rw [swarfref43_has.l0]) (Ev.neg (by omega) ?_)
    rw [List.drop_eq_nil_of_le (by omega)]
    exact Ev.some
  | succ n ih =>
    intro j hj
    refine Ev.step (fun k => by rw [swarfref43_has.l0]) (Ev.pos (by omega) (Ev.pos (by omega) ?_))
    have h0 := ih (j + 1) (by omega)
    rw [rd_T78_at (show j < l.length by omega), List.drop_eq_getElem_cons (show j < l.length by omega)]
    by_cases h : (l[j]'(by omega)).f0 = a
    · refine Ev.pos h ?_
      by_cases h2 : (l[j]'(by omega)).f1 = v
      · rw [show hasS (l[j]'(by omega) :: l.drop (j + 1)) a v = true from by rw [hasS_cons, decide_eq_true h, decide_eq_true h2]; rfl]
        exact Ev.pos h2 Ev.some
      · rw [show hasS (l[j]'(by omega) :: l.drop (j + 1)) a v = hasS (l.drop (j + 1)) a v from by rw [hasS_cons, decide_eq_true h, decide_eq_false h2]; rfl]
        refine Ev.neg h2 ?_
        rw [wrapI (by omega)]
        exact h0
    · rw [show hasS (l[j]'(by omega) :: l.drop (j + 1)) a v = hasS (l.drop (j + 1)) a v from by rw [hasS_cons, decide_eq_false h]; rfl]
      refine Ev.neg h ?_
      rw [wrapI (by omega)]
      exact h0
theorem hasR_ev (s : Bool) (l : List Wd) (c : ByteArray) (a v : Int) (hl : l.length ≤ 1000000) : Ev (fun k => swarfref43_has.f k s l c a v) (hasS l a v) := by
  unfold swarfref43_has.f
  simpa using hasR_l0 s c a v l hl l.length 0 (by omega)
def wholeT (v : Int) : Int × Bool := (wrap64 (Int.tdiv v 1000), decide (Int.tmod v 1000 = 0 ∧ 1 ≤ wrap64 (Int.tdiv v 1000) ∧ wrap64 (Int.tdiv v 1000) ≤ 9999))
theorem whole_eq (v : Int) : subprogram_whole.f v = some (wholeT v) := by
  unfold subprogram_whole.f wholeT
  by_cases h1 : Int.tmod v 1000 = 0
  · rw [if_pos h1]
    by_cases h2 : wrap64 (Int.tdiv v 1000) ≥ 1
    · rw [if_pos h2]
      have h2' : 1 ≤ wrap64 (Int.tdiv v 1000) := h2
      simp [h1, h2']
    · rw [if_neg h2]
      have h2' : ¬ 1 ≤ wrap64 (Int.tdiv v 1000) := h2
      simp [h1, h2']
  · rw [if_neg h1]
    simp [h1]
def wholeR (v : Int) : Int := if (wholeT v).2 = true then (wholeT v).1 else 0
theorem tdiv_parts (v : Int) (h : I64 v) : wrap64 (Int.tdiv v 1000) = Int.tdiv v 1000 ∧ (0 ≤ v → Int.tdiv v 1000 = v / 1000 ∧ Int.tmod v 1000 = v % 1000) ∧ (v < 0 → Int.tdiv v 1000 ≤ 0) := by
  unfold I64 at h
  have hn : v < 0 → Int.tdiv v 1000 = -((-v) / 1000) := fun hv => by
    have : Int.tdiv (-(-v)) 1000 = -(Int.tdiv (-v) 1000) := Int.neg_tdiv ..
    rw [Int.neg_neg] at this
    rw [this, Int.tdiv_eq_ediv_of_nonneg (by omega)]
  refine ⟨?_, fun hv => ⟨Int.tdiv_eq_ediv_of_nonneg hv, Int.tmod_eq_emod_of_nonneg hv⟩, fun hv => ?_⟩
  · unfold wrap64
    by_cases hv : 0 ≤ v
    · rw [Int.tdiv_eq_ediv_of_nonneg hv]; omega
    · rw [hn (by omega)]; omega
  · rw [hn hv]; omega
theorem wholeR_eq (v : Int) (h : I64 v) : swarfref43_whole.f v = some (wholeR v) := by
  obtain ⟨h1, h2, h3⟩ := tdiv_parts v h
  unfold swarfref43_whole.f wholeR wholeT
  simp only [decide_eq_true_eq]
  rw [h1]
  by_cases hm : Int.tmod v 1000 = 0
  · rw [if_pos hm]
    by_cases hv : 0 ≤ v
    · obtain ⟨h4, h5⟩ := h2 hv
      rw [h4]
      rw [h5] at hm
      by_cases h6 : v < 1000
      · rw [if_pos h6, if_neg (by omega)]
      · rw [if_neg h6]
        by_cases h7 : v > 9999000
        · rw [if_pos h7, if_neg (by omega)]
        · rw [if_neg h7, if_pos ⟨by omega, by omega, by omega⟩]
    · have := h3 (by omega)
      rw [if_pos (by omega), if_neg (by omega)]
  · rw [if_neg hm, if_neg (by simp [hm])]
theorem wholeT_pos {v : Int} (h : (wholeT v).2 = true) : 1 ≤ (wholeT v).1 ∧ (wholeT v).1 ≤ 9999 := by
  unfold wholeT at h ⊢
  simp only [decide_eq_true_eq] at h
  exact h.2
def callT : List Wd → (Int → Int) → Int → Int → Bool → (Int → Int) × Int × Int × Bool
  | [], C, n, t, ok => (C, n, t, ok)
  | x :: l, C, n, t, ok => callT l (fun y => if y = x.f0 then wrap64 (C y + 1) else C y) (if x.f0 = 80 then (wholeT x.f1).1 else n) (if x.f0 = 76 then (wholeT x.f1).1 else t) (if x.f0 = 80 ∨ x.f0 = 76 then ok && (wholeT x.f1).2 else if x.f0 = 77 ∨ x.f0 = 78 then ok else false)
theorem callL_eq : ∀ (l : List Wd) (C : Int → Int) (n t : Int) (ok : Bool), callL l C n t ok = some (callT l C n t ok)
  | [], C, n, t, ok => rfl
  | x :: l, C, n, t, ok => by rw [callL, whole_eq, Option.bind_some, callL_eq, callT]
def callS (l : List Wd) : Int × Int × Bool × Int := if hasS l 77 98000 = true then callR (callT l (fun _ => 0) 0 1 true) else (0, 0, false, 0)
theorem callO_ev (s : Bool) (l : List Wd) (c : ByteArray) (hl : l.length ≤ 1000000) (hw : wordsW l) : Ev (fun k => subprogram_Call.f k s l c) (callS l) := by
  unfold subprogram_Call.f
  refine Ev.pos hw (Ev.bind (has_ev s l c 77 98000 hl) ?_)
  by_cases h : hasS l 77 98000 = true
  · have e : callS l = callR (callT l (fun _ => 0) 0 1 true) := if_pos h
    rw [e]
    refine Ev.pos h ?_
    rw [callL_eq]
    exact Ev.some
  · have e : callS l = (0, 0, false, 0) := if_neg h
    rw [e]
    exact Ev.neg h Ev.some
theorem callT_false : ∀ (l : List Wd) (C : Int → Int) (n t : Int), (callT l C n t false).2.2.2 = false
  | [], C, n, t => rfl
  | x :: l, C, n, t => by
    rw [callT]
    have : (if x.f0 = 80 ∨ x.f0 = 76 then false && (wholeT x.f1).2 else if x.f0 = 77 ∨ x.f0 = 78 then false else false) = false := by split <;> simp
    rw [this]
    exact callT_false l _ _ _
structure CallRel (j : Nat) (C : Int → Int) (n t : Int) (ok : Bool) (num times p lc m nc : Int) : Prop where
  cm : C 77 = m
  cp : C 80 = p
  cl : C 76 = lc
  cn : C 78 = nc
  bm : 0 ≤ m ∧ m ≤ j
  bp : 0 ≤ p ∧ p ≤ j
  bl : 0 ≤ lc ∧ lc ≤ j
  bn : 0 ≤ nc ∧ nc ≤ j
  p0 : p = 0 → num = 0 ∧ n = 0
  l0 : lc = 0 → times = 1 ∧ t = 1
  yes : p ≤ 1 → lc ≤ 1 → ok = true → num = n ∧ times = t ∧ (p = 1 → num ≠ 0) ∧ times ≠ 0
  no : p ≤ 1 → lc ≤ 1 → ok = false → (p = 1 ∧ num = 0) ∨ times = 0
theorem callRef_l0 (s : Bool) (c : ByteArray) (l : List Wd) (hl : l.length ≤ 1000000) (hv : ∀ x ∈ l, I64 x.f1) : ∀ (n j : Nat) (C : Int → Int) (nu t : Int) (ok : Bool) (num times p lc m nc : Int), j + n = l.length → CallRel j C nu t ok num times p lc m nc →
    Ev (fun k => swarfref43_Call.l0 k num times p lc m nc (j : Int) s l c) (callR (callT (l.drop j) C nu t ok)) := by
  intro n
  induction n with
  | zero =>
    intro j C nu t ok num times p lc m nc hj R
    refine Ev.step (fun k => by rw [swarfref43_Call.l0]) (Ev.neg (by omega) ?_)
    rw [List.drop_eq_nil_of_le (by omega), callT]
    unfold callR
    simp only [R.cm, R.cp, R.cl, R.cn]
    by_cases h1 : m = 1
    · refine Ev.pos h1 ?_
      by_cases h2 : p = 1
      · refine Ev.pos h2 ?_
        by_cases h3 : lc > 1
        · refine Ev.pos h3 ?_
          simp [h1, h2, h3]; exact Ev.some
        · refine Ev.neg h3 ?_
          by_cases h4 : nc > 1
          · refine Ev.pos h4 ?_
            simp [h1, h2, h3, h4]; exact Ev.some
          · refine Ev.neg h4 ?_
            cases ok with
            | true =>
              obtain ⟨e1, e2, e3, e4⟩ := R.yes (by omega) (by omega) rfl
              refine Ev.neg (e3 h2) (Ev.neg e4 ?_)
              simp [h1, h2, h3, h4, e1, e2]; exact Ev.some
            | false =>
              simp only [if_true]
              rcases R.no (by omega) (by omega) rfl with ⟨_, e⟩ | e
              · exact Ev.pos e Ev.some
              · by_cases e0 : num = 0
                · exact Ev.pos e0 Ev.some
                · exact Ev.neg e0 (Ev.pos e Ev.some)
      · refine Ev.neg h2 ?_
        simp [h1, h2]; exact Ev.some
    · refine Ev.neg h1 ?_
      simp [h1]; exact Ev.some
  | succ n ih =>
    intro j C nu t ok num times p lc m nc hj R
    have hx := hv _ (List.getElem_mem (show j < l.length by omega))
    refine Ev.step (fun k => by rw [swarfref43_Call.l0]) (Ev.pos (by omega) (Ev.pos (by omega) ?_))
    rw [rd_T78_at (show j < l.length by omega), List.drop_eq_getElem_cons (show j < l.length by omega), callT]
    generalize l[j]'(by omega) = x at *
    have w1 : ∀ y : Int, 0 ≤ y → y ≤ j → wrap64 (y + 1) = y + 1 := fun y h0 h1 => by unfold wrap64; omega
    have bm := R.bm
    have bp := R.bp
    have bl := R.bl
    have bn := R.bn
    rw [wrapI (by omega)]
    by_cases c77 : x.f0 = 77
    · refine Ev.pos c77 ?_
      refine ih (j + 1) _ _ _ _ _ _ _ _ _ _ (by omega) ?_
      simp only [c77]
      rw [w1 m bm.1 bm.2]
      exact { cm := by simp only [if_true]; rw [R.cm, w1 m bm.1 bm.2], cp := by simpa using R.cp, cl := by simpa using R.cl, cn := by simpa using R.cn, bm := by omega, bp := by omega, bl := by omega, bn := by omega, p0 := by simpa using R.p0, l0 := by simpa using R.l0, yes := by simpa using R.yes, no := by simpa using R.no }
    · refine Ev.neg c77 ?_
      by_cases c80 : x.f0 = 80
      · refine Ev.pos c80 ?_
        rw [wholeR_eq _ hx]
        refine Ev.bind Ev.some ?_
        refine ih (j + 1) _ _ _ _ _ _ _ _ _ _ (by omega) ?_
        simp only [c80]
        rw [w1 p bp.1 bp.2]
        refine { cm := by simpa using R.cm, cp := by simp only [if_true]; rw [R.cp, w1 p bp.1 bp.2], cl := by simpa using R.cl, cn := by simpa using R.cn, bm := by omega, bp := by omega, bl := by omega, bn := by omega, p0 := fun h => by omega, l0 := by simpa using R.l0, yes := fun h1 h2 h3 => ?_, no := fun h1 h2 h3 => ?_ }
        · simp only [true_or, if_true, Bool.and_eq_true] at h3
          obtain ⟨e1, e2, e3, e4⟩ := R.yes (by omega) h2 h3.1
          have hp := wholeT_pos h3.2
          unfold wholeR
          rw [if_pos h3.2]
          exact ⟨by simp, by simpa using e2, fun _ => by omega, e4⟩
        · simp only [true_or, if_true] at h3
          unfold wholeR
          cases hw : (wholeT x.f1).2 with
          | false => exact .inl ⟨by omega, by simp⟩
          | true =>
            rw [hw, Bool.and_true] at h3
            rcases R.no (by omega) h2 h3 with h | h
            · omega
            · exact .inr h
      · refine Ev.neg c80 ?_
        by_cases c76 : x.f0 = 76
        · refine Ev.pos c76 ?_
          rw [wholeR_eq _ hx]
          refine Ev.bind Ev.some ?_
          refine ih (j + 1) _ _ _ _ _ _ _ _ _ _ (by omega) ?_
          simp only [c76]
          rw [w1 lc bl.1 bl.2]
          refine { cm := by simpa using R.cm, cp := by simpa using R.cp, cl := by simp only [if_true]; rw [R.cl, w1 lc bl.1 bl.2], cn := by simpa using R.cn, bm := by omega, bp := by omega, bl := by omega, bn := by omega, p0 := by simpa using R.p0, l0 := fun h => by omega, yes := fun h1 h2 h3 => ?_, no := fun h1 h2 h3 => ?_ }
          · simp only [or_true, if_true, Bool.and_eq_true] at h3
            obtain ⟨e1, e2, e3, e4⟩ := R.yes h1 (by omega) h3.1
            have hp := wholeT_pos h3.2
            unfold wholeR
            rw [if_pos h3.2]
            exact ⟨by simpa using e1, by simp, e3, by omega⟩
          · simp only [or_true, if_true] at h3
            unfold wholeR
            cases hw : (wholeT x.f1).2 with
            | false => exact .inr (by simp)
            | true =>
              rw [hw, Bool.and_true] at h3
              rcases R.no h1 (by omega) h3 with h | h
              · exact .inl h
              · have := R.l0 (by omega); omega
        · refine Ev.neg c76 ?_
          by_cases c78 : x.f0 = 78
          · refine Ev.pos c78 ?_
            refine ih (j + 1) _ _ _ _ _ _ _ _ _ _ (by omega) ?_
            simp only [c78]
            rw [w1 nc bn.1 bn.2]
            exact { cm := by simpa using R.cm, cp := by simpa using R.cp, cl := by simpa using R.cl, cn := by simp only [if_true]; rw [R.cn, w1 nc bn.1 bn.2], bm := by omega, bp := by omega, bl := by omega, bn := by omega, p0 := by simpa using R.p0, l0 := by simpa using R.l0, yes := by simpa using R.yes, no := by simpa using R.no }
          · refine Ev.neg c78 ?_
            simp only [c80, c76, c77, c78, or_self, if_false]
            unfold callR
            rw [if_pos (callT_false _ _ _ _)]
            exact Ev.some
theorem callRef_ev (s : Bool) (l : List Wd) (c : ByteArray) (hl : l.length ≤ 1000000) (hv : ∀ x ∈ l, I64 x.f1) : Ev (fun k => swarfref43_Call.f k s l c) (callS l) := by
  unfold swarfref43_Call.f
  refine Ev.bind (hasR_ev s l c 77 98000 hl) ?_
  by_cases h : hasS l 77 98000 = true
  · have e : callS l = callR (callT l (fun _ => 0) 0 1 true) := if_pos h
    rw [e]
    refine Ev.pos h ?_
    exact callRef_l0 s c l hl hv l.length 0 _ 0 1 true 0 1 0 0 0 0 (by omega) { cm := rfl, cp := rfl, cl := rfl, cn := rfl, bm := by omega, bp := by omega, bl := by omega, bn := by omega, p0 := fun _ => ⟨rfl, rfl⟩, l0 := fun _ => ⟨rfl, rfl⟩, yes := fun _ _ _ => ⟨rfl, rfl, fun h => by omega, by decide⟩, no := fun _ _ h => by cases h }
  · have e : callS l = (0, 0, false, 0) := if_neg h
    rw [e]
    exact Ev.neg h Ev.some
def fewS (l : List Bk) (n : Int) : Bool := decide ((l.length : Int) ≤ n) && l.all (fun b => decide (b.f1.length ≤ 20) && decide (b.f2.size ≤ 120))
theorem Few_l0 (l : List Bk) (hl : l.length ≤ 9223372036854775807) : ∀ (n j : Nat), j + n = l.length → Ev (fun k => swarfref41_Few.l0 k l (j : Int)) ((l.drop j).all (fun b => decide (b.f1.length ≤ 20) && decide (b.f2.size ≤ 120))) := by
  intro n
  induction n with
  | zero =>
    intro j hj
    refine Ev.step (fun k => by rw [swarfref41_Few.l0]) (Ev.neg (by omega) ?_)
    rw [List.drop_eq_nil_of_le (by omega)]
    exact Ev.some
  | succ n ih =>
    intro j hj
    have h0 := ih (j + 1) (by omega)
    refine Ev.step (fun k => by rw [swarfref41_Few.l0]) (Ev.pos (by omega) (Ev.pos (by omega) ?_))
    rw [rd_T32_at (show j < l.length by omega), List.drop_eq_getElem_cons (show j < l.length by omega), List.all_cons]
    by_cases h1 : ((l[j]'(by omega)).f1.length : Int) > 20
    · rw [decide_eq_false (show ¬ (l[j]'(by omega)).f1.length ≤ 20 by omega), Bool.false_and, Bool.false_and]
      exact Ev.pos h1 Ev.some
    · rw [decide_eq_true (show (l[j]'(by omega)).f1.length ≤ 20 by omega), Bool.true_and]
      refine Ev.neg h1 ?_
      by_cases h2 : ((l[j]'(by omega)).f2.size : Int) > 120
      · rw [decide_eq_false (show ¬ (l[j]'(by omega)).f2.size ≤ 120 by omega), Bool.false_and]
        exact Ev.pos h2 Ev.some
      · rw [decide_eq_true (show (l[j]'(by omega)).f2.size ≤ 120 by omega), Bool.true_and]
        refine Ev.neg h2 ?_
        rw [wrapI (by omega)]
        exact h0
theorem Few_ev (l : List Bk) (n : Int) (hl : l.length ≤ 9223372036854775807) : Ev (fun k => swarfref41_Few.f k l n) (fewS l n) := by
  unfold swarfref41_Few.f fewS
  by_cases h : (l.length : Int) > n
  · rw [decide_eq_false (show ¬ (l.length : Int) ≤ n by omega), Bool.false_and]
    exact Ev.pos h Ev.some
  · rw [decide_eq_true (show (l.length : Int) ≤ n by omega), Bool.true_and]
    refine Ev.neg h ?_
    simpa using Few_l0 l hl l.length 0 (by omega)
def goodB (b : Bk) : Prop := b.f1.length ≤ 16 ∧ ∀ x ∈ b.f1, (65 ≤ x.f0 ∧ x.f0 ≤ 90) ∧ -1000000000000 ≤ x.f1 ∧ x.f1 ≤ 1000000000000
theorem Valid_l1 (s : Bool) (l : List Wd) (c : ByteArray) (hc : c.size ≤ 9223372036854775807) : ∀ (n j : Nat), j + n = c.size → ∃ r, Ev (fun k => swarfref41_Valid.l1 k (j : Int) s l c) r := by
  intro n
  induction n with
  | zero =>
    intro j hj
    exact ⟨0, Ev.step (fun k => by rw [swarfref41_Valid.l1]) (Ev.neg (by omega) Ev.some)⟩
  | succ n ih =>
    intro j hj
    obtain ⟨r, h0⟩ := ih (j + 1) (by omega)
    have hp : ∃ b, swarfref41_printable.f (bt c (j : Int)) = some b := by
      unfold swarfref41_printable.f
      split
      · split
        · split <;> exact ⟨_, rfl⟩
        · exact ⟨_, rfl⟩
      · exact ⟨_, rfl⟩
    obtain ⟨b, hb⟩ := hp
    cases b with
    | true =>
      refine ⟨r, Ev.step (fun k => by rw [swarfref41_Valid.l1]) (Ev.pos (by omega) (Ev.pos (by omega) ?_))⟩
      rw [hb]
      refine Ev.bind Ev.some (Ev.pos rfl ?_)
      rw [wrapI (by omega)]
      exact h0
    | false =>
      refine ⟨1, Ev.step (fun k => by rw [swarfref41_Valid.l1]) (Ev.pos (by omega) (Ev.pos (by omega) ?_))⟩
      rw [hb]
      exact Ev.bind Ev.some (Ev.neg (by decide) Ev.some)
theorem Valid_l0 (s : Bool) (l : List Wd) (c : ByteArray) (hl : l.length ≤ 16) (hc : c.size ≤ 9223372036854775807) : ∀ (n j : Nat), j + n = l.length → ∃ r, Ev (fun k => swarfref41_Valid.l0 k (j : Int) s l c) r ∧ (r = 0 → ∀ x ∈ l.drop j, (65 ≤ x.f0 ∧ x.f0 ≤ 90) ∧ -1000000000000 ≤ x.f1 ∧ x.f1 ≤ 1000000000000) := by
  intro n
  induction n with
  | zero =>
    intro j hj
    obtain ⟨r, h⟩ := Valid_l1 s l c hc c.size 0 (by omega)
    replace h : Ev (fun k => swarfref41_Valid.l1 k 0 s l c) r := h
    refine ⟨r, Ev.step (fun k => by rw [swarfref41_Valid.l0]) (Ev.neg (by omega) h), fun _ x hx => ?_⟩
    rw [List.drop_eq_nil_of_le (by omega)] at hx
    cases hx
  | succ n ih =>
    intro j hj
    obtain ⟨r, h0, h1⟩ := ih (j + 1) (by omega)
    rw [List.drop_eq_getElem_cons (show j < l.length by omega)]
    by_cases a1 : (l[j]'(by omega)).f0 < 65
    · exact ⟨1, Ev.step (fun k => by rw [swarfref41_Valid.l0]) (Ev.pos (by omega) (Ev.pos (by omega) (by rw [rd_T78_at (show j < l.length by omega)]; exact Ev.pos a1 Ev.some))), fun h => by cases h⟩
    · by_cases a2 : (l[j]'(by omega)).f0 > 90
      · exact ⟨1, Ev.step (fun k => by rw [swarfref41_Valid.l0]) (Ev.pos (by omega) (Ev.pos (by omega) (by rw [rd_T78_at (show j < l.length by omega)]; exact Ev.neg a1 (Ev.pos a2 Ev.some)))), fun h => by cases h⟩
      · by_cases a3 : (l[j]'(by omega)).f1 > 1000000000000
        · exact ⟨1, Ev.step (fun k => by rw [swarfref41_Valid.l0]) (Ev.pos (by omega) (Ev.pos (by omega) (by rw [rd_T78_at (show j < l.length by omega)]; exact Ev.neg a1 (Ev.neg a2 (Ev.pos a3 Ev.some))))), fun h => by cases h⟩
        · by_cases a4 : (l[j]'(by omega)).f1 < -1000000000000
          · exact ⟨1, Ev.step (fun k => by rw [swarfref41_Valid.l0]) (Ev.pos (by omega) (Ev.pos (by omega) (by rw [rd_T78_at (show j < l.length by omega)]; exact Ev.neg a1 (Ev.neg a2 (Ev.neg a3 (Ev.pos a4 Ev.some)))))), fun h => by cases h⟩
          · refine ⟨r, Ev.step (fun k => by rw [swarfref41_Valid.l0]) (Ev.pos (by omega) (Ev.pos (by omega) (by rw [rd_T78_at (show j < l.length by omega)]; exact Ev.neg a1 (Ev.neg a2 (Ev.neg a3 (Ev.neg a4 (by rw [wrapI (by omega)]; exact h0))))))), fun hr x hx => ?_⟩
            rcases List.mem_cons.mp hx with rfl | hx
            · omega
            · exact h1 hr x hx
theorem Valid_ev (b : Bk) (hb : okBlock b) : ∃ r, Ev (fun k => swarfref41_Valid.f k b.f0 b.f1 b.f2) r ∧ (r = 0 → goodB b) := by
  have hc : b.f2.size ≤ 9223372036854775807 := by have := hb.2; unfold maxLen at this; omega
  have hj1 : ∀ c, c = true → ∃ r, Ev (fun k => swarfref41_Valid.j0 k c b.f0 b.f1 b.f2) r ∧ (r = 0 → goodB b) := fun c hc => ⟨1, Ev.step (fun k => by rw [swarfref41_Valid.j0]) (Ev.pos hc Ev.some), fun h => by cases h⟩
  unfold swarfref41_Valid.f
  by_cases h : (b.f1.length : Int) > 16
  · obtain ⟨r, h1, h2⟩ := hj1 true rfl
    exact ⟨r, Ev.pos h h1, h2⟩
  · by_cases h2 : (b.f2.size : Int) > 100
    · obtain ⟨r, h3, h4⟩ := hj1 (decide ((b.f2.size : Int) > 100)) (decide_eq_true h2)
      exact ⟨r, Ev.neg h h3, h4⟩
    · obtain ⟨r, h3, h4⟩ := Valid_l0 b.f0 b.f1 b.f2 (by omega) hc b.f1.length 0 (by omega)
      replace h3 : Ev (fun k => swarfref41_Valid.l0 k 0 b.f0 b.f1 b.f2) r := h3
      refine ⟨r, Ev.neg h (Ev.step (fun k => by rw [swarfref41_Valid.j0]) (Ev.neg (by simp; omega) h3)), fun hr => ⟨by omega, by simpa using h4 hr⟩⟩
theorem valid_l0 (l : List Bk) (hl : l.length ≤ 9223372036854775807) (hb : ∀ b ∈ l, okBlock b) : ∀ (n j : Nat), j + n = l.length → ∃ r, Ev (fun k => swarflaw43_valid.l0 k l (l.length : Int) (j : Int)) r ∧ (r = true → ∀ b ∈ l.drop j, goodB b) := by
  intro n
  induction n with
  | zero =>
    intro j hj
    refine ⟨true, Ev.step (fun k => by rw [swarflaw43_valid.l0]) (Ev.neg (by omega) Ev.some), fun _ x hx => ?_⟩
    rw [List.drop_eq_nil_of_le (by omega)] at hx
    cases hx
  | succ n ih =>
    intro j hj
    obtain ⟨r, h0, h1⟩ := ih (j + 1) (by omega)
    obtain ⟨v, h2, h3⟩ := Valid_ev _ (hb _ (List.getElem_mem (show j < l.length by omega)))
    rw [List.drop_eq_getElem_cons (show j < l.length by omega)]
    by_cases hv : v = 0
    · refine ⟨r, Ev.step (fun k => by rw [swarflaw43_valid.l0]) (Ev.pos (by omega) (Ev.pos (by omega) (Ev.pos (by omega) ?_))), fun hr x hx => ?_⟩
      · rw [rd_T32_at (show j < l.length by omega)]
        refine Ev.bind h2 (Ev.pos hv ?_)
        rw [wrapI (by omega)]
        exact h0
      · rcases List.mem_cons.mp hx with rfl | hx
        · exact h3 hv
        · exact h1 hr x hx
    · refine ⟨false, Ev.step (fun k => by rw [swarflaw43_valid.l0]) (Ev.pos (by omega) (Ev.pos (by omega) (Ev.pos (by omega) ?_))), fun h => by cases h⟩
      rw [rd_T32_at (show j < l.length by omega)]
      exact Ev.bind h2 (Ev.neg hv Ev.some)
theorem valid_ev (l : List Bk) (n : Int) (hl : l.length ≤ 9223372036854775807) (hb : ∀ b ∈ l, okBlock b) : ∃ r, Ev (fun k => swarflaw43_valid.f k l n) r ∧ (r = true → (l.length : Int) ≤ n ∧ ∀ b ∈ l, goodB b) := by
  unfold swarflaw43_valid.f
  by_cases h : fewS l n = true
  · obtain ⟨r, h1, h2⟩ := valid_l0 l hl hb l.length 0 (by omega)
    refine ⟨r, Ev.bind (Few_ev l n hl) (Ev.pos h h1), fun hr => ⟨?_, by simpa using h2 hr⟩⟩
    unfold fewS at h
    rw [Bool.and_eq_true] at h
    exact of_decide_eq_true h.1
  · exact ⟨false, Ev.bind (Few_ev l n hl) (Ev.neg h Ev.some), fun h => by cases h⟩
theorem goodB.words {b : Bk} (h : goodB b) : wordsW b.f1 := fun x hx => by have := h.2 x hx; omega
theorem goodB.len {b : Bk} (h : goodB b) : b.f1.length ≤ 1000000 := by have := h.1; omega
theorem goodB.i64 {b : Bk} (h : goodB b) : ∀ x ∈ b.f1, I64 x.f1 := fun x hx => by have := h.2 x hx; unfold I64; omega
theorem goodB.callO {b : Bk} (h : goodB b) : Ev (fun k => subprogram_Call.f k b.f0 b.f1 b.f2) (callS b.f1) := callO_ev _ _ _ h.len h.words
theorem goodB.callRef {b : Bk} (h : goodB b) : Ev (fun k => swarfref43_Call.f k b.f0 b.f1 b.f2) (callS b.f1) := callRef_ev _ _ _ h.len h.i64
end Go.Proofs.Ytehkhbnhmehobaa.P
namespace Go.Proofs.Ytehkhbnhmehobaa.P
open Go.RowKit Go.Proofs.YtehkhbnhmehobaaW.PrintWords Go.Proofs.YtehkhbnhmehobaaW.PrintLast Go.Proofs.YtehkhbnhmehobaaW.PrintMore
open Go.Maps (Keyed)
set_option linter.unusedVariables false
theorem size_put_le {H : Type} {D : DataW H} {kl : Lit} (hk : WideAt.IsKeyLit kl) (d : DataW H) (hD : Maps.IsMap D) : Maps.size (D.put kl d) ≤ if Maps.has D kl = true then Maps.size D else Maps.size D + 1 := by
  obtain ⟨es, rfl⟩ := hD
  show (DataW.insert (kl, d) (es.filter fun p => !p.1.sameKey kl)).length ≤ _
  have e : (DataW.insert (kl, d) (es.filter fun p => !p.1.sameKey kl)).length = (es.filter fun p => !p.1.sameKey kl).length + 1 := by rw [length_insert]
  rw [e]
  have h1 := List.length_filter_le (fun p : Lit × DataW H => !p.1.sameKey kl) es
  show _ ≤ if es.any (fun p => p.1.sameKey kl) = true then es.length else es.length + 1
  split
  · rename_i h
    obtain ⟨p, hp, hpk⟩ := List.any_eq_true.1 h
    have : (es.filter fun p => !p.1.sameKey kl).length < es.length := List.length_filter_lt_length_iff_exists.2 ⟨p, hp, by simp [hpk]⟩
    omega
  · omega
def cntF (f : Int → Option Value) : Nat := (List.range 10000).countP (fun y : Nat => (f (y : Int)).isSome)
theorem cntF_le (f : Int → Option Value) : cntF f ≤ 10000 := by
  have := List.countP_le_length (p := fun y : Nat => (f (y : Int)).isSome) (l := List.range 10000)
  rw [List.length_range] at this
  exact this
theorem countP_lt {α : Type} {p q : α → Bool} : ∀ (l : List α), (∀ y ∈ l, p y = true → q y = true) → (∃ y ∈ l, p y = false ∧ q y = true) → l.countP p + 1 ≤ l.countP q
  | [], _, ⟨y, hy, _⟩ => by simp at hy
  | x :: l, h, ⟨y, hy, h1, h2⟩ => by
    rw [List.countP_cons, List.countP_cons]
    have hm : l.countP p ≤ l.countP q := List.countP_mono_left (fun z hz hp => h z (List.mem_cons_of_mem _ hz) hp)
    rcases List.mem_cons.mp hy with rfl | hy
    · simp [h1, h2]; omega
    · have := countP_lt l (fun z hz => h z (List.mem_cons_of_mem _ hz)) ⟨y, hy, h1, h2⟩
      have hx := h x List.mem_cons_self
      have e1 : (if p x = true then 1 else 0) ≤ (if q x = true then 1 else 0) := by
        by_cases hp : p x = true
        · rw [if_pos hp, if_pos (hx hp)]; exact Nat.le_refl _
        · rw [if_neg hp]; exact Nat.zero_le _
      omega
section
variable {P : Program} {k : TypeId} {q : IntKind} {w w1 : World} {b n : Nat} {f : Int → Option Value}
def MapFew (P : Program) (k : TypeId) (q : IntKind) (w : World) (b : Nat) (f : Int → Option Value) : Prop := ∃ n, MapIs P k q w b n f ∧ n ≤ cntF f
theorem MapFew.made (P : Program) (k : TypeId) (q : IntKind) (w : World) : MapFew P k q (w.alloc (.map #[] 0)) w.heap.size (fun _ => none) := ⟨0, MapIs.made P k q w, Nat.zero_le _⟩
theorem MapFew.below (h : MapFew P k q w b f) (hb : Below w.heap.size w w1) : MapFew P k q w1 b f := by
  obtain ⟨n, h, hn⟩ := h
  exact ⟨n, h.below hb, hn⟩
theorem MapFew.kept {row : Option Nat} (h : MapFew P k q w b f) (hg : w.grownBy w1 row) (hne : some b ≠ row) : MapFew P k q w1 b f := by
  obtain ⟨n, h, hn⟩ := h
  exact ⟨n, h.kept hg hne, hn⟩
theorem MapFew.same (h : MapFew P k q w b f) (hb : w1.heap[b]? = w.heap[b]?) : MapFew P k q w1 b f := by
  obtain ⟨n, h, hn⟩ := h
  exact ⟨n, h.same hb, hn⟩
theorem MapFew.lt (h : MapFew P k q w b f) : b < w.heap.size := by
  obtain ⟨n, h, _⟩ := h
  exact h.lt
theorem MapFew.put {t e : TypeId} (h : MapFew P k q w b f) (hk : P.underlying k = some (.int q)) (ht : P.underlying t = some (.map k e)) {a : Int} (ha : (Lit.int q a).wf = true) (h0 : 0 ≤ a) (h1 : a < 10000) (v : Value) :
    ∃ w1, (Instr.mapUpdate t (.map (some b)) (.int q a) v).run P w = .ok () w1 ∧ MapFew P k q w1 b (fun x => if x = a then some v else f x) ∧ w.grownBy w1 (some b) := by
  obtain ⟨n, h, hn⟩ := h
  have hc := cntF_le f
  obtain ⟨D, hD, hf⟩ := h
  have hm := hD.isMap
  have hsz := hD.size_le
  obtain ⟨w1, hrun, hD1, hg⟩ := hD.update (Maps.int_keyed hk) ht (show n < maxLen by unfold maxLen; omega) (R := rawR) (Maps.keyOf_int_mk hk ha) (val := v) rfl
  refine ⟨w1, hrun, ?_, hg⟩
  have hp := size_put_le (kl := .int q a) (show WideAt.IsKeyLit (.int q a) from trivial) (.held v : DataW Value) hm
  rw [(hf a).1] at hp
  have hf' : ∀ x : Int, Maps.has (D.put (.int q a) (.held v)) (.int q x) = (if x = a then some v else f x).isSome ∧ ∀ z, (D.put (.int q a) (.held v)).atKey (.int q x) (.held z) = .held ((if x = a then some v else f x).getD z) := by
    intro x
    by_cases hx : x = a
    · subst hx
      rw [if_pos rfl]
      exact ⟨Maps.has_put_same hm (show WideAt.IsKeyLit (.int q x) from trivial) _, fun z => Maps.atKey_put_same hm (show WideAt.IsKeyLit (.int q x) from trivial) _ _⟩
    · rw [if_neg hx]
      have hne : Lit.int q x ≠ Lit.int q a := fun e => hx (by injection e)
      exact ⟨(Maps.has_put_other hne _).trans (hf x).1, fun z => (Maps.atKey_put_other hne _ _).trans ((hf x).2 z)⟩
  have hcnt : cntF f + (if (f a).isSome = true then 0 else 1) ≤ cntF (fun x => if x = a then some v else f x) := by
    unfold cntF
    by_cases hs : (f a).isSome = true
    · rw [if_pos hs, Nat.add_zero]
      refine List.countP_mono_left (fun y _ hy => ?_)
      by_cases hy2 : (y : Int) = a <;> simp [hy2]
      simpa using hy
    · rw [if_neg hs]
      refine countP_lt _ (fun y _ hy => ?_) ⟨a.toNat, by simp; omega, ?_, ?_⟩
      · by_cases hy2 : (y : Int) = a <;> simp [hy2]
        simpa using hy
      · rw [Int.toNat_of_nonneg h0]
        simpa using hs
      · rw [Int.toNat_of_nonneg h0]
        simp
  refine ⟨if (f a).isSome = true then n else n + 1, ?_, by
    have e1 : (if (f a).isSome = true then n else n + 1) = n + (if (f a).isSome = true then 0 else 1) := by
      by_cases hs : (f a).isSome = true
      · rw [if_pos hs, if_pos hs]; rfl
      · rw [if_neg hs, if_neg hs]
    rw [e1]; omega⟩
  obtain ⟨es, clock, hb, F, hn1, hDe⟩ := hD1
  refine ⟨D.put (.int q a) (.held v), ⟨es, clock, hb, F, ?_, hDe⟩, hf'⟩
  have : Maps.size (D.put (.int q a) (.held v)) = es.size := by rw [hDe]; simp [Maps.size, length_sorted]
  rw [← this]
  refine Nat.le_trans hp ?_
  by_cases hs : (f a).isSome = true
  · rw [if_pos hs, if_pos hs]; exact hsz
  · rw [if_neg hs, if_neg hs]; omega
end
section
variable {P : Program} {ops : Array Oper} {rest : List Oper} {o : Oper} {a : Act} {Q : Exit → Act → World → Prop} {W : World} {k e t : TypeId} {q : IntKind} {b : Nat} {f : Int → Option Value}
theorem few_put (hg : o.guard = none) {m x y : Operand} (hop : o.op = Op.mapUpdate t m x y) (hk : P.underlying k = some (.int q)) (ht : P.underlying t = some (.map k e))
    (h : MapFew P k q W b f) (hm : a.eval m = .map (some b)) (i : Int) (hx : a.eval x = .int q i) (hi : (Lit.int q i).wf = true) (h0 : 0 ≤ i) (h1 : i < 10000) (v : Value) (hv : a.eval y = v)
    (hK : ∀ w1, MapFew P k q w1 b (fun x => if x = i then some v else f x) → W.grownBy w1 (some b) → wpList P ops Q rest (a.put o.dst undef) w1) : wpList P ops Q (o :: rest) a W := by
  refine wpList_plain hg fun K' hK' => ?_
  obtain ⟨w1, hrun, h1, h2⟩ := h.put hk ht hi h0 h1 v
  unfold Oper.wp
  simp [execOp, hop, hm, hx, hv, hrun, Result.andThen]
  exact hK' _ _ (hK w1 h1 h2)
theorem few_put_step {K : Act → World → Prop} {N : Option Tmp} (hw : Region.wanted o (yielded ops a.tmps) = true) (hN : o.dst = N) {m x y : Operand} (hop : o.op = Op.mapUpdate t m x y) (hk : P.underlying k = some (.int q)) (ht : P.underlying t = some (.map k e))
    (h : MapFew P k q W b f) (hm : a.eval m = .map (some b)) (i : Int) (hx : a.eval x = .int q i) (hi : (Lit.int q i).wf = true) (h0 : 0 ≤ i) (h1 : i < 10000) (v : Value) (hv : a.eval y = v)
    (hK : ∀ w1, MapFew P k q w1 b (fun x => if x = i then some v else f x) → W.grownBy w1 (some b) → K (a.put N undef) w1) : if Region.wanted o (yielded ops a.tmps) = true then Oper.wp P o a W K Q else K (a.put N undef) W := by
  rw [if_pos hw]
  subst hN
  obtain ⟨w1, hrun, h2, h3⟩ := h.put hk ht hi h0 h1 v
  unfold Oper.wp
  simp [execOp, hop, hm, hx, hv, hrun, Result.andThen]
  exact hK w1 h2 h3
end
end Go.Proofs.Ytehkhbnhmehobaa.P
namespace Go.Proofs.Ytehkhbnhmehobaa.P
open Go.RowKit Go.Proofs.YtehkhbnhmehobaaW.PrintWords Go.Proofs.YtehkhbnhmehobaaW.PrintLast Go.Proofs.YtehkhbnhmehobaaW.PrintMore
set_option linter.unusedVariables false
set_option linter.unusedSimpArgs false
attribute [local go_sem] max2_int min2_int max_two min_two
def callF (k : Nat) (b : S32) : Option (Int × Int × Bool × Int) := subprogram_Call.f k b.f0 b.f1 b.f2
theorem callF_mono (k : Nat) (b : S32) : LeO (callF k b) (callF (k + 1) b) := subprogram_Call.mono _ _ _ k
def mx (x y : Int) : Int := if x < y then y else x
def mn (x y : Int) : Int := if y < x then y else x
def IN (n : Int) : Prop := 1 ≤ n ∧ n ≤ 9999
instance (n : Int) : Decidable (IN n) := by unfold IN; infer_instance
theorem IN.wf {n : Int} (h : IN n) : (Lit.int .i64 n).wf = true := WalkArith.wf_i64 (by unfold IN at h; omega)
def ExpIs (W : World) (gx g0 g1 g2 g3 g4 : Nat) : Prop := W.heap[gx]? = some (.cells #[.map (some g0), .map (some g1), .map (some g2), .map (some g3), .map (some g4)] 139 (0, 0))
def IntMap (W : World) (g : Nat) (f : Int → Int) : Prop := ∃ F, MapFew Try.prog 2 .i64 W g F ∧ ∀ y, (F y).getD (.int .i64 0) = .int .i64 (f y)
theorem IntMap.below {w w1 : World} {g : Nat} {f : Int → Int} (h : IntMap w g f) (hb : Below w.heap.size w w1) : IntMap w1 g f := by
  obtain ⟨F, h, hf⟩ := h
  exact ⟨F, h.below hb, hf⟩
def sumL (k : Nat) (dp sz : Int → Int) : List S32 → Int → Int → Option (Int × Int)
  | [], d, s => some (d, s)
  | b :: l, d, s => (callF k b).bind fun r => if r.2.2.1 = true then (if IN r.1 then sumL k dp sz l (mx d (wrap64 (1 + dp r.1))) (mn (wrap64 (s + mn (wrap64 (r.2.1 * sz r.1)) 20001)) 20001) else none) else sumL k dp sz l d (mn (wrap64 (s + 1)) 20001)
theorem sum_step {k : Nat} {dp sz : Int → Int} {l : List S32} {j : Nat} (h : j < l.length) {d s : Int} {r : Int × Int} (hr : sumL k dp sz (l.drop j) d s = some r) :
    ∃ n t is e, callF k l[j] = some (n, t, is, e) ∧ (is = true → IN n ∧ sumL k dp sz (l.drop (j + 1)) (mx d (wrap64 (1 + dp n))) (mn (wrap64 (s + mn (wrap64 (t * sz n)) 20001)) 20001) = some r) ∧ (is = false → sumL k dp sz (l.drop (j + 1)) d (mn (wrap64 (s + 1)) 20001) = some r) := by
  rw [List.drop_eq_getElem_cons h, sumL] at hr
  obtain ⟨⟨n, t, is, e⟩, h1, h2⟩ := Option.bind_eq_some_iff.mp hr
  refine ⟨n, t, is, e, h1, fun hi => ?_, fun hi => ?_⟩
  · subst hi
    simp only [if_true] at h2
    by_cases hn : IN n
    · rw [if_pos hn] at h2; exact ⟨hn, h2⟩
    · rw [if_neg hn] at h2; cases h2
  · subst hi
    simpa using h2
theorem zero_i64 (w : World) : (zeroValue 2).run Try.prog w = .ok (.int .i64 0) w := by kernel_rfl
set_option maxHeartbeats 4000000 in
set_option maxRecDepth 100000 in
theorem sum_calls (k : Nat) (gx g0 g1 g2 g3 g4 : Nat) (dp sz : Int → Int) (A0 : Option Addr) (c0 : Nat) (l : List (S32)) (r1 r2 : Int) (w : World) (hx : ExpIs w gx g0 g1 g2 g3 g4) (h2 : IntMap w g2 dp) (h3 : IntMap w g3 sz)
    (hr0 : Kd.C k32 w A0 l.length l) (hc0 : l.length ≤ c0) (h : sumL k dp sz l 0 0 = some (r1, r2)) :
    Calls Try.prog 95 #[.pointer (some ⟨gx, 0, none⟩), .slice A0 l.length c0] w fun e w' => e = .returned (.tuple #[.int .i64 r1, .int .i64 r2]) ∧ Below w.heap.size w w' := by
  have hu32 := Try.underlying32
  have hu139 := Try.underlying139
  have HR := Aside0.mk hr0
  have HM := Aside0.mk (Kd.C_max hr0)
  have H := Aside0.mk h
  have HX := Aside0.mk hx
  have H2 := Aside0.mk h2
  have H3 := Aside0.mk h3
  clear hr0 hc0 h hx h2 h3
  go_enter Try.func95, Try.ntmps95
  go_wp2
  go_loopw [16, 6, 7] (fun i vd vs w' => ∃ (j : Nat) (d s : Int), i = .int .i64 j ∧ vd = .int .i64 d ∧ vs = .int .i64 s ∧ Aside0 (j ≤ l.length) ∧ Aside0 (sumL k dp sz (l.drop j) d s = some (r1, r2)) ∧ Aside0 (Below w.heap.size w w')) (fun i _ _ _ => l.length - (intOf i).toNat)
  case atStart => exact ⟨0, 0, 0, rfl, rfl, rfl, ⟨Nat.zero_le _⟩, ⟨H.out⟩, ⟨Below.refl _ _⟩⟩
  case round =>
    obtain ⟨j, d, s, rfl, rfl, rfl, HJ, HI, HB⟩ := hrel
    clear H
    by_cases hlt : j < l.length
    · obtain ⟨ad, A1, c1, e, hx0, hx1, hx2, hl1, hk1⟩ := at_T32 (Kd.C_below HR.out HB.out) (j : Int) (by omega) (by omega)
      cases e
      have hrd : rd_T32 l (j : Int) = l[j] := by simp [rd_T32, hlt]
      rw [hrd] at hx0 hx1 hx2 hl1 hk1
      obtain ⟨n, t, is, e, hcl, hyes, hno⟩ := sum_step hlt HI.out
      have HCL := Aside0.mk (show subprogram_Call.f k l[j].f0 l[j].f1 l[j].f2 = some (n, t, is, e) from hcl)
      have HYES := Aside0.mk hyes
      have HNO := Aside0.mk hno
      have HL1 := Aside0.mk hl1
      have HK1 := Aside0.mk hk1
      clear hrd hcl hyes hno hl1 hk1
      generalize l[j] = x at *
      simp only [Int.toNat_natCast] at hx0 hx1 hx2
      have hlt' : decide ((j : Int) < (l.length : Int)) = true := by simp; omega
      cases is with
      | true =>
        obtain ⟨hin, hnext⟩ := HYES.out rfl
        have HIN := Aside0.mk hin
        have HN := Aside0.mk hnext
        clear hin hnext HNO
        go_wp2_with (first | (go_at_call 25; (with_reducible refine (subprogram_Call.calls k x.f0 A1 c1 x.f1 x.f2 n t true e _ (Kd.C_alloc HK1.out _) HL1.out HCL.out).mono ?_); rintro e2 w2 ⟨rfl, hb2⟩; have HB2 := Aside0.mk (below_then (below_alloc HB.out _) (Nat.le_trans HB.out.size (below_alloc (Below.refl _ _) _).size) hb2); have HXX := Aside0.mk (blk_below HX.out HB2.out); have HZ2 := Aside0.mk (H2.out.below HB2.out); have HZ3 := Aside0.mk (H3.out.below HB2.out); clear hb2; have hq2 : w2.cell? ⟨gx, 2, none⟩ = some (.map (some g2)) := (blk_cell HXX.out 2).trans rfl; have hq3 : w2.cell? ⟨gx, 3, none⟩ = some (.map (some g3)) := (blk_cell HXX.out 3).trans rfl; obtain ⟨F2, ⟨n2, m2, _⟩, f2⟩ := HZ2.out; obtain ⟨F3, ⟨n3, m3, _⟩, f3⟩ := HZ3.out; have HM2 := Aside0.mk m2; have HM3 := Aside0.mk m3; have HF2 := Aside0.mk f2; have HF3 := Aside0.mk f3; clear m2 m3 f2 f3) | ((with_reducible refine gate_dst (N := 37) rfl ?_); refine map_look 37 rfl rfl rfl Try.underlying2 Try.underlying136 zero_int3 HM2.out rfl n rfl HIN.out.wf _ (HF2.out n) ?_) | ((with_reducible refine gate_dst (N := 47) rfl ?_); refine map_look 47 rfl rfl rfl Try.underlying2 Try.underlying137 zero_i64 HM3.out rfl n rfl HIN.out.wf _ (HF3.out n) ?_))
        go_roundw
        case rel => exact ⟨j + 1, _, _, by rw [wrap_succ hlt HM.out], rfl, rfl, ⟨by omega⟩, ⟨HN.out⟩, ⟨HB2.out⟩⟩
        case measure => rw [wrap_succ hlt HM.out]; simp only [intOf, Int.toNat_natCast]; omega
      | false =>
        have HN := Aside0.mk (HNO.out rfl)
        clear HYES
        go_wp2_with (go_at_call 25; (with_reducible refine (subprogram_Call.calls k x.f0 A1 c1 x.f1 x.f2 n t false e _ (Kd.C_alloc HK1.out _) HL1.out HCL.out).mono ?_); rintro e2 w2 ⟨rfl, hb2⟩; have HB2 := Aside0.mk (below_then (below_alloc HB.out _) (Nat.le_trans HB.out.size (below_alloc (Below.refl _ _) _).size) hb2); clear hb2)
        go_roundw
        case rel => exact ⟨j + 1, _, _, by rw [wrap_succ hlt HM.out], rfl, rfl, ⟨by omega⟩, ⟨HN.out⟩, ⟨HB2.out⟩⟩
        case measure => rw [wrap_succ hlt HM.out]; simp only [intOf, Int.toNat_natCast]; omega
    · have hlt' : decide ((j : Int) < (l.length : Int)) = false := by simp; omega
      have hI := HI.out
      rw [List.drop_eq_nil_of_le (by omega)] at hI
      simp only [sumL, Option.some.injEq, Prod.mk.injEq] at hI
      obtain ⟨rfl, rfl⟩ := hI
      go_wp2
      refine bodyPost_ret (results_list (rs := [.tmp 4, .tmp 5]) rfl (by simp) (.tmp (.tmp .nil))) rfl ?_
      exact ⟨rfl, HB.out⟩
end Go.Proofs.Ytehkhbnhmehobaa.P
namespace Go.Proofs.Ytehkhbnhmehobaa.P
open Go.RowKit Go.Proofs.YtehkhbnhmehobaaW.PrintWords Go.Proofs.YtehkhbnhmehobaaW.PrintLast Go.Proofs.YtehkhbnhmehobaaW.PrintMore
set_option linter.unusedVariables false
set_option linter.unusedSimpArgs false
def SubMap (w0 W : World) (g : Nat) (subs : Int → List S32) : Prop := ∃ F, MapFew Try.prog 2 .i64 W g F ∧ ∀ y, ∃ A c, (F y).getD (.slice none 0 0) = .slice A (subs y).length c ∧ (subs y).length ≤ c ∧ Kd.C k32 w0 A (subs y).length (subs y)
abbrev St3 := (Int → Int) × (Int → Int) × (Int → Int)
structure ExpW (w0 W : World) (gx g0 g1 g2 g3 g4 : Nat) (subs : Int → List S32) (S : St3) : Prop where
  below : Below w0.heap.size w0 W
  exp : ExpIs W gx g0 g1 g2 g3 g4
  sub : SubMap w0 W g0 subs
  m1 : IntMap W g1 S.1
  m2 : IntMap W g2 S.2.1
  m3 : IntMap W g3 S.2.2
  m4 : MapFew Try.prog 2 .i64 W g4 (fun _ => none)
  ge1 : w0.heap.size ≤ g1
  ge2 : w0.heap.size ≤ g2
  ge3 : w0.heap.size ≤ g3
  ge4 : w0.heap.size ≤ g4
  n01 : g0 ≠ g1
  n02 : g0 ≠ g2
  n03 : g0 ≠ g3
  n04 : g0 ≠ g4
  n12 : g1 ≠ g2
  n13 : g1 ≠ g3
  n14 : g1 ≠ g4
  n23 : g2 ≠ g3
  n24 : g2 ≠ g4
  n34 : g3 ≠ g4
section
variable {w0 W W' : World} {gx g0 g1 g2 g3 g4 : Nat} {subs : Int → List S32} {S : St3}
theorem IntMap.kept {row : Option Nat} {g : Nat} {f : Int → Int} (h : IntMap W g f) (hg : W.grownBy W' row) (hne : some g ≠ row) : IntMap W' g f := by
  obtain ⟨F, h, hf⟩ := h
  exact ⟨F, h.kept hg hne, hf⟩
theorem SubMap.kept {row : Option Nat} {g : Nat} (h : SubMap w0 W g subs) (hg : W.grownBy W' row) (hne : some g ≠ row) : SubMap w0 W' g subs := by
  obtain ⟨F, h, hf⟩ := h
  exact ⟨F, h.kept hg hne, hf⟩
theorem IntMap.ne_exp {g : Nat} {f : Int → Int} (h : IntMap W g f) (hx : ExpIs W gx g0 g1 g2 g3 g4) : some gx ≠ some g := by
  obtain ⟨F, ⟨n, h, _⟩, _⟩ := h
  intro e
  injection e with e
  exact h.ne hx e.symm
theorem ExpW.step (h : ExpW w0 W gx g0 g1 g2 g3 g4 subs S) (hb : Below W.heap.size W W') : ExpW w0 W' gx g0 g1 g2 g3 g4 subs S :=
  { h with below := below_then h.below h.below.size hb, exp := blk_below h.exp hb, sub := by obtain ⟨F, hm, hf⟩ := h.sub; exact ⟨F, hm.below hb, hf⟩, m1 := h.m1.below hb, m2 := h.m2.below hb, m3 := h.m3.below hb, m4 := h.m4.below hb }
theorem below_row {g : Nat} (h : Below w0.heap.size w0 W) (hg : W.grownBy W' (some g)) (hge : w0.heap.size ≤ g) : Below w0.heap.size w0 W' := h.grown hg h.size (fun k_ e_ => by injection e_ with e_; rw [← e_]; exact hge)
theorem ExpIs.kept {g : Nat} (h : ExpIs W gx g0 g1 g2 g3 g4) (hg : W.grownBy W' (some g)) (hne : some gx ≠ some g) : ExpIs W' gx g0 g1 g2 g3 g4 := (hg.block gx (blk_lt h) hne).trans h
theorem someNe {a b : Nat} (h : a ≠ b) : some a ≠ some b := fun e => h (by injection e)
theorem ExpW.put1 (h : ExpW w0 W gx g0 g1 g2 g3 g4 subs S) {f : Int → Int} (hg : W.grownBy W' (some g1)) (hm : IntMap W' g1 f) : ExpW w0 W' gx g0 g1 g2 g3 g4 subs (f, S.2.1, S.2.2) :=
  { h with below := below_row h.below hg h.ge1, exp := h.exp.kept hg (h.m1.ne_exp h.exp), sub := h.sub.kept hg (someNe h.n01), m1 := hm, m2 := h.m2.kept hg (someNe h.n12.symm), m3 := h.m3.kept hg (someNe h.n13.symm), m4 := h.m4.kept hg (someNe h.n14.symm) }
theorem ExpW.put2 (h : ExpW w0 W gx g0 g1 g2 g3 g4 subs S) {f : Int → Int} (hg : W.grownBy W' (some g2)) (hm : IntMap W' g2 f) : ExpW w0 W' gx g0 g1 g2 g3 g4 subs (S.1, f, S.2.2) :=
  { h with below := below_row h.below hg h.ge2, exp := h.exp.kept hg (h.m2.ne_exp h.exp), sub := h.sub.kept hg (someNe h.n02), m1 := h.m1.kept hg (someNe h.n12), m2 := hm, m3 := h.m3.kept hg (someNe h.n23.symm), m4 := h.m4.kept hg (someNe h.n24.symm) }
theorem ExpW.put3 (h : ExpW w0 W gx g0 g1 g2 g3 g4 subs S) {f : Int → Int} (hg : W.grownBy W' (some g3)) (hm : IntMap W' g3 f) : ExpW w0 W' gx g0 g1 g2 g3 g4 subs (S.1, S.2.1, f) :=
  { h with below := below_row h.below hg h.ge3, exp := h.exp.kept hg (h.m3.ne_exp h.exp), sub := h.sub.kept hg (someNe h.n03), m1 := h.m1.kept hg (someNe h.n13), m2 := h.m2.kept hg (someNe h.n23), m3 := hm, m4 := h.m4.kept hg (someNe h.n34.symm) }
end
def upd (f : Int → Int) (n v : Int) : Int → Int := fun y => if y = n then v else f y
theorem upd_get {F : Int → Option Value} {f : Int → Int} (h : ∀ y, (F y).getD (.int .i64 0) = .int .i64 (f y)) (n v : Int) : ∀ y, ((if y = n then some (Value.int .i64 v) else F y).getD (.int .i64 0)) = .int .i64 (upd f n v y) := by
  intro y
  unfold upd
  by_cases hy : y = n <;> simp [hy, h]
def measL (rec_ : Int → St3 → Option (Bool × St3)) (kc : Nat) : List S32 → St3 → Option (Bool × St3)
  | [], S => some (true, S)
  | b :: l, S => (callF kc b).bind fun r => if r.2.2.1 = true then (if IN r.1 then (rec_ r.1 S).bind fun m => if m.1 = true then measL rec_ kc l m.2 else some (false, m.2) else none) else measL rec_ kc l S
def measF (subs : Int → List S32) (kc : Nat) : Nat → Int → St3 → Option (Bool × St3)
  | 0, _, _ => none
  | k + 1, n, S => if S.1 n = 1 then some (false, S) else if S.1 n = 2 then some (true, S) else
    (measL (measF subs kc k) kc (subs n) (upd S.1 n 1, S.2.1, S.2.2)).bind fun m => if m.1 = true then (sumL kc m.2.2.1 m.2.2.2 (subs n) 0 0).bind fun s => some (true, (upd m.2.1 n 2, upd m.2.2.1 n s.1, upd m.2.2.2 n s.2)) else some (false, m.2)
theorem meas_step {rec_ : Int → St3 → Option (Bool × St3)} {kc : Nat} {l : List S32} {j : Nat} (h : j < l.length) {S : St3} {r : Bool × St3} (hr : measL rec_ kc (l.drop j) S = some r) :
    ∃ n t is e, callF kc l[j] = some (n, t, is, e) ∧ (is = true → IN n ∧ ∃ b S2, rec_ n S = some (b, S2) ∧ (b = true → measL rec_ kc (l.drop (j + 1)) S2 = some r) ∧ (b = false → r = (false, S2))) ∧ (is = false → measL rec_ kc (l.drop (j + 1)) S = some r) := by
  rw [List.drop_eq_getElem_cons h, measL] at hr
  obtain ⟨⟨n, t, is, e⟩, h1, h2⟩ := Option.bind_eq_some_iff.mp hr
  refine ⟨n, t, is, e, h1, fun hi => ?_, fun hi => ?_⟩
  · subst hi
    simp only [if_true] at h2
    by_cases hn : IN n
    · rw [if_pos hn] at h2
      obtain ⟨⟨b, S2⟩, h3, h4⟩ := Option.bind_eq_some_iff.mp h2
      refine ⟨hn, b, S2, h3, fun hb => ?_, fun hb => ?_⟩
      · subst hb; simpa using h4
      · subst hb; simpa using h4.symm
    · rw [if_neg hn] at h2; cases h2
  · subst hi
    simpa using h2
theorem zero_rows (w : World) : (zeroValue 35).run Try.prog w = .ok (.slice none 0 0) w := by kernel_rfl
set_option maxHeartbeats 8000000 in
set_option maxRecDepth 100000 in
theorem measure_calls (kc : Nat) (w0 : World) (gx g0 g1 g2 g3 g4 : Nat) (subs : Int → List S32) : ∀ (kf : Nat) (n : Int) (S S' : St3) (b : Bool) (W : World), IN n → ExpW w0 W gx g0 g1 g2 g3 g4 subs S → measF subs kc kf n S = some (b, S') →
    Calls Try.prog 111 #[.pointer (some ⟨gx, 0, none⟩), .int .i64 n] W fun e W' => e = .returned (.bool b) ∧ ExpW w0 W' gx g0 g1 g2 g3 g4 subs S' := by
  intro kf
  induction kf with
  | zero => intro n S S' b W hn hE h; simp [measF] at h
  | succ kf ih =>
    intro n S S' b W hn hE h
    have IH := Aside0.mk ih
    clear ih
    rw [measF] at h
    have hu139 := Try.underlying139
    have hu32 := Try.underlying32
    have hq1 : W.cell? ⟨gx, 1, none⟩ = some (.map (some g1)) := (blk_cell hE.exp 1).trans rfl
    have HE := Aside0.mk hE
    have HN := Aside0.mk hn
    obtain ⟨F1, fw1, f1⟩ := hE.m1
    have FW1 := Aside0.mk fw1
    obtain ⟨q1, m1, _⟩ := fw1
    have M1 := Aside0.mk m1
    have F1H := Aside0.mk f1
    clear m1 f1 hE hn
    by_cases c1 : S.1 n = 1
    · rw [if_pos c1] at h
      simp only [Option.some.injEq, Prod.mk.injEq] at h
      obtain ⟨rfl, rfl⟩ := h
      have t1 : (S.1 n == 1) = true := beq_iff_eq.mpr c1
      clear c1
      go_enter Try.func111, Try.ntmps111
      go_wp2_with ((with_reducible refine gate_dst (N := 16) rfl ?_); refine map_look 16 rfl rfl rfl Try.underlying2 Try.underlying136 zero_int3 M1.out rfl n rfl HN.out.wf _ (F1H.out n) ?_)
      go_ret
      exact ⟨rfl, HE.out⟩
    · rw [if_neg c1] at h
      have t1 : (S.1 n == 1) = false := beq_eq_false_iff_ne.mpr c1
      clear c1
      by_cases c2 : S.1 n = 2
      · rw [if_pos c2] at h
        simp only [Option.some.injEq, Prod.mk.injEq] at h
        obtain ⟨rfl, rfl⟩ := h
        have t2 : (S.1 n == 2) = true := beq_iff_eq.mpr c2
        clear c2
        go_enter Try.func111, Try.ntmps111
        go_wp2_with ((with_reducible refine gate_dst (N := 16) rfl ?_); refine map_look 16 rfl rfl rfl Try.underlying2 Try.underlying136 zero_int3 M1.out rfl n rfl HN.out.wf _ (F1H.out n) ?_)
        go_ret
        exact ⟨rfl, HE.out⟩
      · rw [if_neg c2] at h
        have t2 : (S.1 n == 2) = false := beq_eq_false_iff_ne.mpr c2
        clear c2
        obtain ⟨m, hm, h⟩ := Option.bind_eq_some_iff.mp h
        have HM := Aside0.mk hm
        have H := Aside0.mk h
        clear hm h
        go_enter Try.func111, Try.ntmps111
        go_wp2_with (first | ((with_reducible refine gate_dst (N := 16) rfl ?_); refine map_look 16 rfl rfl rfl Try.underlying2 Try.underlying136 zero_int3 M1.out rfl n rfl HN.out.wf _ (F1H.out n) ?_) | ((with_reducible refine gate_dst (N := 31) rfl ?_); refine map_look 31 rfl rfl rfl Try.underlying2 Try.underlying135 zero_rows M0.out rfl n rfl HN.out.wf (.slice A0 (subs n).length c0) E0.out ?_) | (refine few_put rfl rfl Try.underlying2 Try.underlying136 FW1.out rfl n rfl HN.out.wf (by have := HN.out; unfold IN at this; omega) (by have := HN.out; unfold IN at this; omega) (.int .i64 1) rfl ?_; intro w1 hm1 hg1; have HE1 := Aside0.mk (ExpW.put1 (f := upd S.1 n 1) HE.out hg1 ⟨_, hm1, upd_get F1H.out n 1⟩); clear hm1 hg1; have hq0_w1 : w1.cell? ⟨gx, 0, none⟩ = some (.map (some g0)) := (blk_cell HE1.out.exp 0).trans rfl; obtain ⟨F0, ⟨q0, m0, _⟩, f0⟩ := HE1.out.sub; obtain ⟨A0, c0, e0, hl0, hC0⟩ := f0 n; have M0 := Aside0.mk m0; have E0 := Aside0.mk e0; have HL0 := Aside0.mk hl0; have HC0 := Aside0.mk hC0; clear m0 f0 e0 hl0 hC0))
        have HMX := Aside0.mk (Kd.C_max HC0.out)
        go_loopw [33] (fun i w' => ∃ (j : Nat) (S2 : St3), i = .int .i64 j ∧ Aside0 (j ≤ (subs n).length) ∧ Aside0 (measL (measF subs kc kf) kc ((subs n).drop j) S2 = some m) ∧ Aside0 (ExpW w0 w' gx g0 g1 g2 g3 g4 subs S2)) (fun i _ => (subs n).length - (intOf i).toNat)
        case atStart => exact ⟨0, _, rfl, ⟨Nat.zero_le _⟩, ⟨HM.out⟩, ⟨HE1.out⟩⟩
        case round =>
          obtain ⟨j, S2, rfl, HJ, HI, HE2⟩ := hrel
          clear HM HE HE1 M0 M1 FW1 F1H E0 hq1 hq0_w1
          by_cases hlt : j < (subs n).length
          · obtain ⟨ad, A1, c1, e, hx0, hx1, hx2, hl1, hk1⟩ := at_T32 (Kd.C_below HC0.out HE2.out.below) (j : Int) (by omega) (by omega)
            cases e
            have hrd : rd_T32 (subs n) (j : Int) = (subs n)[j] := by simp [rd_T32, hlt]
            rw [hrd] at hx0 hx1 hx2 hl1 hk1
            obtain ⟨nn, t, is, e, hcl, hyes, hno⟩ := meas_step hlt HI.out
            have HCL := Aside0.mk (show subprogram_Call.f kc (subs n)[j].f0 (subs n)[j].f1 (subs n)[j].f2 = some (nn, t, is, e) from hcl)
            have HYES := Aside0.mk hyes
            have HNO := Aside0.mk hno
            have HL1 := Aside0.mk hl1
            have HK1 := Aside0.mk hk1
            clear hrd hcl hyes hno hl1 hk1
            generalize (subs n)[j] = x at *
            simp only [Int.toNat_natCast] at hx0 hx1 hx2
            have hlt' : decide ((j : Int) < ((subs n).length : Int)) = true := by simp; omega
            cases is with
            | true =>
              obtain ⟨hin, bb, S3, hr, hy, hnn⟩ := HYES.out rfl
              have HIN := Aside0.mk hin
              have HR := Aside0.mk hr
              have HY := Aside0.mk hy
              have HNN := Aside0.mk hnn
              clear hin hr hy hnn HNO HYES
              cases bb with
              | true =>
                have HY2 := Aside0.mk (HY.out rfl)
                go_wp2_with (first | (go_at_call 25; (with_reducible refine (subprogram_Call.calls kc x.f0 A1 c1 x.f1 x.f2 nn t true e _ (Kd.C_alloc HK1.out _) HL1.out HCL.out).mono ?_); rintro e2 w2 ⟨rfl, hb2⟩; have HE3 := Aside0.mk (HE2.out.step (below_then (below_alloc (Below.refl _ _) _) (below_alloc (Below.refl _ _) _).size hb2)); clear hb2) | (go_at_call 111; (with_reducible refine (IH.out nn S2 S3 true _ HIN.out HE3.out HR.out).mono ?_); rintro e3 w3 ⟨rfl, he4⟩; have HE4 := Aside0.mk he4; clear he4))
                go_roundw
                case rel => exact ⟨j + 1, S3, by rw [wrap_succ hlt HMX.out], ⟨by omega⟩, ⟨HY2.out⟩, ⟨HE4.out⟩⟩
                case measure => rw [wrap_succ hlt HMX.out]; simp only [intOf, Int.toNat_natCast]; omega
              | false =>
                have hmv := HNN.out rfl
                have HH := H.out
                rw [hmv] at HH
                simp only [Bool.false_eq_true, if_false, Option.some.injEq, Prod.mk.injEq] at HH
                obtain ⟨rfl, rfl⟩ := HH
                go_wp2_with (first | (go_at_call 25; (with_reducible refine (subprogram_Call.calls kc x.f0 A1 c1 x.f1 x.f2 nn t true e _ (Kd.C_alloc HK1.out _) HL1.out HCL.out).mono ?_); rintro e2 w2 ⟨rfl, hb2⟩; have HE3 := Aside0.mk (HE2.out.step (below_then (below_alloc (Below.refl _ _) _) (below_alloc (Below.refl _ _) _).size hb2)); clear hb2) | (go_at_call 111; (with_reducible refine (IH.out nn S2 S3 false _ HIN.out HE3.out HR.out).mono ?_); rintro e3 w3 ⟨rfl, he4⟩; have HE4 := Aside0.mk he4; clear he4))
                go_ret
                exact ⟨rfl, HE4.out⟩
            | false =>
              have HY2 := Aside0.mk (HNO.out rfl)
              clear HYES
              go_wp2_with (go_at_call 25; (with_reducible refine (subprogram_Call.calls kc x.f0 A1 c1 x.f1 x.f2 nn t false e _ (Kd.C_alloc HK1.out _) HL1.out HCL.out).mono ?_); rintro e2 w2 ⟨rfl, hb2⟩; have HE3 := Aside0.mk (HE2.out.step (below_then (below_alloc (Below.refl _ _) _) (below_alloc (Below.refl _ _) _).size hb2)); clear hb2)
              go_roundw
              case rel => exact ⟨j + 1, S2, by rw [wrap_succ hlt HMX.out], ⟨by omega⟩, ⟨HY2.out⟩, ⟨HE3.out⟩⟩
              case measure => rw [wrap_succ hlt HMX.out]; simp only [intOf, Int.toNat_natCast]; omega
          · have hlt' : decide ((j : Int) < ((subs n).length : Int)) = false := by simp; omega
            have hI := HI.out
            rw [List.drop_eq_nil_of_le (by omega)] at hI
            simp only [measL, Option.some.injEq] at hI
            subst hI
            have HH := H.out
            simp only [if_true] at HH
            obtain ⟨s, hs, HH⟩ := Option.bind_eq_some_iff.mp HH
            simp only [Option.some.injEq, Prod.mk.injEq] at HH
            obtain ⟨rfl, rfl⟩ := HH
            obtain ⟨F1, fw1, f1⟩ := HE2.out.m1
            have FW1 := Aside0.mk fw1
            have F1H := Aside0.mk f1
            clear fw1 f1
            have hq1 : wr.cell? ⟨gx, 1, none⟩ = some (.map (some g1)) := (blk_cell HE2.out.exp 1).trans rfl
            have HS := Aside0.mk hs
            clear hs
            go_wp2_with (refine few_put rfl rfl Try.underlying2 Try.underlying136 FW1.out rfl n rfl HN.out.wf (by have := HN.out; unfold IN at this; omega) (by have := HN.out; unfold IN at this; omega) (.int .i64 2) rfl ?_; intro w5 hm5 hg5; have HE5 := Aside0.mk (ExpW.put1 (f := upd S2.1 n 2) HE2.out hg5 ⟨_, hm5, upd_get F1H.out n 2⟩); clear hm5 hg5)
            clear FW1 F1H HE2 hq1
            obtain ⟨F0, ⟨q0, m0, _⟩, f0⟩ := HE5.out.sub
            obtain ⟨A2, c2_, e2_, hl2, hC2⟩ := f0 n
            have HL2 := Aside0.mk hl2
            have HC2 := Aside0.mk hC2
            have E2 := Aside0.mk e2_
            clear hl2 hC2 f0 e2_
            refine start_ (n := 23) (S := fun w' => w'.cell? ⟨gx, 0, none⟩ = some (.map (some g0)) ∧ w'.cell? ⟨gx, 2, none⟩ = some (.map (some g2)) ∧ w'.cell? ⟨gx, 3, none⟩ = some (.map (some g3)) ∧ MapIs Try.prog 2 .i64 w' g0 q0 F0) (ds := []) #[false, false, false, false, false, false, false, false, false, false, false, false, false, false, false, false, false, false, false, false, false, false, false] (by kernel_rfl) rfl rfl ⟨(blk_cell HE5.out.exp 0).trans rfl, (blk_cell HE5.out.exp 2).trans rfl, (blk_cell HE5.out.exp 3).trans rfl, m0.drew⟩ (fun hHeld => ?_)
            have HE6 := Aside0.mk (HE5.out.step (below_drew (Below.refl _ _)))
            clear HE5 m0
            generalize w5.drew = w6 at HE6 hHeld ⊢
            refine pure_ (i := 0) (N := some 58) (v := ?_) (a' := ?_) #[true, false, false, false, false, false, false, false, false, false, false, false, false, false, false, false, false, false, false, false, false, false, false] rfl rfl (by kernel_rfl) (fun _ _ _ h => h) (Or.inl ⟨by rfl, ?_⟩) ?_ ?_
            rotate_left
            · intro w'
              go_simp
              with_reducible rfl
            rotate_left
            · simp only [Act.put, List.setIfInBounds_toArray, List.set_cons_zero, List.set_cons_succ, i64_w, i32_w]
              rfl
            refine pure_ (i := 1) (N := some 59) (v := ?_) (a' := ?_) #[true, true, false, false, false, false, false, false, false, false, false, false, false, false, false, false, false, false, false, false, false, false, false] rfl rfl (by kernel_rfl) (fun _ _ _ h => h) (Or.inl ⟨by rfl, ?_⟩) ?_ ?_
            rotate_left
            · intro w'
              go_simp
              with_reducible rfl
            rotate_left
            · simp only [Act.put, List.setIfInBounds_toArray, List.set_cons_zero, List.set_cons_succ, i64_w, i32_w]
              rfl
            refine pure_ (i := 2) (N := some 60) (v := ?_) (a' := ?_) #[true, true, true, false, false, false, false, false, false, false, false, false, false, false, false, false, false, false, false, false, false, false, false] rfl rfl (by kernel_rfl) (fun _ _ _ h => h) (Or.inl ⟨by rfl, ?_⟩) ?_ ?_
            rotate_left
            · intro w'
              go_simp
              with_reducible rfl
            rotate_left
            · simp only [Act.put, List.setIfInBounds_toArray, List.set_cons_zero, List.set_cons_succ, i64_w, i32_w]
              rfl
            refine pure_ (i := 4) (N := some 62) (v := ?_) (a' := ?_) #[true, true, true, false, true, false, false, false, false, false, false, false, false, false, false, false, false, false, false, false, false, false, false] rfl rfl (by kernel_rfl) (fun _ _ _ h => h) (Or.inl ⟨by rfl, ?_⟩) ?_ ?_
            rotate_left
            · intro w'
              go_simp
              with_reducible rfl
            rotate_left
            · simp only [Act.put, List.setIfInBounds_toArray, List.set_cons_zero, List.set_cons_succ, i64_w, i32_w]
              rfl
            refine pure_ (i := 5) (N := some 63) (v := ?_) (a' := ?_) #[true, true, true, false, true, true, false, false, false, false, false, false, false, false, false, false, false, false, false, false, false, false, false] rfl rfl (by kernel_rfl) (fun _ _ _ h => h) (Or.inl ⟨by rfl, ?_⟩) ?_ ?_
            rotate_left
            · intro w'
              go_simp
              with_reducible rfl
            rotate_left
            · simp only [Act.put, List.setIfInBounds_toArray, List.set_cons_zero, List.set_cons_succ, i64_w, i32_w]
              rfl
            refine pure_ (i := 6) (N := some 64) (v := ?_) (a' := ?_) #[true, true, true, false, true, true, true, false, false, false, false, false, false, false, false, false, false, false, false, false, false, false, false] rfl rfl (by kernel_rfl) (fun _ _ _ h => h) (Or.inl ⟨by rfl, ?_⟩) ?_ ?_
            rotate_left
            · intro w'
              go_simp
              with_reducible rfl
            rotate_left
            · simp only [Act.put, List.setIfInBounds_toArray, List.set_cons_zero, List.set_cons_succ, i64_w, i32_w]
              rfl
            refine pure_ (i := 7) (N := some 65) (v := ?_) (a' := ?_) #[true, true, true, false, true, true, true, true, false, false, false, false, false, false, false, false, false, false, false, false, false, false, false] rfl rfl (by kernel_rfl) (fun _ _ _ h => h) (Or.inl ⟨by rfl, ?_⟩) ?_ ?_
            rotate_left
            · intro w'
              go_simp
              with_reducible rfl
            rotate_left
            · simp only [Act.put, List.setIfInBounds_toArray, List.set_cons_zero, List.set_cons_succ, i64_w, i32_w]
              rfl
            refine pure_ (i := 9) (N := some 67) (v := ?_) (a' := ?_) #[true, true, true, false, true, true, true, true, false, true, false, false, false, false, false, false, false, false, false, false, false, false, false] rfl rfl (by kernel_rfl) (fun _ _ _ h => h) (Or.inl ⟨by rfl, ?_⟩) ?_ ?_
            rotate_left
            · intro w'
              go_simp
              with_reducible rfl
            rotate_left
            · simp only [Act.put, List.setIfInBounds_toArray, List.set_cons_zero, List.set_cons_succ, i64_w, i32_w]
              rfl
            refine pure_ (i := 10) (N := some 68) (v := ?_) (a' := ?_) #[true, true, true, false, true, true, true, true, false, true, true, false, false, false, false, false, false, false, false, false, false, false, false] rfl rfl (by kernel_rfl) (fun _ _ _ h => h) (Or.inl ⟨by rfl, ?_⟩) ?_ ?_
            rotate_left
            · intro w'
              go_simp
              with_reducible rfl
            rotate_left
            · simp only [Act.put, List.setIfInBounds_toArray, List.set_cons_zero, List.set_cons_succ, i64_w, i32_w]
              rfl
            refine pure_ (i := 11) (N := some 69) (v := ?_) (a' := ?_) #[true, true, true, false, true, true, true, true, false, true, true, true, false, false, false, false, false, false, false, false, false, false, false] rfl rfl (by kernel_rfl) (fun _ _ _ h => h) (Or.inl ⟨by rfl, ?_⟩) ?_ ?_
            rotate_left
            · intro w'
              go_simp
              with_reducible rfl
            rotate_left
            · simp only [Act.put, List.setIfInBounds_toArray, List.set_cons_zero, List.set_cons_succ, i64_w, i32_w]
              rfl
            refine pure_ (i := 12) (N := some 70) (v := ?_) (a' := ?_) #[true, true, true, false, true, true, true, true, false, true, true, true, true, false, false, false, false, false, false, false, false, false, false] rfl rfl (by kernel_rfl) (fun _ _ _ h => h) (Or.inl ⟨by rfl, ?_⟩) ?_ ?_
            rotate_left
            · intro w'
              go_simp
              with_reducible rfl
            rotate_left
            · simp only [Act.put, List.setIfInBounds_toArray, List.set_cons_zero, List.set_cons_succ, i64_w, i32_w]
              rfl
            refine pure_ (i := 13) (N := some 71) (v := ?_) (a' := ?_) #[true, true, true, false, true, true, true, true, false, true, true, true, true, true, false, false, false, false, false, false, false, false, false] rfl rfl (by kernel_rfl) (fun _ _ _ h => h) (Or.inl ⟨by rfl, ?_⟩) ?_ ?_
            rotate_left
            · intro w'
              go_simp
              with_reducible rfl
            rotate_left
            · simp only [Act.put, List.setIfInBounds_toArray, List.set_cons_zero, List.set_cons_succ, i64_w, i32_w]
              rfl
            refine pure_ (i := 15) (N := some 73) (v := ?_) (a' := ?_) #[true, true, true, false, true, true, true, true, false, true, true, true, true, true, false, true, false, false, false, false, false, false, false] rfl rfl (by kernel_rfl) (fun _ _ _ h => h) (Or.inl ⟨by rfl, ?_⟩) ?_ ?_
            rotate_left
            · intro w'
              go_simp
              with_reducible rfl
            rotate_left
            · simp only [Act.put, List.setIfInBounds_toArray, List.set_cons_zero, List.set_cons_succ, i64_w, i32_w]
              rfl
            refine take_ (i := 3) (N := some 61) (v := ?_) (a' := ?_) #[true, true, true, true, true, true, true, true, false, true, true, true, true, true, false, true, false, false, false, false, false, false, false] rfl rfl (by kernel_rfl) (fun _ _ _ h => h) (Or.inl ⟨by rfl, ?_⟩) hHeld ?_ ?_
            rotate_left
            · rintro w' ⟨s0, s2, s3, sM⟩
              go_simp
              with_reducible rfl
            rotate_left
            · simp only [Act.put, List.setIfInBounds_toArray, List.set_cons_zero, List.set_cons_succ, i64_w, i32_w]
              rfl
            refine take_ (i := 8) (N := some 66) (v := ?_) (a' := ?_) #[true, true, true, true, true, true, true, true, true, true, true, true, true, true, false, true, false, false, false, false, false, false, false] rfl rfl (by kernel_rfl) (fun _ _ _ h => h) (Or.inl ⟨by rfl, ?_⟩) hHeld ?_ ?_
            rotate_left
            · rintro w' ⟨s0, s2, s3, sM⟩
              go_simp
              with_reducible rfl
            rotate_left
            · simp only [Act.put, List.setIfInBounds_toArray, List.set_cons_zero, List.set_cons_succ, i64_w, i32_w]
              rfl
            refine take_ (i := 14) (N := some 72) (v := ?_) (a' := ?_) #[true, true, true, true, true, true, true, true, true, true, true, true, true, true, true, true, false, false, false, false, false, false, false] rfl rfl (by kernel_rfl) (fun _ _ _ h => h) (Or.inl ⟨by rfl, ?_⟩) hHeld ?_ ?_
            rotate_left
            · rintro w' ⟨s0, s2, s3, sM⟩
              go_simp
              with_reducible rfl
            rotate_left
            · simp only [Act.put, List.setIfInBounds_toArray, List.set_cons_zero, List.set_cons_succ, i64_w, i32_w]
              rfl
            refine take_ (i := 16) (N := some 74) (v := ?_) (a' := ?_) #[true, true, true, true, true, true, true, true, true, true, true, true, true, true, true, true, true, false, false, false, false, false, false] rfl rfl (by kernel_rfl) (fun _ _ _ h => h) (Or.inl ⟨by rfl, ?_⟩) hHeld ?_ ?_
            rotate_left
            · rintro w' ⟨s0, s2, s3, sM⟩
              have hl := sM.look (t := 135) Try.underlying2 Try.underlying135 (zero_rows w') (a := n) HN.out.wf
              rw [E2.out] at hl
              go_simp
              with_reducible rfl
            rotate_left
            · simp only [Act.put, List.setIfInBounds_toArray, List.set_cons_zero, List.set_cons_succ, i64_w, i32_w]
              rfl
            refine one_ (i := 17) (N := some 75) #[true, true, true, true, true, true, true, true, true, true, true, true, true, true, true, true, true, true, false, false, false, false, false] rfl rfl (by kernel_rfl) (by decide) (fun K hK => ?_)
            refine goes_ Try.func95 (by kernel_rfl) rfl #[.pointer (some ⟨gx, 0, none⟩), .slice A2 (subs n).length c2_] (by rfl) rfl rfl (by (try simp only [List.map_toArray, List.map_cons, List.map_nil]); first | done | rfl) ?_
            refine (sum_calls kc gx g0 g1 g2 g3 g4 S2.2.1 S2.2.2 A2 c2_ (subs n) s.1 s.2 _ HE6.out.exp HE6.out.m2 HE6.out.m3 (Kd.C_below HC2.out HE6.out.below) HL2.out HS.out).mono ?_
            rintro e7 w7 ⟨rfl, hb7⟩
            refine ⟨_, rfl, ?_⟩
            have HE7 := Aside0.mk (HE6.out.step hb7)
            have mk7 := (hHeld.2.2.2).below hb7
            clear hb7 hHeld
            refine hK.out _ _ ⟨(blk_cell HE7.out.exp 0).trans rfl, (blk_cell HE7.out.exp 2).trans rfl, (blk_cell HE7.out.exp 3).trans rfl, mk7⟩ (fun hHeld => ?_)
            clear hK K mk7
            refine norm_ (a' := ?_) ?_ ?_
            rotate_left
            · show Act.put _ (some 75) _ = _
              simp only [Act.put, List.setIfInBounds_toArray, List.set_cons_zero, List.set_cons_succ, i64_w, i32_w]
              rfl
            refine pure_ (i := 18) (N := some 57) (v := ?_) (a' := ?_) #[true, true, true, true, true, true, true, true, true, true, true, true, true, true, true, true, true, true, true, false, false, false, false] rfl rfl (by kernel_rfl) (fun _ _ _ h => h) (Or.inl ⟨by rfl, ?_⟩) ?_ ?_
            rotate_left
            · intro w'
              go_simp
              with_reducible rfl
            rotate_left
            · simp only [Act.put, List.setIfInBounds_toArray, List.set_cons_zero, List.set_cons_succ, i64_w, i32_w]
              rfl
            refine pure_ (i := 19) (N := some 76) (v := ?_) (a' := ?_) #[true, true, true, true, true, true, true, true, true, true, true, true, true, true, true, true, true, true, true, true, false, false, false] rfl rfl (by kernel_rfl) (fun _ _ _ h => h) (Or.inl ⟨by rfl, ?_⟩) ?_ ?_
            rotate_left
            · intro w'
              go_simp
              with_reducible rfl
            rotate_left
            · simp only [Act.put, List.setIfInBounds_toArray, List.set_cons_zero, List.set_cons_succ, i64_w, i32_w]
              rfl
            refine pure_ (i := 20) (N := some 77) (v := ?_) (a' := ?_) #[true, true, true, true, true, true, true, true, true, true, true, true, true, true, true, true, true, true, true, true, true, false, false] rfl rfl (by kernel_rfl) (fun _ _ _ h => h) (Or.inl ⟨by rfl, ?_⟩) ?_ ?_
            rotate_left
            · intro w'
              go_simp
              with_reducible rfl
            rotate_left
            · simp only [Act.put, List.setIfInBounds_toArray, List.set_cons_zero, List.set_cons_succ, i64_w, i32_w]
              rfl
            obtain ⟨F2, fw2, f2⟩ := HE7.out.m2
            have FW2 := Aside0.mk fw2
            have F2H := Aside0.mk f2
            clear fw2 f2
            refine one_ (i := 21) (N := none) #[true, true, true, true, true, true, true, true, true, true, true, true, true, true, true, true, true, true, true, true, true, true, false] rfl rfl (by kernel_rfl) (by decide) (fun K hK => ?_)
            refine few_put_step (by rfl) rfl rfl Try.underlying2 Try.underlying136 FW2.out rfl n rfl HN.out.wf (by have := HN.out; unfold IN at this; omega) (by have := HN.out; unfold IN at this; omega) (.int .i64 s.1) rfl ?_
            intro w8 hm_ hg_
            have HE8 := Aside0.mk (ExpW.put2 (f := upd S2.2.1 n s.1) HE7.out hg_ ⟨_, hm_, upd_get F2H.out n s.1⟩)
            have mk8 := (hHeld.2.2.2).kept hg_ (someNe HE7.out.n02)
            clear hm_ hg_ hHeld
            refine hK.out _ _ ⟨(blk_cell HE8.out.exp 0).trans rfl, (blk_cell HE8.out.exp 2).trans rfl, (blk_cell HE8.out.exp 3).trans rfl, mk8⟩ (fun hHeld => ?_)
            clear hK K mk8
            refine norm_ (a' := ?_) ?_ ?_
            rotate_left
            · show Act.put _ none _ = _
              rfl
            obtain ⟨F3, fw3, f3⟩ := HE8.out.m3
            have FW3 := Aside0.mk fw3
            have F3H := Aside0.mk f3
            clear fw3 f3
            refine one_ (i := 22) (N := none) #[true, true, true, true, true, true, true, true, true, true, true, true, true, true, true, true, true, true, true, true, true, true, true] rfl rfl (by kernel_rfl) (by decide) (fun K hK => ?_)
            refine few_put_step (by rfl) rfl rfl Try.underlying2 Try.underlying137 FW3.out rfl n rfl HN.out.wf (by have := HN.out; unfold IN at this; omega) (by have := HN.out; unfold IN at this; omega) (.int .i64 s.2) rfl ?_
            intro w9 hm_ hg_
            have HE9 := Aside0.mk (ExpW.put3 (f := upd S2.2.2 n s.2) HE8.out hg_ ⟨_, hm_, upd_get F3H.out n s.2⟩)
            have mk9 := (hHeld.2.2.2).kept hg_ (someNe HE8.out.n03)
            clear hm_ hg_ hHeld
            refine hK.out _ _ ⟨(blk_cell HE9.out.exp 0).trans rfl, (blk_cell HE9.out.exp 2).trans rfl, (blk_cell HE9.out.exp 3).trans rfl, mk9⟩ (fun hHeld => ?_)
            clear hK K mk9
            refine norm_ (a' := ?_) ?_ ?_
            rotate_left
            · show Act.put _ none _ = _
              rfl
            refine done_ (by kernel_rfl) ?_
            go_wp2
            go_ret
            exact ⟨rfl, HE9.out⟩
end Go.Proofs.Ytehkhbnhmehobaa.P
namespace Go.Proofs.Ytehkhbnhmehobaa.P
open Go.RowKit Go.Proofs.YtehkhbnhmehobaaW.PrintWords Go.Proofs.YtehkhbnhmehobaaW.PrintLast Go.Proofs.YtehkhbnhmehobaaW.PrintMore
set_option linter.unusedVariables false
set_option linter.unusedSimpArgs false
def Grow_Block.f (n : Int) : Option (List (S32)) := if 0 ≤ n ∧ n < 2932031007402 then some [] else none
set_option maxHeartbeats 1000000 in
set_option maxRecDepth 100000 in
theorem Grow_Block.calls (n : Int) (r : List (S32)) (w : World) (h : Grow_Block.f n = some r) :
    Calls Try.prog 66 #[.slice none 0 0, .int .i64 n] w fun e w' => ∃ v0_ : Value, e = .returned (v0_) ∧ Kd.N k32 32 w' w.heap.size (fun k_ => w.heap.size ≤ k_) v0_ r ∧ Below w.heap.size w w' := by
  unfold Grow_Block.f at h
  by_cases hn : 0 ≤ n ∧ n < 2932031007402
  rotate_left
  · rw [if_neg hn] at h; cases h
  rw [if_pos hn] at h
  obtain rfl := Option.some.inj h
  obtain ⟨h0, h1⟩ := hn
  have H0 := Aside0.mk h0
  have H1 := Aside0.mk h1
  have hw : wrap64 n = n := by unfold wrap64; omega
  have hw0 : wrap64 0 = 0 := by unfold wrap64; omega
  have hng : decide (n < 0) = false := by simp; omega
  clear h h0 h1
  by_cases hp : 0 < n
  · have hgt : decide (n > 0) = true := by simpa using hp
    have hgt2 : decide (0 < n) = true := by simpa using hp
    clear hp
    go_enter Try.func66, Try.ntmps66
    go_wp2_with ((with_reducible refine gate_builtin (b := .append) (xs := #[.tmp 20, .tmp 21]) rfl ?_); at_builtin; refine Kd.N_append_zeros k32 (w0 := w) w.heap.size rfl (.tmp 20) (.tmp 21) 35 3 32 (.agg #[(.bool false), (.slice none 0 0), (.string ⟨#[]⟩)]) 48 rfl Try.underlying35 Try.underlying3 info32 rfl (by decide) (by omega) (.slice none 0 0) [] z32 n (fun k_ => w.heap.size ≤ k_) rfl (by first | rfl | exact congrArg (Value.int .i64) hw) (k32_mkF _ _ z32 (Nat.le_refl _) (fun W' _ => ⟨rfl, by simp [z32], fun hlt => by simp [z32] at hlt⟩)) (fun _ hk => hk) (Kd.N_nil _ _ _ _ _) H0.out (Below.refl _ _) (Nat.le_refl _) (by have := H1.out; have := H0.out; simp only [List.length_nil]; omega) ?_; intro v22 w1 ho hb hg hat; obtain ⟨A, c, rfl⟩ := Kd.N_slice ho; have HO := Aside0.mk ho; have HB := Aside0.mk hb; have HL := Aside0.mk (Kd.N_reads' ho).2.1; clear ho hb hg hat; have hq : (([] : List S32) ++ List.replicate n.toNat z32).length = n.toNat := by simp)
    go_ret
    exact ⟨_, rfl, by have := Kd.N_take (m := 0) HO.out (Nat.zero_le _); simpa using this, HB.out⟩
  · have hgt : decide (n > 0) = false := by simpa using hp
    have hgt2 : decide (0 < n) = false := by simpa using hp
    clear hp
    go_enter Try.func66, Try.ntmps66
    go_wp2
    go_ret
    exact ⟨_, rfl, Kd.N_nil _ _ _ _ _, Below.refl _ _⟩
end Go.Proofs.Ytehkhbnhmehobaa.P
namespace Go.Proofs.Ytehkhbnhmehobaa.P
open Go.RowKit Go.Proofs.YtehkhbnhmehobaaW.PrintWords Go.Proofs.YtehkhbnhmehobaaW.PrintLast Go.Proofs.YtehkhbnhmehobaaW.PrintMore
attribute [local go_sem] max2_int min2_int max_two min_two max_three min_three max_four min_four
set_option linter.unusedVariables false
set_option linter.unusedSimpArgs false
mutual
def Concat_Block.l0 : Nat → List (List (S32)) → Int → List (List (S32)) → Int → Int → Option ((List (S32)))
 | 0, _, _, _, _, _ => none
 | k + 1, x0, x3, x9, x10, x11 => if x11 < x10 then (if 0 ≤ x11 then (if x11 < (x9.length : Int) then (if (wrap64 (x3 + ((rd_L7 x9 x11).length : Int))) < 0 then (none) else (Concat_Block.l0 k x0 (wrap64 (x3 + ((rd_L7 x9 x11).length : Int))) x9 x10 (wrap64 (x11 + 1)))) else (none)) else (none)) else ((Grow_Block.f x3).bind fun t373 => (Concat_Block.l1 k t373 x0 (x0.length : Int) 0))
def Concat_Block.l1 : Nat → List (S32) → List (List (S32)) → Int → Int → Option ((List (S32)))
 | 0, _, _, _, _ => none
 | k + 1, x6, x25, x26, x27 => if x27 < x26 then (if 0 ≤ x27 then (if x27 < (x25.length : Int) then (if x6.length + (rd_L7 x25 x27).length < 2932031007402 then (Concat_Block.l1 k (x6 ++ (rd_L7 x25 x27)) x25 x26 (wrap64 (x27 + 1))) else (none)) else (none)) else (none)) else (some x6)
end
def Concat_Block.f (k : Nat) (l0 : List (List (S32))) : Option ((List (S32))) := Concat_Block.l0 k l0 0 l0 (l0.length : Int) 0
theorem Concat_Block.mono_l : ∀ k, (∀ y0 y1 y2 y3 y4, LeO (Concat_Block.l0 k y0 y1 y2 y3 y4) (Concat_Block.l0 (k + 1) y0 y1 y2 y3 y4)) ∧ (∀ y0 y1 y2 y3, LeO (Concat_Block.l1 k y0 y1 y2 y3) (Concat_Block.l1 (k + 1) y0 y1 y2 y3))
 | 0 => ⟨fun _ _ _ _ _ r h => by simp [Concat_Block.l0] at h, fun _ _ _ _ r h => by simp [Concat_Block.l1] at h⟩
 | k + 1 => by
  obtain ⟨ih0, ih1⟩ := Concat_Block.mono_l k
  refine ⟨?_, ?_⟩
  ·intro y0 y1 y2 y3 y4
   unfold Concat_Block.l0
   repeat' first
   | (with_reducible exact ih0 _ _ _ _ _)
   | (with_reducible exact ih1 _ _ _ _)
   | (with_reducible exact LeO.refl _)
   | (with_reducible exact LeO.none _)
   | (with_reducible refine LeO.ite ?_ ?_)
   | (with_reducible refine LeO.bind ?_ (fun _ => ?_))
   | exact ih0 _ _ _ _ _
   | exact ih1 _ _ _ _
   | exact LeO.none _
   | refine LeO.ite ?_ ?_
   | refine LeO.bind ?_ (fun _ => ?_)
  ·intro y0 y1 y2 y3
   unfold Concat_Block.l1
   repeat' first
   | (with_reducible exact ih0 _ _ _ _ _)
   | (with_reducible exact ih1 _ _ _ _)
   | (with_reducible exact LeO.refl _)
   | (with_reducible exact LeO.none _)
   | (with_reducible refine LeO.ite ?_ ?_)
   | (with_reducible refine LeO.bind ?_ (fun _ => ?_))
   | exact ih0 _ _ _ _ _
   | exact ih1 _ _ _ _
   | exact LeO.none _
   | refine LeO.ite ?_ ?_
   | refine LeO.bind ?_ (fun _ => ?_)
theorem Concat_Block.mono : ∀ a0 k, LeO (Concat_Block.f k a0) (Concat_Block.f (k + 1) a0) := by
 intro a0 k
 obtain ⟨ih0, ih1⟩ := Concat_Block.mono_l k
 unfold Concat_Block.f
 repeat' first
   | (with_reducible exact ih0 _ _ _ _ _)
   | (with_reducible exact ih1 _ _ _ _)
   | (with_reducible exact LeO.refl _)
   | (with_reducible exact LeO.none _)
   | (with_reducible refine LeO.ite ?_ ?_)
   | (with_reducible refine LeO.bind ?_ (fun _ => ?_))
   | exact ih0 _ _ _ _ _
   | exact ih1 _ _ _ _
   | exact LeO.none _
   | refine LeO.ite ?_ ?_
   | refine LeO.bind ?_ (fun _ => ?_)
set_option maxHeartbeats 8000000 in
set_option maxRecDepth 100000 in
theorem Concat_Block.calls (k : Nat) (P0_ : Nat → Prop) (A0 : Option Addr) (c0 : Nat) (l0 : List (List (S32))) (r : List (S32)) (w : World) (hs0 : Kd.V (Kd.slice 32 k32) 35 w w.heap.size (fun k_ => P0_ k_) (.slice A0 l0.length c0) l0) (h : Concat_Block.f k l0 = some r) :
  Calls Try.prog 31 #[.slice A0 l0.length c0] w fun e w' => ∃ v0_ : Value, e = .returned (v0_) ∧ Kd.N k32 32 w' w.heap.size (fun k_ => (P0_ k_ ∨ w.heap.size ≤ k_)) v0_ r ∧ Below w.heap.size w w' := by
 have HO0 := Aside0.mk (show Kd.V (Kd.slice 32 k32) 35 w w.heap.size (fun k_ => (P0_ k_ ∨ w.heap.size ≤ k_)) (.slice A0 l0.length c0) l0 from Kd.V_mono hs0 (fun k_ hk => .inl hk))
 have HB := Aside0.mk (Below.refl w.heap.size w)
 have H : (Concat_Block.l0 k l0 0 l0 (l0.length : Int) 0) = some r := h
 clear h
 have H' := Aside0.mk H
 clear H
 go_enter Try.func31, Try.ntmps31
 go_wp2
 go_loopg [3, 11] k (fun kq v3 v11 w' => ∃ (x3_1 : Int) (x11_1 : Int), v3 = .int .i64 x3_1 ∧ v11 = .int .i64 x11_1 ∧ Aside0 (Concat_Block.l0 kq l0 x3_1 l0 (l0.length : Int) x11_1 = some r) ∧ Aside0 (kq ≤ k) ∧ Aside0 (Kd.V (Kd.slice 32 k32) 35 w' w.heap.size (fun k_ => (P0_ k_ ∨ w.heap.size ≤ k_)) (.slice A0 l0.length c0) l0) ∧ Aside0 (Kd.V (Kd.slice 32 k32) 35 w' w.heap.size (fun k_ => (P0_ k_ ∨ w.heap.size ≤ k_)) (.slice A0 l0.length c0) l0) ∧ Aside0 (Below w.heap.size w w'))
 case atStart => exact ⟨(0), (0), (by first | rfl | (simp; done) | (simp [*]; done)), (by first | rfl | (simp; done) | (simp [*]; done)), H', ⟨Nat.le_refl _⟩, ⟨by (with_reducible repeat (first | apply Kd.V_alloc | apply Kd.V_drewN | apply Kd.V_drew)); exact HO0.out⟩, ⟨by (with_reducible repeat (first | apply Kd.V_alloc | apply Kd.V_drewN | apply Kd.V_drew)); exact HO0.out⟩, ⟨by repeat (first | (with_reducible first | exact HB.out | apply below_alloc | apply pw_below_drewN | apply below_drew1) | exact HB.out)⟩⟩
 case round =>
  clear H'
  obtain ⟨x3_1, x11_1, rfl, rfl, HA, HK1, HO_0, HO_9, HB⟩ := hrel
  cases gk with
  | zero => exact absurd HA.out (by simp [Concat_Block.l0])
  | succ k1 =>
   have H := HA.out
   clear HA
   simp only [Concat_Block.l0] at H
   by_cases c2 : x11_1 < (l0.length : Int)
   ·rw [if_pos c2] at H
    have c2b0 : decide (x11_1 < (l0.length : Int)) = true := decide_eq_true c2
    clear c2
    by_cases c3 : 0 ≤ x11_1
    ·rw [if_pos c3] at H
     have c3b0 : decide (0 ≤ x11_1) = true := decide_eq_true c3
     clear c3
     by_cases c4 : x11_1 < (l0.length : Int)
     ·rw [if_pos c4] at H
      have c4b0 : decide (x11_1 < (l0.length : Int)) = true := decide_eq_true c4
      clear c4
      by_cases c5 : (wrap64 (x3_1 + ((rd_L7 l0 x11_1).length : Int))) < 0
      ·rw [if_pos c5] at H
       exact absurd H (by simp)
      ·rw [if_neg c5] at H
       have c5b0 : decide ((wrap64 (x3_1 + ((rd_L7 l0 x11_1).length : Int))) < 0) = false := decide_eq_false c5
       clear c5
       have H' := Aside0.mk H
       clear H
       have p372 : 0 ≤ (x11_1 : Int) := of_decide_eq_true (by first | (with_reducible assumption) | assumption)
       have q372 : x11_1 < (l0.length : Int) := of_decide_eq_true (by first | (with_reducible assumption) | assumption)
       obtain ⟨ad372, A372_0, c372_0, e372, hx372_0, hl372_0, hi372_0⟩ := at_L7 (Kd.V_reads' HO_9.out).2.2 x11_1 p372 q372
       cases e372
       obtain ⟨ce372, hce372, hMe372, hcc372⟩ := Kd.V_get HO_9.out [] x11_1 p372 (by first | exact q372 | exact of_decide_eq_true (by first | (with_reducible assumption) | assumption) | (have e_ := (Kd.V_reads' HO_9.out).1; omega))
       obtain ⟨ua372_0, uc372_0, rfl, ul372_0, ge372_0⟩ := Kd.FK_slice_open hMe372
       have hv372_0 := hcc372 0 _ rfl
       rw [Nat.add_zero, show ((Kd.slice 32 k32)).sz = 1 from rfl, Nat.mul_one] at hv372_0
       replace hv372_0 := Option.some.inj (hv372_0.symm.trans hx372_0)
       injection hv372_0 with hva_ hvn_ hvc_
       rw [hva_] at ge372_0
       rw [hvc_] at ul372_0
       have HL372_0 := Aside0.mk (show Kd.V k32 32 _ w.heap.size _ _ (rd_L7 l0 x11_1) from Kd.V_mk ul372_0 ge372_0)
       clear hva_ hvn_ hvc_ ge372_0 ul372_0
       clear hcc372 hce372
       have HR372_0 := Aside0.mk hi372_0
       have HC372_0 := Aside0.mk hl372_0
       clear hi372_0 hl372_0
       replace p372 := eq_true p372
       replace q372 := eq_true q372
       go_wp2
       go_roundg k1
       case measure => have := HK1.out; omega
       case rel => exact ⟨(wrap64 (x3_1 + ((rd_L7 l0 x11_1).length : Int))), (wrap64 (x11_1 + 1)), (by first | rfl | (simp; done) | (simp [*]; done)), (by first | rfl | (simp; done) | (simp [*]; done)), H', ⟨by have := HK1.out; omega⟩, ⟨by (with_reducible repeat (first | apply Kd.V_alloc | apply Kd.V_drewN | apply Kd.V_drew)); exact HO_0.out⟩, ⟨by (with_reducible repeat (first | apply Kd.V_alloc | apply Kd.V_drewN | apply Kd.V_drew)); exact HO_9.out⟩, ⟨by repeat (first | (with_reducible first | exact HB.out | apply below_alloc | apply pw_below_drewN | apply below_drew1) | exact HB.out)⟩⟩
     ·rw [if_neg c4] at H
      exact absurd H (by simp)
    ·rw [if_neg c3] at H
     exact absurd H (by simp)
   ·rw [if_neg c2] at H
    have c2b0 : decide (x11_1 < (l0.length : Int)) = false := decide_eq_false c2
    clear c2
    replace H := Option.bind_eq_some_iff.mp H
    obtain ⟨t373, A60, H⟩ := H
    replace H : (Concat_Block.l1 k1 t373 l0 (l0.length : Int) 0) = some r := H
    have A6 := Aside0.mk A60
    clear A60
    have H' := Aside0.mk H
    clear H
    go_wp2_with (first | ((with_reducible refine gate_callee (f := 66) rfl ?_); refine goesL_ (some 24) rfl rfl Try.func66 (by kernel_rfl) rfl #[.slice none 0 0, .int .i64 x3_1] rfl (by (try simp only [List.map_toArray, List.map_cons, List.map_nil]); first | done | rfl | (simp only [List.length_drop, List.length_take]; rfl)) ?_; (with_reducible refine (Grow_Block.calls x3_1 t373 _ A6.out).mono ?_); rintro e w7 ⟨v374, rfl, ho0, hb⟩; refine ⟨_, rfl, ?_⟩; have n0_ := Aside0.mk (Kd.V_elder' (by (with_reducible repeat (first | apply Kd.V_alloc | apply Kd.V_drewN | apply Kd.V_drew)); exact HO_0.out) (by first | exact Kd.N_base ho0 | exact Kd.S_base ho0) hb); have n1_ := Aside0.mk (Kd.V_elder' (by (with_reducible repeat (first | apply Kd.V_alloc | apply Kd.V_drewN | apply Kd.V_drew)); exact HO_9.out) (by first | exact Kd.N_base ho0 | exact Kd.S_base ho0) hb); have n2_ := Aside0.mk (Kd.N_lower (Kd.N_mono (ok' := fun k_ => (P0_ k_ ∨ w.heap.size ≤ k_)) ho0 (fun k_ hk_ => (.inr (Nat.le_trans (below_size (by repeat (first | (with_reducible first | exact HB.out | apply below_alloc | apply pw_below_drewN | apply below_drew1) | exact HB.out))) hk_)))) (below_size (by repeat (first | (with_reducible first | exact HB.out | apply below_alloc | apply pw_below_drewN | apply below_drew1) | exact HB.out)))); have n3_ := Aside0.mk (below_step (by repeat (first | (with_reducible first | exact HB.out | apply below_alloc | apply pw_below_drewN | apply below_drew1) | exact HB.out)) hb); clear HO_0; clear HO_9; clear HB; have HO_0 := n0_; have HO_9 := n1_; have HO375 := n2_; have HB := n3_; clear n0_ n1_ n2_ n3_; (try clear hb); (try clear hb2); (try clear hk); (try clear hi); (try clear ho0)))
    go_loopg [6, 27] k1 (fun kq v6 v27 w' => ∃ (x6_2 : List (S32)) (x27_2 : Int), v27 = .int .i64 x27_2 ∧ Aside0 (Concat_Block.l1 kq x6_2 l0 (l0.length : Int) x27_2 = some r) ∧ Aside0 (kq ≤ k1) ∧ Aside0 (Kd.N k32 32 w' w.heap.size (fun k_ => (P0_ k_ ∨ w.heap.size ≤ k_)) v6 x6_2) ∧ Aside0 (Kd.V (Kd.slice 32 k32) 35 w' w.heap.size (fun k_ => (P0_ k_ ∨ w.heap.size ≤ k_) ∧ some k_ ≠ (v6 : Value).ownBlock) (.slice A0 l0.length c0) l0) ∧ Aside0 (Below w.heap.size w w'))
    case atStart => exact ⟨(t373), (0), (by first | rfl | (simp; done) | (simp [*]; done)), H', ⟨Nat.le_refl _⟩, ⟨by (with_reducible repeat (first | apply Kd.N_alloc | apply Kd.N_drewN | apply Kd.N_drew)); exact HO375.out⟩, ⟨by (with_reducible repeat (first | apply Kd.V_alloc | apply Kd.V_drewN | apply Kd.V_drew)); exact HO_0.out⟩, ⟨by repeat (first | (with_reducible first | exact HB.out | apply below_alloc | apply pw_below_drewN | apply below_drew1) | exact HB.out)⟩⟩
    case round =>
     clear H'
     try clear c2
     try clear c2b0
     try clear p2
     try clear c3
     try clear c3b0
     try clear p3
     try clear q3
     try clear hx3
     try clear c4
     try clear c4b0
     try clear c5
     try clear c5b0
     try clear c6
     try clear p6
     try clear hx372_0
     try clear p372
     try clear q372
     obtain ⟨x6_2, x27_2, rfl, HA, HK2, HO_6, HO_25, HB⟩ := hrel
     cases gk with
     | zero => exact absurd HA.out (by simp [Concat_Block.l1])
     | succ k2 =>
      have H := HA.out
      clear HA
      simp only [Concat_Block.l1] at H
      by_cases c8 : x27_2 < (l0.length : Int)
      ·rw [if_pos c8] at H
       have c8b0 : decide (x27_2 < (l0.length : Int)) = true := decide_eq_true c8
       clear c8
       by_cases c9 : 0 ≤ x27_2
       ·rw [if_pos c9] at H
        have c9b0 : decide (0 ≤ x27_2) = true := decide_eq_true c9
        clear c9
        by_cases c10 : x27_2 < (l0.length : Int)
        ·rw [if_pos c10] at H
         have c10b0 : decide (x27_2 < (l0.length : Int)) = true := decide_eq_true c10
         clear c10
         by_cases c11 : x6_2.length + (rd_L7 l0 x27_2).length < 2932031007402
         ·rw [if_pos c11] at H
          have LMc11 := Aside0.mk c11
          clear c11
          obtain ⟨y377, hy377⟩ : ∃ y_ : List (S32), y_ = (x6_2 ++ (rd_L7 l0 x27_2)) := ⟨_, rfl⟩
          replace H : (Concat_Block.l1 k2 y377 l0 (l0.length : Int) (wrap64 (x27_2 + 1))) = some r := by first | (rw [hy377]; with_reducible exact H) | (have H2_ := (Option.bind_some _ _).symm.trans H; rw [hy377]; with_reducible exact H2_) | (have H2_ := (Option.bind_some _ _).symm.trans H; with_reducible exact H2_) | with_reducible exact H | (rw [hy377]; exact H) | exact H
          have Ny377 := Aside0.mk hy377
          clear hy377
          have H' := Aside0.mk H
          clear H
          have p376 : 0 ≤ (x27_2 : Int) := of_decide_eq_true (by first | (with_reducible assumption) | assumption)
          have q376 : x27_2 < (l0.length : Int) := of_decide_eq_true (by first | (with_reducible assumption) | assumption)
          obtain ⟨ad376, A376_0, c376_0, e376, hx376_0, hl376_0, hi376_0⟩ := at_L7 (Kd.V_reads' HO_25.out).2.2 x27_2 p376 q376
          cases e376
          obtain ⟨ce376, hce376, hMe376, hcc376⟩ := Kd.V_get HO_25.out [] x27_2 p376 (by first | exact q376 | exact of_decide_eq_true (by first | (with_reducible assumption) | assumption) | (have e_ := (Kd.V_reads' HO_25.out).1; omega))
          obtain ⟨ua376_0, uc376_0, rfl, ul376_0, ge376_0⟩ := Kd.FK_slice_open hMe376
          have hv376_0 := hcc376 0 _ rfl
          rw [Nat.add_zero, show ((Kd.slice 32 k32)).sz = 1 from rfl, Nat.mul_one] at hv376_0
          replace hv376_0 := Option.some.inj (hv376_0.symm.trans hx376_0)
          injection hv376_0 with hva_ hvn_ hvc_
          rw [hva_] at ge376_0
          rw [hvc_] at ul376_0
          have HL376_0 := Aside0.mk (show Kd.V k32 32 _ w.heap.size _ _ (rd_L7 l0 x27_2) from Kd.V_mk ul376_0 ge376_0)
          clear hva_ hvn_ hvc_ ge376_0 ul376_0
          clear hcc376 hce376
          have HR376_0 := Aside0.mk hi376_0
          have HC376_0 := Aside0.mk hl376_0
          clear hi376_0 hl376_0
          replace p376 := eq_true p376
          replace q376 := eq_true q376
          go_wp2_with (first | ((with_reducible refine gate_builtin (b := .append) (xs := #[.tmp 31, .tmp 32]) rfl ?_); at_builtin; refine Kd.N_append_rows k32 (w0 := w) w.heap.size rfl (.tmp 31) (.tmp 32) 35 32 (.agg #[(.bool false), (.slice none 0 0), (.string ⟨#[]⟩)]) 48 rfl Try.underlying35 info32 rfl (by decide) (by omega) u6 x6_2 (rd_L7 l0 x27_2) _ _ _ (fun k_ => (P0_ k_ ∨ w.heap.size ≤ k_)) (fun k_ => ((fun k_ => (P0_ k_ ∨ w.heap.size ≤ k_))) k_ ∧ some k_ ≠ (u6 : Value).ownBlock) rfl rfl ?aO ?aR (fun _ hk => hk) ?aF ?aB ?aS ?aL ?_; (case aR => exact (by skip; exact Kd.V_F (Kd.V_mono (ok' := (fun k_ => ((fun k_ => (P0_ k_ ∨ w.heap.size ≤ k_))) k_ ∧ some k_ ≠ (u6 : Value).ownBlock)) (HL376_0.out) (fun k_ hk => ⟨hk.1, hk.2⟩)))); (case aB => exact (by repeat (first | (with_reducible first | exact HB.out | apply below_alloc | apply pw_below_drewN | apply below_drew1) | exact HB.out))); (case aF => exact (fun k_ hk => (.inr (Nat.le_trans (below_size (by repeat (first | (with_reducible first | exact HB.out | apply below_alloc | apply pw_below_drewN | apply below_drew1) | exact HB.out))) hk)))); (case aO => exact (by (with_reducible repeat (first | apply Kd.N_alloc | apply Kd.N_drewN | apply Kd.N_drew)); exact HO_6.out)); (case aS => exact (below_size (by repeat (first | (with_reducible first | exact HB.out | apply below_alloc | apply pw_below_drewN | apply below_drew1) | exact HB.out)))); (case aL => have := LMc11.out; omega); intro v378 w12 ho hb hg hat; rw [← Ny377.out] at ho; have n0_ := Aside0.mk (Kd.V_afterv (ok := (fun k_ => (P0_ k_ ∨ w.heap.size ≤ k_))) (by (with_reducible repeat (first | apply Kd.V_alloc | apply Kd.V_drewN | apply Kd.V_drew)); exact HO_25.out) hg hat); have n1_ := Aside0.mk (Kd.V_afterv (ok := (fun k_ => (P0_ k_ ∨ w.heap.size ≤ k_))) (by (with_reducible repeat (first | apply Kd.V_alloc | apply Kd.V_drewN | apply Kd.V_drew)); exact HL376_0.out) hg hat); have n2_ := Aside0.mk (hb); have n3_ := Aside0.mk (ho); clear HO_25; clear HL376_0; clear HB; clear HO_6; have HO_25 := n0_; have HL376_0 := n1_; have HB := n2_; have HO379 := n3_; clear n0_ n1_ n2_ n3_; clear ho hb hg hat))
          go_roundg k2
          case measure => have := HK1.out; have := HK2.out; omega
          case rel => exact ⟨(y377), (wrap64 (x27_2 + 1)), (by first | rfl | (simp; done) | (simp [*]; done)), H', ⟨by have := HK1.out; have := HK2.out; omega⟩, ⟨by (with_reducible repeat (first | apply Kd.N_alloc | apply Kd.N_drewN | apply Kd.N_drew)); exact HO379.out⟩, ⟨by (with_reducible repeat (first | apply Kd.V_alloc | apply Kd.V_drewN | apply Kd.V_drew)); exact HO_25.out⟩, ⟨by repeat (first | (with_reducible first | exact HB.out | apply below_alloc | apply pw_below_drewN | apply below_drew1) | exact HB.out)⟩⟩
         ·rw [if_neg c11] at H
          exact absurd H (by simp)
        ·rw [if_neg c10] at H
         exact absurd H (by simp)
       ·rw [if_neg c9] at H
        exact absurd H (by simp)
      ·rw [if_neg c8] at H
       have c8b0 : decide (x27_2 < (l0.length : Int)) = false := decide_eq_false c8
       clear c8
       obtain rfl := Option.some.inj H
       go_wp2
       go_ret
       exact ⟨_, by first | rfl | (simp [errW_none, errW_some] <;> rfl) | (simp [*, errW_none, errW_some] <;> rfl), by (with_reducible repeat (first | apply Kd.N_alloc | apply Kd.N_drewN | apply Kd.N_drew)); exact HO_6.out, by repeat (first | (with_reducible first | exact HB.out | apply below_alloc | apply pw_below_drewN | apply below_drew1) | exact HB.out)⟩
end Go.Proofs.Ytehkhbnhmehobaa.P
namespace Go.Proofs.Ytehkhbnhmehobaa.P
open Go.RowKit Go.Proofs.YtehkhbnhmehobaaW.PrintWords Go.Proofs.YtehkhbnhmehobaaW.PrintLast Go.Proofs.YtehkhbnhmehobaaW.PrintMore
attribute [local go_sem] max2_int min2_int max_two min_two max_three min_three max_four min_four
set_option linter.unusedVariables false
set_option linter.unusedSimpArgs false
def subprogram_Split_1.f (k : Nat) (a0_0 : Bool) (l0_1 : List (S78)) (a0_2 : ByteArray) : Option (Bool) := (subprogram_has.f k a0_0 l0_1 a0_2 77 30000).bind fun t990 => (some t990)
theorem subprogram_Split_1.mono : ∀ a0 a1 a2 k, LeO (subprogram_Split_1.f k a0 a1 a2) (subprogram_Split_1.f (k + 1) a0 a1 a2) := by
 intro a0 a1 a2 k
 unfold subprogram_Split_1.f
 repeat' first
   | (with_reducible exact subprogram_has.mono _ _ _ _ _ _)
   | (with_reducible exact LeO.refl _)
   | (with_reducible exact LeO.none _)
   | (with_reducible refine LeO.ite ?_ ?_)
   | (with_reducible refine LeO.bind ?_ (fun _ => ?_))
   | exact subprogram_has.mono _ _ _ _ _ _
   | exact LeO.none _
   | refine LeO.ite ?_ ?_
   | refine LeO.bind ?_ (fun _ => ?_)
set_option maxHeartbeats 8000000 in
set_option maxRecDepth 100000 in
theorem subprogram_Split_1.calls (k : Nat) (a0_0 : Bool) (A0_1 : Option Addr) (c0_1 : Nat) (l0_1 : List (S78)) (a0_2 : ByteArray) (r : Bool) (w : World) (hr0_1 : Kd.C k78 w A0_1 l0_1.length l0_1) (hc0_1 : l0_1.length ≤ c0_1) (h : subprogram_Split_1.f k a0_0 l0_1 a0_2 = some r) :
  Calls Try.prog 75 #[.agg #[.bool a0_0, .slice A0_1 l0_1.length c0_1, .string a0_2]] w fun e w' => e = .returned (.bool r) ∧ Below w.heap.size w w' := by
 have hu32 := Try.underlying32
 have HR0_1 := Aside0.mk hr0_1
 have HC0_1 := Aside0.mk hc0_1
 clear hr0_1 hc0_1
 have HB := Aside0.mk (Below.refl w.heap.size w)
 have H : ((subprogram_has.f k a0_0 l0_1 a0_2 77 30000).bind fun t990 => (some t990)) = some r := h
 clear h
 replace H := Option.bind_eq_some_iff.mp H
 obtain ⟨t990, A20, H⟩ := H
 replace H : (some t990) = some r := H
 have A2 := Aside0.mk A20
 clear A20
 obtain rfl := Option.some.inj H
 go_enter Try.func75, Try.ntmps75
 go_wp2_with (first | ((with_reducible refine gate_dst (N := 1) rfl ?_); refine box_event ?hg (N := 1) ?hd (cs := #[.bool a0_0, .slice A0_1 l0_1.length c0_1, .string a0_2]) (t := 32) ?hr ?_; (case hd => rfl); (case hg => rfl); (case hr => first | (go_simp; done) | (go_simp; rfl)); intro gb989 hg w3 hbox hb; have n0_ := Aside0.mk (below_step (by repeat (first | (with_reducible first | exact HB.out | apply below_alloc | apply pw_below_drewN | apply below_drew1) | exact HB.out)) hb); have n1_ := Aside0.mk (hbox); have n2_ := Aside0.mk ((by rw [hg]; exact (below_size (by repeat (first | (with_reducible first | exact HB.out | apply below_alloc | apply pw_below_drewN | apply below_drew1) | exact HB.out))) : w.heap.size ≤ gb989)); have n3_ := Aside0.mk ((by rw [hg]; exact (below_size (by repeat (first | (with_reducible first | exact HB.out | apply below_alloc | apply pw_below_drewN | apply below_drew1) | exact HB.out))) : w.heap.size ≤ gb989)); clear HB; have HB := n0_; have BK989 := n1_; have GW989 := n2_; have GE989 := n3_; clear n0_ n1_ n2_ n3_; clear hb hbox hg; have hcz4_0 : w3.cell? ⟨gb989, 0, none⟩ = some (.bool a0_0) := (blk_cell BK989.out 0).trans rfl; have hcz4_1 : w3.cell? ⟨gb989, 1, none⟩ = some (.slice A0_1 l0_1.length c0_1) := (blk_cell BK989.out 1).trans rfl; have hcz4_2 : w3.cell? ⟨gb989, 2, none⟩ = some (.string a0_2) := (blk_cell BK989.out 2).trans rfl; have hfz4_0 := blk_frozen BK989.out 0; have hfz4_1 := blk_frozen BK989.out 1; have hfz4_2 := blk_frozen BK989.out 2) | ((with_reducible refine gate_callee (f := 58) rfl ?_); refine goesL_ (some 4) rfl rfl Try.func58 (by kernel_rfl) rfl #[.agg #[.bool a0_0, .slice A0_1 l0_1.length c0_1, .string a0_2], .int .u8 77, .int .i64 30000] rfl (by (try simp only [List.map_toArray, List.map_cons, List.map_nil]); first | done | rfl | (simp only [List.length_drop, List.length_take]; rfl)) ?_; (with_reducible refine (subprogram_has.calls k a0_0 _ _ l0_1 a0_2 77 30000 t990 _ ?side1 ?side2 A2.out).mono ?_); (case side1 => repeat (first | exact (Kd.C_below HR0_1.out HB.out) | (with_reducible refine Kd.C_alloc ?_ _) | (with_reducible refine Kd.C_drewN ?_ _) | (with_reducible refine Kd.C_drew ?_))); (case side2 => exact HC0_1.out); rintro e w5 ⟨rfl, hb⟩; refine ⟨_, rfl, ?_⟩; have n0_ := Aside0.mk (blk_below (g := gb989) (o := .cells #[.bool a0_0, .slice A0_1 l0_1.length c0_1, .string a0_2] 32 (0, 0)) (by (with_reducible repeat (first | refine blk_drewN ?_ _ | refine blk_drew ?_ | refine blk_alloc ?_ _)); exact BK989.out) hb); have n1_ := Aside0.mk (below_step (by repeat (first | (with_reducible first | exact HB.out | apply below_alloc | apply pw_below_drewN | apply below_drew1 | refine below_set ?_ GE989.out) | exact HB.out)) hb); clear BK989; clear HB; have BK989 := n0_; have HB := n1_; clear n0_ n1_; (try clear hb); (try clear hb2); (try clear hk); (try clear hi)))
 go_ret
 exact ⟨by first | rfl | (simp [errW_none, errW_some] <;> rfl) | (simp [*, errW_none, errW_some] <;> rfl), by repeat (first | (with_reducible first | exact HB.out | apply below_alloc | apply pw_below_drewN | apply below_drew1 | refine below_set ?_ GE989.out) | exact HB.out)⟩
end Go.Proofs.Ytehkhbnhmehobaa.P
namespace Go.Proofs.Ytehkhbnhmehobaa.P
open Go.RowKit Go.Proofs.YtehkhbnhmehobaaW.PrintWords Go.Proofs.YtehkhbnhmehobaaW.PrintLast Go.Proofs.YtehkhbnhmehobaaW.PrintMore
attribute [local go_sem] max2_int min2_int max_two min_two max_three min_three max_four min_four
set_option linter.unusedVariables false
set_option linter.unusedSimpArgs false
def subprogram_plain.f (a0_0 : Bool) (l0_1 : List (S78)) (a0_2 : ByteArray) : Option (Bool) := if (l0_1.length : Int) = 1 then (if a0_0 = true then (some false) else (some (a0_2.toList == ([] : List UInt8)))) else (some false)
set_option maxHeartbeats 8000000 in
set_option maxRecDepth 100000 in
theorem subprogram_plain.calls (a0_0 : Bool) (A0_1 : Option Addr) (c0_1 : Nat) (l0_1 : List (S78)) (a0_2 : ByteArray) (r : Bool) (w : World) (hr0_1 : Kd.C k78 w A0_1 l0_1.length l0_1) (hc0_1 : l0_1.length ≤ c0_1) (h : subprogram_plain.f a0_0 l0_1 a0_2 = some r) :
  Calls Try.prog 78 #[.agg #[.bool a0_0, .slice A0_1 l0_1.length c0_1, .string a0_2]] w fun e w' => e = .returned (.bool r) ∧ Below w.heap.size w w' := by
 have hu32 := Try.underlying32
 have HR0_1 := Aside0.mk hr0_1
 have HC0_1 := Aside0.mk hc0_1
 clear hr0_1 hc0_1
 have HB := Aside0.mk (Below.refl w.heap.size w)
 have H : (if (l0_1.length : Int) = 1 then (if a0_0 = true then (some false) else (some (a0_2.toList == ([] : List UInt8)))) else (some false)) = some r := h
 clear h
 by_cases c2 : (l0_1.length : Int) = 1
 ·rw [if_pos c2] at H
  have c2b0 : ((l0_1.length : Int) == 1) = true := beq_iff_eq.mpr c2
  have c2b1 : ((l0_1.length : Int) != 1) = false := bne_eq_false_iff_eq.mpr c2
  clear c2
  by_cases c3 : a0_0 = true
  ·subst c3
   have H1 : (some false) = some r := by rw [if_pos rfl] at H; exact H
   clear H
   have H := H1
   clear H1
   obtain rfl := Option.some.inj H
   go_enter Try.func78, Try.ntmps78
   go_wp2_with (first | ((with_reducible refine gate_dst (N := 1) rfl ?_); refine box_event ?hg (N := 1) ?hd (cs := #[.bool true, .slice A0_1 l0_1.length c0_1, .string a0_2]) (t := 32) ?hr ?_; (case hd => rfl); (case hg => rfl); (case hr => first | (go_simp; done) | (go_simp; rfl)); intro gb448 hg w4 hbox hb; have n0_ := Aside0.mk (below_step (by repeat (first | (with_reducible first | exact HB.out | apply below_alloc | apply pw_below_drewN | apply below_drew1) | exact HB.out)) hb); have n1_ := Aside0.mk (hbox); have n2_ := Aside0.mk ((by rw [hg]; exact (below_size (by repeat (first | (with_reducible first | exact HB.out | apply below_alloc | apply pw_below_drewN | apply below_drew1) | exact HB.out))) : w.heap.size ≤ gb448)); have n3_ := Aside0.mk ((by rw [hg]; exact (below_size (by repeat (first | (with_reducible first | exact HB.out | apply below_alloc | apply pw_below_drewN | apply below_drew1) | exact HB.out))) : w.heap.size ≤ gb448)); clear HB; have HB := n0_; have BK448 := n1_; have GW448 := n2_; have GE448 := n3_; clear n0_ n1_ n2_ n3_; clear hb hbox hg; have hcz5_0 : w4.cell? ⟨gb448, 0, none⟩ = some (.bool true) := (blk_cell BK448.out 0).trans rfl; have hcz5_1 : w4.cell? ⟨gb448, 1, none⟩ = some (.slice A0_1 l0_1.length c0_1) := (blk_cell BK448.out 1).trans rfl; have hcz5_2 : w4.cell? ⟨gb448, 2, none⟩ = some (.string a0_2) := (blk_cell BK448.out 2).trans rfl; have hfz5_0 := blk_frozen BK448.out 0; have hfz5_1 := blk_frozen BK448.out 1; have hfz5_2 := blk_frozen BK448.out 2))
   go_ret
   exact ⟨by first | rfl | (simp [errW_none, errW_some] <;> rfl) | (simp [*, errW_none, errW_some] <;> rfl), by repeat (first | (with_reducible first | exact HB.out | apply below_alloc | apply pw_below_drewN | apply below_drew1 | refine below_set ?_ GE448.out) | exact HB.out)⟩
  ·replace c3 := Bool.eq_false_iff.mpr c3
   subst c3
   have H1 : (some (a0_2.toList == ([] : List UInt8))) = some r := by rw [if_neg (show ¬ (false = true) by decide)] at H; exact H
   clear H
   have H := H1
   clear H1
   obtain rfl := Option.some.inj H
   go_enter Try.func78, Try.ntmps78
   go_wp2_with (first | ((with_reducible refine gate_dst (N := 1) rfl ?_); refine box_event ?hg (N := 1) ?hd (cs := #[.bool false, .slice A0_1 l0_1.length c0_1, .string a0_2]) (t := 32) ?hr ?_; (case hd => rfl); (case hg => rfl); (case hr => first | (go_simp; done) | (go_simp; rfl)); intro gb448 hg w6 hbox hb; have n0_ := Aside0.mk (below_step (by repeat (first | (with_reducible first | exact HB.out | apply below_alloc | apply pw_below_drewN | apply below_drew1) | exact HB.out)) hb); have n1_ := Aside0.mk (hbox); have n2_ := Aside0.mk ((by rw [hg]; exact (below_size (by repeat (first | (with_reducible first | exact HB.out | apply below_alloc | apply pw_below_drewN | apply below_drew1) | exact HB.out))) : w.heap.size ≤ gb448)); have n3_ := Aside0.mk ((by rw [hg]; exact (below_size (by repeat (first | (with_reducible first | exact HB.out | apply below_alloc | apply pw_below_drewN | apply below_drew1) | exact HB.out))) : w.heap.size ≤ gb448)); clear HB; have HB := n0_; have BK448 := n1_; have GW448 := n2_; have GE448 := n3_; clear n0_ n1_ n2_ n3_; clear hb hbox hg; have hcz7_0 : w6.cell? ⟨gb448, 0, none⟩ = some (.bool false) := (blk_cell BK448.out 0).trans rfl; have hcz7_1 : w6.cell? ⟨gb448, 1, none⟩ = some (.slice A0_1 l0_1.length c0_1) := (blk_cell BK448.out 1).trans rfl; have hcz7_2 : w6.cell? ⟨gb448, 2, none⟩ = some (.string a0_2) := (blk_cell BK448.out 2).trans rfl; have hfz7_0 := blk_frozen BK448.out 0; have hfz7_1 := blk_frozen BK448.out 1; have hfz7_2 := blk_frozen BK448.out 2))
   go_ret
   exact ⟨by first | rfl | (simp [errW_none, errW_some] <;> rfl) | (simp [*, errW_none, errW_some] <;> rfl), by repeat (first | (with_reducible first | exact HB.out | apply below_alloc | apply pw_below_drewN | apply below_drew1 | refine below_set ?_ GE448.out) | exact HB.out)⟩
 ·rw [if_neg c2] at H
  have c2b0 : ((l0_1.length : Int) == 1) = false := beq_eq_false_iff_ne.mpr c2
  have c2b1 : ((l0_1.length : Int) != 1) = true := bne_iff_ne.mpr c2
  obtain rfl := Option.some.inj H
  go_enter Try.func78, Try.ntmps78
  go_wp2_with (first | ((with_reducible refine gate_dst (N := 1) rfl ?_); refine box_event ?hg (N := 1) ?hd (cs := #[.bool a0_0, .slice A0_1 l0_1.length c0_1, .string a0_2]) (t := 32) ?hr ?_; (case hd => rfl); (case hg => rfl); (case hr => first | (go_simp; done) | (go_simp; rfl)); intro gb448 hg w8 hbox hb; have n0_ := Aside0.mk (below_step (by repeat (first | (with_reducible first | exact HB.out | apply below_alloc | apply pw_below_drewN | apply below_drew1) | exact HB.out)) hb); have n1_ := Aside0.mk (hbox); have n2_ := Aside0.mk ((by rw [hg]; exact (below_size (by repeat (first | (with_reducible first | exact HB.out | apply below_alloc | apply pw_below_drewN | apply below_drew1) | exact HB.out))) : w.heap.size ≤ gb448)); have n3_ := Aside0.mk ((by rw [hg]; exact (below_size (by repeat (first | (with_reducible first | exact HB.out | apply below_alloc | apply pw_below_drewN | apply below_drew1) | exact HB.out))) : w.heap.size ≤ gb448)); clear HB; have HB := n0_; have BK448 := n1_; have GW448 := n2_; have GE448 := n3_; clear n0_ n1_ n2_ n3_; clear hb hbox hg; have hcz9_0 : w8.cell? ⟨gb448, 0, none⟩ = some (.bool a0_0) := (blk_cell BK448.out 0).trans rfl; have hcz9_1 : w8.cell? ⟨gb448, 1, none⟩ = some (.slice A0_1 l0_1.length c0_1) := (blk_cell BK448.out 1).trans rfl; have hcz9_2 : w8.cell? ⟨gb448, 2, none⟩ = some (.string a0_2) := (blk_cell BK448.out 2).trans rfl; have hfz9_0 := blk_frozen BK448.out 0; have hfz9_1 := blk_frozen BK448.out 1; have hfz9_2 := blk_frozen BK448.out 2))
  go_ret
  exact ⟨by first | rfl | (simp [errW_none, errW_some] <;> rfl) | (simp [*, errW_none, errW_some] <;> rfl), by repeat (first | (with_reducible first | exact HB.out | apply below_alloc | apply pw_below_drewN | apply below_drew1 | refine below_set ?_ GE448.out) | exact HB.out)⟩
end Go.Proofs.Ytehkhbnhmehobaa.P
namespace Go.Proofs.Ytehkhbnhmehobaa.P
open Go.RowKit Go.Proofs.YtehkhbnhmehobaaW.PrintWords Go.Proofs.YtehkhbnhmehobaaW.PrintLast Go.Proofs.YtehkhbnhmehobaaW.PrintMore
attribute [local go_sem] max2_int min2_int max_two min_two max_three min_three max_four min_four
set_option linter.unusedVariables false
set_option linter.unusedSimpArgs false
def subprogram_Split_2.f (k : Nat) (a0_0 : Bool) (l0_1 : List (S78)) (a0_2 : ByteArray) : Option (Bool) := (subprogram_plain.f a0_0 l0_1 a0_2).bind fun t992 => (if t992 = true then ((subprogram_has.f k a0_0 l0_1 a0_2 77 99000).bind fun t993 => (some t993)) else (some false))
theorem subprogram_Split_2.mono : ∀ a0 a1 a2 k, LeO (subprogram_Split_2.f k a0 a1 a2) (subprogram_Split_2.f (k + 1) a0 a1 a2) := by
 intro a0 a1 a2 k
 unfold subprogram_Split_2.f
 repeat' first
   | (with_reducible exact subprogram_has.mono _ _ _ _ _ _)
   | (with_reducible exact LeO.refl _)
   | (with_reducible exact LeO.none _)
   | (with_reducible refine LeO.ite ?_ ?_)
   | (with_reducible refine LeO.bind ?_ (fun _ => ?_))
   | exact subprogram_has.mono _ _ _ _ _ _
   | exact LeO.none _
   | refine LeO.ite ?_ ?_
   | refine LeO.bind ?_ (fun _ => ?_)
set_option maxHeartbeats 8000000 in
set_option maxRecDepth 100000 in
theorem subprogram_Split_2.calls (k : Nat) (a0_0 : Bool) (A0_1 : Option Addr) (c0_1 : Nat) (l0_1 : List (S78)) (a0_2 : ByteArray) (r : Bool) (w : World) (hr0_1 : Kd.C k78 w A0_1 l0_1.length l0_1) (hc0_1 : l0_1.length ≤ c0_1) (h : subprogram_Split_2.f k a0_0 l0_1 a0_2 = some r) :
  Calls Try.prog 77 #[.agg #[.bool a0_0, .slice A0_1 l0_1.length c0_1, .string a0_2]] w fun e w' => e = .returned (.bool r) ∧ Below w.heap.size w w' := by
 have hu32 := Try.underlying32
 have HR0_1 := Aside0.mk hr0_1
 have HC0_1 := Aside0.mk hc0_1
 clear hr0_1 hc0_1
 have HB := Aside0.mk (Below.refl w.heap.size w)
 have H : ((subprogram_plain.f a0_0 l0_1 a0_2).bind fun t992 => (if t992 = true then ((subprogram_has.f k a0_0 l0_1 a0_2 77 99000).bind fun t993 => (some t993)) else (some false))) = some r := h
 clear h
 replace H := Option.bind_eq_some_iff.mp H
 obtain ⟨t992, A20, H⟩ := H
 replace H : (if t992 = true then ((subprogram_has.f k a0_0 l0_1 a0_2 77 99000).bind fun t993 => (some t993)) else (some false)) = some r := H
 have A2 := Aside0.mk A20
 clear A20
 by_cases c3 : t992 = true
 ·subst c3
  have H1 : ((subprogram_has.f k a0_0 l0_1 a0_2 77 99000).bind fun t993 => (some t993)) = some r := by rw [if_pos rfl] at H; exact H
  clear H
  have H := H1
  clear H1
  replace H := Option.bind_eq_some_iff.mp H
  obtain ⟨t993, A40, H⟩ := H
  replace H : (some t993) = some r := H
  have A4 := Aside0.mk A40
  clear A40
  obtain rfl := Option.some.inj H
  go_enter Try.func77, Try.ntmps77
  go_wp2_with (first | ((with_reducible refine gate_dst (N := 1) rfl ?_); refine box_event ?hg (N := 1) ?hd (cs := #[.bool a0_0, .slice A0_1 l0_1.length c0_1, .string a0_2]) (t := 32) ?hr ?_; (case hd => rfl); (case hg => rfl); (case hr => first | (go_simp; done) | (go_simp; rfl)); intro gb991 hg w5 hbox hb; have n0_ := Aside0.mk (below_step (by repeat (first | (with_reducible first | exact HB.out | apply below_alloc | apply pw_below_drewN | apply below_drew1) | exact HB.out)) hb); have n1_ := Aside0.mk (hbox); have n2_ := Aside0.mk ((by rw [hg]; exact (below_size (by repeat (first | (with_reducible first | exact HB.out | apply below_alloc | apply pw_below_drewN | apply below_drew1) | exact HB.out))) : w.heap.size ≤ gb991)); have n3_ := Aside0.mk ((by rw [hg]; exact (below_size (by repeat (first | (with_reducible first | exact HB.out | apply below_alloc | apply pw_below_drewN | apply below_drew1) | exact HB.out))) : w.heap.size ≤ gb991)); clear HB; have HB := n0_; have BK991 := n1_; have GW991 := n2_; have GE991 := n3_; clear n0_ n1_ n2_ n3_; clear hb hbox hg; have hcz6_0 : w5.cell? ⟨gb991, 0, none⟩ = some (.bool a0_0) := (blk_cell BK991.out 0).trans rfl; have hcz6_1 : w5.cell? ⟨gb991, 1, none⟩ = some (.slice A0_1 l0_1.length c0_1) := (blk_cell BK991.out 1).trans rfl; have hcz6_2 : w5.cell? ⟨gb991, 2, none⟩ = some (.string a0_2) := (blk_cell BK991.out 2).trans rfl; have hfz6_0 := blk_frozen BK991.out 0; have hfz6_1 := blk_frozen BK991.out 1; have hfz6_2 := blk_frozen BK991.out 2) | ((with_reducible refine gate_callee (f := 78) rfl ?_); refine goesL_ (some 4) rfl rfl Try.func78 (by kernel_rfl) rfl #[.agg #[.bool a0_0, .slice A0_1 l0_1.length c0_1, .string a0_2]] rfl (by (try simp only [List.map_toArray, List.map_cons, List.map_nil]); first | done | rfl | (simp only [List.length_drop, List.length_take]; rfl)) ?_; (with_reducible refine (subprogram_plain.calls a0_0 _ _ l0_1 a0_2 true _ ?side1 ?side2 A2.out).mono ?_); (case side1 => repeat (first | exact (Kd.C_below HR0_1.out HB.out) | (with_reducible refine Kd.C_alloc ?_ _) | (with_reducible refine Kd.C_drewN ?_ _) | (with_reducible refine Kd.C_drew ?_))); (case side2 => exact HC0_1.out); rintro e w7 ⟨rfl, hb⟩; refine ⟨_, rfl, ?_⟩; have n0_ := Aside0.mk (blk_below (g := gb991) (o := .cells #[.bool a0_0, .slice A0_1 l0_1.length c0_1, .string a0_2] 32 (0, 0)) (by (with_reducible repeat (first | refine blk_drewN ?_ _ | refine blk_drew ?_ | refine blk_alloc ?_ _)); exact BK991.out) hb); have n1_ := Aside0.mk (below_step (by repeat (first | (with_reducible first | exact HB.out | apply below_alloc | apply pw_below_drewN | apply below_drew1 | refine below_set ?_ GE991.out) | exact HB.out)) hb); clear BK991; clear HB; have BK991 := n0_; have HB := n1_; clear n0_ n1_; (try clear hb); (try clear hb2); (try clear hk); (try clear hi); have hcz8_0 : w7.cell? ⟨gb991, 0, none⟩ = some (.bool a0_0) := (blk_cell BK991.out 0).trans rfl; have hcz8_1 : w7.cell? ⟨gb991, 1, none⟩ = some (.slice A0_1 l0_1.length c0_1) := (blk_cell BK991.out 1).trans rfl; have hcz8_2 : w7.cell? ⟨gb991, 2, none⟩ = some (.string a0_2) := (blk_cell BK991.out 2).trans rfl; have hfz8_0 := blk_frozen BK991.out 0; have hfz8_1 := blk_frozen BK991.out 1; have hfz8_2 := blk_frozen BK991.out 2) | (go_at_call 58; (with_reducible refine (subprogram_has.calls k a0_0 _ _ l0_1 a0_2 77 99000 t993 _ ?side1 ?side2 A4.out).mono ?_); (case side1 => repeat (first | exact (Kd.C_below HR0_1.out HB.out) | (with_reducible refine Kd.C_alloc ?_ _) | (with_reducible refine Kd.C_drewN ?_ _) | (with_reducible refine Kd.C_drew ?_))); (case side2 => exact HC0_1.out); rintro e w9 ⟨rfl, hb⟩; have n0_ := Aside0.mk (blk_below (g := gb991) (o := .cells #[.bool a0_0, .slice A0_1 l0_1.length c0_1, .string a0_2] 32 (0, 0)) (by (with_reducible repeat (first | refine blk_drewN ?_ _ | refine blk_drew ?_ | refine blk_alloc ?_ _)); exact BK991.out) hb); have n1_ := Aside0.mk (below_step (by repeat (first | (with_reducible first | exact HB.out | apply below_alloc | apply pw_below_drewN | apply below_drew1 | refine below_set ?_ GE991.out) | exact HB.out)) hb); clear BK991; clear HB; have BK991 := n0_; have HB := n1_; clear n0_ n1_; (try clear hb); (try clear hb2); (try clear hk); (try clear hi)))
  go_ret
  exact ⟨by first | rfl | (simp [errW_none, errW_some] <;> rfl) | (simp [*, errW_none, errW_some] <;> rfl), by repeat (first | (with_reducible first | exact HB.out | apply below_alloc | apply pw_below_drewN | apply below_drew1 | refine below_set ?_ GE991.out) | exact HB.out)⟩
 ·replace c3 := Bool.eq_false_iff.mpr c3
  subst c3
  have H1 : (some false) = some r := by rw [if_neg (show ¬ (false = true) by decide)] at H; exact H
  clear H
  have H := H1
  clear H1
  obtain rfl := Option.some.inj H
  go_enter Try.func77, Try.ntmps77
  go_wp2_with (first | ((with_reducible refine gate_dst (N := 1) rfl ?_); refine box_event ?hg (N := 1) ?hd (cs := #[.bool a0_0, .slice A0_1 l0_1.length c0_1, .string a0_2]) (t := 32) ?hr ?_; (case hd => rfl); (case hg => rfl); (case hr => first | (go_simp; done) | (go_simp; rfl)); intro gb991 hg w10 hbox hb; have n0_ := Aside0.mk (below_step (by repeat (first | (with_reducible first | exact HB.out | apply below_alloc | apply pw_below_drewN | apply below_drew1) | exact HB.out)) hb); have n1_ := Aside0.mk (hbox); have n2_ := Aside0.mk ((by rw [hg]; exact (below_size (by repeat (first | (with_reducible first | exact HB.out | apply below_alloc | apply pw_below_drewN | apply below_drew1) | exact HB.out))) : w.heap.size ≤ gb991)); have n3_ := Aside0.mk ((by rw [hg]; exact (below_size (by repeat (first | (with_reducible first | exact HB.out | apply below_alloc | apply pw_below_drewN | apply below_drew1) | exact HB.out))) : w.heap.size ≤ gb991)); clear HB; have HB := n0_; have BK991 := n1_; have GW991 := n2_; have GE991 := n3_; clear n0_ n1_ n2_ n3_; clear hb hbox hg; have hcz11_0 : w10.cell? ⟨gb991, 0, none⟩ = some (.bool a0_0) := (blk_cell BK991.out 0).trans rfl; have hcz11_1 : w10.cell? ⟨gb991, 1, none⟩ = some (.slice A0_1 l0_1.length c0_1) := (blk_cell BK991.out 1).trans rfl; have hcz11_2 : w10.cell? ⟨gb991, 2, none⟩ = some (.string a0_2) := (blk_cell BK991.out 2).trans rfl; have hfz11_0 := blk_frozen BK991.out 0; have hfz11_1 := blk_frozen BK991.out 1; have hfz11_2 := blk_frozen BK991.out 2) | ((with_reducible refine gate_callee (f := 78) rfl ?_); refine goesL_ (some 4) rfl rfl Try.func78 (by kernel_rfl) rfl #[.agg #[.bool a0_0, .slice A0_1 l0_1.length c0_1, .string a0_2]] rfl (by (try simp only [List.map_toArray, List.map_cons, List.map_nil]); first | done | rfl | (simp only [List.length_drop, List.length_take]; rfl)) ?_; (with_reducible refine (subprogram_plain.calls a0_0 _ _ l0_1 a0_2 false _ ?side1 ?side2 A2.out).mono ?_); (case side1 => repeat (first | exact (Kd.C_below HR0_1.out HB.out) | (with_reducible refine Kd.C_alloc ?_ _) | (with_reducible refine Kd.C_drewN ?_ _) | (with_reducible refine Kd.C_drew ?_))); (case side2 => exact HC0_1.out); rintro e w12 ⟨rfl, hb⟩; refine ⟨_, rfl, ?_⟩; have n0_ := Aside0.mk (blk_below (g := gb991) (o := .cells #[.bool a0_0, .slice A0_1 l0_1.length c0_1, .string a0_2] 32 (0, 0)) (by (with_reducible repeat (first | refine blk_drewN ?_ _ | refine blk_drew ?_ | refine blk_alloc ?_ _)); exact BK991.out) hb); have n1_ := Aside0.mk (below_step (by repeat (first | (with_reducible first | exact HB.out | apply below_alloc | apply pw_below_drewN | apply below_drew1 | refine below_set ?_ GE991.out) | exact HB.out)) hb); clear BK991; clear HB; have BK991 := n0_; have HB := n1_; clear n0_ n1_; (try clear hb); (try clear hb2); (try clear hk); (try clear hi)))
  go_ret
  exact ⟨by first | rfl | (simp [errW_none, errW_some] <;> rfl) | (simp [*, errW_none, errW_some] <;> rfl), by repeat (first | (with_reducible first | exact HB.out | apply below_alloc | apply pw_below_drewN | apply below_drew1 | refine below_set ?_ GE991.out) | exact HB.out)⟩
end Go.Proofs.Ytehkhbnhmehobaa.P
namespace Go.Proofs.Ytehkhbnhmehobaa.P
open Go.RowKit Go.Proofs.YtehkhbnhmehobaaW.PrintWords Go.Proofs.YtehkhbnhmehobaaW.PrintLast Go.Proofs.YtehkhbnhmehobaaW.PrintMore
set_option linter.unusedVariables false
def idxF {α : Type} (p : α → Option Bool) : List α → Int → Option Int
  | [], _ => some (-1)
  | x :: l, i => (p x).bind fun b => if b = true then some i else idxF p l (i + 1)
theorem idxF_step {α : Type} {p : α → Option Bool} {l : List α} {j : Nat} {r : Int} (hj : j < l.length) (h : idxF p (l.drop j) (j : Int) = some r) :
    ∃ b, p (l[j]) = some b ∧ (if b = true then r = (j : Int) else idxF p (l.drop (j + 1)) ((j + 1 : Nat) : Int) = some r) := by
  rw [List.drop_eq_getElem_cons hj] at h
  simp only [idxF] at h
  obtain ⟨b, hb, h⟩ := Option.bind_eq_some_iff.mp h
  refine ⟨b, hb, ?_⟩
  cases b with
  | true => simp at h; simp [← h]
  | false =>
    simp at h ⊢
    exact h
theorem idxF_mono {α : Type} {p q : α → Option Bool} (h : ∀ x, LeO (p x) (q x)) : ∀ (l : List α) (i : Int), LeO (idxF p l i) (idxF q l i)
  | [], _ => LeO.refl _
  | x :: l, i => by
    simp only [idxF]
    exact LeO.bind (h x) (fun b => LeO.ite (LeO.refl _) (idxF_mono h l (i + 1)))
set_option maxHeartbeats 1000000 in
set_option maxRecDepth 100000 in
theorem IndexFunc_any (g : Nat) (fn : Func) (hf : Try.prog.funcs[g]? = some fn) (hname : (fn.name == "runtime.NumGoroutine") = false) (hbody : fn.body.isSome = true) (caps : Array Value) (p : S32 → Option Bool) (w : World)
    (hp : Aside0 (∀ (x : S32) (A1 : Option Addr) (c1 : Nat) (b : Bool) (W : World), Below w.heap.size w W → Kd.C k78 W A1 x.f1.length x.f1 → x.f1.length ≤ c1 → p x = some b →
      Calls Try.prog g (#[.agg #[.bool x.f0, .slice A1 x.f1.length c1, .string x.f2]] ++ caps) W fun e W' => e = .returned (.bool b) ∧ Below W.heap.size W W'))
    (A0 : Option Addr) (c0 : Nat) (l0 : List S32) (r : Int) (hr0 : Kd.C k32 w A0 l0.length l0) (hc0 : l0.length ≤ c0) (h : idxF p l0 0 = some r) :
    Calls Try.prog 73 #[.slice A0 l0.length c0, .func (.func g) #[] caps] w fun e w' => e = .returned (.int .i64 r) ∧ Below w.heap.size w w' := by
  have hu := Try.underlying32
  have HR0 := Aside0.mk hr0
  have HM := Aside0.mk (Kd.C_max hr0)
  have H := Aside0.mk h
  clear hr0 h
  go_enter Try.func73, Try.ntmps73
  go_wp2
  go_loopw [8] (fun i w' => ∃ j : Nat, i = .int .i64 j ∧ Aside0 (j ≤ l0.length) ∧ Aside0 (idxF p (l0.drop j) (j : Int) = some r) ∧ Aside0 (Below w.heap.size w w')) (fun i _ => l0.length - (intOf i).toNat)
  case atStart => exact ⟨0, rfl, ⟨Nat.zero_le _⟩, ⟨H.out⟩, ⟨Below.refl _ _⟩⟩
  case round =>
    obtain ⟨j, rfl, HJ, HI, HB⟩ := hrel
    by_cases hlt : j < l0.length
    · obtain ⟨b, hb, hI⟩ := idxF_step hlt HI.out
      obtain ⟨ad, A1, c1, e, hx0, hx1, hx2, hl1, hi1⟩ := at_T32 (Kd.C_below HR0.out HB.out) (j : Int) (by omega) (by omega)
      cases e
      have hrd : rd_T32 l0 (j : Int) = l0[j] := by simp [rd_T32, hlt]
      rw [hrd] at hx0 hx1 hx2 hl1 hi1
      generalize l0[j] = x at *
      clear hrd
      simp only [Int.toNat_natCast] at hx0 hx1 hx2
      have hlt' : decide ((j : Int) < (l0.length : Int)) = true := by simp; omega
      have HI2 := Aside0.mk hI
      have HL1 := Aside0.mk hl1
      have HI1 := Aside0.mk hi1
      have HP := Aside0.mk hb
      clear hI hl1 hi1 hb
      go_wp2_with ((with_reducible refine gate_dst (N := 16) rfl ?_); refine goesV_ (some 16) rfl rfl (caps := caps) rfl hf hname hbody (#[.agg #[.bool x.f0, .slice A1 x.f1.length c1, .string x.f2]] ++ caps) rfl (congrArg (fun z => z ++ caps) (by (try simp only [List.map_toArray, List.map_cons, List.map_nil]); rfl)) ?_; (with_reducible refine (hp.out x A1 c1 b _ HB.out HI1.out HL1.out HP.out).mono ?_); rintro e w2 ⟨rfl, hb2⟩; refine ⟨_, rfl, ?_⟩; have HB2 := Aside0.mk (below_then HB.out HB.out.size hb2); clear hb2)
      · have hbt : b = true := by assumption
        have hI3 := HI2.out
        rw [if_pos hbt] at hI3
        subst hI3
        go_ret
        exact ⟨rfl, HB2.out⟩
      · have hbf : ¬ b = true := by simpa using (show b = false by assumption)
        have hI3 := HI2.out
        rw [if_neg hbf] at hI3
        have HI3 := Aside0.mk hI3
        clear hI3
        go_roundw
        case rel => exact ⟨j + 1, by rw [wrap_succ hlt HM.out], ⟨by omega⟩, ⟨HI3.out⟩, ⟨HB2.out⟩⟩
        case measure => rw [wrap_succ hlt HM.out]; simp only [intOf, Int.toNat_natCast]; omega
    · have hlt' : decide ((j : Int) < (l0.length : Int)) = false := by simp; omega
      have hI := HI.out
      rw [List.drop_eq_nil_of_le (by omega)] at hI
      simp only [idxF, Option.some.injEq] at hI
      subst hI
      go_wp2
      go_ret
      exact ⟨rfl, HB.out⟩
set_option maxHeartbeats 1000000 in
set_option maxRecDepth 100000 in
theorem IndexFuncSub_any (g : Nat) (fn : Func) (hf : Try.prog.funcs[g]? = some fn) (hname : (fn.name == "runtime.NumGoroutine") = false) (hbody : fn.body.isSome = true) (caps : Array Value) (p : S81 → Option Bool) (w : World)
    (hp : Aside0 (∀ (x : S81) (A1 : Option Addr) (c1 : Nat) (b : Bool) (W : World), Below w.heap.size w W → Kd.C k32 W A1 x.f1.length x.f1 → x.f1.length ≤ c1 → p x = some b →
      Calls Try.prog g (#[.agg #[.int .i64 x.f0, .slice A1 x.f1.length c1]] ++ caps) W fun e W' => e = .returned (.bool b) ∧ Below W.heap.size W W'))
    (A0 : Option Addr) (c0 : Nat) (l0 : List S81) (r : Int) (hr0 : Kd.C k81 w A0 l0.length l0) (hc0 : l0.length ≤ c0) (h : idxF p l0 0 = some r) :
    Calls Try.prog 113 #[.slice A0 l0.length c0, .func (.func g) #[] caps] w fun e w' => e = .returned (.int .i64 r) ∧ Below w.heap.size w w' := by
  have hu := Try.underlying81
  have HR0 := Aside0.mk hr0
  have HM := Aside0.mk (Kd.C_max hr0)
  have H := Aside0.mk h
  clear hr0 h
  go_enter Try.func113, Try.ntmps113
  go_wp2
  go_loopw [8] (fun i w' => ∃ j : Nat, i = .int .i64 j ∧ Aside0 (j ≤ l0.length) ∧ Aside0 (idxF p (l0.drop j) (j : Int) = some r) ∧ Aside0 (Below w.heap.size w w')) (fun i _ => l0.length - (intOf i).toNat)
  case atStart => exact ⟨0, rfl, ⟨Nat.zero_le _⟩, ⟨H.out⟩, ⟨Below.refl _ _⟩⟩
  case round =>
    obtain ⟨j, rfl, HJ, HI, HB⟩ := hrel
    by_cases hlt : j < l0.length
    · obtain ⟨b, hb, hI⟩ := idxF_step hlt HI.out
      obtain ⟨ad, A1, c1, e, hx0, hx1, hl1, hi1⟩ := at_T81 (Kd.C_below HR0.out HB.out) (j : Int) (by omega) (by omega)
      cases e
      have hrd : rd_T81 l0 (j : Int) = l0[j] := by simp [rd_T81, hlt]
      rw [hrd] at hx0 hx1 hl1 hi1
      generalize l0[j] = x at *
      clear hrd
      simp only [Int.toNat_natCast] at hx0 hx1
      have hlt' : decide ((j : Int) < (l0.length : Int)) = true := by simp; omega
      have HI2 := Aside0.mk hI
      have HL1 := Aside0.mk hl1
      have HI1 := Aside0.mk hi1
      have HP := Aside0.mk hb
      clear hI hl1 hi1 hb
      go_wp2_with ((with_reducible refine gate_dst (N := 16) rfl ?_); refine goesV_ (some 16) rfl rfl (caps := caps) rfl hf hname hbody (#[.agg #[.int .i64 x.f0, .slice A1 x.f1.length c1]] ++ caps) rfl (congrArg (fun z => z ++ caps) (by (try simp only [List.map_toArray, List.map_cons, List.map_nil]); rfl)) ?_; (with_reducible refine (hp.out x A1 c1 b _ HB.out HI1.out HL1.out HP.out).mono ?_); rintro e w2 ⟨rfl, hb2⟩; refine ⟨_, rfl, ?_⟩; have HB2 := Aside0.mk (below_then HB.out HB.out.size hb2); clear hb2)
      · have hbt : b = true := by assumption
        have hI3 := HI2.out
        rw [if_pos hbt] at hI3
        subst hI3
        go_ret
        exact ⟨rfl, HB2.out⟩
      · have hbf : ¬ b = true := by simpa using (show b = false by assumption)
        have hI3 := HI2.out
        rw [if_neg hbf] at hI3
        have HI3 := Aside0.mk hI3
        clear hI3
        go_roundw
        case rel => exact ⟨j + 1, by rw [wrap_succ hlt HM.out], ⟨by omega⟩, ⟨HI3.out⟩, ⟨HB2.out⟩⟩
        case measure => rw [wrap_succ hlt HM.out]; simp only [intOf, Int.toNat_natCast]; omega
    · have hlt' : decide ((j : Int) < (l0.length : Int)) = false := by simp; omega
      have hI := HI.out
      rw [List.drop_eq_nil_of_le (by omega)] at hI
      simp only [idxF, Option.some.injEq] at hI
      subst hI
      go_wp2
      go_ret
      exact ⟨rfl, HB.out⟩
set_option maxRecDepth 100000 in
theorem ContainsFunc_any (g : Nat) (fn : Func) (hf : Try.prog.funcs[g]? = some fn) (hname : (fn.name == "runtime.NumGoroutine") = false) (hbody : fn.body.isSome = true) (caps : Array Value) (p : S32 → Option Bool) (w : World)
    (hp : Aside0 (∀ (x : S32) (A1 : Option Addr) (c1 : Nat) (b : Bool) (W : World), Below w.heap.size w W → Kd.C k78 W A1 x.f1.length x.f1 → x.f1.length ≤ c1 → p x = some b →
      Calls Try.prog g (#[.agg #[.bool x.f0, .slice A1 x.f1.length c1, .string x.f2]] ++ caps) W fun e W' => e = .returned (.bool b) ∧ Below W.heap.size W W'))
    (A0 : Option Addr) (c0 : Nat) (l0 : List S32) (r : Bool) (hr0 : Kd.C k32 w A0 l0.length l0) (hc0 : l0.length ≤ c0) (h : (idxF p l0 0).map (fun i => decide (i ≥ 0)) = some r) :
    Calls Try.prog 38 #[.slice A0 l0.length c0, .func (.func g) #[] caps] w fun e w' => e = .returned (.bool r) ∧ Below w.heap.size w w' := by
  obtain ⟨i, hi, hr⟩ := Option.map_eq_some_iff.mp h
  have HR0 := Aside0.mk hr0
  have HC0 := Aside0.mk hc0
  have H := Aside0.mk hi
  have HE := Aside0.mk hr
  clear hr0 h hi hc0 hr
  go_enter Try.func38, Try.ntmps38
  go_wp2_with (go_at_call 73; (with_reducible refine (IndexFunc_any g fn hf hname hbody caps p _ hp A0 c0 l0 i HR0.out HC0.out H.out).mono ?_); rintro e w2 ⟨rfl, hb2⟩; have HB2 := Aside0.mk hb2; clear hb2)
  go_ret
  exact ⟨by rw [← HE.out]; rfl, HB2.out⟩
set_option maxRecDepth 100000 in
theorem ContainsFuncSub_any (g : Nat) (fn : Func) (hf : Try.prog.funcs[g]? = some fn) (hname : (fn.name == "runtime.NumGoroutine") = false) (hbody : fn.body.isSome = true) (caps : Array Value) (p : S81 → Option Bool) (w : World)
    (hp : Aside0 (∀ (x : S81) (A1 : Option Addr) (c1 : Nat) (b : Bool) (W : World), Below w.heap.size w W → Kd.C k32 W A1 x.f1.length x.f1 → x.f1.length ≤ c1 → p x = some b →
      Calls Try.prog g (#[.agg #[.int .i64 x.f0, .slice A1 x.f1.length c1]] ++ caps) W fun e W' => e = .returned (.bool b) ∧ Below W.heap.size W W'))
    (A0 : Option Addr) (c0 : Nat) (l0 : List S81) (r : Bool) (hr0 : Kd.C k81 w A0 l0.length l0) (hc0 : l0.length ≤ c0) (h : (idxF p l0 0).map (fun i => decide (i ≥ 0)) = some r) :
    Calls Try.prog 101 #[.slice A0 l0.length c0, .func (.func g) #[] caps] w fun e w' => e = .returned (.bool r) ∧ Below w.heap.size w w' := by
  obtain ⟨i, hi, hr⟩ := Option.map_eq_some_iff.mp h
  have HR0 := Aside0.mk hr0
  have HC0 := Aside0.mk hc0
  have H := Aside0.mk hi
  have HE := Aside0.mk hr
  clear hr0 h hi hc0 hr
  go_enter Try.func101, Try.ntmps101
  go_wp2_with (go_at_call 113; (with_reducible refine (IndexFuncSub_any g fn hf hname hbody caps p _ hp A0 c0 l0 i HR0.out HC0.out H.out).mono ?_); rintro e w2 ⟨rfl, hb2⟩; have HB2 := Aside0.mk hb2; clear hb2)
  go_ret
  exact ⟨by rw [← HE.out]; rfl, HB2.out⟩
def IndexFunc_end.f (k : Nat) (l0 : List S32) : Option Int := idxF (fun x => subprogram_Split_1.f k x.f0 x.f1 x.f2) l0 0
theorem IndexFunc_end.mono : ∀ l0 k, LeO (IndexFunc_end.f k l0) (IndexFunc_end.f (k + 1) l0) := by
  intro l0 k
  unfold IndexFunc_end.f
  exact idxF_mono (fun x => subprogram_Split_1.mono _ _ _ _) l0 0
theorem IndexFunc_end.calls (k : Nat) (A0 : Option Addr) (c0 : Nat) (l0 : List S32) (r : Int) (w : World) (hr0 : Kd.C k32 w A0 l0.length l0) (hc0 : l0.length ≤ c0) (h : IndexFunc_end.f k l0 = some r) :
    Calls Try.prog 73 #[.slice A0 l0.length c0, .func (.func 75) #[] #[]] w fun e w' => e = .returned (.int .i64 r) ∧ Below w.heap.size w w' :=
  IndexFunc_any 75 _ Try.func75 (by kernel_rfl) rfl #[] (fun x => subprogram_Split_1.f k x.f0 x.f1 x.f2) w ⟨fun x A1 c1 b W _ hk hc hb => subprogram_Split_1.calls k x.f0 A1 c1 x.f1 x.f2 b W hk hc hb⟩ A0 c0 l0 r hr0 hc0 h
def IndexFunc_back.f (k : Nat) (l0 : List S32) : Option Int := idxF (fun x => subprogram_Split_2.f k x.f0 x.f1 x.f2) l0 0
theorem IndexFunc_back.mono : ∀ l0 k, LeO (IndexFunc_back.f k l0) (IndexFunc_back.f (k + 1) l0) := by
  intro l0 k
  unfold IndexFunc_back.f
  exact idxF_mono (fun x => subprogram_Split_2.mono _ _ _ _) l0 0
theorem IndexFunc_back.calls (k : Nat) (A0 : Option Addr) (c0 : Nat) (l0 : List S32) (r : Int) (w : World) (hr0 : Kd.C k32 w A0 l0.length l0) (hc0 : l0.length ≤ c0) (h : IndexFunc_back.f k l0 = some r) :
    Calls Try.prog 73 #[.slice A0 l0.length c0, .func (.func 77) #[] #[]] w fun e w' => e = .returned (.int .i64 r) ∧ Below w.heap.size w w' :=
  IndexFunc_any 77 _ Try.func77 (by kernel_rfl) rfl #[] (fun x => subprogram_Split_2.f k x.f0 x.f1 x.f2) w ⟨fun x A1 c1 b W _ hk hc hb => subprogram_Split_2.calls k x.f0 A1 c1 x.f1 x.f2 b W hk hc hb⟩ A0 c0 l0 r hr0 hc0 h
def ContainsFunc_marked.f (k : Nat) (l0 : List S32) : Option Bool := (idxF (fun x => subprogram_marked.f k x.f0 x.f1 x.f2) l0 0).map (fun i => decide (i ≥ 0))
theorem ContainsFunc_marked.mono : ∀ l0 k, LeO (ContainsFunc_marked.f k l0) (ContainsFunc_marked.f (k + 1) l0) := by
  intro l0 k
  unfold ContainsFunc_marked.f
  exact LeO.map _ (idxF_mono (fun x => subprogram_marked.mono _ _ _ _) l0 0)
theorem ContainsFunc_marked.calls (k : Nat) (A0 : Option Addr) (c0 : Nat) (l0 : List S32) (r : Bool) (w : World) (hr0 : Kd.C k32 w A0 l0.length l0) (hc0 : l0.length ≤ c0) (h : ContainsFunc_marked.f k l0 = some r) :
    Calls Try.prog 38 #[.slice A0 l0.length c0, .func (.func 100) #[] #[]] w fun e w' => e = .returned (.bool r) ∧ Below w.heap.size w w' :=
  ContainsFunc_any 100 _ Try.func100 (by kernel_rfl) rfl #[] (fun x => subprogram_marked.f k x.f0 x.f1 x.f2) w ⟨fun x A1 c1 b W _ hk hc hb => subprogram_marked.calls k x.f0 A1 c1 x.f1 x.f2 b W hk hc hb⟩ A0 c0 l0 r hr0 hc0 h
end Go.Proofs.Ytehkhbnhmehobaa.P
namespace Go.Proofs.Ytehkhbnhmehobaa.P
open Go.RowKit Go.Proofs.YtehkhbnhmehobaaW.PrintWords Go.Proofs.YtehkhbnhmehobaaW.PrintLast Go.Proofs.YtehkhbnhmehobaaW.PrintMore
attribute [local go_sem] max2_int min2_int max_two min_two max_three min_three max_four min_four
set_option linter.unusedVariables false
set_option linter.unusedSimpArgs false
def subprogram_ordered_1.f (k : Nat) (a0_0 : Int) (l0_1 : List (S32)) : Option (Bool) := (ContainsFunc_marked.f k l0_1).bind fun t995 => (some t995)
theorem subprogram_ordered_1.mono : ∀ a0 a1 k, LeO (subprogram_ordered_1.f k a0 a1) (subprogram_ordered_1.f (k + 1) a0 a1) := by
 intro a0 a1 k
 unfold subprogram_ordered_1.f
 repeat' first
   | (with_reducible exact ContainsFunc_marked.mono _ _)
   | (with_reducible exact LeO.refl _)
   | (with_reducible exact LeO.none _)
   | (with_reducible refine LeO.ite ?_ ?_)
   | (with_reducible refine LeO.bind ?_ (fun _ => ?_))
   | exact ContainsFunc_marked.mono _ _
   | exact LeO.none _
   | refine LeO.ite ?_ ?_
   | refine LeO.bind ?_ (fun _ => ?_)
set_option maxHeartbeats 8000000 in
set_option maxRecDepth 100000 in
theorem subprogram_ordered_1.calls (k : Nat) (a0_0 : Int) (A0_1 : Option Addr) (c0_1 : Nat) (l0_1 : List (S32)) (r : Bool) (w : World) (hr0_1 : Kd.C k32 w A0_1 l0_1.length l0_1) (hc0_1 : l0_1.length ≤ c0_1) (h : subprogram_ordered_1.f k a0_0 l0_1 = some r) :
  Calls Try.prog 102 #[.agg #[.int .i64 a0_0, .slice A0_1 l0_1.length c0_1]] w fun e w' => e = .returned (.bool r) ∧ Below w.heap.size w w' := by
 have hu81 := Try.underlying81
 have HR0_1 := Aside0.mk hr0_1
 have HC0_1 := Aside0.mk hc0_1
 clear hr0_1 hc0_1
 have HB := Aside0.mk (Below.refl w.heap.size w)
 have H : ((ContainsFunc_marked.f k l0_1).bind fun t995 => (some t995)) = some r := h
 clear h
 replace H := Option.bind_eq_some_iff.mp H
 obtain ⟨t995, A20, H⟩ := H
 replace H : (some t995) = some r := H
 have A2 := Aside0.mk A20
 clear A20
 obtain rfl := Option.some.inj H
 go_enter Try.func102, Try.ntmps102
 go_wp2_with (first | ((with_reducible refine gate_dst (N := 1) rfl ?_); refine box_event ?hg (N := 1) ?hd (cs := #[.int .i64 a0_0, .slice A0_1 l0_1.length c0_1]) (t := 81) ?hr ?_; (case hd => rfl); (case hg => rfl); (case hr => first | (go_simp; done) | (go_simp; rfl)); intro gb994 hg w3 hbox hb; have n0_ := Aside0.mk (below_step (by repeat (first | (with_reducible first | exact HB.out | apply below_alloc | apply pw_below_drewN | apply below_drew1) | exact HB.out)) hb); have n1_ := Aside0.mk (hbox); have n2_ := Aside0.mk ((by rw [hg]; exact (below_size (by repeat (first | (with_reducible first | exact HB.out | apply below_alloc | apply pw_below_drewN | apply below_drew1) | exact HB.out))) : w.heap.size ≤ gb994)); have n3_ := Aside0.mk ((by rw [hg]; exact (below_size (by repeat (first | (with_reducible first | exact HB.out | apply below_alloc | apply pw_below_drewN | apply below_drew1) | exact HB.out))) : w.heap.size ≤ gb994)); clear HB; have HB := n0_; have BK994 := n1_; have GW994 := n2_; have GE994 := n3_; clear n0_ n1_ n2_ n3_; clear hb hbox hg; have hcz4_0 : w3.cell? ⟨gb994, 0, none⟩ = some (.int .i64 a0_0) := (blk_cell BK994.out 0).trans rfl; have hcz4_1 : w3.cell? ⟨gb994, 1, none⟩ = some (.slice A0_1 l0_1.length c0_1) := (blk_cell BK994.out 1).trans rfl; have hfz4_0 := blk_frozen BK994.out 0; have hfz4_1 := blk_frozen BK994.out 1) | ((with_reducible refine gate_callee (f := 38) rfl ?_); refine goesL_ (some 5) rfl rfl Try.func38 (by kernel_rfl) rfl #[.slice A0_1 l0_1.length c0_1, .func (.func 100) #[] #[]] rfl (by (try simp only [List.map_toArray, List.map_cons, List.map_nil]); first | done | rfl | (simp only [List.length_drop, List.length_take]; rfl)) ?_; (with_reducible refine (ContainsFunc_marked.calls k _ _ l0_1  t995 _ ?side1 ?side2 A2.out).mono ?_); (case side1 => repeat (first | exact (Kd.C_below HR0_1.out HB.out) | (with_reducible refine Kd.C_alloc ?_ _) | (with_reducible refine Kd.C_drewN ?_ _) | (with_reducible refine Kd.C_drew ?_))); (case side2 => exact HC0_1.out); rintro e w5 ⟨rfl, hb⟩; refine ⟨_, rfl, ?_⟩; have n0_ := Aside0.mk (blk_below (g := gb994) (o := .cells #[.int .i64 a0_0, .slice A0_1 l0_1.length c0_1] 81 (0, 0)) (by (with_reducible repeat (first | refine blk_drewN ?_ _ | refine blk_drew ?_ | refine blk_alloc ?_ _)); exact BK994.out) hb); have n1_ := Aside0.mk (below_step (by repeat (first | (with_reducible first | exact HB.out | apply below_alloc | apply pw_below_drewN | apply below_drew1 | refine below_set ?_ GE994.out) | exact HB.out)) hb); clear BK994; clear HB; have BK994 := n0_; have HB := n1_; clear n0_ n1_; (try clear hb); (try clear hb2); (try clear hk); (try clear hi)))
 go_ret
 exact ⟨by first | rfl | (simp [errW_none, errW_some] <;> rfl) | (simp [*, errW_none, errW_some] <;> rfl), by repeat (first | (with_reducible first | exact HB.out | apply below_alloc | apply pw_below_drewN | apply below_drew1 | refine below_set ?_ GE994.out) | exact HB.out)⟩
end Go.Proofs.Ytehkhbnhmehobaa.P
namespace Go.Proofs.Ytehkhbnhmehobaa.P
open Go.RowKit Go.Proofs.YtehkhbnhmehobaaW.PrintWords Go.Proofs.YtehkhbnhmehobaaW.PrintLast Go.Proofs.YtehkhbnhmehobaaW.PrintMore
set_option linter.unusedVariables false
def ContainsFunc_ordered.f (k : Nat) (l0 : List S81) : Option Bool := (idxF (fun x => subprogram_ordered_1.f k x.f0 x.f1) l0 0).map (fun i => decide (i ≥ 0))
theorem ContainsFunc_ordered.mono : ∀ l0 k, LeO (ContainsFunc_ordered.f k l0) (ContainsFunc_ordered.f (k + 1) l0) := by
  intro l0 k
  unfold ContainsFunc_ordered.f
  exact LeO.map _ (idxF_mono (fun x => subprogram_ordered_1.mono _ _ _) l0 0)
theorem ContainsFunc_ordered.calls (k : Nat) (A0 : Option Addr) (c0 : Nat) (l0 : List S81) (r : Bool) (w : World) (hr0 : Kd.C k81 w A0 l0.length l0) (hc0 : l0.length ≤ c0) (h : ContainsFunc_ordered.f k l0 = some r) :
    Calls Try.prog 101 #[.slice A0 l0.length c0, .func (.func 102) #[] #[]] w fun e w' => e = .returned (.bool r) ∧ Below w.heap.size w w' :=
  ContainsFuncSub_any 102 _ Try.func102 (by kernel_rfl) rfl #[] (fun x => subprogram_ordered_1.f k x.f0 x.f1) w ⟨fun x A1 c1 b W _ hk hc hb => subprogram_ordered_1.calls k x.f0 A1 c1 x.f1 b W hk hc hb⟩ A0 c0 l0 r hr0 hc0 h
end Go.Proofs.Ytehkhbnhmehobaa.P
namespace Go.Proofs.Ytehkhbnhmehobaa.P
open Go.RowKit Go.Proofs.YtehkhbnhmehobaaW.PrintWords Go.Proofs.YtehkhbnhmehobaaW.PrintLast Go.Proofs.YtehkhbnhmehobaaW.PrintMore
attribute [local go_sem] max2_int min2_int max_two min_two max_three min_three max_four min_four
set_option linter.unusedVariables false
set_option linter.unusedSimpArgs false
def subprogram_ordered.f (k : Nat) (l0_0 : List (S32)) (l0_1 : List (S81)) : Option (Bool) := if (wrap64 ((l0_0.length : Int) - 1)) < 0 then (some false) else (if 0 ≤ (wrap64 ((l0_0.length : Int) - 1)) then (if (wrap64 ((l0_0.length : Int) - 1)) < (l0_0.length : Int) then ((subprogram_has.f k ((rd_T32 l0_0 (wrap64 ((l0_0.length : Int) - 1))).f0) ((rd_T32 l0_0 (wrap64 ((l0_0.length : Int) - 1))).f1) ((rd_T32 l0_0 (wrap64 ((l0_0.length : Int) - 1))).f2) 77 30000).bind fun t380 => (if t380 = true then ((block_Codes.f k ((rd_T32 l0_0 (wrap64 ((l0_0.length : Int) - 1))).f0) ((rd_T32 l0_0 (wrap64 ((l0_0.length : Int) - 1))).f1) ((rd_T32 l0_0 (wrap64 ((l0_0.length : Int) - 1))).f2) 79).bind fun t382 => (if (t382.length : Int) > 0 then (some false) else ((subprogram_has.f k ((rd_T32 l0_0 (wrap64 ((l0_0.length : Int) - 1))).f0) ((rd_T32 l0_0 (wrap64 ((l0_0.length : Int) - 1))).f1) ((rd_T32 l0_0 (wrap64 ((l0_0.length : Int) - 1))).f2) 77 99000).bind fun t386 => (if t386 = true then (some false) else (if (wrap64 ((l0_0.length : Int) - 1)) ≤ (l0_0.length : Int) then ((ContainsFunc_marked.f k (l0_0.take ((wrap64 ((l0_0.length : Int) - 1)) : Int).toNat)).bind fun t391 => (if t391 = true then (some false) else ((ContainsFunc_ordered.f k l0_1).bind fun t392 => (some (!t392))))) else (none)))))) else (some false))) else (none)) else (none))
theorem subprogram_ordered.mono : ∀ a0 a1 k, LeO (subprogram_ordered.f k a0 a1) (subprogram_ordered.f (k + 1) a0 a1) := by
 intro a0 a1 k
 unfold subprogram_ordered.f
 repeat' first
   | (with_reducible exact ContainsFunc_marked.mono _ _)
   | (with_reducible exact ContainsFunc_ordered.mono _ _)
   | (with_reducible exact block_Codes.mono _ _ _ _ _)
   | (with_reducible exact subprogram_has.mono _ _ _ _ _ _)
   | (with_reducible exact LeO.refl _)
   | (with_reducible exact LeO.none _)
   | (with_reducible refine LeO.ite ?_ ?_)
   | (with_reducible refine LeO.bind ?_ (fun _ => ?_))
   | exact ContainsFunc_marked.mono _ _
   | exact ContainsFunc_ordered.mono _ _
   | exact block_Codes.mono _ _ _ _ _
   | exact subprogram_has.mono _ _ _ _ _ _
   | exact LeO.none _
   | refine LeO.ite ?_ ?_
   | refine LeO.bind ?_ (fun _ => ?_)
set_option maxHeartbeats 8000000 in
set_option maxRecDepth 100000 in
theorem subprogram_ordered.calls (k : Nat) (A0_0 : Option Addr) (c0_0 : Nat) (l0_0 : List (S32)) (A0_1 : Option Addr) (c0_1 : Nat) (l0_1 : List (S81)) (r : Bool) (w : World) (hr0_0 : Kd.C k32 w A0_0 l0_0.length l0_0) (hc0_0 : l0_0.length ≤ c0_0) (hr0_1 : Kd.C k81 w A0_1 l0_1.length l0_1) (hc0_1 : l0_1.length ≤ c0_1) (h : subprogram_ordered.f k l0_0 l0_1 = some r) :
  Calls Try.prog 79 #[.agg #[.slice A0_0 l0_0.length c0_0, .slice A0_1 l0_1.length c0_1]] w fun e w' => e = .returned (.bool r) ∧ Below w.heap.size w w' := by
 have hu54 := Try.underlying54
 have hu32 := Try.underlying32
 have HR0_0 := Aside0.mk hr0_0
 have HC0_0 := Aside0.mk hc0_0
 clear hr0_0 hc0_0
 have HR0_1 := Aside0.mk hr0_1
 have HC0_1 := Aside0.mk hc0_1
 clear hr0_1 hc0_1
 have HB := Aside0.mk (Below.refl w.heap.size w)
 have H : (if (wrap64 ((l0_0.length : Int) - 1)) < 0 then (some false) else (if 0 ≤ (wrap64 ((l0_0.length : Int) - 1)) then (if (wrap64 ((l0_0.length : Int) - 1)) < (l0_0.length : Int) then ((subprogram_has.f k ((rd_T32 l0_0 (wrap64 ((l0_0.length : Int) - 1))).f0) ((rd_T32 l0_0 (wrap64 ((l0_0.length : Int) - 1))).f1) ((rd_T32 l0_0 (wrap64 ((l0_0.length : Int) - 1))).f2) 77 30000).bind fun t380 => (if t380 = true then ((block_Codes.f k ((rd_T32 l0_0 (wrap64 ((l0_0.length : Int) - 1))).f0) ((rd_T32 l0_0 (wrap64 ((l0_0.length : Int) - 1))).f1) ((rd_T32 l0_0 (wrap64 ((l0_0.length : Int) - 1))).f2) 79).bind fun t382 => (if (t382.length : Int) > 0 then (some false) else ((subprogram_has.f k ((rd_T32 l0_0 (wrap64 ((l0_0.length : Int) - 1))).f0) ((rd_T32 l0_0 (wrap64 ((l0_0.length : Int) - 1))).f1) ((rd_T32 l0_0 (wrap64 ((l0_0.length : Int) - 1))).f2) 77 99000).bind fun t386 => (if t386 = true then (some false) else (if (wrap64 ((l0_0.length : Int) - 1)) ≤ (l0_0.length : Int) then ((ContainsFunc_marked.f k (l0_0.take ((wrap64 ((l0_0.length : Int) - 1)) : Int).toNat)).bind fun t391 => (if t391 = true then (some false) else ((ContainsFunc_ordered.f k l0_1).bind fun t392 => (some (!t392))))) else (none)))))) else (some false))) else (none)) else (none))) = some r := h
 clear h
 by_cases c2 : (wrap64 ((l0_0.length : Int) - 1)) < 0
 ·rw [if_pos c2] at H
  have c2b0 : decide ((wrap64 ((l0_0.length : Int) - 1)) < 0) = true := decide_eq_true c2
  clear c2
  obtain rfl := Option.some.inj H
  go_enter Try.func79, Try.ntmps79
  go_wp2_with (first | ((with_reducible refine gate_dst (N := 1) rfl ?_); (try (refine gate_guard (by rfl) ?_; dsimp only)); refine box_event ?hg (N := 1) ?hd (cs := #[.slice A0_0 l0_0.length c0_0, .slice A0_1 l0_1.length c0_1]) (t := 54) ?hr ?_; (case hd => rfl); (case hg => rfl); (case hr => first | (go_simp; done) | (go_simp; rfl)); intro gb378 hg w3 hbox hb; have n0_ := Aside0.mk (below_step (by repeat (first | (with_reducible first | exact HB.out | apply below_alloc | apply pw_below_drewN | apply below_drew1) | exact HB.out)) hb); have n1_ := Aside0.mk (hbox); have n2_ := Aside0.mk ((by rw [hg]; exact (below_size (by repeat (first | (with_reducible first | exact HB.out | apply below_alloc | apply pw_below_drewN | apply below_drew1) | exact HB.out))) : w.heap.size ≤ gb378)); have n3_ := Aside0.mk ((by rw [hg]; exact (below_size (by repeat (first | (with_reducible first | exact HB.out | apply below_alloc | apply pw_below_drewN | apply below_drew1) | exact HB.out))) : w.heap.size ≤ gb378)); clear HB; have HB := n0_; have BK378 := n1_; have GW378 := n2_; have GE378 := n3_; clear n0_ n1_ n2_ n3_; clear hb hbox hg; have hcz4_0 : w3.cell? ⟨gb378, 0, none⟩ = some (.slice A0_0 l0_0.length c0_0) := (blk_cell BK378.out 0).trans rfl; have hcz4_1 : w3.cell? ⟨gb378, 1, none⟩ = some (.slice A0_1 l0_1.length c0_1) := (blk_cell BK378.out 1).trans rfl; have hfz4_0 := blk_frozen BK378.out 0; have hfz4_1 := blk_frozen BK378.out 1))
  go_ret
  exact ⟨by first | rfl | (simp [errW_none, errW_some] <;> rfl) | (simp [*, errW_none, errW_some] <;> rfl), by repeat (first | (with_reducible first | exact HB.out | apply below_alloc | apply pw_below_drewN | apply below_drew1 | refine below_set ?_ GE378.out) | exact HB.out)⟩
 ·rw [if_neg c2] at H
  have c2b0 : decide ((wrap64 ((l0_0.length : Int) - 1)) < 0) = false := decide_eq_false c2
  clear c2
  obtain ⟨ji5, hji5⟩ : ∃ j_ : Int, (wrap64 ((l0_0.length : Int) - 1)) = j_ := ⟨_, rfl⟩
  replace H : (if 0 ≤ (ji5) then (if (ji5) < (l0_0.length : Int) then ((subprogram_has.f k ((rd_T32 l0_0 (ji5)).f0) ((rd_T32 l0_0 (ji5)).f1) ((rd_T32 l0_0 (ji5)).f2) 77 30000).bind fun t380 => (if t380 = true then ((block_Codes.f k ((rd_T32 l0_0 (ji5)).f0) ((rd_T32 l0_0 (ji5)).f1) ((rd_T32 l0_0 (ji5)).f2) 79).bind fun t382 => (if (t382.length : Int) > 0 then (some false) else ((subprogram_has.f k ((rd_T32 l0_0 (ji5)).f0) ((rd_T32 l0_0 (ji5)).f1) ((rd_T32 l0_0 (ji5)).f2) 77 99000).bind fun t386 => (if t386 = true then (some false) else (if (ji5) ≤ (l0_0.length : Int) then ((ContainsFunc_marked.f k (l0_0.take ((ji5) : Int).toNat)).bind fun t391 => (if t391 = true then (some false) else ((ContainsFunc_ordered.f k l0_1).bind fun t392 => (some (!t392))))) else (none)))))) else (some false))) else (none)) else (none)) = some r := by first | (rw [hji5] at H; exact H) | (simp only [hji5] at H ⊢; exact H)
  (try rw [hji5] at c2b0)
  have hji5w : (IntKind.i64.wrap ((l0_0.length : Int) - 1)) = ji5 := (i64_w _).trans hji5
  by_cases c6 : 0 ≤ (ji5)
  ·rw [if_pos c6] at H
   have c6b0 : decide (0 ≤ (ji5)) = true := decide_eq_true c6
   clear c6
   by_cases c7 : (ji5) < (l0_0.length : Int)
   ·rw [if_pos c7] at H
    have c7b0 : decide ((ji5) < (l0_0.length : Int)) = true := decide_eq_true c7
    clear c7
    replace H := Option.bind_eq_some_iff.mp H
    obtain ⟨t380, A80, H⟩ := H
    replace H : (if t380 = true then ((block_Codes.f k ((rd_T32 l0_0 (ji5)).f0) ((rd_T32 l0_0 (ji5)).f1) ((rd_T32 l0_0 (ji5)).f2) 79).bind fun t382 => (if (t382.length : Int) > 0 then (some false) else ((subprogram_has.f k ((rd_T32 l0_0 (ji5)).f0) ((rd_T32 l0_0 (ji5)).f1) ((rd_T32 l0_0 (ji5)).f2) 77 99000).bind fun t386 => (if t386 = true then (some false) else (if (ji5) ≤ (l0_0.length : Int) then ((ContainsFunc_marked.f k (l0_0.take ((ji5) : Int).toNat)).bind fun t391 => (if t391 = true then (some false) else ((ContainsFunc_ordered.f k l0_1).bind fun t392 => (some (!t392))))) else (none)))))) else (some false)) = some r := H
    have A8 := Aside0.mk A80
    clear A80
    by_cases c9 : t380 = true
    ·subst c9
     have H1 : ((block_Codes.f k ((rd_T32 l0_0 (ji5)).f0) ((rd_T32 l0_0 (ji5)).f1) ((rd_T32 l0_0 (ji5)).f2) 79).bind fun t382 => (if (t382.length : Int) > 0 then (some false) else ((subprogram_has.f k ((rd_T32 l0_0 (ji5)).f0) ((rd_T32 l0_0 (ji5)).f1) ((rd_T32 l0_0 (ji5)).f2) 77 99000).bind fun t386 => (if t386 = true then (some false) else (if (ji5) ≤ (l0_0.length : Int) then ((ContainsFunc_marked.f k (l0_0.take ((ji5) : Int).toNat)).bind fun t391 => (if t391 = true then (some false) else ((ContainsFunc_ordered.f k l0_1).bind fun t392 => (some (!t392))))) else (none)))))) = some r := by rw [if_pos rfl] at H; exact H
     clear H
     have H := H1
     clear H1
     replace H := Option.bind_eq_some_iff.mp H
     obtain ⟨t382, A100, H⟩ := H
     replace H : (if (t382.length : Int) > 0 then (some false) else ((subprogram_has.f k ((rd_T32 l0_0 (ji5)).f0) ((rd_T32 l0_0 (ji5)).f1) ((rd_T32 l0_0 (ji5)).f2) 77 99000).bind fun t386 => (if t386 = true then (some false) else (if (ji5) ≤ (l0_0.length : Int) then ((ContainsFunc_marked.f k (l0_0.take ((ji5) : Int).toNat)).bind fun t391 => (if t391 = true then (some false) else ((ContainsFunc_ordered.f k l0_1).bind fun t392 => (some (!t392))))) else (none))))) = some r := H
     have A10 := Aside0.mk A100
     clear A100
     by_cases c11 : (t382.length : Int) > 0
     ·rw [if_pos c11] at H
      have c11b0 : decide (0 < (t382.length : Int)) = true := decide_eq_true c11
      have c11b1 : decide (0 < t382.length) = true := decide_eq_true (by omega)
      clear c11
      obtain rfl := Option.some.inj H
      go_enter Try.func79, Try.ntmps79
      go_wp2_with (first | ((with_reducible refine gate_dst (N := 1) rfl ?_); (try (refine gate_guard (by rfl) ?_; dsimp only)); refine box_event ?hg (N := 1) ?hd (cs := #[.slice A0_0 l0_0.length c0_0, .slice A0_1 l0_1.length c0_1]) (t := 54) ?hr ?_; (case hd => rfl); (case hg => rfl); (case hr => first | (go_simp; done) | (go_simp; rfl)); intro gb378 hg w12 hbox hb; have n0_ := Aside0.mk (below_step (by repeat (first | (with_reducible first | exact HB.out | apply below_alloc | apply pw_below_drewN | apply below_drew1) | exact HB.out)) hb); have n1_ := Aside0.mk (hbox); have n2_ := Aside0.mk ((by rw [hg]; exact (below_size (by repeat (first | (with_reducible first | exact HB.out | apply below_alloc | apply pw_below_drewN | apply below_drew1) | exact HB.out))) : w.heap.size ≤ gb378)); have n3_ := Aside0.mk ((by rw [hg]; exact (below_size (by repeat (first | (with_reducible first | exact HB.out | apply below_alloc | apply pw_below_drewN | apply below_drew1) | exact HB.out))) : w.heap.size ≤ gb378)); clear HB; have HB := n0_; have BK378 := n1_; have GW378 := n2_; have GE378 := n3_; clear n0_ n1_ n2_ n3_; clear hb hbox hg; have hcz13_0 : w12.cell? ⟨gb378, 0, none⟩ = some (.slice A0_0 l0_0.length c0_0) := (blk_cell BK378.out 0).trans rfl; have hcz13_1 : w12.cell? ⟨gb378, 1, none⟩ = some (.slice A0_1 l0_1.length c0_1) := (blk_cell BK378.out 1).trans rfl; have hfz13_0 := blk_frozen BK378.out 0; have hfz13_1 := blk_frozen BK378.out 1; have p379 : 0 ≤ ((ji5) : Int) := of_decide_eq_true (by first | (with_reducible assumption) | assumption); have q379 : (ji5) < (l0_0.length : Int) := of_decide_eq_true (by first | (with_reducible assumption) | assumption); obtain ⟨ad379, A379_1, c379_1, e379, hx379_0, hx379_1, hx379_2, hl379_1, hi379_1⟩ := at_T32 HR0_0.out (ji5) p379 q379; cases e379; replace hx379_0 := (HB.out.cell (World.block_lt_of_cell? w _ hx379_0)).trans hx379_0; replace hx379_1 := (HB.out.cell (World.block_lt_of_cell? w _ hx379_1)).trans hx379_1; replace hx379_2 := (HB.out.cell (World.block_lt_of_cell? w _ hx379_2)).trans hx379_2; have HR379_1 := Aside0.mk hi379_1; have HC379_1 := Aside0.mk hl379_1; clear hi379_1 hl379_1; replace p379 := eq_true p379; replace q379 := eq_true q379) | (go_at_call 58; (with_reducible refine (subprogram_has.calls k ((rd_T32 l0_0 (ji5)).f0) _ _ ((rd_T32 l0_0 (ji5)).f1) ((rd_T32 l0_0 (ji5)).f2) 77 30000 true _ ?side1 ?side2 A8.out).mono ?_); (case side1 => repeat (first | exact (Kd.C_below HR379_1.out HB.out) | (with_reducible refine Kd.C_alloc ?_ _) | (with_reducible refine Kd.C_drewN ?_ _) | (with_reducible refine Kd.C_drew ?_))); (case side2 => exact HC379_1.out); rintro e w14 ⟨rfl, hb⟩; have n0_ := Aside0.mk (blk_below (g := gb378) (o := .cells #[.slice (some ad379) l0_0.length c0_0, .slice A0_1 l0_1.length c0_1] 54 (0, 0)) (by (with_reducible repeat (first | refine blk_drewN ?_ _ | refine blk_drew ?_ | refine blk_alloc ?_ _)); exact BK378.out) hb); have n1_ := Aside0.mk (below_step (by repeat (first | (with_reducible first | exact HB.out | apply below_alloc | apply pw_below_drewN | apply below_drew1 | refine below_set ?_ GE378.out) | exact HB.out)) hb); clear BK378; clear HB; have BK378 := n0_; have HB := n1_; clear n0_ n1_; (try clear hb); (try clear hb2); (try clear hk); (try clear hi); have hcz15_0 : w14.cell? ⟨gb378, 0, none⟩ = some (.slice (some ad379) l0_0.length c0_0) := (blk_cell BK378.out 0).trans rfl; have hcz15_1 : w14.cell? ⟨gb378, 1, none⟩ = some (.slice A0_1 l0_1.length c0_1) := (blk_cell BK378.out 1).trans rfl; have hfz15_0 := blk_frozen BK378.out 0; have hfz15_1 := blk_frozen BK378.out 1; have p381 : 0 ≤ ((ji5) : Int) := of_decide_eq_true (by first | (with_reducible assumption) | assumption); have q381 : (ji5) < (l0_0.length : Int) := of_decide_eq_true (by first | (with_reducible assumption) | assumption); obtain ⟨ad381, A381_1, c381_1, e381, hx381_0, hx381_1, hx381_2, hl381_1, hi381_1⟩ := at_T32 HR0_0.out (ji5) p381 q381; obtain rfl : ad379 = ad381 := (by injection e381); replace hx381_0 := (HB.out.cell (World.block_lt_of_cell? w _ hx381_0)).trans hx381_0; replace hx381_1 := (HB.out.cell (World.block_lt_of_cell? w _ hx381_1)).trans hx381_1; replace hx381_2 := (HB.out.cell (World.block_lt_of_cell? w _ hx381_2)).trans hx381_2; have HR381_1 := Aside0.mk hi381_1; have HC381_1 := Aside0.mk hl381_1; clear hi381_1 hl381_1; replace p381 := eq_true p381; replace q381 := eq_true q381) | (go_at_call 93; (with_reducible refine (block_Codes.calls k ((rd_T32 l0_0 (ji5)).f0) _ _ ((rd_T32 l0_0 (ji5)).f1) ((rd_T32 l0_0 (ji5)).f2) 79 t382 _ ?side1 ?side2 A10.out).mono ?_); (case side1 => repeat (first | exact (Kd.C_below HR381_1.out HB.out) | (with_reducible refine Kd.C_alloc ?_ _) | (with_reducible refine Kd.C_drewN ?_ _) | (with_reducible refine Kd.C_drew ?_))); (case side2 => exact HC381_1.out); rintro e w16 ⟨v383, rfl, ho0, hb⟩; have n0_ := Aside0.mk (Kd.R_lower ho0 (below_size (by repeat (first | (with_reducible first | exact HB.out | apply below_alloc | apply pw_below_drewN | apply below_drew1 | refine below_set ?_ GE378.out) | exact HB.out)))); have n1_ := Aside0.mk (blk_below (g := gb378) (o := .cells #[.slice (some ad379) l0_0.length c0_0, .slice A0_1 l0_1.length c0_1] 54 (0, 0)) (by (with_reducible repeat (first | refine blk_drewN ?_ _ | refine blk_drew ?_ | refine blk_alloc ?_ _)); exact BK378.out) hb); have n2_ := Aside0.mk (below_step (by repeat (first | (with_reducible first | exact HB.out | apply below_alloc | apply pw_below_drewN | apply below_drew1 | refine below_set ?_ GE378.out) | exact HB.out)) hb); clear BK378; clear HB; have HO384 := n0_; have BK378 := n1_; have HB := n2_; clear n0_ n1_ n2_; (try clear hb); (try clear hb2); (try clear hk); (try clear hi); (try clear ho0); obtain ⟨Ao17, co17, eo17⟩ := Kd.R_slice HO384.out; subst eo17))
      go_ret
      exact ⟨by first | rfl | (simp [errW_none, errW_some] <;> rfl) | (simp only [← hji5]; first | rfl | (simp [errW_none, errW_some] <;> rfl)) | (simp [*, errW_none, errW_some] <;> rfl), by repeat (first | (with_reducible first | exact HB.out | apply below_alloc | apply pw_below_drewN | apply below_drew1 | refine below_set ?_ GE378.out) | exact HB.out)⟩
     ·rw [if_neg c11] at H
      have c11b0 : decide (0 < (t382.length : Int)) = false := decide_eq_false c11
      have c11b1 : decide (0 < t382.length) = false := decide_eq_false (by omega)
      clear c11
      replace H := Option.bind_eq_some_iff.mp H
      obtain ⟨t386, A180, H⟩ := H
      replace H : (if t386 = true then (some false) else (if (ji5) ≤ (l0_0.length : Int) then ((ContainsFunc_marked.f k (l0_0.take ((ji5) : Int).toNat)).bind fun t391 => (if t391 = true then (some false) else ((ContainsFunc_ordered.f k l0_1).bind fun t392 => (some (!t392))))) else (none))) = some r := H
      have A18 := Aside0.mk A180
      clear A180
      by_cases c19 : t386 = true
      ·subst c19
       have H1 : (some false) = some r := by rw [if_pos rfl] at H; exact H
       clear H
       have H := H1
       clear H1
       obtain rfl := Option.some.inj H
       go_enter Try.func79, Try.ntmps79
       go_wp2_with (first | ((with_reducible refine gate_dst (N := 1) rfl ?_); (try (refine gate_guard (by rfl) ?_; dsimp only)); refine box_event ?hg (N := 1) ?hd (cs := #[.slice A0_0 l0_0.length c0_0, .slice A0_1 l0_1.length c0_1]) (t := 54) ?hr ?_; (case hd => rfl); (case hg => rfl); (case hr => first | (go_simp; done) | (go_simp; rfl)); intro gb378 hg w20 hbox hb; have n0_ := Aside0.mk (below_step (by repeat (first | (with_reducible first | exact HB.out | apply below_alloc | apply pw_below_drewN | apply below_drew1) | exact HB.out)) hb); have n1_ := Aside0.mk (hbox); have n2_ := Aside0.mk ((by rw [hg]; exact (below_size (by repeat (first | (with_reducible first | exact HB.out | apply below_alloc | apply pw_below_drewN | apply below_drew1) | exact HB.out))) : w.heap.size ≤ gb378)); have n3_ := Aside0.mk ((by rw [hg]; exact (below_size (by repeat (first | (with_reducible first | exact HB.out | apply below_alloc | apply pw_below_drewN | apply below_drew1) | exact HB.out))) : w.heap.size ≤ gb378)); clear HB; have HB := n0_; have BK378 := n1_; have GW378 := n2_; have GE378 := n3_; clear n0_ n1_ n2_ n3_; clear hb hbox hg; have hcz21_0 : w20.cell? ⟨gb378, 0, none⟩ = some (.slice A0_0 l0_0.length c0_0) := (blk_cell BK378.out 0).trans rfl; have hcz21_1 : w20.cell? ⟨gb378, 1, none⟩ = some (.slice A0_1 l0_1.length c0_1) := (blk_cell BK378.out 1).trans rfl; have hfz21_0 := blk_frozen BK378.out 0; have hfz21_1 := blk_frozen BK378.out 1; have p379 : 0 ≤ ((ji5) : Int) := of_decide_eq_true (by first | (with_reducible assumption) | assumption); have q379 : (ji5) < (l0_0.length : Int) := of_decide_eq_true (by first | (with_reducible assumption) | assumption); obtain ⟨ad379, A379_1, c379_1, e379, hx379_0, hx379_1, hx379_2, hl379_1, hi379_1⟩ := at_T32 HR0_0.out (ji5) p379 q379; cases e379; replace hx379_0 := (HB.out.cell (World.block_lt_of_cell? w _ hx379_0)).trans hx379_0; replace hx379_1 := (HB.out.cell (World.block_lt_of_cell? w _ hx379_1)).trans hx379_1; replace hx379_2 := (HB.out.cell (World.block_lt_of_cell? w _ hx379_2)).trans hx379_2; have HR379_1 := Aside0.mk hi379_1; have HC379_1 := Aside0.mk hl379_1; clear hi379_1 hl379_1; replace p379 := eq_true p379; replace q379 := eq_true q379) | (go_at_call 58; (with_reducible refine (subprogram_has.calls k ((rd_T32 l0_0 (ji5)).f0) _ _ ((rd_T32 l0_0 (ji5)).f1) ((rd_T32 l0_0 (ji5)).f2) 77 30000 true _ ?side1 ?side2 A8.out).mono ?_); (case side1 => repeat (first | exact (Kd.C_below HR379_1.out HB.out) | (with_reducible refine Kd.C_alloc ?_ _) | (with_reducible refine Kd.C_drewN ?_ _) | (with_reducible refine Kd.C_drew ?_))); (case side2 => exact HC379_1.out); rintro e w22 ⟨rfl, hb⟩; have n0_ := Aside0.mk (blk_below (g := gb378) (o := .cells #[.slice (some ad379) l0_0.length c0_0, .slice A0_1 l0_1.length c0_1] 54 (0, 0)) (by (with_reducible repeat (first | refine blk_drewN ?_ _ | refine blk_drew ?_ | refine blk_alloc ?_ _)); exact BK378.out) hb); have n1_ := Aside0.mk (below_step (by repeat (first | (with_reducible first | exact HB.out | apply below_alloc | apply pw_below_drewN | apply below_drew1 | refine below_set ?_ GE378.out) | exact HB.out)) hb); clear BK378; clear HB; have BK378 := n0_; have HB := n1_; clear n0_ n1_; (try clear hb); (try clear hb2); (try clear hk); (try clear hi); have hcz23_0 : w22.cell? ⟨gb378, 0, none⟩ = some (.slice (some ad379) l0_0.length c0_0) := (blk_cell BK378.out 0).trans rfl; have hcz23_1 : w22.cell? ⟨gb378, 1, none⟩ = some (.slice A0_1 l0_1.length c0_1) := (blk_cell BK378.out 1).trans rfl; have hfz23_0 := blk_frozen BK378.out 0; have hfz23_1 := blk_frozen BK378.out 1; have p381 : 0 ≤ ((ji5) : Int) := of_decide_eq_true (by first | (with_reducible assumption) | assumption); have q381 : (ji5) < (l0_0.length : Int) := of_decide_eq_true (by first | (with_reducible assumption) | assumption); obtain ⟨ad381, A381_1, c381_1, e381, hx381_0, hx381_1, hx381_2, hl381_1, hi381_1⟩ := at_T32 HR0_0.out (ji5) p381 q381; obtain rfl : ad379 = ad381 := (by injection e381); replace hx381_0 := (HB.out.cell (World.block_lt_of_cell? w _ hx381_0)).trans hx381_0; replace hx381_1 := (HB.out.cell (World.block_lt_of_cell? w _ hx381_1)).trans hx381_1; replace hx381_2 := (HB.out.cell (World.block_lt_of_cell? w _ hx381_2)).trans hx381_2; have HR381_1 := Aside0.mk hi381_1; have HC381_1 := Aside0.mk hl381_1; clear hi381_1 hl381_1; replace p381 := eq_true p381; replace q381 := eq_true q381) | (go_at_call 93; (with_reducible refine (block_Codes.calls k ((rd_T32 l0_0 (ji5)).f0) _ _ ((rd_T32 l0_0 (ji5)).f1) ((rd_T32 l0_0 (ji5)).f2) 79 t382 _ ?side1 ?side2 A10.out).mono ?_); (case side1 => repeat (first | exact (Kd.C_below HR381_1.out HB.out) | (with_reducible refine Kd.C_alloc ?_ _) | (with_reducible refine Kd.C_drewN ?_ _) | (with_reducible refine Kd.C_drew ?_))); (case side2 => exact HC381_1.out); rintro e w24 ⟨v383, rfl, ho0, hb⟩; have n0_ := Aside0.mk (Kd.R_lower ho0 (below_size (by repeat (first | (with_reducible first | exact HB.out | apply below_alloc | apply pw_below_drewN | apply below_drew1 | refine below_set ?_ GE378.out) | exact HB.out)))); have n1_ := Aside0.mk (blk_below (g := gb378) (o := .cells #[.slice (some ad379) l0_0.length c0_0, .slice A0_1 l0_1.length c0_1] 54 (0, 0)) (by (with_reducible repeat (first | refine blk_drewN ?_ _ | refine blk_drew ?_ | refine blk_alloc ?_ _)); exact BK378.out) hb); have n2_ := Aside0.mk (below_step (by repeat (first | (with_reducible first | exact HB.out | apply below_alloc | apply pw_below_drewN | apply below_drew1 | refine below_set ?_ GE378.out) | exact HB.out)) hb); clear BK378; clear HB; have HO384 := n0_; have BK378 := n1_; have HB := n2_; clear n0_ n1_ n2_; (try clear hb); (try clear hb2); (try clear hk); (try clear hi); (try clear ho0); obtain ⟨Ao25, co25, eo25⟩ := Kd.R_slice HO384.out; subst eo25; have hcz26_0 : w24.cell? ⟨gb378, 0, none⟩ = some (.slice (some ad379) l0_0.length c0_0) := (blk_cell BK378.out 0).trans rfl; have hcz26_1 : w24.cell? ⟨gb378, 1, none⟩ = some (.slice A0_1 l0_1.length c0_1) := (blk_cell BK378.out 1).trans rfl; have hfz26_0 := blk_frozen BK378.out 0; have hfz26_1 := blk_frozen BK378.out 1; have p385 : 0 ≤ ((ji5) : Int) := of_decide_eq_true (by first | (with_reducible assumption) | assumption); have q385 : (ji5) < (l0_0.length : Int) := of_decide_eq_true (by first | (with_reducible assumption) | assumption); obtain ⟨ad385, A385_1, c385_1, e385, hx385_0, hx385_1, hx385_2, hl385_1, hi385_1⟩ := at_T32 HR0_0.out (ji5) p385 q385; obtain rfl : ad379 = ad385 := (by injection e385); replace hx385_0 := (HB.out.cell (World.block_lt_of_cell? w _ hx385_0)).trans hx385_0; replace hx385_1 := (HB.out.cell (World.block_lt_of_cell? w _ hx385_1)).trans hx385_1; replace hx385_2 := (HB.out.cell (World.block_lt_of_cell? w _ hx385_2)).trans hx385_2; have HR385_1 := Aside0.mk hi385_1; have HC385_1 := Aside0.mk hl385_1; clear hi385_1 hl385_1; replace p385 := eq_true p385; replace q385 := eq_true q385) | (go_at_call 58; (with_reducible refine (subprogram_has.calls k ((rd_T32 l0_0 (ji5)).f0) _ _ ((rd_T32 l0_0 (ji5)).f1) ((rd_T32 l0_0 (ji5)).f2) 77 99000 true _ ?side1 ?side2 A18.out).mono ?_); (case side1 => repeat (first | exact (Kd.C_below HR385_1.out HB.out) | (with_reducible refine Kd.C_alloc ?_ _) | (with_reducible refine Kd.C_drewN ?_ _) | (with_reducible refine Kd.C_drew ?_))); (case side2 => exact HC385_1.out); rintro e w27 ⟨rfl, hb⟩; have n0_ := Aside0.mk (Kd.R_below (by (with_reducible repeat (first | apply Kd.R_alloc | apply Kd.R_drewN | apply Kd.R_drew)); exact HO384.out) hb); have n1_ := Aside0.mk (blk_below (g := gb378) (o := .cells #[.slice (some ad379) l0_0.length c0_0, .slice A0_1 l0_1.length c0_1] 54 (0, 0)) (by (with_reducible repeat (first | refine blk_drewN ?_ _ | refine blk_drew ?_ | refine blk_alloc ?_ _)); exact BK378.out) hb); have n2_ := Aside0.mk (below_step (by repeat (first | (with_reducible first | exact HB.out | apply below_alloc | apply pw_below_drewN | apply below_drew1 | refine below_set ?_ GE378.out) | exact HB.out)) hb); clear HO384; clear BK378; clear HB; have HO384 := n0_; have BK378 := n1_; have HB := n2_; clear n0_ n1_ n2_; (try clear hb); (try clear hb2); (try clear hk); (try clear hi)))
       go_ret
       exact ⟨by first | rfl | (simp [errW_none, errW_some] <;> rfl) | (simp only [← hji5]; first | rfl | (simp [errW_none, errW_some] <;> rfl)) | (simp [*, errW_none, errW_some] <;> rfl), by repeat (first | (with_reducible first | exact HB.out | apply below_alloc | apply pw_below_drewN | apply below_drew1 | refine below_set ?_ GE378.out) | exact HB.out)⟩
      ·replace c19 := Bool.eq_false_iff.mpr c19
       subst c19
       have H1 : (if (ji5) ≤ (l0_0.length : Int) then ((ContainsFunc_marked.f k (l0_0.take ((ji5) : Int).toNat)).bind fun t391 => (if t391 = true then (some false) else ((ContainsFunc_ordered.f k l0_1).bind fun t392 => (some (!t392))))) else (none)) = some r := by rw [if_neg (show ¬ (false = true) by decide)] at H; exact H
       clear H
       have H := H1
       clear H1
       have c28b0 := eq_true (of_decide_eq_true (by first | (with_reducible assumption) | assumption) : 0 ≤ (ji5))
       by_cases c29 : (ji5) ≤ (l0_0.length : Int)
       ·rw [if_pos c29] at H
        have c29b0 := eq_true c29
        have c29b1 : decide ((ji5) ≤ (l0_0.length : Int)) = true := decide_eq_true c29
        clear c29
        obtain ⟨y387, hy387⟩ : ∃ y_ : List (S32), y_ = (l0_0.take ((ji5) : Int).toNat) := ⟨_, rfl⟩
        replace H : ((ContainsFunc_marked.f k y387).bind fun t391 => (if t391 = true then (some false) else ((ContainsFunc_ordered.f k l0_1).bind fun t392 => (some (!t392))))) = some r := by first | (rw [hy387]; with_reducible exact H) | (have H2_ := (Option.bind_some _ _).symm.trans H; rw [hy387]; with_reducible exact H2_) | (have H2_ := (Option.bind_some _ _).symm.trans H; with_reducible exact H2_) | with_reducible exact H | (rw [hy387]; exact H) | exact H
        have Ny387 := Aside0.mk hy387
        clear hy387
        replace H := Option.bind_eq_some_iff.mp H
        obtain ⟨t391, A300, H⟩ := H
        replace H : (if t391 = true then (some false) else ((ContainsFunc_ordered.f k l0_1).bind fun t392 => (some (!t392)))) = some r := H
        have A30 := Aside0.mk A300
        clear A300
        by_cases c31 : t391 = true
        ·subst c31
         have H1 : (some false) = some r := by rw [if_pos rfl] at H; exact H
         clear H
         have H := H1
         clear H1
         obtain rfl := Option.some.inj H
         go_enter Try.func79, Try.ntmps79
         go_wp2_with (first | ((with_reducible refine gate_dst (N := 1) rfl ?_); (try (refine gate_guard (by rfl) ?_; dsimp only)); refine box_event ?hg (N := 1) ?hd (cs := #[.slice A0_0 l0_0.length c0_0, .slice A0_1 l0_1.length c0_1]) (t := 54) ?hr ?_; (case hd => rfl); (case hg => rfl); (case hr => first | (go_simp; done) | (go_simp; rfl)); intro gb378 hg w32 hbox hb; have n0_ := Aside0.mk (below_step (by repeat (first | (with_reducible first | exact HB.out | apply below_alloc | apply pw_below_drewN | apply below_drew1) | exact HB.out)) hb); have n1_ := Aside0.mk (hbox); have n2_ := Aside0.mk ((by rw [hg]; exact (below_size (by repeat (first | (with_reducible first | exact HB.out | apply below_alloc | apply pw_below_drewN | apply below_drew1) | exact HB.out))) : w.heap.size ≤ gb378)); have n3_ := Aside0.mk ((by rw [hg]; exact (below_size (by repeat (first | (with_reducible first | exact HB.out | apply below_alloc | apply pw_below_drewN | apply below_drew1) | exact HB.out))) : w.heap.size ≤ gb378)); clear HB; have HB := n0_; have BK378 := n1_; have GW378 := n2_; have GE378 := n3_; clear n0_ n1_ n2_ n3_; clear hb hbox hg; have hcz33_0 : w32.cell? ⟨gb378, 0, none⟩ = some (.slice A0_0 l0_0.length c0_0) := (blk_cell BK378.out 0).trans rfl; have hcz33_1 : w32.cell? ⟨gb378, 1, none⟩ = some (.slice A0_1 l0_1.length c0_1) := (blk_cell BK378.out 1).trans rfl; have hfz33_0 := blk_frozen BK378.out 0; have hfz33_1 := blk_frozen BK378.out 1; have p379 : 0 ≤ ((ji5) : Int) := of_decide_eq_true (by first | (with_reducible assumption) | assumption); have q379 : (ji5) < (l0_0.length : Int) := of_decide_eq_true (by first | (with_reducible assumption) | assumption); obtain ⟨ad379, A379_1, c379_1, e379, hx379_0, hx379_1, hx379_2, hl379_1, hi379_1⟩ := at_T32 HR0_0.out (ji5) p379 q379; cases e379; replace hx379_0 := (HB.out.cell (World.block_lt_of_cell? w _ hx379_0)).trans hx379_0; replace hx379_1 := (HB.out.cell (World.block_lt_of_cell? w _ hx379_1)).trans hx379_1; replace hx379_2 := (HB.out.cell (World.block_lt_of_cell? w _ hx379_2)).trans hx379_2; have HR379_1 := Aside0.mk hi379_1; have HC379_1 := Aside0.mk hl379_1; clear hi379_1 hl379_1; replace p379 := eq_true p379; replace q379 := eq_true q379) | (go_at_call 58; (with_reducible refine (subprogram_has.calls k ((rd_T32 l0_0 (ji5)).f0) _ _ ((rd_T32 l0_0 (ji5)).f1) ((rd_T32 l0_0 (ji5)).f2) 77 30000 true _ ?side1 ?side2 A8.out).mono ?_); (case side1 => repeat (first | exact (Kd.C_below HR379_1.out HB.out) | (with_reducible refine Kd.C_alloc ?_ _) | (with_reducible refine Kd.C_drewN ?_ _) | (with_reducible refine Kd.C_drew ?_))); (case side2 => exact HC379_1.out); rintro e w34 ⟨rfl, hb⟩; have n0_ := Aside0.mk (blk_below (g := gb378) (o := .cells #[.slice (some ad379) l0_0.length c0_0, .slice A0_1 l0_1.length c0_1] 54 (0, 0)) (by (with_reducible repeat (first | refine blk_drewN ?_ _ | refine blk_drew ?_ | refine blk_alloc ?_ _)); exact BK378.out) hb); have n1_ := Aside0.mk (below_step (by repeat (first | (with_reducible first | exact HB.out | apply below_alloc | apply pw_below_drewN | apply below_drew1 | refine below_set ?_ GE378.out) | exact HB.out)) hb); clear BK378; clear HB; have BK378 := n0_; have HB := n1_; clear n0_ n1_; (try clear hb); (try clear hb2); (try clear hk); (try clear hi); have hcz35_0 : w34.cell? ⟨gb378, 0, none⟩ = some (.slice (some ad379) l0_0.length c0_0) := (blk_cell BK378.out 0).trans rfl; have hcz35_1 : w34.cell? ⟨gb378, 1, none⟩ = some (.slice A0_1 l0_1.length c0_1) := (blk_cell BK378.out 1).trans rfl; have hfz35_0 := blk_frozen BK378.out 0; have hfz35_1 := blk_frozen BK378.out 1; have p381 : 0 ≤ ((ji5) : Int) := of_decide_eq_true (by first | (with_reducible assumption) | assumption); have q381 : (ji5) < (l0_0.length : Int) := of_decide_eq_true (by first | (with_reducible assumption) | assumption); obtain ⟨ad381, A381_1, c381_1, e381, hx381_0, hx381_1, hx381_2, hl381_1, hi381_1⟩ := at_T32 HR0_0.out (ji5) p381 q381; obtain rfl : ad379 = ad381 := (by injection e381); replace hx381_0 := (HB.out.cell (World.block_lt_of_cell? w _ hx381_0)).trans hx381_0; replace hx381_1 := (HB.out.cell (World.block_lt_of_cell? w _ hx381_1)).trans hx381_1; replace hx381_2 := (HB.out.cell (World.block_lt_of_cell? w _ hx381_2)).trans hx381_2; have HR381_1 := Aside0.mk hi381_1; have HC381_1 := Aside0.mk hl381_1; clear hi381_1 hl381_1; replace p381 := eq_true p381; replace q381 := eq_true q381) | (go_at_call 93; (with_reducible refine (block_Codes.calls k ((rd_T32 l0_0 (ji5)).f0) _ _ ((rd_T32 l0_0 (ji5)).f1) ((rd_T32 l0_0 (ji5)).f2) 79 t382 _ ?side1 ?side2 A10.out).mono ?_); (case side1 => repeat (first | exact (Kd.C_below HR381_1.out HB.out) | (with_reducible refine Kd.C_alloc ?_ _) | (with_reducible refine Kd.C_drewN ?_ _) | (with_reducible refine Kd.C_drew ?_))); (case side2 => exact HC381_1.out); rintro e w36 ⟨v383, rfl, ho0, hb⟩; have n0_ := Aside0.mk (Kd.R_lower ho0 (below_size (by repeat (first | (with_reducible first | exact HB.out | apply below_alloc | apply pw_below_drewN | apply below_drew1 | refine below_set ?_ GE378.out) | exact HB.out)))); have n1_ := Aside0.mk (blk_below (g := gb378) (o := .cells #[.slice (some ad379) l0_0.length c0_0, .slice A0_1 l0_1.length c0_1] 54 (0, 0)) (by (with_reducible repeat (first | refine blk_drewN ?_ _ | refine blk_drew ?_ | refine blk_alloc ?_ _)); exact BK378.out) hb); have n2_ := Aside0.mk (below_step (by repeat (first | (with_reducible first | exact HB.out | apply below_alloc | apply pw_below_drewN | apply below_drew1 | refine below_set ?_ GE378.out) | exact HB.out)) hb); clear BK378; clear HB; have HO384 := n0_; have BK378 := n1_; have HB := n2_; clear n0_ n1_ n2_; (try clear hb); (try clear hb2); (try clear hk); (try clear hi); (try clear ho0); obtain ⟨Ao37, co37, eo37⟩ := Kd.R_slice HO384.out; subst eo37; have hcz38_0 : w36.cell? ⟨gb378, 0, none⟩ = some (.slice (some ad379) l0_0.length c0_0) := (blk_cell BK378.out 0).trans rfl; have hcz38_1 : w36.cell? ⟨gb378, 1, none⟩ = some (.slice A0_1 l0_1.length c0_1) := (blk_cell BK378.out 1).trans rfl; have hfz38_0 := blk_frozen BK378.out 0; have hfz38_1 := blk_frozen BK378.out 1; have p385 : 0 ≤ ((ji5) : Int) := of_decide_eq_true (by first | (with_reducible assumption) | assumption); have q385 : (ji5) < (l0_0.length : Int) := of_decide_eq_true (by first | (with_reducible assumption) | assumption); obtain ⟨ad385, A385_1, c385_1, e385, hx385_0, hx385_1, hx385_2, hl385_1, hi385_1⟩ := at_T32 HR0_0.out (ji5) p385 q385; obtain rfl : ad379 = ad385 := (by injection e385); replace hx385_0 := (HB.out.cell (World.block_lt_of_cell? w _ hx385_0)).trans hx385_0; replace hx385_1 := (HB.out.cell (World.block_lt_of_cell? w _ hx385_1)).trans hx385_1; replace hx385_2 := (HB.out.cell (World.block_lt_of_cell? w _ hx385_2)).trans hx385_2; have HR385_1 := Aside0.mk hi385_1; have HC385_1 := Aside0.mk hl385_1; clear hi385_1 hl385_1; replace p385 := eq_true p385; replace q385 := eq_true q385) | (go_at_call 58; (with_reducible refine (subprogram_has.calls k ((rd_T32 l0_0 (ji5)).f0) _ _ ((rd_T32 l0_0 (ji5)).f1) ((rd_T32 l0_0 (ji5)).f2) 77 99000 false _ ?side1 ?side2 A18.out).mono ?_); (case side1 => repeat (first | exact (Kd.C_below HR385_1.out HB.out) | (with_reducible refine Kd.C_alloc ?_ _) | (with_reducible refine Kd.C_drewN ?_ _) | (with_reducible refine Kd.C_drew ?_))); (case side2 => exact HC385_1.out); rintro e w39 ⟨rfl, hb⟩; have n0_ := Aside0.mk (Kd.R_below (by (with_reducible repeat (first | apply Kd.R_alloc | apply Kd.R_drewN | apply Kd.R_drew)); exact HO384.out) hb); have n1_ := Aside0.mk (blk_below (g := gb378) (o := .cells #[.slice (some ad379) l0_0.length c0_0, .slice A0_1 l0_1.length c0_1] 54 (0, 0)) (by (with_reducible repeat (first | refine blk_drewN ?_ _ | refine blk_drew ?_ | refine blk_alloc ?_ _)); exact BK378.out) hb); have n2_ := Aside0.mk (below_step (by repeat (first | (with_reducible first | exact HB.out | apply below_alloc | apply pw_below_drewN | apply below_drew1 | refine below_set ?_ GE378.out) | exact HB.out)) hb); clear HO384; clear BK378; clear HB; have HO384 := n0_; have BK378 := n1_; have HB := n2_; clear n0_ n1_ n2_; (try clear hb); (try clear hb2); (try clear hk); (try clear hi); have hcz40_0 : w39.cell? ⟨gb378, 0, none⟩ = some (.slice (some ad379) l0_0.length c0_0) := (blk_cell BK378.out 0).trans rfl; have hcz40_1 : w39.cell? ⟨gb378, 1, none⟩ = some (.slice A0_1 l0_1.length c0_1) := (blk_cell BK378.out 1).trans rfl; have hfz40_0 := blk_frozen BK378.out 0; have hfz40_1 := blk_frozen BK378.out 1; have q41 : ((ji5) : Int) ≤ ((l0_0.length : Int) : Int) := of_decide_eq_true (by first | (with_reducible assumption) | assumption); obtain ⟨i041, hi041, _, hsz41, _⟩ := info_parts info32; have hroom41 : l0_0.length ≤ c0_0 := HC0_0.out; have hC41 : Kd.C k32 _ (some ad379) l0_0.length l0_0 := HR0_0.out; have hcut41 := cut_to (P := Try.prog) 35 32 .i64 Try.underlying35 hi041 (some ad379) l0_0.length c0_0 (ji5) (of_decide_eq_true (by first | (with_reducible assumption) | assumption)) q41 hroom41; have hr41 := Kd.C_take (m := ((ji5) : Int).toNat) hC41 (by omega); have hy41 : y387.length = ((ji5) : Int).toNat := (by rw [Ny387.out, List.length_take]; omega); rw [← Ny387.out] at hr41; rw [← hy41] at hcut41; have HR390 := Aside0.mk hr41; have HC390 := Aside0.mk (show y387.length ≤ c0_0 from by omega); clear hr41 hC41 hroom41 hi041 hsz41; have KY41 := Aside0.mk hy41; clear hy41; replace q41 := eq_true q41) | (go_at_call 38; (with_reducible refine (ContainsFunc_marked.calls k _ _ y387  true _ ?side1 ?side2 A30.out).mono ?_); (case side1 => repeat (first | exact (Kd.C_below HR390.out HB.out) | (with_reducible refine Kd.C_alloc ?_ _) | (with_reducible refine Kd.C_drewN ?_ _) | (with_reducible refine Kd.C_drew ?_))); (case side2 => exact HC390.out); rintro e w42 ⟨rfl, hb⟩; have n0_ := Aside0.mk (Kd.R_below (by (with_reducible repeat (first | apply Kd.R_alloc | apply Kd.R_drewN | apply Kd.R_drew)); exact HO384.out) hb); have n1_ := Aside0.mk (blk_below (g := gb378) (o := .cells #[.slice (some ad379) l0_0.length c0_0, .slice A0_1 l0_1.length c0_1] 54 (0, 0)) (by (with_reducible repeat (first | refine blk_drewN ?_ _ | refine blk_drew ?_ | refine blk_alloc ?_ _)); exact BK378.out) hb); have n2_ := Aside0.mk (below_step (by repeat (first | (with_reducible first | exact HB.out | apply below_alloc | apply pw_below_drewN | apply below_drew1 | refine below_set ?_ GE378.out) | exact HB.out)) hb); clear HO384; clear BK378; clear HB; have HO384 := n0_; have BK378 := n1_; have HB := n2_; clear n0_ n1_ n2_; (try clear hb); (try clear hb2); (try clear hk); (try clear hi)))
         go_ret
         exact ⟨by first | rfl | (simp [errW_none, errW_some] <;> rfl) | (simp only [← hji5]; first | rfl | (simp [errW_none, errW_some] <;> rfl)) | (simp [*, errW_none, errW_some] <;> rfl), by repeat (first | (with_reducible first | exact HB.out | apply below_alloc | apply pw_below_drewN | apply below_drew1 | refine below_set ?_ GE378.out) | exact HB.out)⟩
        ·replace c31 := Bool.eq_false_iff.mpr c31
         subst c31
         have H1 : ((ContainsFunc_ordered.f k l0_1).bind fun t392 => (some (!t392))) = some r := by rw [if_neg (show ¬ (false = true) by decide)] at H; exact H
         clear H
         have H := H1
         clear H1
         replace H := Option.bind_eq_some_iff.mp H
         obtain ⟨t392, A430, H⟩ := H
         replace H : (some (!t392)) = some r := H
         have A43 := Aside0.mk A430
         clear A430
         obtain rfl := Option.some.inj H
         go_enter Try.func79, Try.ntmps79
         go_wp2_with (first | ((with_reducible refine gate_dst (N := 1) rfl ?_); (try (refine gate_guard (by rfl) ?_; dsimp only)); refine box_event ?hg (N := 1) ?hd (cs := #[.slice A0_0 l0_0.length c0_0, .slice A0_1 l0_1.length c0_1]) (t := 54) ?hr ?_; (case hd => rfl); (case hg => rfl); (case hr => first | (go_simp; done) | (go_simp; rfl)); intro gb378 hg w44 hbox hb; have n0_ := Aside0.mk (below_step (by repeat (first | (with_reducible first | exact HB.out | apply below_alloc | apply pw_below_drewN | apply below_drew1) | exact HB.out)) hb); have n1_ := Aside0.mk (hbox); have n2_ := Aside0.mk ((by rw [hg]; exact (below_size (by repeat (first | (with_reducible first | exact HB.out | apply below_alloc | apply pw_below_drewN | apply below_drew1) | exact HB.out))) : w.heap.size ≤ gb378)); have n3_ := Aside0.mk ((by rw [hg]; exact (below_size (by repeat (first | (with_reducible first | exact HB.out | apply below_alloc | apply pw_below_drewN | apply below_drew1) | exact HB.out))) : w.heap.size ≤ gb378)); clear HB; have HB := n0_; have BK378 := n1_; have GW378 := n2_; have GE378 := n3_; clear n0_ n1_ n2_ n3_; clear hb hbox hg; have hcz45_0 : w44.cell? ⟨gb378, 0, none⟩ = some (.slice A0_0 l0_0.length c0_0) := (blk_cell BK378.out 0).trans rfl; have hcz45_1 : w44.cell? ⟨gb378, 1, none⟩ = some (.slice A0_1 l0_1.length c0_1) := (blk_cell BK378.out 1).trans rfl; have hfz45_0 := blk_frozen BK378.out 0; have hfz45_1 := blk_frozen BK378.out 1; have p379 : 0 ≤ ((ji5) : Int) := of_decide_eq_true (by first | (with_reducible assumption) | assumption); have q379 : (ji5) < (l0_0.length : Int) := of_decide_eq_true (by first | (with_reducible assumption) | assumption); obtain ⟨ad379, A379_1, c379_1, e379, hx379_0, hx379_1, hx379_2, hl379_1, hi379_1⟩ := at_T32 HR0_0.out (ji5) p379 q379; cases e379; replace hx379_0 := (HB.out.cell (World.block_lt_of_cell? w _ hx379_0)).trans hx379_0; replace hx379_1 := (HB.out.cell (World.block_lt_of_cell? w _ hx379_1)).trans hx379_1; replace hx379_2 := (HB.out.cell (World.block_lt_of_cell? w _ hx379_2)).trans hx379_2; have HR379_1 := Aside0.mk hi379_1; have HC379_1 := Aside0.mk hl379_1; clear hi379_1 hl379_1; replace p379 := eq_true p379; replace q379 := eq_true q379) | (go_at_call 58; (with_reducible refine (subprogram_has.calls k ((rd_T32 l0_0 (ji5)).f0) _ _ ((rd_T32 l0_0 (ji5)).f1) ((rd_T32 l0_0 (ji5)).f2) 77 30000 true _ ?side1 ?side2 A8.out).mono ?_); (case side1 => repeat (first | exact (Kd.C_below HR379_1.out HB.out) | (with_reducible refine Kd.C_alloc ?_ _) | (with_reducible refine Kd.C_drewN ?_ _) | (with_reducible refine Kd.C_drew ?_))); (case side2 => exact HC379_1.out); rintro e w46 ⟨rfl, hb⟩; have n0_ := Aside0.mk (blk_below (g := gb378) (o := .cells #[.slice (some ad379) l0_0.length c0_0, .slice A0_1 l0_1.length c0_1] 54 (0, 0)) (by (with_reducible repeat (first | refine blk_drewN ?_ _ | refine blk_drew ?_ | refine blk_alloc ?_ _)); exact BK378.out) hb); have n1_ := Aside0.mk (below_step (by repeat (first | (with_reducible first | exact HB.out | apply below_alloc | apply pw_below_drewN | apply below_drew1 | refine below_set ?_ GE378.out) | exact HB.out)) hb); clear BK378; clear HB; have BK378 := n0_; have HB := n1_; clear n0_ n1_; (try clear hb); (try clear hb2); (try clear hk); (try clear hi); have hcz47_0 : w46.cell? ⟨gb378, 0, none⟩ = some (.slice (some ad379) l0_0.length c0_0) := (blk_cell BK378.out 0).trans rfl; have hcz47_1 : w46.cell? ⟨gb378, 1, none⟩ = some (.slice A0_1 l0_1.length c0_1) := (blk_cell BK378.out 1).trans rfl; have hfz47_0 := blk_frozen BK378.out 0; have hfz47_1 := blk_frozen BK378.out 1; have p381 : 0 ≤ ((ji5) : Int) := of_decide_eq_true (by first | (with_reducible assumption) | assumption); have q381 : (ji5) < (l0_0.length : Int) := of_decide_eq_true (by first | (with_reducible assumption) | assumption); obtain ⟨ad381, A381_1, c381_1, e381, hx381_0, hx381_1, hx381_2, hl381_1, hi381_1⟩ := at_T32 HR0_0.out (ji5) p381 q381; obtain rfl : ad379 = ad381 := (by injection e381); replace hx381_0 := (HB.out.cell (World.block_lt_of_cell? w _ hx381_0)).trans hx381_0; replace hx381_1 := (HB.out.cell (World.block_lt_of_cell? w _ hx381_1)).trans hx381_1; replace hx381_2 := (HB.out.cell (World.block_lt_of_cell? w _ hx381_2)).trans hx381_2; have HR381_1 := Aside0.mk hi381_1; have HC381_1 := Aside0.mk hl381_1; clear hi381_1 hl381_1; replace p381 := eq_true p381; replace q381 := eq_true q381) | (go_at_call 93; (with_reducible refine (block_Codes.calls k ((rd_T32 l0_0 (ji5)).f0) _ _ ((rd_T32 l0_0 (ji5)).f1) ((rd_T32 l0_0 (ji5)).f2) 79 t382 _ ?side1 ?side2 A10.out).mono ?_); (case side1 => repeat (first | exact (Kd.C_below HR381_1.out HB.out) | (with_reducible refine Kd.C_alloc ?_ _) | (with_reducible refine Kd.C_drewN ?_ _) | (with_reducible refine Kd.C_drew ?_))); (case side2 => exact HC381_1.out); rintro e w48 ⟨v383, rfl, ho0, hb⟩; have n0_ := Aside0.mk (Kd.R_lower ho0 (below_size (by repeat (first | (with_reducible first | exact HB.out | apply below_alloc | apply pw_below_drewN | apply below_drew1 | refine below_set ?_ GE378.out) | exact HB.out)))); have n1_ := Aside0.mk (blk_below (g := gb378) (o := .cells #[.slice (some ad379) l0_0.length c0_0, .slice A0_1 l0_1.length c0_1] 54 (0, 0)) (by (with_reducible repeat (first | refine blk_drewN ?_ _ | refine blk_drew ?_ | refine blk_alloc ?_ _)); exact BK378.out) hb); have n2_ := Aside0.mk (below_step (by repeat (first | (with_reducible first | exact HB.out | apply below_alloc | apply pw_below_drewN | apply below_drew1 | refine below_set ?_ GE378.out) | exact HB.out)) hb); clear BK378; clear HB; have HO384 := n0_; have BK378 := n1_; have HB := n2_; clear n0_ n1_ n2_; (try clear hb); (try clear hb2); (try clear hk); (try clear hi); (try clear ho0); obtain ⟨Ao49, co49, eo49⟩ := Kd.R_slice HO384.out; subst eo49; have hcz50_0 : w48.cell? ⟨gb378, 0, none⟩ = some (.slice (some ad379) l0_0.length c0_0) := (blk_cell BK378.out 0).trans rfl; have hcz50_1 : w48.cell? ⟨gb378, 1, none⟩ = some (.slice A0_1 l0_1.length c0_1) := (blk_cell BK378.out 1).trans rfl; have hfz50_0 := blk_frozen BK378.out 0; have hfz50_1 := blk_frozen BK378.out 1; have p385 : 0 ≤ ((ji5) : Int) := of_decide_eq_true (by first | (with_reducible assumption) | assumption); have q385 : (ji5) < (l0_0.length : Int) := of_decide_eq_true (by first | (with_reducible assumption) | assumption); obtain ⟨ad385, A385_1, c385_1, e385, hx385_0, hx385_1, hx385_2, hl385_1, hi385_1⟩ := at_T32 HR0_0.out (ji5) p385 q385; obtain rfl : ad379 = ad385 := (by injection e385); replace hx385_0 := (HB.out.cell (World.block_lt_of_cell? w _ hx385_0)).trans hx385_0; replace hx385_1 := (HB.out.cell (World.block_lt_of_cell? w _ hx385_1)).trans hx385_1; replace hx385_2 := (HB.out.cell (World.block_lt_of_cell? w _ hx385_2)).trans hx385_2; have HR385_1 := Aside0.mk hi385_1; have HC385_1 := Aside0.mk hl385_1; clear hi385_1 hl385_1; replace p385 := eq_true p385; replace q385 := eq_true q385) | (go_at_call 58; (with_reducible refine (subprogram_has.calls k ((rd_T32 l0_0 (ji5)).f0) _ _ ((rd_T32 l0_0 (ji5)).f1) ((rd_T32 l0_0 (ji5)).f2) 77 99000 false _ ?side1 ?side2 A18.out).mono ?_); (case side1 => repeat (first | exact (Kd.C_below HR385_1.out HB.out) | (with_reducible refine Kd.C_alloc ?_ _) | (with_reducible refine Kd.C_drewN ?_ _) | (with_reducible refine Kd.C_drew ?_))); (case side2 => exact HC385_1.out); rintro e w51 ⟨rfl, hb⟩; have n0_ := Aside0.mk (Kd.R_below (by (with_reducible repeat (first | apply Kd.R_alloc | apply Kd.R_drewN | apply Kd.R_drew)); exact HO384.out) hb); have n1_ := Aside0.mk (blk_below (g := gb378) (o := .cells #[.slice (some ad379) l0_0.length c0_0, .slice A0_1 l0_1.length c0_1] 54 (0, 0)) (by (with_reducible repeat (first | refine blk_drewN ?_ _ | refine blk_drew ?_ | refine blk_alloc ?_ _)); exact BK378.out) hb); have n2_ := Aside0.mk (below_step (by repeat (first | (with_reducible first | exact HB.out | apply below_alloc | apply pw_below_drewN | apply below_drew1 | refine below_set ?_ GE378.out) | exact HB.out)) hb); clear HO384; clear BK378; clear HB; have HO384 := n0_; have BK378 := n1_; have HB := n2_; clear n0_ n1_ n2_; (try clear hb); (try clear hb2); (try clear hk); (try clear hi); have hcz52_0 : w51.cell? ⟨gb378, 0, none⟩ = some (.slice (some ad379) l0_0.length c0_0) := (blk_cell BK378.out 0).trans rfl; have hcz52_1 : w51.cell? ⟨gb378, 1, none⟩ = some (.slice A0_1 l0_1.length c0_1) := (blk_cell BK378.out 1).trans rfl; have hfz52_0 := blk_frozen BK378.out 0; have hfz52_1 := blk_frozen BK378.out 1; have q53 : ((ji5) : Int) ≤ ((l0_0.length : Int) : Int) := of_decide_eq_true (by first | (with_reducible assumption) | assumption); obtain ⟨i053, hi053, _, hsz53, _⟩ := info_parts info32; have hroom53 : l0_0.length ≤ c0_0 := HC0_0.out; have hC53 : Kd.C k32 _ (some ad379) l0_0.length l0_0 := HR0_0.out; have hcut53 := cut_to (P := Try.prog) 35 32 .i64 Try.underlying35 hi053 (some ad379) l0_0.length c0_0 (ji5) (of_decide_eq_true (by first | (with_reducible assumption) | assumption)) q53 hroom53; have hr53 := Kd.C_take (m := ((ji5) : Int).toNat) hC53 (by omega); have hy53 : y387.length = ((ji5) : Int).toNat := (by rw [Ny387.out, List.length_take]; omega); rw [← Ny387.out] at hr53; rw [← hy53] at hcut53; have HR390 := Aside0.mk hr53; have HC390 := Aside0.mk (show y387.length ≤ c0_0 from by omega); clear hr53 hC53 hroom53 hi053 hsz53; have KY53 := Aside0.mk hy53; clear hy53; replace q53 := eq_true q53) | (go_at_call 38; (with_reducible refine (ContainsFunc_marked.calls k _ _ y387  false _ ?side1 ?side2 A30.out).mono ?_); (case side1 => repeat (first | exact (Kd.C_below HR390.out HB.out) | (with_reducible refine Kd.C_alloc ?_ _) | (with_reducible refine Kd.C_drewN ?_ _) | (with_reducible refine Kd.C_drew ?_))); (case side2 => exact HC390.out); rintro e w54 ⟨rfl, hb⟩; have n0_ := Aside0.mk (Kd.R_below (by (with_reducible repeat (first | apply Kd.R_alloc | apply Kd.R_drewN | apply Kd.R_drew)); exact HO384.out) hb); have n1_ := Aside0.mk (blk_below (g := gb378) (o := .cells #[.slice (some ad379) l0_0.length c0_0, .slice A0_1 l0_1.length c0_1] 54 (0, 0)) (by (with_reducible repeat (first | refine blk_drewN ?_ _ | refine blk_drew ?_ | refine blk_alloc ?_ _)); exact BK378.out) hb); have n2_ := Aside0.mk (below_step (by repeat (first | (with_reducible first | exact HB.out | apply below_alloc | apply pw_below_drewN | apply below_drew1 | refine below_set ?_ GE378.out) | exact HB.out)) hb); clear HO384; clear BK378; clear HB; have HO384 := n0_; have BK378 := n1_; have HB := n2_; clear n0_ n1_ n2_; (try clear hb); (try clear hb2); (try clear hk); (try clear hi); have hcz55_0 : w54.cell? ⟨gb378, 0, none⟩ = some (.slice (some ad379) l0_0.length c0_0) := (blk_cell BK378.out 0).trans rfl; have hcz55_1 : w54.cell? ⟨gb378, 1, none⟩ = some (.slice A0_1 l0_1.length c0_1) := (blk_cell BK378.out 1).trans rfl; have hfz55_0 := blk_frozen BK378.out 0; have hfz55_1 := blk_frozen BK378.out 1) | ((with_reducible refine gate_callee (f := 101) rfl ?_); refine goesL_ (some 46) rfl rfl Try.func101 (by kernel_rfl) rfl #[.slice A0_1 l0_1.length c0_1, .func (.func 102) #[] #[]] rfl (by (try simp only [List.map_toArray, List.map_cons, List.map_nil]); first | done | rfl | (simp only [List.length_drop, List.length_take]; rfl)) ?_; (with_reducible refine (ContainsFunc_ordered.calls k _ _ l0_1  t392 _ ?side1 ?side2 A43.out).mono ?_); (case side1 => repeat (first | exact (Kd.C_below HR0_1.out HB.out) | (with_reducible refine Kd.C_alloc ?_ _) | (with_reducible refine Kd.C_drewN ?_ _) | (with_reducible refine Kd.C_drew ?_))); (case side2 => exact HC0_1.out); rintro e w56 ⟨rfl, hb⟩; refine ⟨_, rfl, ?_⟩; have n0_ := Aside0.mk (Kd.R_below (by (with_reducible repeat (first | apply Kd.R_alloc | apply Kd.R_drewN | apply Kd.R_drew)); exact HO384.out) hb); have n1_ := Aside0.mk (blk_below (g := gb378) (o := .cells #[.slice (some ad379) l0_0.length c0_0, .slice A0_1 l0_1.length c0_1] 54 (0, 0)) (by (with_reducible repeat (first | refine blk_drewN ?_ _ | refine blk_drew ?_ | refine blk_alloc ?_ _)); exact BK378.out) hb); have n2_ := Aside0.mk (below_step (by repeat (first | (with_reducible first | exact HB.out | apply below_alloc | apply pw_below_drewN | apply below_drew1 | refine below_set ?_ GE378.out) | exact HB.out)) hb); clear HO384; clear BK378; clear HB; have HO384 := n0_; have BK378 := n1_; have HB := n2_; clear n0_ n1_ n2_; (try clear hb); (try clear hb2); (try clear hk); (try clear hi)))
         go_ret
         exact ⟨by first | rfl | (simp [errW_none, errW_some] <;> rfl) | (simp only [← hji5]; first | rfl | (simp [errW_none, errW_some] <;> rfl)) | (simp [*, errW_none, errW_some] <;> rfl), by repeat (first | (with_reducible first | exact HB.out | apply below_alloc | apply pw_below_drewN | apply below_drew1 | refine below_set ?_ GE378.out) | exact HB.out)⟩
       ·rw [if_neg c29] at H
        exact absurd H (by simp)
    ·replace c9 := Bool.eq_false_iff.mpr c9
     subst c9
     have H1 : (some false) = some r := by rw [if_neg (show ¬ (false = true) by decide)] at H; exact H
     clear H
     have H := H1
     clear H1
     obtain rfl := Option.some.inj H
     go_enter Try.func79, Try.ntmps79
     go_wp2_with (first | ((with_reducible refine gate_dst (N := 1) rfl ?_); (try (refine gate_guard (by rfl) ?_; dsimp only)); refine box_event ?hg (N := 1) ?hd (cs := #[.slice A0_0 l0_0.length c0_0, .slice A0_1 l0_1.length c0_1]) (t := 54) ?hr ?_; (case hd => rfl); (case hg => rfl); (case hr => first | (go_simp; done) | (go_simp; rfl)); intro gb378 hg w57 hbox hb; have n0_ := Aside0.mk (below_step (by repeat (first | (with_reducible first | exact HB.out | apply below_alloc | apply pw_below_drewN | apply below_drew1) | exact HB.out)) hb); have n1_ := Aside0.mk (hbox); have n2_ := Aside0.mk ((by rw [hg]; exact (below_size (by repeat (first | (with_reducible first | exact HB.out | apply below_alloc | apply pw_below_drewN | apply below_drew1) | exact HB.out))) : w.heap.size ≤ gb378)); have n3_ := Aside0.mk ((by rw [hg]; exact (below_size (by repeat (first | (with_reducible first | exact HB.out | apply below_alloc | apply pw_below_drewN | apply below_drew1) | exact HB.out))) : w.heap.size ≤ gb378)); clear HB; have HB := n0_; have BK378 := n1_; have GW378 := n2_; have GE378 := n3_; clear n0_ n1_ n2_ n3_; clear hb hbox hg; have hcz58_0 : w57.cell? ⟨gb378, 0, none⟩ = some (.slice A0_0 l0_0.length c0_0) := (blk_cell BK378.out 0).trans rfl; have hcz58_1 : w57.cell? ⟨gb378, 1, none⟩ = some (.slice A0_1 l0_1.length c0_1) := (blk_cell BK378.out 1).trans rfl; have hfz58_0 := blk_frozen BK378.out 0; have hfz58_1 := blk_frozen BK378.out 1; have p379 : 0 ≤ ((ji5) : Int) := of_decide_eq_true (by first | (with_reducible assumption) | assumption); have q379 : (ji5) < (l0_0.length : Int) := of_decide_eq_true (by first | (with_reducible assumption) | assumption); obtain ⟨ad379, A379_1, c379_1, e379, hx379_0, hx379_1, hx379_2, hl379_1, hi379_1⟩ := at_T32 HR0_0.out (ji5) p379 q379; cases e379; replace hx379_0 := (HB.out.cell (World.block_lt_of_cell? w _ hx379_0)).trans hx379_0; replace hx379_1 := (HB.out.cell (World.block_lt_of_cell? w _ hx379_1)).trans hx379_1; replace hx379_2 := (HB.out.cell (World.block_lt_of_cell? w _ hx379_2)).trans hx379_2; have HR379_1 := Aside0.mk hi379_1; have HC379_1 := Aside0.mk hl379_1; clear hi379_1 hl379_1; replace p379 := eq_true p379; replace q379 := eq_true q379) | (go_at_call 58; (with_reducible refine (subprogram_has.calls k ((rd_T32 l0_0 (ji5)).f0) _ _ ((rd_T32 l0_0 (ji5)).f1) ((rd_T32 l0_0 (ji5)).f2) 77 30000 false _ ?side1 ?side2 A8.out).mono ?_); (case side1 => repeat (first | exact (Kd.C_below HR379_1.out HB.out) | (with_reducible refine Kd.C_alloc ?_ _) | (with_reducible refine Kd.C_drewN ?_ _) | (with_reducible refine Kd.C_drew ?_))); (case side2 => exact HC379_1.out); rintro e w59 ⟨rfl, hb⟩; have n0_ := Aside0.mk (blk_below (g := gb378) (o := .cells #[.slice (some ad379) l0_0.length c0_0, .slice A0_1 l0_1.length c0_1] 54 (0, 0)) (by (with_reducible repeat (first | refine blk_drewN ?_ _ | refine blk_drew ?_ | refine blk_alloc ?_ _)); exact BK378.out) hb); have n1_ := Aside0.mk (below_step (by repeat (first | (with_reducible first | exact HB.out | apply below_alloc | apply pw_below_drewN | apply below_drew1 | refine below_set ?_ GE378.out) | exact HB.out)) hb); clear BK378; clear HB; have BK378 := n0_; have HB := n1_; clear n0_ n1_; (try clear hb); (try clear hb2); (try clear hk); (try clear hi)))
     go_ret
     exact ⟨by first | rfl | (simp [errW_none, errW_some] <;> rfl) | (simp only [← hji5]; first | rfl | (simp [errW_none, errW_some] <;> rfl)) | (simp [*, errW_none, errW_some] <;> rfl), by repeat (first | (with_reducible first | exact HB.out | apply below_alloc | apply pw_below_drewN | apply below_drew1 | refine below_set ?_ GE378.out) | exact HB.out)⟩
   ·rw [if_neg c7] at H
    exact absurd H (by simp)
  ·rw [if_neg c6] at H
   exact absurd H (by simp)
end Go.Proofs.Ytehkhbnhmehobaa.P
namespace Go.Proofs.Ytehkhbnhmehobaa.P
open Go.RowKit Go.Proofs.YtehkhbnhmehobaaW.PrintWords Go.Proofs.YtehkhbnhmehobaaW.PrintLast Go.Proofs.YtehkhbnhmehobaaW.PrintMore
set_option linter.unusedVariables false
set_option linter.unusedSimpArgs false
def repL : List S81 → List S81 → Bool
  | _, [] => false
  | p, x :: l => if p.any (fun y => x.f0 == y.f0) = true then true else repL (p ++ [x]) l
def subprogram_repeated.f (l0 : List (S81)) : Option (Bool) := some (repL [] l0)
theorem idx_any (n : Int) : ∀ (l : List S81) (i : Int), 0 ≤ i → (idxF (fun y => some (n == y.f0)) l i).map (fun i => decide (i ≥ 0)) = some (l.any (fun y => n == y.f0))
  | [], i, _ => rfl
  | x :: l, i, hi => by
    simp only [idxF, Option.bind_some, List.any_cons]
    cases h : (n == x.f0) with
    | true => simp [hi]
    | false =>
      simp only [Bool.false_eq_true, if_false, Bool.false_or]
      exact idx_any n l (i + 1) (by omega)
theorem alloc_at2 (w : World) (o : Obj) : (w.alloc o).heap[w.heap.size]? = some o := by
  show (w.heap.push o)[w.heap.size]? = _
  simp
set_option maxHeartbeats 1000000 in
set_option maxRecDepth 100000 in
theorem repeated_closure (x y : S81) (v : Value) (g : Nat) (A1 : Option Addr) (c1 : Nat) (w : World) (hbox : w.heap[g]? = some (.cells #[.int .i64 x.f0, v] 81 (0, 0))) :
    Calls Try.prog 103 (#[.agg #[.int .i64 y.f0, .slice A1 y.f1.length c1]] ++ #[.pointer (some ⟨g, 0, none⟩)]) w fun e w' => e = .returned (.bool (x.f0 == y.f0)) ∧ Below w.heap.size w w' := by
  have hu1 := Try.underlying81
  have hcz0 : w.cell? ⟨g, 0, none⟩ = some (.int .i64 x.f0) := (blk_cell hbox 0).trans rfl
  have BK := Aside0.mk hbox
  clear hbox
  show Calls Try.prog 103 #[.agg #[.int .i64 y.f0, .slice A1 y.f1.length c1], .pointer (some ⟨g, 0, none⟩)] w _
  go_enter Try.func103, Try.ntmps103
  go_wp2_with ((with_reducible refine gate_dst (N := 2) rfl ?_); refine box_event ?hg (N := 2) ?hd (cs := #[.int .i64 y.f0, .slice A1 y.f1.length c1]) (t := 81) ?hr ?_; (case hd => rfl); (case hg => rfl); (case hr => first | (go_simp; done) | (go_simp; rfl)); intro gb hg w1 hbox hb; have HB := Aside0.mk hb; have BKt := Aside0.mk (blk_below BK.out hb); have hx0 : w1.cell? ⟨gb, 0, none⟩ = some (.int .i64 y.f0) := (blk_cell hbox 0).trans rfl; have hx1 : w1.cell? ⟨g, 0, none⟩ = some (.int .i64 x.f0) := (blk_cell BKt.out 0).trans rfl; clear hb hbox hg hcz0)
  go_ret
  exact ⟨rfl, HB.out⟩
theorem repL_step {l : List S81} {j : Nat} (h : j < l.length) : repL (l.take j) (l.drop j) = if (l.take j).any (fun y => l[j].f0 == y.f0) = true then true else repL (l.take (j + 1)) (l.drop (j + 1)) := by
  rw [List.drop_eq_getElem_cons h, repL, List.take_succ_eq_append_getElem h]
set_option maxHeartbeats 2000000 in
set_option maxRecDepth 100000 in
theorem subprogram_repeated.calls (A0 : Option Addr) (c0 : Nat) (l0 : List (S81)) (r : Bool) (w : World) (hr0 : Kd.C k81 w A0 l0.length l0) (hc0 : l0.length ≤ c0) (h : subprogram_repeated.f l0 = some r) :
    Calls Try.prog 80 #[.slice A0 l0.length c0] w fun e w' => e = .returned (.bool r) ∧ Below w.heap.size w w' := by
  have H := Aside0.mk (Option.some.inj h)
  have hu81 := Try.underlying81
  have HR := Aside0.mk hr0
  have HC := Aside0.mk hc0
  have HM := Aside0.mk (Kd.C_max hr0)
  clear hr0 h hc0
  go_enter Try.func80, Try.ntmps80
  go_wp2
  go_loopw [7] (fun i w' => ∃ j : Nat, i = .int .i64 j ∧ Aside0 (j ≤ l0.length) ∧ Aside0 (repL (l0.take j) (l0.drop j) = r) ∧ Aside0 (Below w.heap.size w w')) (fun i _ => l0.length - (intOf i).toNat)
  case atStart => exact ⟨0, rfl, ⟨Nat.zero_le _⟩, ⟨H.out⟩, ⟨Below.refl _ _⟩⟩
  case round =>
    obtain ⟨j, rfl, HJ, HI, HB⟩ := hrel
    by_cases hlt : j < l0.length
    · obtain ⟨ad, A1, c1, e, hx0, hx1, hl1, hk1⟩ := at_T81 (Kd.C_below HR.out HB.out) (j : Int) (by omega) (by omega)
      cases e
      have hrd : rd_T81 l0 (j : Int) = l0[j] := by simp [rd_T81, hlt]
      rw [hrd] at hx0 hx1 hl1 hk1
      have HI2 := Aside0.mk ((repL_step hlt).symm.trans HI.out)
      have HTK := Aside0.mk (show Kd.C k81 wr (some ad) (l0.take j).length (l0.take j) from Kd.C_take (Kd.C_below HR.out HB.out) (m := j) (by omega))
      have HLT := Aside0.mk (show (l0.take j).length = j from by rw [List.length_take, Nat.min_eq_left (by omega)])
      clear hrd
      generalize l0[j] = x at *
      generalize l0.take j = pj at *
      simp only [Int.toNat_natCast] at hx0 hx1
      have hlt' : decide ((j : Int) < (l0.length : Int)) = true := by simp; omega
      have hj0 : (0 : Int) ≤ (j : Int) := by omega
      have hj1 : j ≤ l0.length := by omega
      have hj2 : j ≤ c0 := by have := HC.out; omega
      have CF : ∀ (W : World), W.heap[wr.heap.size]? = some (.cells #[.int .i64 x.f0, .slice A1 x.f1.length c1] 81 (0, 0)) → Below wr.heap.size wr W → Calls Try.prog 101 #[.slice (some ad) j c0, .func (.func 103) #[] #[.pointer (some ⟨wr.heap.size, 0, none⟩)]] W fun e w' => e = .returned (.bool (pj.any (fun y => x.f0 == y.f0))) ∧ Below W.heap.size W w' := by
        intro W hW hb
        have := ContainsFuncSub_any 103 _ Try.func103 (by kernel_rfl) rfl #[.pointer (some ⟨wr.heap.size, 0, none⟩)] (fun y => some (x.f0 == y.f0)) W ⟨fun y A2 c2 b W2 hb2 _ _ he => by obtain rfl := Option.some.inj he; exact repeated_closure x y _ wr.heap.size A2 c2 W2 (blk_below hW hb2)⟩ (some ad) c0 pj _ (Kd.C_below HTK.out hb) (by rw [HLT.out]; exact hj2) (idx_any x.f0 pj 0 (Int.le_refl 0))
        rw [HLT.out] at this
        exact this
      have CF := Aside0.mk CF
      cases ca : pj.any (fun y => x.f0 == y.f0) with
      | true =>
        have HI3 := HI2.out
        rw [if_pos ca] at HI3
        subst HI3
        rw [ca] at CF
        go_wp2_with (go_at_call 101; (with_reducible refine (CF.out _ (alloc_at2 wr _) (below_alloc (Below.refl _ _) _)).mono ?_); rintro e w4 ⟨rfl, hb4⟩; have HB4 := Aside0.mk (below_then (below_alloc HB.out _) (Nat.le_trans HB.out.size (below_alloc (Below.refl _ _) _).size) hb4); clear hb4)
        go_ret
        exact ⟨rfl, HB4.out⟩
      | false =>
        have HI3 := HI2.out
        rw [if_neg (by rw [ca]; decide)] at HI3
        have HI3 := Aside0.mk HI3
        rw [ca] at CF
        go_wp2_with (go_at_call 101; (with_reducible refine (CF.out _ (alloc_at2 wr _) (below_alloc (Below.refl _ _) _)).mono ?_); rintro e w4 ⟨rfl, hb4⟩; have HB4 := Aside0.mk (below_then (below_alloc HB.out _) (Nat.le_trans HB.out.size (below_alloc (Below.refl _ _) _).size) hb4); clear hb4)
        go_roundw
        case rel => exact ⟨j + 1, by rw [wrap_succ hlt HM.out], ⟨by omega⟩, ⟨HI3.out⟩, ⟨HB4.out⟩⟩
        case measure => rw [wrap_succ hlt HM.out]; simp only [intOf, Int.toNat_natCast]; omega
    · have hlt' : decide ((j : Int) < (l0.length : Int)) = false := by simp; omega
      have hI := HI.out
      rw [List.drop_eq_nil_of_le (by omega), repL] at hI
      subst hI
      go_wp2
      go_ret
      exact ⟨rfl, HB.out⟩
end Go.Proofs.Ytehkhbnhmehobaa.P
