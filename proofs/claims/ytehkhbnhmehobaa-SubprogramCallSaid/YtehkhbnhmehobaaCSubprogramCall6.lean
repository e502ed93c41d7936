/- The law swarflaw43.SubprogramCall of the given program returns true for every input, and its arguments read behind the call as they read before.
   Conditions: none beyond the given statement Rows.SubprogramCallSaid. -/
import Derived.Test.YtehkhbnhmehobaaRows
import Derived.WalkKit
import Derived.ProofKit
import Derived.OpenShut
import Derived.ShutString
import Derived.ChangeOld
import Derived.Below
import Derived.SizedLaws
import Derived.Carry
import Derived.Test.YtehkhbnhmehobaaCSubprogramCall1
import Derived.Test.YtehkhbnhmehobaaCSubprogramCall2
import Derived.Test.YtehkhbnhmehobaaCSubprogramCall3
import Derived.Test.YtehkhbnhmehobaaCSubprogramCall4
import Derived.Test.YtehkhbnhmehobaaCSubprogramCall5
namespace Go.Proofs.Ytehkhbnhmehobaa.P
open Go.RowKit Go.Proofs.YtehkhbnhmehobaaW.PrintWords Go.Proofs.YtehkhbnhmehobaaW.PrintLast Go.Proofs.YtehkhbnhmehobaaW.PrintMore
attribute [local go_sem] max2_int min2_int max_two min_two max_three min_three max_four min_four
set_option linter.unusedVariables false
set_option linter.unusedSimpArgs false
mutual
def subprogram_Fold.j0 : Nat → List (S32) → Int → Int → Bool → Option ((List (S32)) × (List (S81)) × Int)
 | 0, _, _, _, _ => none
 | k + 1, x0, x1, x2, x20 => if x20 = true then (some (([] : List (S32)), ([] : List (S81)), 1)) else (if x2 ≤ (wrap64 ((x0.length : Int) / 2)) then ((subprogram_first.f k x0 x2).bind fun t416 => (subprogram_Fold.j1 k x0 x1 x2 t416)) else (subprogram_Fold.j1 k x0 x1 x2 (-1)))
def subprogram_Fold.j1 : Nat → List (S32) → Int → Int → Int → Option ((List (S32)) × (List (S81)) × Int)
 | 0, _, _, _, _ => none
 | k + 1, x0, x1, x2, x8 => if x8 < 0 then ((Clone_Block.f x0).bind fun t417 => (some (t417, ([] : List (S81)), 0))) else (subprogram_Fold.l0 k x0 x1 x2 x8 ([] : List (S32)) 0)
def subprogram_Fold.l0 : Nat → List (S32) → Int → Int → Int → List (S32) → Int → Option ((List (S32)) × (List (S81)) × Int)
 | 0, _, _, _, _, _, _ => none
 | k + 1, x0, x1, x2, x8, x9, x10 => if x10 < (x0.length : Int) then (if (wrap64 (x10 + x2)) ≤ (x0.length : Int) then ((subprogram_run.f k x0 x8 x10 x2).bind fun t420 => (if t420 = true then (if x9.length < 2932031007402 then (subprogram_Fold.l0 k x0 x1 x2 x8 (x9 ++ [(⟨false, (([(⟨77, 98000⟩ : S78), (⟨80, wrap64 (1000 * x1)⟩ : S78)] : List (S78))), (⟨#[]⟩ : ByteArray)⟩ : S32)]) (wrap64 (x10 + x2))) else (none)) else (if 0 ≤ x10 then (if x9.length < 2932031007402 then (subprogram_Fold.l0 k x0 x1 x2 x8 (x9 ++ [(⟨(rd_T32 x0 x10).f0, (rd_T32 x0 x10).f1, (rd_T32 x0 x10).f2⟩ : S32)]) (wrap64 (x10 + 1))) else (none)) else (none)))) else (if 0 ≤ x10 then (if x9.length < 2932031007402 then (subprogram_Fold.l0 k x0 x1 x2 x8 (x9 ++ [(⟨(rd_T32 x0 x10).f0, (rd_T32 x0 x10).f1, (rd_T32 x0 x10).f2⟩ : S32)]) (wrap64 (x10 + 1))) else (none)) else (none))) else (if 0 ≤ x8 then (if x8 ≤ (wrap64 (x8 + x2)) then (if (wrap64 (x8 + x2)) ≤ (x0.length : Int) then ((Clone_Block.f ((x0.take ((wrap64 (x8 + x2)) : Int).toNat).drop (x8 : Int).toNat)).bind fun t440 => (some (x9, (([(⟨x1, t440⟩ : S81)] : List (S81))), 0))) else (none)) else (none)) else (none))
end
def subprogram_Fold.f (k : Nat) (l0 : List (S32)) (a1 : Int) (a2 : Int) : Option ((List (S32)) × (List (S81)) × Int) := if a1 < 1 then (subprogram_Fold.j0 k l0 a1 a2 true) else (if a1 > 9999 then (subprogram_Fold.j0 k l0 a1 a2 true) else (subprogram_Fold.j0 k l0 a1 a2 (decide (a2 < 1))))
theorem subprogram_Fold.mono_l : ∀ k, (∀ y0 y1 y2 y3, LeO (subprogram_Fold.j0 k y0 y1 y2 y3) (subprogram_Fold.j0 (k + 1) y0 y1 y2 y3)) ∧ (∀ y0 y1 y2 y3, LeO (subprogram_Fold.j1 k y0 y1 y2 y3) (subprogram_Fold.j1 (k + 1) y0 y1 y2 y3)) ∧ (∀ y0 y1 y2 y3 y4 y5, LeO (subprogram_Fold.l0 k y0 y1 y2 y3 y4 y5) (subprogram_Fold.l0 (k + 1) y0 y1 y2 y3 y4 y5))
 | 0 => ⟨fun _ _ _ _ r h => by simp [subprogram_Fold.j0] at h, fun _ _ _ _ r h => by simp [subprogram_Fold.j1] at h, fun _ _ _ _ _ _ r h => by simp [subprogram_Fold.l0] at h⟩
 | k + 1 => by
  obtain ⟨ih0, ih1, ih2⟩ := subprogram_Fold.mono_l k
  refine ⟨?_, ?_, ?_⟩
  ·intro y0 y1 y2 y3
   unfold subprogram_Fold.j0
   repeat' first
   | (with_reducible exact ih0 _ _ _ _)
   | (with_reducible exact ih1 _ _ _ _)
   | (with_reducible exact ih2 _ _ _ _ _ _)
   | (with_reducible exact subprogram_first.mono _ _ _)
   | (with_reducible exact subprogram_run.mono _ _ _ _ _)
   | (with_reducible exact LeO.refl _)
   | (with_reducible exact LeO.none _)
   | (with_reducible refine LeO.ite ?_ ?_)
   | (with_reducible refine LeO.bind ?_ (fun _ => ?_))
   | exact ih0 _ _ _ _
   | exact ih1 _ _ _ _
   | exact ih2 _ _ _ _ _ _
   | exact subprogram_first.mono _ _ _
   | exact subprogram_run.mono _ _ _ _ _
   | exact LeO.none _
   | refine LeO.ite ?_ ?_
   | refine LeO.bind ?_ (fun _ => ?_)
  ·intro y0 y1 y2 y3
   unfold subprogram_Fold.j1
   repeat' first
   | (with_reducible exact ih0 _ _ _ _)
   | (with_reducible exact ih1 _ _ _ _)
   | (with_reducible exact ih2 _ _ _ _ _ _)
   | (with_reducible exact subprogram_first.mono _ _ _)
   | (with_reducible exact subprogram_run.mono _ _ _ _ _)
   | (with_reducible exact LeO.refl _)
   | (with_reducible exact LeO.none _)
   | (with_reducible refine LeO.ite ?_ ?_)
   | (with_reducible refine LeO.bind ?_ (fun _ => ?_))
   | exact ih0 _ _ _ _
   | exact ih1 _ _ _ _
   | exact ih2 _ _ _ _ _ _
   | exact subprogram_first.mono _ _ _
   | exact subprogram_run.mono _ _ _ _ _
   | exact LeO.none _
   | refine LeO.ite ?_ ?_
   | refine LeO.bind ?_ (fun _ => ?_)
  ·intro y0 y1 y2 y3 y4 y5
   unfold subprogram_Fold.l0
   repeat' first
   | (with_reducible exact ih0 _ _ _ _)
   | (with_reducible exact ih1 _ _ _ _)
   | (with_reducible exact ih2 _ _ _ _ _ _)
   | (with_reducible exact subprogram_first.mono _ _ _)
   | (with_reducible exact subprogram_run.mono _ _ _ _ _)
   | (with_reducible exact LeO.refl _)
   | (with_reducible exact LeO.none _)
   | (with_reducible refine LeO.ite ?_ ?_)
   | (with_reducible refine LeO.bind ?_ (fun _ => ?_))
   | exact ih0 _ _ _ _
   | exact ih1 _ _ _ _
   | exact ih2 _ _ _ _ _ _
   | exact subprogram_first.mono _ _ _
   | exact subprogram_run.mono _ _ _ _ _
   | exact LeO.none _
   | refine LeO.ite ?_ ?_
   | refine LeO.bind ?_ (fun _ => ?_)
theorem subprogram_Fold.mono : ∀ a0 a1 a2 k, LeO (subprogram_Fold.f k a0 a1 a2) (subprogram_Fold.f (k + 1) a0 a1 a2) := by
 intro a0 a1 a2 k
 obtain ⟨ih0, ih1, ih2⟩ := subprogram_Fold.mono_l k
 unfold subprogram_Fold.f
 repeat' first
   | (with_reducible exact ih0 _ _ _ _)
   | (with_reducible exact ih1 _ _ _ _)
   | (with_reducible exact ih2 _ _ _ _ _ _)
   | (with_reducible exact subprogram_first.mono _ _ _)
   | (with_reducible exact subprogram_run.mono _ _ _ _ _)
   | (with_reducible exact LeO.refl _)
   | (with_reducible exact LeO.none _)
   | (with_reducible refine LeO.ite ?_ ?_)
   | (with_reducible refine LeO.bind ?_ (fun _ => ?_))
   | exact ih0 _ _ _ _
   | exact ih1 _ _ _ _
   | exact ih2 _ _ _ _ _ _
   | exact subprogram_first.mono _ _ _
   | exact subprogram_run.mono _ _ _ _ _
   | exact LeO.none _
   | refine LeO.ite ?_ ?_
   | refine LeO.bind ?_ (fun _ => ?_)
set_option maxHeartbeats 8000000 in
set_option maxRecDepth 100000 in
theorem subprogram_Fold.calls (k : Nat) (P0_ : Nat → Prop) (A0 : Option Addr) (c0 : Nat) (l0 : List (S32)) (a1 : Int) (a2 : Int) (r1 : List (S32)) (r2 : List (S81)) (r3 : Int) (w : World) (hs0 : Kd.V k32 32 w w.heap.size (fun k_ => P0_ k_) (.slice A0 l0.length c0) l0) (h : subprogram_Fold.f k l0 a1 a2 = some (r1, r2, r3)) :
  Calls Try.prog 32 #[.slice A0 l0.length c0, .int .i64 a1, .int .i64 a2] w fun e w' => ∃ v0_ v1_ : Value, e = .returned (.tuple #[.agg #[v0_, v1_], .int .i64 r3]) ∧ Kd.N k32 32 w' w.heap.size (fun k_ => (P0_ k_ ∨ w.heap.size ≤ k_) ∧ some k_ ≠ (v1_ : Value).ownBlock) v0_ r1 ∧ Kd.N k81 81 w' w.heap.size (fun k_ => (P0_ k_ ∨ w.heap.size ≤ k_) ∧ some k_ ≠ (v0_ : Value).ownBlock) v1_ r2 ∧ Below w.heap.size w w' := by
 have hu54 := Try.underlying54
 have hu78 := Try.underlying78
 have hu32 := Try.underlying32
 have hu81 := Try.underlying81
 have HO0 := Aside0.mk (show Kd.V k32 32 w w.heap.size (fun k_ => (P0_ k_ ∨ w.heap.size ≤ k_)) (.slice A0 l0.length c0) l0 from Kd.V_mono hs0 (fun k_ hk => .inl hk))
 have HB := Aside0.mk (Below.refl w.heap.size w)
 have H : (if a1 < 1 then (subprogram_Fold.j0 k l0 a1 a2 true) else (if a1 > 9999 then (subprogram_Fold.j0 k l0 a1 a2 true) else (subprogram_Fold.j0 k l0 a1 a2 (decide (a2 < 1))))) = some (r1, r2, r3) := h
 clear h
 have HC4 := Aside0.mk H
 clear H
 go_enter Try.func32, Try.ntmps32
 go_upto_region 1 with (first | ((with_reducible refine gate_dst (N := 6) rfl ?_); refine box_event ?hg (N := 6) ?hd (cs := #[.slice none 0 0, .slice none 0 0]) (t := 54) ?hr ?_; (case hd => rfl); (case hg => rfl); (case hr => first | (go_simp; done) | (go_simp; rfl)); intro gb415 hg w5 hbox hb; have n0_ := Aside0.mk (Kd.V_below (Kd.V_elderB (by (with_reducible repeat (first | apply Kd.V_alloc | apply Kd.V_drewN | apply Kd.V_drew)); exact HO0.out) gb415 (Nat.le_of_eq hg.symm)) hb); have n1_ := Aside0.mk (below_step (by repeat (first | (with_reducible first | exact HB.out | apply below_alloc | apply pw_below_drewN | apply below_drew1) | exact HB.out)) hb); have n2_ := Aside0.mk (hbox); have n3_ := Aside0.mk ((by rw [hg]; exact (below_size (by repeat (first | (with_reducible first | exact HB.out | apply below_alloc | apply pw_below_drewN | apply below_drew1) | exact HB.out))) : w.heap.size ≤ gb415)); have n4_ := Aside0.mk ((by rw [hg]; exact (below_size (by repeat (first | (with_reducible first | exact HB.out | apply below_alloc | apply pw_below_drewN | apply below_drew1) | exact HB.out))) : w.heap.size ≤ gb415)); clear HO0; clear HB; have HO0 := n0_; have HB := n1_; have BK415 := n2_; have GW415 := n3_; have GE415 := n4_; clear n0_ n1_ n2_ n3_ n4_; clear hb hbox hg))
 (try simp only [Act.put, List.setIfInBounds_toArray, List.set_cons_zero, List.set_cons_succ])
 go_cut [20] (fun v20 wc => ∃ (kq : Nat) (x20_3 : Bool), v20 = .bool x20_3 ∧ Aside0 (subprogram_Fold.j0 kq l0 a1 a2 x20_3 = some (r1, r2, r3)) ∧ Aside0 (kq ≤ k) ∧ Aside0 (Kd.V k32 32 wc w.heap.size (fun k_ => (P0_ k_ ∨ w.heap.size ≤ k_) ∧ k_ ≠ gb415) (.slice A0 l0.length c0) l0) ∧ Aside0 (wc.heap[gb415]? = some (.cells #[(.slice none 0 0), (.slice none 0 0)] 54 (0, 0))) ∧ Aside0 (Below w.heap.size w wc))
 case first =>
  have H := HC4.out
  clear HC4
  by_cases c6 : a1 < 1
  ·rw [if_pos c6] at H
   have c6b0 : decide (a1 < 1) = true := decide_eq_true c6
   clear c6
   (first | rw [c6b0] | (simp only [i64_w, i32_w]; rw [c6b0]) | skip)
   have H' := Aside0.mk H
   clear H
   go_wp2
   go_meet
   case rel => exact ⟨_, (true), (by first | rfl | (simp; done) | (simp [*]; done)), H', ⟨by first | omega | exact Nat.le_refl _⟩, ⟨by (with_reducible repeat (first | apply Kd.V_alloc | apply Kd.V_drewN | apply Kd.V_drew)); exact HO0.out⟩, ⟨by (with_reducible repeat (first | refine blk_drewN ?_ _ | refine blk_drew ?_ | refine blk_alloc ?_ _)); exact BK415.out⟩, ⟨by repeat (first | (with_reducible first | exact HB.out | apply below_alloc | apply pw_below_drewN | apply below_drew1 | refine below_set ?_ GE415.out) | exact HB.out)⟩⟩
  ·rw [if_neg c6] at H
   have c6b0 : decide (a1 < 1) = false := decide_eq_false c6
   clear c6
   (first | rw [c6b0] | (simp only [i64_w, i32_w]; rw [c6b0]) | skip)
   by_cases c7 : a1 > 9999
   ·rw [if_pos c7] at H
    have c7b0 : decide (9999 < a1) = true := decide_eq_true c7
    clear c7
    have H' := Aside0.mk H
    clear H
    go_wp2
    go_meet
    case rel => exact ⟨_, (true), (by first | rfl | (simp; done) | (simp [*]; done)), H', ⟨by first | omega | exact Nat.le_refl _⟩, ⟨by (with_reducible repeat (first | apply Kd.V_alloc | apply Kd.V_drewN | apply Kd.V_drew)); exact HO0.out⟩, ⟨by (with_reducible repeat (first | refine blk_drewN ?_ _ | refine blk_drew ?_ | refine blk_alloc ?_ _)); exact BK415.out⟩, ⟨by repeat (first | (with_reducible first | exact HB.out | apply below_alloc | apply pw_below_drewN | apply below_drew1 | refine below_set ?_ GE415.out) | exact HB.out)⟩⟩
   ·rw [if_neg c7] at H
    have c7b0 : decide (9999 < a1) = false := decide_eq_false c7
    clear c7
    have H' := Aside0.mk H
    clear H
    go_wp2
    go_meet
    case rel => exact ⟨_, (decide (a2 < 1)), (by first | rfl | (simp; done) | (simp [*]; done)), H', ⟨by first | omega | exact Nat.le_refl _⟩, ⟨by (with_reducible repeat (first | apply Kd.V_alloc | apply Kd.V_drewN | apply Kd.V_drew)); exact HO0.out⟩, ⟨by (with_reducible repeat (first | refine blk_drewN ?_ _ | refine blk_drew ?_ | refine blk_alloc ?_ _)); exact BK415.out⟩, ⟨by repeat (first | (with_reducible first | exact HB.out | apply below_alloc | apply pw_below_drewN | apply below_drew1 | refine below_set ?_ GE415.out) | exact HB.out)⟩⟩
 case rest =>
  clear HC4
  try clear p2
  try clear c3
  try clear c6
  try clear c6b0
  try clear c7
  try clear c7b0
  obtain ⟨kq, x20_3, rfl, HA, HJ3, HO_0, BK415, HB⟩ := hcut
  cases kq with
  | zero => exact absurd HA.out (by simp [subprogram_Fold.j0])
  | succ kj3 =>
   have H := HA.out
   clear HA
   simp only [subprogram_Fold.j0] at H
   by_cases c8 : x20_3 = true
   ·subst c8
    have H1 : (some (([] : List (S32)), ([] : List (S81)), 1)) = some (r1, r2, r3) := by rw [if_pos rfl] at H; exact H
    clear H
    have H := H1
    clear H1
    simp only [Option.some.injEq, Prod.mk.injEq] at H
    obtain ⟨rfl, rfl, rfl⟩ := H
    have hcz9_0 : wc.cell? ⟨gb415, 0, none⟩ = some (.slice none 0 0) := (blk_cell BK415.out 0).trans rfl
    have hcz9_1 : wc.cell? ⟨gb415, 1, none⟩ = some (.slice none 0 0) := (blk_cell BK415.out 1).trans rfl
    have hfz9_0 := blk_frozen BK415.out 0
    have hfz9_1 := blk_frozen BK415.out 1
    go_wp2
    refine bodyPost_ret (results_ct rfl _ _ gb415 54 #[.slice none 0 0, .slice none 0 0] (0, 0) _ rfl (by (with_reducible repeat (first | refine blk_drewN ?_ _ | refine blk_drew ?_ | refine blk_alloc ?_ _)); refine blk_put (cs := #[.slice none 0 0, .slice none 0 0]) ?_ 1 _ rfl; (with_reducible repeat (first | refine blk_drewN ?_ _ | refine blk_drew ?_ | refine blk_alloc ?_ _)); refine blk_put (cs := #[.slice none 0 0, .slice none 0 0]) ?_ 0 _ rfl; (with_reducible repeat (first | refine blk_drewN ?_ _ | refine blk_drew ?_ | refine blk_alloc ?_ _)); exact BK415.out) Try.underlying54 rfl (by kernel_rfl)) rfl ?_
    exact ⟨_, _, by first | rfl | (simp [errW_none, errW_some] <;> rfl) | (simp [*, errW_none, errW_some] <;> rfl), by first | exact Kd.S_nil _ _ _ _ _ | exact Kd.N_nil _ _ _ _ _ | exact Kd.V_nil _ _ _ _ _ | exact Kd.Q_nil _ _ _ _ _ | exact Kd.R_nil _ _ _ _ _, by first | exact Kd.R_nil _ _ _ _ _ | exact Kd.N_nil _ _ _ _ _ | exact Kd.V_nil _ _ _ _ _ | exact Kd.Q_nil _ _ _ _ _ | exact Kd.S_nil _ _ _ _ _, by repeat (first | (with_reducible first | exact HB.out | apply below_alloc | apply pw_below_drewN | apply below_drew1 | refine below_set ?_ GE415.out) | exact HB.out)⟩
   ·replace c8 := Bool.eq_false_iff.mpr c8
    subst c8
    have H1 : (if a2 ≤ (wrap64 ((l0.length : Int) / 2)) then ((subprogram_first.f kj3 l0 a2).bind fun t416 => (subprogram_Fold.j1 kj3 l0 a1 a2 t416)) else (subprogram_Fold.j1 kj3 l0 a1 a2 (-1))) = some (r1, r2, r3) := by rw [if_neg (show ¬ (false = true) by decide)] at H; exact H
    clear H
    have H := H1
    clear H1
    have HC10 := Aside0.mk H
    clear H
    go_upto_if 26 with (fail)
    go_cut [8] (fun v8 wc => ∃ (kq : Nat) (x8_9 : Int), v8 = .int .i64 x8_9 ∧ Aside0 (subprogram_Fold.j1 kq l0 a1 a2 x8_9 = some (r1, r2, r3)) ∧ Aside0 (kq ≤ kj3) ∧ Aside0 (Kd.V k32 32 wc w.heap.size (fun k_ => (P0_ k_ ∨ w.heap.size ≤ k_) ∧ k_ ≠ gb415) (.slice A0 l0.length c0) l0) ∧ Aside0 (wc.heap[gb415]? = some (.cells #[(.slice none 0 0), (.slice none 0 0)] 54 (0, 0))) ∧ Aside0 (Below w.heap.size w wc))
    case first =>
     have H := HC10.out
     clear HC10
     by_cases c11 : a2 ≤ (wrap64 ((l0.length : Int) / 2))
     ·rw [if_pos c11] at H
      have c11b0 : decide (a2 ≤ (wrap64 ((l0.length : Int) / 2))) = true := decide_eq_true c11
      clear c11
      (first | rw [c11b0] | (simp only [i64_w, i32_w]; rw [c11b0]) | skip)
      replace H := Option.bind_eq_some_iff.mp H
      obtain ⟨t416, A120, H⟩ := H
      replace H : (subprogram_Fold.j1 kj3 l0 a1 a2 t416) = some (r1, r2, r3) := H
      have A12 := Aside0.mk A120
      clear A120
      have H' := Aside0.mk H
      clear H
      go_wp2_with (first | ((with_reducible refine gate_callee (f := 67) rfl ?_); refine goesL_ (some 29) rfl rfl Try.func67 (by kernel_rfl) rfl #[.slice A0 l0.length c0, .int .i64 a2] rfl (by (try simp only [List.map_toArray, List.map_cons, List.map_nil]); first | done | rfl | (simp only [List.length_drop, List.length_take]; rfl)) ?_; (with_reducible refine (subprogram_first.calls kj3 _ _ l0 a2 t416 _ ?side1 ?side2 A12.out).mono ?_); (case side1 => repeat (first | exact (Kd.V_reads' HO_0.out).2.2 | (with_reducible refine Kd.C_alloc ?_ _) | (with_reducible refine Kd.C_drewN ?_ _) | (with_reducible refine Kd.C_drew ?_))); (case side2 => exact (Kd.V_reads' HO_0.out).2.1); rintro e w13 ⟨rfl, hb⟩; refine ⟨_, rfl, ?_⟩; have n0_ := Aside0.mk (Kd.V_below (by (with_reducible repeat (first | apply Kd.V_alloc | apply Kd.V_drewN | apply Kd.V_drew)); exact HO_0.out) hb); have n1_ := Aside0.mk (blk_below (g := gb415) (o := .cells #[.slice none 0 0, .slice none 0 0] 54 (0, 0)) (by (with_reducible repeat (first | refine blk_drewN ?_ _ | refine blk_drew ?_ | refine blk_alloc ?_ _)); exact BK415.out) hb); have n2_ := Aside0.mk (below_step (by repeat (first | (with_reducible first | exact HB.out | apply below_alloc | apply pw_below_drewN | apply below_drew1 | refine below_set ?_ GE415.out) | exact HB.out)) hb); clear HO_0; clear BK415; clear HB; have HO_0 := n0_; have BK415 := n1_; have HB := n2_; clear n0_ n1_ n2_; (try clear hb); (try clear hb2); (try clear hk); (try clear hi)))
      go_meet
      case rel => exact ⟨_, (t416), (by first | rfl | (simp; done) | (simp [*]; done)), H', ⟨by have := HJ3.out; first | omega | exact Nat.le_refl _⟩, ⟨by (with_reducible repeat (first | apply Kd.V_alloc | apply Kd.V_drewN | apply Kd.V_drew)); exact HO_0.out⟩, ⟨by (with_reducible repeat (first | refine blk_drewN ?_ _ | refine blk_drew ?_ | refine blk_alloc ?_ _)); exact BK415.out⟩, ⟨by repeat (first | (with_reducible first | exact HB.out | apply below_alloc | apply pw_below_drewN | apply below_drew1 | refine below_set ?_ GE415.out) | exact HB.out)⟩⟩
     ·rw [if_neg c11] at H
      have c11b0 : decide (a2 ≤ (wrap64 ((l0.length : Int) / 2))) = false := decide_eq_false c11
      clear c11
      (first | rw [c11b0] | (simp only [i64_w, i32_w]; rw [c11b0]) | skip)
      have H' := Aside0.mk H
      clear H
      go_wp2
      go_meet
      case rel => exact ⟨_, ((-1)), (by first | rfl | (simp; done) | (simp [*]; done)), H', ⟨by have := HJ3.out; first | omega | exact Nat.le_refl _⟩, ⟨by (with_reducible repeat (first | apply Kd.V_alloc | apply Kd.V_drewN | apply Kd.V_drew)); exact HO_0.out⟩, ⟨by (with_reducible repeat (first | refine blk_drewN ?_ _ | refine blk_drew ?_ | refine blk_alloc ?_ _)); exact BK415.out⟩, ⟨by repeat (first | (with_reducible first | exact HB.out | apply below_alloc | apply pw_below_drewN | apply below_drew1 | refine below_set ?_ GE415.out) | exact HB.out)⟩⟩
    case rest =>
     clear HC10
     try clear c1
     try clear p2
     try clear c3
     try clear c6
     try clear c6b0
     try clear p6
     try clear c7
     try clear c7b0
     try clear c8
     try clear c11
     try clear c11b0
     try clear hcz9_0
     try clear hcz9_1
     try clear hfz9_0
     try clear hfz9_1
     try clear p2
     obtain ⟨kq, x8_9, rfl, HA, HJ9, HO_0, BK415, HB⟩ := hcut
     cases kq with
     | zero => exact absurd HA.out (by simp [subprogram_Fold.j1])
     | succ kj9 =>
      have H := HA.out
      clear HA
      simp only [subprogram_Fold.j1] at H
      by_cases c14 : x8_9 < 0
      ·rw [if_pos c14] at H
       have c14b0 : decide (x8_9 < 0) = true := decide_eq_true c14
       clear c14
       replace H := Option.bind_eq_some_iff.mp H
       obtain ⟨t417, A150, H⟩ := H
       replace H : (some (t417, ([] : List (S81)), 0)) = some (r1, r2, r3) := H
       have A15 := Aside0.mk A150
       clear A150
       simp only [Option.some.injEq, Prod.mk.injEq] at H
       obtain ⟨rfl, rfl, rfl⟩ := H
       go_wp2_with (first | ((with_reducible refine gate_callee (f := 33) rfl ?_); refine goesL_ (some 33) rfl rfl Try.func33 (by kernel_rfl) rfl #[.slice A0 l0.length c0] rfl (by (try simp only [List.map_toArray, List.map_cons, List.map_nil]); first | done | rfl | (simp only [List.length_drop, List.length_take]; rfl)) ?_; (with_reducible refine (Clone_Block.calls (fun k_ => ((P0_ k_ ∨ w.heap.size ≤ k_) ∧ k_ ≠ gb415)) _ _ l0 t417 _ ?side1 A15.out).mono ?_); (case side1 => exact HO_0.out); rintro e w16 ⟨v418, rfl, ho0, hb⟩; refine ⟨_, rfl, ?_⟩; have n0_ := Aside0.mk (Kd.V_elder' (by (with_reducible repeat (first | apply Kd.V_alloc | apply Kd.V_drewN | apply Kd.V_drew)); exact HO_0.out) (by first | exact Kd.N_base ho0 | exact Kd.S_base ho0) hb); have n1_ := Aside0.mk (Kd.N_lower (Kd.N_mono (ok' := fun k_ => (P0_ k_ ∨ w.heap.size ≤ k_) ∧ k_ ≠ gb415) ho0 (fun k_ hk_ => ⟨Or.elim hk_ (fun hs_ => hs_.1) (fun hn_ => (.inr (Nat.le_trans (below_size (by repeat (first | (with_reducible first | exact HB.out | apply below_alloc | apply pw_below_drewN | apply below_drew1 | refine below_set ?_ GE415.out) | exact HB.out))) hn_))), Or.elim hk_ (fun hs_ => hs_.2) (fun hn_ => (Kd.freshB (g := gb415) (o := .cells #[.slice none 0 0, .slice none 0 0] 54 (0, 0)) (by (with_reducible repeat (first | refine blk_drewN ?_ _ | refine blk_drew ?_ | refine blk_alloc ?_ _)); exact BK415.out) k_ hn_))⟩)) (below_size (by repeat (first | (with_reducible first | exact HB.out | apply below_alloc | apply pw_below_drewN | apply below_drew1 | refine below_set ?_ GE415.out) | exact HB.out)))); have n2_ := Aside0.mk (blk_below (g := gb415) (o := .cells #[.slice none 0 0, .slice none 0 0] 54 (0, 0)) (by (with_reducible repeat (first | refine blk_drewN ?_ _ | refine blk_drew ?_ | refine blk_alloc ?_ _)); exact BK415.out) hb); have n3_ := Aside0.mk (below_step (by repeat (first | (with_reducible first | exact HB.out | apply below_alloc | apply pw_below_drewN | apply below_drew1 | refine below_set ?_ GE415.out) | exact HB.out)) hb); clear HO_0; clear BK415; clear HB; have HO_0 := n0_; have HO419 := n1_; have BK415 := n2_; have HB := n3_; clear n0_ n1_ n2_ n3_; (try clear hb); (try clear hb2); (try clear hk); (try clear hi); (try clear ho0); obtain ⟨Ao17, co17, eo17⟩ := Kd.N_slice HO419.out; subst eo17; have hcz18_0 : w16.cell? ⟨gb415, 0, none⟩ = some (.slice none 0 0) := (blk_cell BK415.out 0).trans rfl; have hcz18_1 : w16.cell? ⟨gb415, 1, none⟩ = some (.slice none 0 0) := (blk_cell BK415.out 1).trans rfl; have hfz18_0 := blk_frozen BK415.out 0; have hfz18_1 := blk_frozen BK415.out 1))
       refine bodyPost_ret (results_ct rfl _ _ gb415 54 #[.slice Ao17 t417.length co17, .slice none 0 0] (0, 0) _ rfl (by (with_reducible repeat (first | refine blk_drewN ?_ _ | refine blk_drew ?_ | refine blk_alloc ?_ _)); refine blk_put (cs := #[.slice Ao17 t417.length co17, .slice none 0 0]) ?_ 1 _ rfl; (with_reducible repeat (first | refine blk_drewN ?_ _ | refine blk_drew ?_ | refine blk_alloc ?_ _)); refine blk_put (cs := #[.slice none 0 0, .slice none 0 0]) ?_ 0 _ rfl; (with_reducible repeat (first | refine blk_drewN ?_ _ | refine blk_drew ?_ | refine blk_alloc ?_ _)); exact BK415.out) Try.underlying54 rfl (by kernel_rfl)) rfl ?_
       exact ⟨_, _, by first | rfl | (simp [errW_none, errW_some] <;> rfl) | (simp [*, errW_none, errW_some] <;> rfl), by (with_reducible repeat (first | apply Kd.N_alloc | apply Kd.N_drewN | apply Kd.N_drew)); exact Kd.N_mono (Kd.N_far (p := ⟨gb415, 1, none⟩) (Kd.N_far (p := ⟨gb415, 0, none⟩) (Kd.N_mono HO419.out (fun k_ hk => (⟨hk, hk.2⟩ : _ ∧ k_ ≠ gb415))) (fun _ hk => hk.2) (.slice Ao17 t417.length co17)) (fun _ hk => hk.2) (.slice none 0 0)) (fun _ hk => ⟨hk.1.1, (by simp [Value.ownBlock])⟩), by first | exact Kd.R_nil _ _ _ _ _ | exact Kd.N_nil _ _ _ _ _ | exact Kd.V_nil _ _ _ _ _ | exact Kd.Q_nil _ _ _ _ _ | exact Kd.S_nil _ _ _ _ _, by repeat (first | (with_reducible first | exact HB.out | apply below_alloc | apply pw_below_drewN | apply below_drew1 | refine below_set ?_ GE415.out) | exact HB.out)⟩
      ·rw [if_neg c14] at H
       have c14b0 : decide (x8_9 < 0) = false := decide_eq_false c14
       clear c14
       have H' := Aside0.mk H
       clear H
       go_wp2
       go_loopg [9, 10] kj9 (fun kq v9 v10 w' => ∃ (x9_3 : List (S32)) (x10_3 : Int), v10 = .int .i64 x10_3 ∧ Aside0 (subprogram_Fold.l0 kq l0 a1 a2 x8_9 x9_3 x10_3 = some (r1, r2, r3)) ∧ Aside0 (kq ≤ kj9) ∧ Aside0 (Kd.V k32 32 w' w.heap.size (fun k_ => (P0_ k_ ∨ w.heap.size ≤ k_) ∧ some k_ ≠ (v9 : Value).ownBlock ∧ k_ ≠ gb415) (.slice A0 l0.length c0) l0) ∧ Aside0 (Kd.N k32 32 w' w.heap.size (fun k_ => (P0_ k_ ∨ w.heap.size ≤ k_) ∧ k_ ≠ gb415) v9 x9_3) ∧ Aside0 (w'.heap[gb415]? = some (.cells #[(.slice none 0 0), (.slice none 0 0)] 54 (0, 0))) ∧ Aside0 (Below w.heap.size w w'))
       case atStart => exact ⟨(([] : List (S32))), (0), (by first | rfl | (simp; done) | (simp [*]; done)), H', ⟨Nat.le_refl _⟩, ⟨by (with_reducible repeat (first | apply Kd.V_alloc | apply Kd.V_drewN | apply Kd.V_drew)); exact Kd.V_mono HO_0.out (fun _ hk => ⟨hk.1, ⟨(by simp [Value.ownBlock]), hk.2⟩⟩)⟩, ⟨by first | exact Kd.S_nil _ _ _ _ _ | exact Kd.N_nil _ _ _ _ _ | exact Kd.V_nil _ _ _ _ _ | exact Kd.Q_nil _ _ _ _ _ | exact Kd.R_nil _ _ _ _ _⟩, ⟨by (with_reducible repeat (first | refine blk_drewN ?_ _ | refine blk_drew ?_ | refine blk_alloc ?_ _)); exact BK415.out⟩, ⟨by repeat (first | (with_reducible first | exact HB.out | apply below_alloc | apply pw_below_drewN | apply below_drew1 | refine below_set ?_ GE415.out) | exact HB.out)⟩⟩
       case round =>
        clear H'
        try clear c1
        try clear p2
        try clear c3
        try clear c6
        try clear c6b0
        try clear p6
        try clear c7
        try clear c7b0
        try clear c8
        try clear c11
        try clear c11b0
        try clear c14
        try clear c14b0
        try clear hcz18_0
        try clear hcz18_1
        try clear hcz9_0
        try clear hcz9_1
        try clear hfz18_0
        try clear hfz18_1
        try clear hfz9_0
        try clear hfz9_1
        try clear p2
        try clear p6
        obtain ⟨x9_3, x10_3, rfl, HA, HK3, HO_0, HO_9, BK415, HB⟩ := hrel
        cases gk with
        | zero => exact absurd HA.out (by simp [subprogram_Fold.l0])
        | succ k3 =>
         have H := HA.out
         clear HA
         simp only [subprogram_Fold.l0] at H
         by_cases c19 : x10_3 < (l0.length : Int)
         ·rw [if_pos c19] at H
          have c19b0 : decide (x10_3 < (l0.length : Int)) = true := decide_eq_true c19
          clear c19
          by_cases c20 : (wrap64 (x10_3 + a2)) ≤ (l0.length : Int)
          ·rw [if_pos c20] at H
           have c20b0 : decide ((wrap64 (x10_3 + a2)) ≤ (l0.length : Int)) = true := decide_eq_true c20
           clear c20
           replace H := Option.bind_eq_some_iff.mp H
           obtain ⟨t420, A210, H⟩ := H
           replace H : (if t420 = true then (if x9_3.length < 2932031007402 then (subprogram_Fold.l0 k3 l0 a1 a2 x8_9 (x9_3 ++ [(⟨false, (([(⟨77, 98000⟩ : S78), (⟨80, wrap64 (1000 * a1)⟩ : S78)] : List (S78))), (⟨#[]⟩ : ByteArray)⟩ : S32)]) (wrap64 (x10_3 + a2))) else (none)) else (if 0 ≤ x10_3 then (if x9_3.length < 2932031007402 then (subprogram_Fold.l0 k3 l0 a1 a2 x8_9 (x9_3 ++ [(⟨(rd_T32 l0 x10_3).f0, (rd_T32 l0 x10_3).f1, (rd_T32 l0 x10_3).f2⟩ : S32)]) (wrap64 (x10_3 + 1))) else (none)) else (none))) = some (r1, r2, r3) := H
           have A21 := Aside0.mk A210
           clear A210
           by_cases c22 : t420 = true
           ·subst c22
            have H1 : (if x9_3.length < 2932031007402 then (subprogram_Fold.l0 k3 l0 a1 a2 x8_9 (x9_3 ++ [(⟨false, (([(⟨77, 98000⟩ : S78), (⟨80, wrap64 (1000 * a1)⟩ : S78)] : List (S78))), (⟨#[]⟩ : ByteArray)⟩ : S32)]) (wrap64 (x10_3 + a2))) else (none)) = some (r1, r2, r3) := by rw [if_pos rfl] at H; exact H
            clear H
            have H := H1
            clear H1
            obtain ⟨y421, hy421⟩ : ∃ y_ : List (S78), y_ = (([(⟨77, 98000⟩ : S78), (⟨80, wrap64 (1000 * a1)⟩ : S78)] : List (S78))) := ⟨_, rfl⟩
            replace H : (if x9_3.length < 2932031007402 then (subprogram_Fold.l0 k3 l0 a1 a2 x8_9 (x9_3 ++ [(⟨false, y421, (⟨#[]⟩ : ByteArray)⟩ : S32)]) (wrap64 (x10_3 + a2))) else (none)) = some (r1, r2, r3) := by first | (rw [hy421]; with_reducible exact H) | (have H2_ := (Option.bind_some _ _).symm.trans H; rw [hy421]; with_reducible exact H2_) | (have H2_ := (Option.bind_some _ _).symm.trans H; with_reducible exact H2_) | with_reducible exact H | (rw [hy421]; exact H) | exact H
            have Ny421 := Aside0.mk hy421
            clear hy421
            by_cases c23 : x9_3.length < 2932031007402
            ·rw [if_pos c23] at H
             have LMc23 := Aside0.mk c23
             clear c23
             obtain ⟨y424, hy424⟩ : ∃ y_ : List (S32), y_ = (x9_3 ++ [(⟨false, y421, (⟨#[]⟩ : ByteArray)⟩ : S32)]) := ⟨_, rfl⟩
             replace H : (subprogram_Fold.l0 k3 l0 a1 a2 x8_9 y424 (wrap64 (x10_3 + a2))) = some (r1, r2, r3) := by first | (rw [hy424]; with_reducible exact H) | (have H2_ := (Option.bind_some _ _).symm.trans H; rw [hy424]; with_reducible exact H2_) | (have H2_ := (Option.bind_some _ _).symm.trans H; with_reducible exact H2_) | with_reducible exact H | (rw [hy424]; exact H) | exact H
             have Ny424 := Aside0.mk hy424
             clear hy424
             have H' := Aside0.mk H
             clear H
             go_wp2_with (first | (go_at_call 68; (with_reducible refine (subprogram_run.calls k3 _ _ l0 x8_9 x10_3 a2 true _ ?side1 ?side2 A21.out).mono ?_); (case side1 => repeat (first | exact (Kd.V_reads' HO_0.out).2.2 | (with_reducible refine Kd.C_alloc ?_ _) | (with_reducible refine Kd.C_drewN ?_ _) | (with_reducible refine Kd.C_drew ?_))); (case side2 => exact (Kd.V_reads' HO_0.out).2.1); rintro e w24 ⟨rfl, hb⟩; have n0_ := Aside0.mk (Kd.V_below (by (with_reducible repeat (first | apply Kd.V_alloc | apply Kd.V_drewN | apply Kd.V_drew)); exact HO_0.out) hb); have n1_ := Aside0.mk (Kd.N_below (by (with_reducible repeat (first | apply Kd.N_alloc | apply Kd.N_drewN | apply Kd.N_drew)); exact HO_9.out) hb); have n2_ := Aside0.mk (blk_below (g := gb415) (o := .cells #[.slice none 0 0, .slice none 0 0] 54 (0, 0)) (by (with_reducible repeat (first | refine blk_drewN ?_ _ | refine blk_drew ?_ | refine blk_alloc ?_ _)); exact BK415.out) hb); have n3_ := Aside0.mk (below_step (by repeat (first | (with_reducible first | exact HB.out | apply below_alloc | apply pw_below_drewN | apply below_drew1 | refine below_set ?_ GE415.out) | exact HB.out)) hb); clear HO_0; clear HO_9; clear BK415; clear HB; have HO_0 := n0_; have HO_9 := n1_; have BK415 := n2_; have HB := n3_; clear n0_ n1_ n2_ n3_; (try clear hb); (try clear hb2); (try clear hk); (try clear hi)) | ((with_reducible refine gate_dst (N := 57) rfl ?_); refine Kd.R_lit k78 _ 78 ?hg (N := 57) ?hd (xs := ([(⟨77, 98000⟩ : S78), (⟨80, wrap64 (1000 * a1)⟩ : S78)] : List (S78))) (inner := [.int .u8 77, .int .i64 98000, .int .u8 80, .int .i64 (wrap64 (1000 * a1))]) (ok := fun _ => True) (okp := fun _ => True) ?hr ?hp (fun _ hk => hk) trivial (Below.refl _ _) (Nat.le_refl _) (by simp) ?_; (case hd => rfl); (case hg => rfl); (case hr => first | (go_simp; done) | (go_simp; rfl)); (case hp => exact (Reps.c2 (show Kd.M k78 _ _ _ (⟨77, 98000⟩ : S78) [.int .u8 77, .int .i64 98000] from (k78_mkM _ _ _ (⟨77, 98000⟩ : S78) )) (Reps.c2 (show Kd.M k78 _ _ _ (⟨80, wrap64 (1000 * a1)⟩ : S78) [.int .u8 80, .int .i64 (wrap64 (1000 * a1))] from (k78_mkM _ _ _ (⟨80, wrap64 (1000 * a1)⟩ : S78) )) (Reps.none _ _)))); intro v422 w25 ho26 hb hg_ hnew_; clear hg_ hnew_; (first | rw [← Ny421.out] at ho26 | (simp only [Int.reduceToNat] at ho26; rw [← Ny421.out] at ho26)); have n0_ := Aside0.mk (Kd.V_elder' (by (with_reducible repeat (first | apply Kd.V_alloc | apply Kd.V_drewN | apply Kd.V_drew)); exact HO_0.out) (Kd.R_base ho26) hb); have n1_ := Aside0.mk (Kd.N_elder' (by (with_reducible repeat (first | apply Kd.N_alloc | apply Kd.N_drewN | apply Kd.N_drew)); exact HO_9.out) (Kd.R_base ho26) hb); have n2_ := Aside0.mk (Kd.R_lower (Kd.R_newM (M := fun k_ => (w.heap.size ≤ k_)) ho26 (below_size (by repeat (first | (with_reducible first | exact HB.out | apply below_alloc | apply pw_below_drewN | apply below_drew1 | refine below_set ?_ GE415.out) | exact HB.out))) (fun k_ h_ => h_)) (below_size (by repeat (first | (with_reducible first | exact HB.out | apply below_alloc | apply pw_below_drewN | apply below_drew1 | refine below_set ?_ GE415.out) | exact HB.out)))); have n3_ := Aside0.mk (blk_below (g := gb415) (o := .cells #[.slice none 0 0, .slice none 0 0] 54 (0, 0)) (by (with_reducible repeat (first | refine blk_drewN ?_ _ | refine blk_drew ?_ | refine blk_alloc ?_ _)); exact BK415.out) hb); have n4_ := Aside0.mk (below_step (by repeat (first | (with_reducible first | exact HB.out | apply below_alloc | apply pw_below_drewN | apply below_drew1 | refine below_set ?_ GE415.out) | exact HB.out)) hb); clear HO_0; clear HO_9; clear BK415; clear HB; have HO_0 := n0_; have HO_9 := n1_; have HO423 := n2_; have BK415 := n3_; have HB := n4_; clear n0_ n1_ n2_ n3_ n4_; clear hb ho26; obtain ⟨Ao27, co27, eo27⟩ := Kd.R_slice HO423.out; subst eo27) | ((with_reducible refine gate_builtin (b := .append) (xs := #[.tmp 52, .tmp 59]) rfl ?_); at_builtin; refine Kd.N_append k32 (w0 := w) w.heap.size rfl (.tmp 52) (.tmp 59) 35 32 (.agg #[(.bool false), (.slice none 0 0), (.string ⟨#[]⟩)]) 48 rfl Try.underlying35 info32 rfl (by decide) (by omega) u9 x9_3 (⟨false, y421, (⟨#[]⟩ : ByteArray)⟩ : S32) [.bool false, .slice Ao27 y421.length co27, .string (⟨#[]⟩ : ByteArray)] (fun k_ => (P0_ k_ ∨ w.heap.size ≤ k_) ∧ k_ ≠ gb415) (fun k_ => ((fun k_ => (P0_ k_ ∨ w.heap.size ≤ k_) ∧ k_ ≠ gb415)) k_ ∧ some k_ ≠ (u9 : Value).ownBlock) rfl rfl ?aP (fun _ hk => hk) ?aF ?aO ?aB ?aS ?aL ?_; (case aP => exact (k32_mkF _ _ (⟨false, y421, (⟨#[]⟩ : ByteArray)⟩ : S32) (Kd.R_reads' (Kd.R_mono (ok' := (fun k_ => ((fun k_ => (P0_ k_ ∨ w.heap.size ≤ k_) ∧ k_ ≠ gb415)) k_ ∧ some k_ ≠ (u9 : Value).ownBlock)) (Kd.R_types (Kd.R_apart' (HO423.out) (Kd.N_typed HO_9.out) (by decide)) BK415.out (by decide)) (fun k_ hk => ⟨⟨(.inr (hk.1.1.1)), hk.2⟩, hk.1.2⟩))).2.1 (Kd.R_F (Kd.R_mono (ok' := (fun k_ => ((fun k_ => (P0_ k_ ∨ w.heap.size ≤ k_) ∧ k_ ≠ gb415)) k_ ∧ some k_ ≠ (u9 : Value).ownBlock)) (Kd.R_types (Kd.R_apart' (HO423.out) (Kd.N_typed HO_9.out) (by decide)) BK415.out (by decide)) (fun k_ hk => ⟨⟨(.inr (hk.1.1.1)), hk.2⟩, hk.1.2⟩))))); (case aB => exact (by repeat (first | (with_reducible first | exact HB.out | apply below_alloc | apply pw_below_drewN | apply below_drew1 | refine below_set ?_ GE415.out) | exact HB.out))); (case aF => exact (fun k_ hk => ⟨(.inr (Nat.le_trans (below_size (by repeat (first | (with_reducible first | exact HB.out | apply below_alloc | apply pw_below_drewN | apply below_drew1 | refine below_set ?_ GE415.out) | exact HB.out))) hk)), Kd.freshB (g := gb415) (o := .cells #[.slice none 0 0, .slice none 0 0] 54 (0, 0)) (by (with_reducible repeat (first | refine blk_drewN ?_ _ | refine blk_drew ?_ | refine blk_alloc ?_ _)); exact BK415.out) k_ hk⟩)); (case aO => exact (by (with_reducible repeat (first | apply Kd.N_alloc | apply Kd.N_drewN | apply Kd.N_drew)); exact Kd.N_mono HO_9.out (fun _ hk => ⟨hk.1.1, hk.1.2⟩))); (case aS => exact (below_size (by repeat (first | (with_reducible first | exact HB.out | apply below_alloc | apply pw_below_drewN | apply below_drew1 | refine below_set ?_ GE415.out) | exact HB.out)))); (case aL => have := LMc23.out; omega); intro v425 w28 ho hb hg hat; rw [← Ny424.out] at ho; have n0_ := Aside0.mk (Kd.V_afterv (ok := (fun k_ => (P0_ k_ ∨ w.heap.size ≤ k_) ∧ some k_ ≠ (.slice Ao27 y421.length co27 : Value).ownBlock ∧ k_ ≠ gb415)) (by (with_reducible repeat (first | apply Kd.V_alloc | apply Kd.V_drewN | apply Kd.V_drew)); exact Kd.V_mono HO_0.out (fun _ hk => ⟨⟨hk.1.1, ⟨hk.2, hk.1.2.2⟩⟩, hk.1.2.1⟩)) hg hat); have n1_ := Aside0.mk (blk_grown (g := gb415) (o := .cells #[.slice none 0 0, .slice none 0 0] 54 (0, 0)) (by (with_reducible repeat (first | refine blk_drewN ?_ _ | refine blk_drew ?_ | refine blk_alloc ?_ _)); exact BK415.out) hg (Kd.N_ne HO_9.out BK415.out (by decide))); have n2_ := Aside0.mk (hb); have n3_ := Aside0.mk (ho); clear HO_0; clear BK415; clear HB; clear HO_9; clear HO423; have HO_0 := n0_; have BK415 := n1_; have HB := n2_; have HO426 := n3_; clear n0_ n1_ n2_ n3_; clear ho hb hg hat))
             go_roundg k3
             case measure => have := HJ3.out; have := HJ9.out; have := HK3.out; omega
             case rel => exact ⟨(y424), (wrap64 (x10_3 + a2)), (by first | rfl | (simp; done) | (simp [*]; done)), H', ⟨by have := HJ3.out; have := HJ9.out; have := HK3.out; omega⟩, ⟨by (with_reducible repeat (first | apply Kd.V_alloc | apply Kd.V_drewN | apply Kd.V_drew)); exact Kd.V_mono HO_0.out (fun _ hk => ⟨hk.1.1, ⟨hk.2, hk.1.2.2⟩⟩)⟩, ⟨by (with_reducible repeat (first | apply Kd.N_alloc | apply Kd.N_drewN | apply Kd.N_drew)); exact HO426.out⟩, ⟨by (with_reducible repeat (first | refine blk_drewN ?_ _ | refine blk_drew ?_ | refine blk_alloc ?_ _)); exact BK415.out⟩, ⟨by repeat (first | (with_reducible first | exact HB.out | apply below_alloc | apply pw_below_drewN | apply below_drew1 | refine below_set ?_ GE415.out) | exact HB.out)⟩⟩
            ·rw [if_neg c23] at H
             exact absurd H (by simp)
           ·replace c22 := Bool.eq_false_iff.mpr c22
            subst c22
            have H1 : (if 0 ≤ x10_3 then (if x9_3.length < 2932031007402 then (subprogram_Fold.l0 k3 l0 a1 a2 x8_9 (x9_3 ++ [(⟨(rd_T32 l0 x10_3).f0, (rd_T32 l0 x10_3).f1, (rd_T32 l0 x10_3).f2⟩ : S32)]) (wrap64 (x10_3 + 1))) else (none)) else (none)) = some (r1, r2, r3) := by rw [if_neg (show ¬ (false = true) by decide)] at H; exact H
            clear H
            have H := H1
            clear H1
            by_cases c29 : 0 ≤ x10_3
            ·rw [if_pos c29] at H
             have c29b0 : decide (0 ≤ x10_3) = true := decide_eq_true c29
             clear c29
             by_cases c30 : x9_3.length < 2932031007402
             ·rw [if_pos c30] at H
              have LMc30 := Aside0.mk c30
              clear c30
              obtain ⟨y428, hy428⟩ : ∃ y_ : List (S32), y_ = (x9_3 ++ [(⟨(rd_T32 l0 x10_3).f0, (rd_T32 l0 x10_3).f1, (rd_T32 l0 x10_3).f2⟩ : S32)]) := ⟨_, rfl⟩
              replace H : (subprogram_Fold.l0 k3 l0 a1 a2 x8_9 y428 (wrap64 (x10_3 + 1))) = some (r1, r2, r3) := by first | (rw [hy428]; with_reducible exact H) | (have H2_ := (Option.bind_some _ _).symm.trans H; rw [hy428]; with_reducible exact H2_) | (have H2_ := (Option.bind_some _ _).symm.trans H; with_reducible exact H2_) | with_reducible exact H | (rw [hy428]; exact H) | exact H
              have Ny428 := Aside0.mk hy428
              clear hy428
              have H' := Aside0.mk H
              clear H
              go_wp2_with (first | (go_at_call 68; (with_reducible refine (subprogram_run.calls k3 _ _ l0 x8_9 x10_3 a2 false _ ?side1 ?side2 A21.out).mono ?_); (case side1 => repeat (first | exact (Kd.V_reads' HO_0.out).2.2 | (with_reducible refine Kd.C_alloc ?_ _) | (with_reducible refine Kd.C_drewN ?_ _) | (with_reducible refine Kd.C_drew ?_))); (case side2 => exact (Kd.V_reads' HO_0.out).2.1); rintro e w31 ⟨rfl, hb⟩; have n0_ := Aside0.mk (Kd.V_below (by (with_reducible repeat (first | apply Kd.V_alloc | apply Kd.V_drewN | apply Kd.V_drew)); exact HO_0.out) hb); have n1_ := Aside0.mk (Kd.N_below (by (with_reducible repeat (first | apply Kd.N_alloc | apply Kd.N_drewN | apply Kd.N_drew)); exact HO_9.out) hb); have n2_ := Aside0.mk (blk_below (g := gb415) (o := .cells #[.slice none 0 0, .slice none 0 0] 54 (0, 0)) (by (with_reducible repeat (first | refine blk_drewN ?_ _ | refine blk_drew ?_ | refine blk_alloc ?_ _)); exact BK415.out) hb); have n3_ := Aside0.mk (below_step (by repeat (first | (with_reducible first | exact HB.out | apply below_alloc | apply pw_below_drewN | apply below_drew1 | refine below_set ?_ GE415.out) | exact HB.out)) hb); clear HO_0; clear HO_9; clear BK415; clear HB; have HO_0 := n0_; have HO_9 := n1_; have BK415 := n2_; have HB := n3_; clear n0_ n1_ n2_ n3_; (try clear hb); (try clear hb2); (try clear hk); (try clear hi); have p427 : 0 ≤ (x10_3 : Int) := of_decide_eq_true (by first | (with_reducible assumption) | assumption); have q427 : x10_3 < (l0.length : Int) := of_decide_eq_true (by first | (with_reducible assumption) | assumption); obtain ⟨ad427, A427_1, c427_1, e427, hx427_0, hx427_1, hx427_2, hl427_1, hi427_1⟩ := at_T32 (Kd.V_reads' HO_0.out).2.2 x10_3 p427 q427; cases e427; obtain ⟨ce427, hce427, hMe427, hcc427⟩ := Kd.V_get HO_0.out z32 x10_3 p427 (by first | exact q427 | exact of_decide_eq_true (by first | (with_reducible assumption) | assumption) | (have e_ := (Kd.V_reads' HO_0.out).1; omega)); obtain ⟨ua427_1, uc427_1, rfl, ul427_1, ge427_1⟩ := k32_openF hMe427; have hv427_1 := hcc427 1 _ rfl; rw [add_field _ _ 1 (by omega)] at hv427_1; replace hv427_1 := Option.some.inj (hv427_1.symm.trans hx427_1); injection hv427_1 with hva_ hvn_ hvc_; rw [hva_] at ge427_1; rw [hvc_] at ul427_1; have HL427_1 := Aside0.mk (show Kd.V k78 78 _ w.heap.size _ _ ((rd_T32 l0 x10_3).f1) from Kd.V_mk ul427_1 ge427_1); clear hva_ hvn_ hvc_ ge427_1 ul427_1; clear hcc427 hce427; have HR427_1 := Aside0.mk hi427_1; have HC427_1 := Aside0.mk hl427_1; clear hi427_1 hl427_1; replace p427 := eq_true p427; replace q427 := eq_true q427) | ((with_reducible refine gate_builtin (b := .append) (xs := #[.tmp 64, .tmp 69]) rfl ?_); at_builtin; refine Kd.N_append k32 (w0 := w) w.heap.size rfl (.tmp 64) (.tmp 69) 35 32 (.agg #[(.bool false), (.slice none 0 0), (.string ⟨#[]⟩)]) 48 rfl Try.underlying35 info32 rfl (by decide) (by omega) u9 x9_3 (⟨(rd_T32 l0 x10_3).f0, (rd_T32 l0 x10_3).f1, (rd_T32 l0 x10_3).f2⟩ : S32) [.bool ((rd_T32 l0 x10_3).f0), .slice A427_1 ((rd_T32 l0 x10_3).f1).length c427_1, .string ((rd_T32 l0 x10_3).f2)] (fun k_ => (P0_ k_ ∨ w.heap.size ≤ k_) ∧ k_ ≠ gb415) (fun k_ => ((fun k_ => (P0_ k_ ∨ w.heap.size ≤ k_) ∧ k_ ≠ gb415)) k_ ∧ some k_ ≠ (u9 : Value).ownBlock) rfl rfl ?aP (fun _ hk => hk) ?aF ?aO ?aB ?aS ?aL ?_; (case aP => exact (k32_mkF _ _ (⟨(rd_T32 l0 x10_3).f0, (rd_T32 l0 x10_3).f1, (rd_T32 l0 x10_3).f2⟩ : S32) (Kd.V_reads' (Kd.V_mono (ok' := (fun k_ => ((fun k_ => (P0_ k_ ∨ w.heap.size ≤ k_) ∧ k_ ≠ gb415)) k_ ∧ some k_ ≠ (u9 : Value).ownBlock)) (HL427_1.out) (fun k_ hk => ⟨⟨hk.1, hk.2.2⟩, hk.2.1⟩))).2.1 (Kd.V_F (Kd.V_mono (ok' := (fun k_ => ((fun k_ => (P0_ k_ ∨ w.heap.size ≤ k_) ∧ k_ ≠ gb415)) k_ ∧ some k_ ≠ (u9 : Value).ownBlock)) (HL427_1.out) (fun k_ hk => ⟨⟨hk.1, hk.2.2⟩, hk.2.1⟩))))); (case aB => exact (by repeat (first | (with_reducible first | exact HB.out | apply below_alloc | apply pw_below_drewN | apply below_drew1 | refine below_set ?_ GE415.out) | exact HB.out))); (case aF => exact (fun k_ hk => ⟨(.inr (Nat.le_trans (below_size (by repeat (first | (with_reducible first | exact HB.out | apply below_alloc | apply pw_below_drewN | apply below_drew1 | refine below_set ?_ GE415.out) | exact HB.out))) hk)), Kd.freshB (g := gb415) (o := .cells #[.slice none 0 0, .slice none 0 0] 54 (0, 0)) (by (with_reducible repeat (first | refine blk_drewN ?_ _ | refine blk_drew ?_ | refine blk_alloc ?_ _)); exact BK415.out) k_ hk⟩)); (case aO => exact (by (with_reducible repeat (first | apply Kd.N_alloc | apply Kd.N_drewN | apply Kd.N_drew)); exact HO_9.out)); (case aS => exact (below_size (by repeat (first | (with_reducible first | exact HB.out | apply below_alloc | apply pw_below_drewN | apply below_drew1 | refine below_set ?_ GE415.out) | exact HB.out)))); (case aL => have := LMc30.out; omega); intro v429 w32 ho hb hg hat; rw [← Ny428.out] at ho; have n0_ := Aside0.mk (Kd.V_afterv (ok := (fun k_ => (P0_ k_ ∨ w.heap.size ≤ k_) ∧ k_ ≠ gb415)) (by (with_reducible repeat (first | apply Kd.V_alloc | apply Kd.V_drewN | apply Kd.V_drew)); exact Kd.V_mono HO_0.out (fun _ hk => ⟨⟨hk.1, hk.2.2⟩, hk.2.1⟩)) hg hat); have n1_ := Aside0.mk (blk_grown (g := gb415) (o := .cells #[.slice none 0 0, .slice none 0 0] 54 (0, 0)) (by (with_reducible repeat (first | refine blk_drewN ?_ _ | refine blk_drew ?_ | refine blk_alloc ?_ _)); exact BK415.out) hg (Kd.N_ne HO_9.out BK415.out (by decide))); have n2_ := Aside0.mk (Kd.V_afterv (ok := (fun k_ => (P0_ k_ ∨ w.heap.size ≤ k_) ∧ k_ ≠ gb415)) (by (with_reducible repeat (first | apply Kd.V_alloc | apply Kd.V_drewN | apply Kd.V_drew)); exact Kd.V_mono HL427_1.out (fun _ hk => ⟨⟨hk.1, hk.2.2⟩, hk.2.1⟩)) hg hat); have n3_ := Aside0.mk (hb); have n4_ := Aside0.mk (ho); clear HO_0; clear BK415; clear HL427_1; clear HB; clear HO_9; have HO_0 := n0_; have BK415 := n1_; have HL427_1 := n2_; have HB := n3_; have HO430 := n4_; clear n0_ n1_ n2_ n3_ n4_; clear ho hb hg hat))
              go_roundg k3
              case measure => have := HJ3.out; have := HJ9.out; have := HK3.out; omega
              case rel => exact ⟨(y428), (wrap64 (x10_3 + 1)), (by first | rfl | (simp; done) | (simp [*]; done)), H', ⟨by have := HJ3.out; have := HJ9.out; have := HK3.out; omega⟩, ⟨by (with_reducible repeat (first | apply Kd.V_alloc | apply Kd.V_drewN | apply Kd.V_drew)); exact Kd.V_mono HO_0.out (fun _ hk => ⟨hk.1.1, ⟨hk.2, hk.1.2⟩⟩)⟩, ⟨by (with_reducible repeat (first | apply Kd.N_alloc | apply Kd.N_drewN | apply Kd.N_drew)); exact HO430.out⟩, ⟨by (with_reducible repeat (first | refine blk_drewN ?_ _ | refine blk_drew ?_ | refine blk_alloc ?_ _)); exact BK415.out⟩, ⟨by repeat (first | (with_reducible first | exact HB.out | apply below_alloc | apply pw_below_drewN | apply below_drew1 | refine below_set ?_ GE415.out) | exact HB.out)⟩⟩
             ·rw [if_neg c30] at H
              exact absurd H (by simp)
            ·rw [if_neg c29] at H
             exact absurd H (by simp)
          ·rw [if_neg c20] at H
           have c20b0 : decide ((wrap64 (x10_3 + a2)) ≤ (l0.length : Int)) = false := decide_eq_false c20
           clear c20
           by_cases c33 : 0 ≤ x10_3
           ·rw [if_pos c33] at H
            have c33b0 : decide (0 ≤ x10_3) = true := decide_eq_true c33
            clear c33
            by_cases c34 : x9_3.length < 2932031007402
            ·rw [if_pos c34] at H
             have LMc34 := Aside0.mk c34
             clear c34
             obtain ⟨y432, hy432⟩ : ∃ y_ : List (S32), y_ = (x9_3 ++ [(⟨(rd_T32 l0 x10_3).f0, (rd_T32 l0 x10_3).f1, (rd_T32 l0 x10_3).f2⟩ : S32)]) := ⟨_, rfl⟩
             replace H : (subprogram_Fold.l0 k3 l0 a1 a2 x8_9 y432 (wrap64 (x10_3 + 1))) = some (r1, r2, r3) := by first | (rw [hy432]; with_reducible exact H) | (have H2_ := (Option.bind_some _ _).symm.trans H; rw [hy432]; with_reducible exact H2_) | (have H2_ := (Option.bind_some _ _).symm.trans H; with_reducible exact H2_) | with_reducible exact H | (rw [hy432]; exact H) | exact H
             have Ny432 := Aside0.mk hy432
             clear hy432
             have H' := Aside0.mk H
             clear H
             have p431 : 0 ≤ (x10_3 : Int) := of_decide_eq_true (by first | (with_reducible assumption) | assumption)
             have q431 : x10_3 < (l0.length : Int) := of_decide_eq_true (by first | (with_reducible assumption) | assumption)
             obtain ⟨ad431, A431_1, c431_1, e431, hx431_0, hx431_1, hx431_2, hl431_1, hi431_1⟩ := at_T32 (Kd.V_reads' HO_0.out).2.2 x10_3 p431 q431
             cases e431
             obtain ⟨ce431, hce431, hMe431, hcc431⟩ := Kd.V_get HO_0.out z32 x10_3 p431 (by first | exact q431 | exact of_decide_eq_true (by first | (with_reducible assumption) | assumption) | (have e_ := (Kd.V_reads' HO_0.out).1; omega))
             obtain ⟨ua431_1, uc431_1, rfl, ul431_1, ge431_1⟩ := k32_openF hMe431
             have hv431_1 := hcc431 1 _ rfl
             rw [add_field _ _ 1 (by omega)] at hv431_1
             replace hv431_1 := Option.some.inj (hv431_1.symm.trans hx431_1)
             injection hv431_1 with hva_ hvn_ hvc_
             rw [hva_] at ge431_1
             rw [hvc_] at ul431_1
             have HL431_1 := Aside0.mk (show Kd.V k78 78 _ w.heap.size _ _ ((rd_T32 l0 x10_3).f1) from Kd.V_mk ul431_1 ge431_1)
             clear hva_ hvn_ hvc_ ge431_1 ul431_1
             clear hcc431 hce431
             have HR431_1 := Aside0.mk hi431_1
             have HC431_1 := Aside0.mk hl431_1
             clear hi431_1 hl431_1
             replace p431 := eq_true p431
             replace q431 := eq_true q431
             go_wp2_with (first | ((with_reducible refine gate_builtin (b := .append) (xs := #[.tmp 64, .tmp 69]) rfl ?_); at_builtin; refine Kd.N_append k32 (w0 := w) w.heap.size rfl (.tmp 64) (.tmp 69) 35 32 (.agg #[(.bool false), (.slice none 0 0), (.string ⟨#[]⟩)]) 48 rfl Try.underlying35 info32 rfl (by decide) (by omega) u9 x9_3 (⟨(rd_T32 l0 x10_3).f0, (rd_T32 l0 x10_3).f1, (rd_T32 l0 x10_3).f2⟩ : S32) [.bool ((rd_T32 l0 x10_3).f0), .slice A431_1 ((rd_T32 l0 x10_3).f1).length c431_1, .string ((rd_T32 l0 x10_3).f2)] (fun k_ => (P0_ k_ ∨ w.heap.size ≤ k_) ∧ k_ ≠ gb415) (fun k_ => ((fun k_ => (P0_ k_ ∨ w.heap.size ≤ k_) ∧ k_ ≠ gb415)) k_ ∧ some k_ ≠ (u9 : Value).ownBlock) rfl rfl ?aP (fun _ hk => hk) ?aF ?aO ?aB ?aS ?aL ?_; (case aP => exact (k32_mkF _ _ (⟨(rd_T32 l0 x10_3).f0, (rd_T32 l0 x10_3).f1, (rd_T32 l0 x10_3).f2⟩ : S32) (Kd.V_reads' (Kd.V_mono (ok' := (fun k_ => ((fun k_ => (P0_ k_ ∨ w.heap.size ≤ k_) ∧ k_ ≠ gb415)) k_ ∧ some k_ ≠ (u9 : Value).ownBlock)) (HL431_1.out) (fun k_ hk => ⟨⟨hk.1, hk.2.2⟩, hk.2.1⟩))).2.1 (Kd.V_F (Kd.V_mono (ok' := (fun k_ => ((fun k_ => (P0_ k_ ∨ w.heap.size ≤ k_) ∧ k_ ≠ gb415)) k_ ∧ some k_ ≠ (u9 : Value).ownBlock)) (HL431_1.out) (fun k_ hk => ⟨⟨hk.1, hk.2.2⟩, hk.2.1⟩))))); (case aB => exact (by repeat (first | (with_reducible first | exact HB.out | apply below_alloc | apply pw_below_drewN | apply below_drew1 | refine below_set ?_ GE415.out) | exact HB.out))); (case aF => exact (fun k_ hk => ⟨(.inr (Nat.le_trans (below_size (by repeat (first | (with_reducible first | exact HB.out | apply below_alloc | apply pw_below_drewN | apply below_drew1 | refine below_set ?_ GE415.out) | exact HB.out))) hk)), Kd.freshB (g := gb415) (o := .cells #[.slice none 0 0, .slice none 0 0] 54 (0, 0)) (by (with_reducible repeat (first | refine blk_drewN ?_ _ | refine blk_drew ?_ | refine blk_alloc ?_ _)); exact BK415.out) k_ hk⟩)); (case aO => exact (by (with_reducible repeat (first | apply Kd.N_alloc | apply Kd.N_drewN | apply Kd.N_drew)); exact HO_9.out)); (case aS => exact (below_size (by repeat (first | (with_reducible first | exact HB.out | apply below_alloc | apply pw_below_drewN | apply below_drew1 | refine below_set ?_ GE415.out) | exact HB.out)))); (case aL => have := LMc34.out; omega); intro v433 w35 ho hb hg hat; rw [← Ny432.out] at ho; have n0_ := Aside0.mk (Kd.V_afterv (ok := (fun k_ => (P0_ k_ ∨ w.heap.size ≤ k_) ∧ k_ ≠ gb415)) (by (with_reducible repeat (first | apply Kd.V_alloc | apply Kd.V_drewN | apply Kd.V_drew)); exact Kd.V_mono HO_0.out (fun _ hk => ⟨⟨hk.1, hk.2.2⟩, hk.2.1⟩)) hg hat); have n1_ := Aside0.mk (blk_grown (g := gb415) (o := .cells #[.slice none 0 0, .slice none 0 0] 54 (0, 0)) (by (with_reducible repeat (first | refine blk_drewN ?_ _ | refine blk_drew ?_ | refine blk_alloc ?_ _)); exact BK415.out) hg (Kd.N_ne HO_9.out BK415.out (by decide))); have n2_ := Aside0.mk (Kd.V_afterv (ok := (fun k_ => (P0_ k_ ∨ w.heap.size ≤ k_) ∧ k_ ≠ gb415)) (by (with_reducible repeat (first | apply Kd.V_alloc | apply Kd.V_drewN | apply Kd.V_drew)); exact Kd.V_mono HL431_1.out (fun _ hk => ⟨⟨hk.1, hk.2.2⟩, hk.2.1⟩)) hg hat); have n3_ := Aside0.mk (hb); have n4_ := Aside0.mk (ho); clear HO_0; clear BK415; clear HL431_1; clear HB; clear HO_9; have HO_0 := n0_; have BK415 := n1_; have HL431_1 := n2_; have HB := n3_; have HO434 := n4_; clear n0_ n1_ n2_ n3_ n4_; clear ho hb hg hat))
             go_roundg k3
             case measure => have := HJ3.out; have := HJ9.out; have := HK3.out; omega
             case rel => exact ⟨(y432), (wrap64 (x10_3 + 1)), (by first | rfl | (simp; done) | (simp [*]; done)), H', ⟨by have := HJ3.out; have := HJ9.out; have := HK3.out; omega⟩, ⟨by (with_reducible repeat (first | apply Kd.V_alloc | apply Kd.V_drewN | apply Kd.V_drew)); exact Kd.V_mono HO_0.out (fun _ hk => ⟨hk.1.1, ⟨hk.2, hk.1.2⟩⟩)⟩, ⟨by (with_reducible repeat (first | apply Kd.N_alloc | apply Kd.N_drewN | apply Kd.N_drew)); exact HO434.out⟩, ⟨by (with_reducible repeat (first | refine blk_drewN ?_ _ | refine blk_drew ?_ | refine blk_alloc ?_ _)); exact BK415.out⟩, ⟨by repeat (first | (with_reducible first | exact HB.out | apply below_alloc | apply pw_below_drewN | apply below_drew1 | refine below_set ?_ GE415.out) | exact HB.out)⟩⟩
            ·rw [if_neg c34] at H
             exact absurd H (by simp)
           ·rw [if_neg c33] at H
            exact absurd H (by simp)
         ·rw [if_neg c19] at H
          have c19b0 : decide (x10_3 < (l0.length : Int)) = false := decide_eq_false c19
          clear c19
          by_cases c36 : 0 ≤ x8_9
          ·rw [if_pos c36] at H
           have c36b0 := eq_true c36
           have c36b1 : decide (0 ≤ x8_9) = true := decide_eq_true c36
           clear c36
           by_cases c37 : x8_9 ≤ (wrap64 (x8_9 + a2))
           ·rw [if_pos c37] at H
            have c37b0 := eq_true c37
            have c37b1 : decide (x8_9 ≤ (wrap64 (x8_9 + a2))) = true := decide_eq_true c37
            by_cases c38 : (wrap64 (x8_9 + a2)) ≤ (l0.length : Int)
            ·rw [if_pos c38] at H
             have c38b0 := eq_true c38
             have c38b1 : decide ((wrap64 (x8_9 + a2)) ≤ (l0.length : Int)) = true := decide_eq_true c38
             obtain ⟨y435, hy435⟩ : ∃ y_ : List (S32), y_ = ((l0.take ((wrap64 (x8_9 + a2)) : Int).toNat).drop (x8_9 : Int).toNat) := ⟨_, rfl⟩
             replace H : ((Clone_Block.f y435).bind fun t440 => (some (x9_3, (([(⟨a1, t440⟩ : S81)] : List (S81))), 0))) = some (r1, r2, r3) := by first | (rw [hy435]; with_reducible exact H) | (have H2_ := (Option.bind_some _ _).symm.trans H; rw [hy435]; with_reducible exact H2_) | (have H2_ := (Option.bind_some _ _).symm.trans H; with_reducible exact H2_) | with_reducible exact H | (rw [hy435]; exact H) | exact H
             have Ny435 := Aside0.mk hy435
             clear hy435
             replace H := Option.bind_eq_some_iff.mp H
             obtain ⟨t440, A390, H⟩ := H
             replace H : (some (x9_3, (([(⟨a1, t440⟩ : S81)] : List (S81))), 0)) = some (r1, r2, r3) := H
             have A39 := Aside0.mk A390
             clear A390
             obtain ⟨y443, hy443⟩ : ∃ y_ : List (S81), y_ = (([(⟨a1, t440⟩ : S81)] : List (S81))) := ⟨_, rfl⟩
             replace H : (some (x9_3, y443, 0)) = some (r1, r2, r3) := by first | (rw [hy443]; with_reducible exact H) | (have H2_ := (Option.bind_some _ _).symm.trans H; rw [hy443]; with_reducible exact H2_) | (have H2_ := (Option.bind_some _ _).symm.trans H; with_reducible exact H2_) | with_reducible exact H | (rw [hy443]; exact H) | exact H
             have Ny443 := Aside0.mk hy443
             clear hy443
             simp only [Option.some.injEq, Prod.mk.injEq] at H
             obtain ⟨rfl, rfl, rfl⟩ := H
             have q40 : ((wrap64 (x8_9 + a2)) : Int) ≤ ((l0.length : Int) : Int) := of_decide_eq_true (by first | (with_reducible assumption) | assumption)
             obtain ⟨i040, hi040, _, hsz40, _⟩ := info_parts info32
             have hroom40 : l0.length ≤ c0 := (Kd.V_reads' HO_0.out).2.1
             have hC40 : Kd.F k32 _ _ A0 l0.length l0 := (Kd.V_at (base := w.heap.size) HO_0.out).2.2
             have ql40 : (x8_9 : Int) ≤ ((wrap64 (x8_9 + a2)) : Int) := of_decide_eq_true (by first | (with_reducible assumption) | assumption)
             have q040 : (0 : Int) ≤ (x8_9 : Int) := of_decide_eq_true (by first | (with_reducible assumption) | assumption)
             have hcut40 := cut_mid (P := Try.prog) 35 32 .i64 .i64 Try.underlying35 hi040 3 hsz40 A0 l0.length c0 x8_9 (wrap64 (x8_9 + a2)) q040 ql40 q40 hroom40
             have hr40 := Kd.F_mid (lo := (x8_9 : Int).toNat) (hi := ((wrap64 (x8_9 + a2)) : Int).toNat) (c := c0) hC40 (by omega) (by omega) hroom40
             obtain ⟨A40, hA40⟩ : ∃ A1, A1 = (if c0 = (x8_9 : Int).toNat then A0 else (A0 : Option Addr).map (·.add ((x8_9 : Int).toNat * 3))) := ⟨_, rfl⟩
             obtain ⟨c40, hc40⟩ : ∃ c1, c1 = c0 - (x8_9 : Int).toNat := ⟨_, rfl⟩
             have hy40 : y435.length = ((wrap64 (x8_9 + a2)) : Int).toNat - (x8_9 : Int).toNat := (by rw [Ny435.out, List.length_drop, List.length_take] <;> omega)
             rw [show ((l0).take ((wrap64 (x8_9 + a2)) : Int).toNat).drop (x8_9 : Int).toNat = y435 from Ny435.out.symm] at hr40
             replace hr40 : Kd.F k32 _ _ A40 y435.length y435 := (by rw [hA40]; exact hr40)
             rw [← hy40, ← hA40, ← hc40] at hcut40
             have HO439 := Aside0.mk (show Kd.V k32 32 _ w.heap.size _ (.slice A40 y435.length c40) y435 from Kd.V_mk (by rw [hy40, hc40]; exact Nat.sub_le_sub_right (Nat.le_trans (by omega) hroom40) _) hr40)
             have HC439 := Aside0.mk (show y435.length ≤ c40 from by rw [hy40, hc40]; exact Nat.sub_le_sub_right (Nat.le_trans (by omega) hroom40) _)
             clear hr40 hC40 hroom40 hi040 hsz40 hc40
             have KY40 := Aside0.mk hy40
             have KA40 := Aside0.mk hA40
             clear hy40 hA40
             replace q40 := eq_true q40
             go_wp2_with (first | ((with_reducible refine gate_callee (f := 33) rfl ?_); refine goesL_ (some 81) rfl rfl Try.func33 (by kernel_rfl) rfl #[.slice A40 y435.length c40] rfl (by (try simp only [List.map_toArray, List.map_cons, List.map_nil]); first | done | rfl | (simp only [List.length_drop, List.length_take]; rfl)) ?_; (with_reducible refine (Clone_Block.calls (fun k_ => ((P0_ k_ ∨ w.heap.size ≤ k_) ∧ (some k_ ≠ (u9 : Value).ownBlock ∧ k_ ≠ gb415))) _ _ y435 t440 _ ?side1 A39.out).mono ?_); (case side1 => exact HO439.out); rintro e w41 ⟨v441, rfl, ho0, hb⟩; refine ⟨_, rfl, ?_⟩; have n0_ := Aside0.mk (Kd.V_elder' (by (with_reducible repeat (first | apply Kd.V_alloc | apply Kd.V_drewN | apply Kd.V_drew)); exact HO_0.out) (by first | exact Kd.N_base ho0 | exact Kd.S_base ho0) hb); have n1_ := Aside0.mk (Kd.N_elder' (by (with_reducible repeat (first | apply Kd.N_alloc | apply Kd.N_drewN | apply Kd.N_drew)); exact HO_9.out) (by first | exact Kd.N_base ho0 | exact Kd.S_base ho0) hb); have n2_ := Aside0.mk (Kd.V_elder' (by (with_reducible repeat (first | apply Kd.V_alloc | apply Kd.V_drewN | apply Kd.V_drew)); exact HO439.out) (by first | exact Kd.N_base ho0 | exact Kd.S_base ho0) hb); have n3_ := Aside0.mk (Kd.N_lower (Kd.N_mono (ok' := fun k_ => (P0_ k_ ∨ w.heap.size ≤ k_) ∧ some k_ ≠ (u9 : Value).ownBlock ∧ k_ ≠ gb415) ho0 (fun k_ hk_ => ⟨Or.elim hk_ (fun hs_ => hs_.1) (fun hn_ => (.inr (Nat.le_trans (below_size (by repeat (first | (with_reducible first | exact HB.out | apply below_alloc | apply pw_below_drewN | apply below_drew1 | refine below_set ?_ GE415.out) | exact HB.out))) hn_))), Or.elim hk_ (fun hs_ => hs_.2.1) (fun hn_ => (Kd.fresh' (Kd.N_lt (by (with_reducible repeat (first | apply Kd.N_alloc | apply Kd.N_drewN | apply Kd.N_drew)); exact HO_9.out)) k_ hn_)), Or.elim hk_ (fun hs_ => hs_.2.2) (fun hn_ => (Kd.freshB (g := gb415) (o := .cells #[.slice none 0 0, .slice none 0 0] 54 (0, 0)) (by (with_reducible repeat (first | refine blk_drewN ?_ _ | refine blk_drew ?_ | refine blk_alloc ?_ _)); exact BK415.out) k_ hn_))⟩)) (below_size (by repeat (first | (with_reducible first | exact HB.out | apply below_alloc | apply pw_below_drewN | apply below_drew1 | refine below_set ?_ GE415.out) | exact HB.out)))); have n4_ := Aside0.mk (blk_below (g := gb415) (o := .cells #[.slice none 0 0, .slice none 0 0] 54 (0, 0)) (by (with_reducible repeat (first | refine blk_drewN ?_ _ | refine blk_drew ?_ | refine blk_alloc ?_ _)); exact BK415.out) hb); have n5_ := Aside0.mk (below_step (by repeat (first | (with_reducible first | exact HB.out | apply below_alloc | apply pw_below_drewN | apply below_drew1 | refine below_set ?_ GE415.out) | exact HB.out)) hb); clear HO_0; clear HO_9; clear HO439; clear BK415; clear HB; have HO_0 := n0_; have HO_9 := n1_; have HO439 := n2_; have HO442 := n3_; have BK415 := n4_; have HB := n5_; clear n0_ n1_ n2_ n3_ n4_ n5_; (try clear hb); (try clear hb2); (try clear hk); (try clear hi); (try clear ho0); obtain ⟨Ao42, co42, eo42⟩ := Kd.N_slice HO442.out; subst eo42) | ((with_reducible refine gate_dst (N := 83) rfl ?_); refine Kd.N_lit k81 _ 81 ?hg (N' := 83) ?hd (xs := ([(⟨a1, t440⟩ : S81)] : List (S81))) (inner := [.int .i64 a1, .slice Ao42 t440.length co42]) (ok := (fun k_ => (P0_ k_ ∨ w.heap.size ≤ k_) ∧ some k_ ≠ (u9 : Value).ownBlock ∧ k_ ≠ gb415)) (okp := (fun k_ => (P0_ k_ ∨ w.heap.size ≤ k_) ∧ some k_ ≠ (u9 : Value).ownBlock ∧ k_ ≠ gb415)) ?hr ?hp (fun _ hk => hk) ((show ∀ k_, w41.heap.size ≤ k_ → (fun k_ => (P0_ k_ ∨ w.heap.size ≤ k_) ∧ some k_ ≠ (u9 : Value).ownBlock ∧ k_ ≠ gb415) k_ from fun k_ hk => ⟨(.inr (Nat.le_trans (below_size (by repeat (first | (with_reducible first | exact HB.out | apply below_alloc | apply pw_below_drewN | apply below_drew1 | refine below_set ?_ GE415.out) | exact HB.out))) hk)), Kd.fresh' (Kd.N_lt (by (with_reducible repeat (first | apply Kd.N_alloc | apply Kd.N_drewN | apply Kd.N_drew)); exact HO_9.out)) k_ hk, Kd.freshB (g := gb415) (o := .cells #[.slice none 0 0, .slice none 0 0] 54 (0, 0)) (by (with_reducible repeat (first | refine blk_drewN ?_ _ | refine blk_drew ?_ | refine blk_alloc ?_ _)); exact BK415.out) k_ hk⟩) _ (Nat.le_refl _)) (Below.refl _ _) (Nat.le_refl _) (by simp) ?_; (case hd => rfl); (case hg => rfl); (case hr => first | (go_simp; done) | (go_simp; rfl)); (case hp => exact (Reps.c2 (show Kd.FK k81 _ _ (⟨a1, t440⟩ : S81) [.int .i64 a1, .slice Ao42 t440.length co42] from (k81_mkF _ _ (⟨a1, t440⟩ : S81) (Kd.N_reads' (Kd.N_mono (ok' := (fun k_ => (P0_ k_ ∨ w.heap.size ≤ k_) ∧ some k_ ≠ (u9 : Value).ownBlock ∧ k_ ≠ gb415)) (HO442.out) (fun k_ hk => ⟨hk.1, ⟨hk.2.1, hk.2.2⟩⟩))).2.1 (Kd.N_F (Kd.N_mono (ok' := (fun k_ => (P0_ k_ ∨ w.heap.size ≤ k_) ∧ some k_ ≠ (u9 : Value).ownBlock ∧ k_ ≠ gb415)) (HO442.out) (fun k_ hk => ⟨hk.1, ⟨hk.2.1, hk.2.2⟩⟩))))) (Reps.none _ _))); intro v444 w43 ho44 hb hg_ hnew_; clear hg_ hnew_; (first | rw [← Ny443.out] at ho44 | (simp only [Int.reduceToNat] at ho44; rw [← Ny443.out] at ho44)); have n0_ := Aside0.mk (Kd.V_elder' (by (with_reducible repeat (first | apply Kd.V_alloc | apply Kd.V_drewN | apply Kd.V_drew)); exact HO_0.out) (Kd.N_base ho44) hb); have n1_ := Aside0.mk (Kd.N_elder' (by (with_reducible repeat (first | apply Kd.N_alloc | apply Kd.N_drewN | apply Kd.N_drew)); exact HO_9.out) (Kd.N_base ho44) hb); have n2_ := Aside0.mk (Kd.V_elder' (by (with_reducible repeat (first | apply Kd.V_alloc | apply Kd.V_drewN | apply Kd.V_drew)); exact HO439.out) (Kd.N_base ho44) hb); have n3_ := Aside0.mk (Kd.N_lower ho44 (below_size (by repeat (first | (with_reducible first | exact HB.out | apply below_alloc | apply pw_below_drewN | apply below_drew1 | refine below_set ?_ GE415.out) | exact HB.out)))); have n4_ := Aside0.mk (blk_below (g := gb415) (o := .cells #[.slice none 0 0, .slice none 0 0] 54 (0, 0)) (by (with_reducible repeat (first | refine blk_drewN ?_ _ | refine blk_drew ?_ | refine blk_alloc ?_ _)); exact BK415.out) hb); have n5_ := Aside0.mk (below_step (by repeat (first | (with_reducible first | exact HB.out | apply below_alloc | apply pw_below_drewN | apply below_drew1 | refine below_set ?_ GE415.out) | exact HB.out)) hb); clear HO_0; clear HO_9; clear HO439; clear BK415; clear HB; clear HO442; have HO_0 := n0_; have HO_9 := n1_; have HO439 := n2_; have HO445 := n3_; have BK415 := n4_; have HB := n5_; clear n0_ n1_ n2_ n3_ n4_ n5_; clear hb ho44; obtain ⟨Ao45, co45, eo45⟩ := Kd.N_slice HO445.out; subst eo45; obtain ⟨Ao46, co46, eo46⟩ := Kd.N_slice HO_9.out; subst eo46; have hcz47_0 : w43.cell? ⟨gb415, 0, none⟩ = some (.slice none 0 0) := (blk_cell BK415.out 0).trans rfl; have hcz47_1 : w43.cell? ⟨gb415, 1, none⟩ = some (.slice none 0 0) := (blk_cell BK415.out 1).trans rfl; have hfz47_0 := blk_frozen BK415.out 0; have hfz47_1 := blk_frozen BK415.out 1))
             refine bodyPost_ret (results_ct rfl _ _ gb415 54 #[.slice Ao46 x9_3.length co46, .slice Ao45 y443.length co45] (0, 0) _ rfl (by (with_reducible repeat (first | refine blk_drewN ?_ _ | refine blk_drew ?_ | refine blk_alloc ?_ _)); refine blk_put (cs := #[.slice Ao46 x9_3.length co46, .slice none 0 0]) ?_ 1 _ rfl; (with_reducible repeat (first | refine blk_drewN ?_ _ | refine blk_drew ?_ | refine blk_alloc ?_ _)); refine blk_put (cs := #[.slice none 0 0, .slice none 0 0]) ?_ 0 _ rfl; (with_reducible repeat (first | refine blk_drewN ?_ _ | refine blk_drew ?_ | refine blk_alloc ?_ _)); exact BK415.out) Try.underlying54 rfl (by kernel_rfl)) rfl ?_
             exact ⟨_, _, by first | rfl | (simp [errW_none, errW_some] <;> rfl) | (simp [*, errW_none, errW_some] <;> rfl), by (with_reducible repeat (first | apply Kd.N_alloc | apply Kd.N_drewN | apply Kd.N_drew)); exact Kd.N_mono (Kd.N_far (p := ⟨gb415, 1, none⟩) (Kd.N_far (p := ⟨gb415, 0, none⟩) (Kd.N_mono HO_9.out (fun k_ hk => (⟨hk, hk.1.1.2⟩ : _ ∧ k_ ≠ gb415))) (fun _ hk => hk.2) (.slice Ao46 x9_3.length co46)) (fun _ hk => hk.2) (.slice Ao45 y443.length co45)) (fun _ hk => ⟨hk.1.1.1.1, hk.1.2⟩), by (with_reducible repeat (first | apply Kd.N_alloc | apply Kd.N_drewN | apply Kd.N_drew)); exact Kd.N_mono (Kd.N_far (p := ⟨gb415, 1, none⟩) (Kd.N_far (p := ⟨gb415, 0, none⟩) (Kd.N_mono HO445.out (fun k_ hk => (⟨hk, hk.2.2⟩ : _ ∧ k_ ≠ gb415))) (fun _ hk => hk.2) (.slice Ao46 x9_3.length co46)) (fun _ hk => hk.2) (.slice Ao45 y443.length co45)) (fun _ hk => ⟨hk.1.1, hk.1.2.1⟩), by repeat (first | (with_reducible first | exact HB.out | apply below_alloc | apply pw_below_drewN | apply below_drew1 | refine below_set ?_ GE415.out) | exact HB.out)⟩
            ·rw [if_neg c38] at H
             exact absurd H (by simp)
           ·rw [if_neg c37] at H
            exact absurd H (by simp)
          ·rw [if_neg c36] at H
           exact absurd H (by simp)
end Go.Proofs.Ytehkhbnhmehobaa.P
namespace Go.Proofs.Ytehkhbnhmehobaa.P
open Go.RowKit Go.Proofs.YtehkhbnhmehobaaW.PrintWords Go.Proofs.YtehkhbnhmehobaaW.PrintLast Go.Proofs.YtehkhbnhmehobaaW.PrintMore
set_option linter.unusedVariables false
set_option linter.unusedSimpArgs false
def Blks (W : World) (L : List (Nat × Obj)) : Prop := ∀ p ∈ L, W.heap[p.1]? = some p.2
theorem Blks.below {W W' : World} {L : List (Nat × Obj)} (h : Blks W L) (hb : Below W.heap.size W W') : Blks W' L := fun p hp => by
  have := h p hp
  exact (hb.block p.1 (Array.getElem?_eq_some_iff.1 this).1).trans this
theorem Blks.nil (W : World) : Blks W [] := fun p hp => by cases hp
theorem Blks.cons {W : World} {L : List (Nat × Obj)} (h : Blks W L) {g : Nat} {o : Obj} (hg : W.heap[g]? = some o) : Blks W ((g, o) :: L) := fun p hp => by
  rcases List.mem_cons.mp hp with rfl | hp
  · exact hg
  · exact h p hp
theorem size_alloc (W : World) (o : Obj) : (W.alloc o).heap.size = W.heap.size + 1 := by
  show (W.heap.push o).size = _
  simp
theorem Blks.alloc1 {W : World} {L : List (Nat × Obj)} (h : Blks W L) (o : Obj) : Blks (W.alloc o) ((W.heap.size, o) :: L) := (h.below (below_alloc (Below.refl _ _) o)).cons (alloc_at W o)
theorem Blks.alloc3 {W : World} {L : List (Nat × Obj)} (h : Blks W L) (o1 o2 o3 : Obj) : Blks (((W.alloc o1).alloc o2).alloc o3) ((W.heap.size + 1 + 1, o3) :: (W.heap.size + 1, o2) :: (W.heap.size, o1) :: L) := by
  have := ((h.alloc1 o1).alloc1 o2).alloc1 o3
  rw [size_alloc, size_alloc] at this
  exact this
theorem Blks.drew {W : World} {L : List (Nat × Obj)} (h : Blks W L) : Blks W.drew L := h
theorem Blks.at {W : World} {L : List (Nat × Obj)} (h : Blks W L) {g : Nat} {o : Obj} (hm : (g, o) ∈ L) : W.heap[g]? = some o := h _ hm
section
variable {P : Program} {ops : Array Oper} {Q : Exit → Act → World → Prop}
theorem lit_step {oi : Oper} {N : Option Tmp} {a : Act} {w w' : World} {K : Act → World → Prop} {v : Value} (hw : Region.wanted oi (yielded ops a.tmps) = true) (hN : oi.dst = N) (hrun : (execOp a.eval oi).run P w = .ok (.value v) w') (h : K (a.put N v) w') : if Region.wanted oi (yielded ops a.tmps) = true then Oper.wp P oi a w K Q else K (a.put N undef) w := by
  rw [if_pos hw]
  subst hN
  unfold Oper.wp
  rw [hrun]
  exact h
end
def encW : List S78 → List Value
  | [] => []
  | x :: l => .int .u8 x.f0 :: .int .i64 x.f1 :: encW l
theorem encW_at : ∀ (xs : List S78) (j : Nat) (x : S78), xs[j]? = some x → (encW xs)[j * 2]? = some (.int .u8 x.f0) ∧ (encW xs)[j * 2 + 1]? = some (.int .i64 x.f1)
  | [], j, x, h => by simp at h
  | y :: l, 0, x, h => by simp at h; subst h; exact ⟨rfl, rfl⟩
  | y :: l, j + 1, x, h => by
    have := encW_at l j x (by simpa using h)
    rw [show (j + 1) * 2 = j * 2 + 1 + 1 by omega]
    exact this
theorem C_words {W : World} {g : Nat} (xs : List S78) (h : W.heap[g]? = some (.cells (encW xs).toArray 78 (0, 0))) (hm : xs.length ≤ 9223372036854775807) : Kd.C k78 W (some ⟨g, 0, none⟩) xs.length xs := by
  refine ⟨rfl, hm, fun _ => ⟨⟨g, 0, none⟩, rfl, fun j x hj => ⟨[.int .u8 x.f0, .int .i64 x.f1], rfl, k78_mk W x, fun i u hu => ?_⟩⟩⟩
  obtain ⟨h1, h2⟩ := encW_at xs j x hj
  rw [show ((⟨g, 0, none⟩ : Addr).add (j * (k78).sz + i)) = ⟨g, j * 2 + i, none⟩ from by rw [show (k78).sz = 2 from rfl]; simp [Addr.add] <;> (intros; omega)]
  rcases i with _ | _ | i
  · simp at hu; subst hu
    refine (blk_cell h _).trans ?_
    simpa using h1
  · simp at hu; subst hu
    refine (blk_cell h _).trans ?_
    simpa using h2
  · simp at hu
theorem C_sub1 {W : World} {g : Nat} {n : Int} {l : List S32} {A : Option Addr} {c : Nat} (h0 : W.cell? ⟨g, 0, none⟩ = some (.int .i64 n)) (h1 : W.cell? ⟨g, 1, none⟩ = some (.slice A l.length c)) (hl : l.length ≤ c) (hC : Kd.C k32 W A l.length l) : Kd.C k81 W (some ⟨g, 0, none⟩) 1 [⟨n, l⟩] := by
  refine ⟨rfl, by decide, fun _ => ⟨⟨g, 0, none⟩, rfl, fun j x hj => ?_⟩⟩
  rcases j with _ | j
  · simp at hj
    subst hj
    refine ⟨[.int .i64 n, .slice A l.length c], rfl, k81_mk W ⟨n, l⟩ hl hC, fun i u hu => ?_⟩
    rw [show ((⟨g, 0, none⟩ : Addr).add (0 * (k81).sz + i)) = ⟨g, i, none⟩ from by simp [Addr.add] <;> (intros; omega)]
    rcases i with _ | _ | i
    · simp at hu; subst hu; exact h0
    · simp at hu; subst hu; exact h1
    · simp at hu
  · simp at hj
theorem Blks.hd {W : World} {L : List (Nat × Obj)} {g : Nat} {o : Obj} (h : Blks W ((g, o) :: L)) : W.heap[g]? = some o := h _ List.mem_cons_self
theorem Blks.tl {W : World} {L : List (Nat × Obj)} {q : Nat × Obj} (h : Blks W (q :: L)) : Blks W L := fun p hp => h p (List.mem_cons_of_mem _ hp)
section
variable {P : Program} {ops : Array Oper} {Q : Exit → Act → World → Prop}
theorem store_step_ {oi : Oper} {a : Act} {w w' : World} {K : Act → World → Prop} (hw : Region.wanted oi (yielded ops a.tmps) = true) (hN : oi.dst = none) (hrun : (execOp a.eval oi).run P w = .ok .skip w') (h : K (a.put none undef) w') : if Region.wanted oi (yielded ops a.tmps) = true then Oper.wp P oi a w K Q else K (a.put none undef) w := by
  rw [if_pos hw]
  unfold Oper.wp
  rw [hrun]
  show K (a.put oi.dst undef) w'
  rw [hN]
  exact h
end
def encB : List (S32 × Option Addr × Nat) → List Value
  | [] => []
  | q :: l => .bool q.1.f0 :: .slice q.2.1 q.1.f1.length q.2.2 :: .string q.1.f2 :: encB l
theorem encB_at : ∀ (xs : List (S32 × Option Addr × Nat)) (j : Nat) (x : S32 × Option Addr × Nat), xs[j]? = some x → (encB xs)[j * 3]? = some (.bool x.1.f0) ∧ (encB xs)[j * 3 + 1]? = some (.slice x.2.1 x.1.f1.length x.2.2) ∧ (encB xs)[j * 3 + 2]? = some (.string x.1.f2)
  | [], j, x, h => by simp at h
  | y :: l, 0, x, h => by simp at h; subst h; exact ⟨rfl, rfl, rfl⟩
  | y :: l, j + 1, x, h => by
    have := encB_at l j x (by simpa using h)
    rw [show (j + 1) * 3 = j * 3 + 1 + 1 + 1 by omega]
    exact this
theorem C_blocks {W : World} {g : Nat} (xs : List (S32 × Option Addr × Nat)) (h : W.heap[g]? = some (.cells (encB xs).toArray 32 (0, 0))) (hm : xs.length ≤ 9223372036854775807) (hw : ∀ x ∈ xs, x.1.f1.length ≤ x.2.2 ∧ Kd.C k78 W x.2.1 x.1.f1.length x.1.f1) : Kd.C k32 W (some ⟨g, 0, none⟩) (xs.map (·.1)).length (xs.map (·.1)) := by
  refine ⟨rfl, by simpa using hm, fun _ => ⟨⟨g, 0, none⟩, rfl, fun j y hj => ?_⟩⟩
  rw [List.getElem?_map] at hj
  obtain ⟨x, hx, rfl⟩ := Option.map_eq_some_iff.mp hj
  obtain ⟨hl, hC⟩ := hw x (List.mem_of_getElem? hx)
  refine ⟨[.bool x.1.f0, .slice x.2.1 x.1.f1.length x.2.2, .string x.1.f2], rfl, k32_mk W x.1 hl hC, fun i u hu => ?_⟩
  obtain ⟨h1, h2, h3⟩ := encB_at xs j x hx
  rw [show ((⟨g, 0, none⟩ : Addr).add (j * (k32).sz + i)) = ⟨g, j * 3 + i, none⟩ from by rw [show (k32).sz = 3 from rfl]; simp [Addr.add] <;> (intros; omega)]
  rcases i with _ | _ | _ | i
  · simp at hu; subst hu
    refine (blk_cell h _).trans ?_
    simpa using h1
  · simp at hu; subst hu
    refine (blk_cell h _).trans ?_
    simpa using h2
  · simp at hu; subst hu
    refine (blk_cell h _).trans ?_
    simpa using h3
  · simp at hu
theorem word_any (a0 a1 r : Int) (h : wrap64 (1000 * a1) = r) (w : World) : Calls Try.prog 44 #[.int .u8 a0, .int .i64 a1] w fun e w' => e = .returned (.agg #[.int .u8 a0, .int .i64 r]) ∧ Below w.heap.size w w' :=
  swarflaw43_word.calls a0 a1 a0 r w (by unfold swarflaw43_word.f; rw [h])
set_option maxHeartbeats 1000000 in
theorem words_any (A : Option Addr) (n c : Nat) (w : World) : Calls Try.prog 43 #[.slice A n c] w fun e w' => e = .returned (.agg #[.bool false, .slice A n c, .string (⟨#[]⟩ : ByteArray)]) ∧ Below w.heap.size w w' := by
  have hu32 := Try.underlying32
  have HB := Aside0.mk (Below.refl w.heap.size w)
  go_enter Try.func43, Try.ntmps43
  go_wp2_with ((with_reducible refine gate_dst (N := 2) rfl ?_); refine box_event ?hg (N := 2) ?hd (cs := #[.bool false, .slice none 0 0, .string (⟨#[]⟩ : ByteArray)]) (t := 32) ?hr ?_; (case hd => rfl); (case hg => rfl); (case hr => first | (go_simp; done) | (go_simp; rfl)); intro gb hg w2 hbox hb; have BK := Aside0.mk hbox; have GE := Aside0.mk (show w.heap.size ≤ gb from by rw [hg]; exact Nat.le_refl _); have HB2 := Aside0.mk (below_step HB.out hb); clear hbox hg hb; have hz0 : w2.cell? ⟨gb, 0, none⟩ = some (.bool false) := (blk_cell BK.out 0).trans rfl; have hz1 : w2.cell? ⟨gb, 1, none⟩ = some (.slice none 0 0) := (blk_cell BK.out 1).trans rfl; have hz2 : w2.cell? ⟨gb, 2, none⟩ = some (.string (⟨#[]⟩ : ByteArray)) := (blk_cell BK.out 2).trans rfl; have hf0 := blk_frozen BK.out 0; have hf1 := blk_frozen BK.out 1; have hf2 := blk_frozen BK.out 2)
  refine bodyPost_ret (results_cell_row rfl _ _ gb 32 #[.bool false, .slice A n c, .string (⟨#[]⟩ : ByteArray)] (0, 0) _ rfl (by refine blk_put (cs := #[.bool false, .slice A n c, .string (⟨#[]⟩ : ByteArray)]) ?_ 2 _ rfl; refine blk_put (cs := #[.bool false, .slice none 0 0, .string (⟨#[]⟩ : ByteArray)]) ?_ 1 _ rfl; refine blk_put (cs := #[.bool false, .slice none 0 0, .string (⟨#[]⟩ : ByteArray)]) ?_ 0 _ rfl; exact BK.out) Try.underlying32 rfl (by kernel_rfl)) rfl ?_
  exact ⟨rfl, by repeat (with_reducible first | exact HB2.out | refine below_set ?_ GE.out)⟩
def BX (a n : Nat) : Obj := .cells #[.bool false, .slice (some ⟨a, 0, none⟩) n n, .string ⟨#[]⟩] 32 (0, 0)
def aw (a b : Int) : S78 := ⟨a, b⟩
def ab (l : List S78) : S32 := ⟨false, l, ⟨#[]⟩⟩
def rapid_ := ab [aw 71 0, aw 88 1000]
def feed_ := ab [aw 71 1000, aw 88 2000]
def end_ := ab [aw 77 30000]
def call_ := ab [aw 77 98000, aw 80 5000, aw 76 2000]
def o5_ := ab [aw 79 5000]
def ret_ := ab [aw 77 99000]
def call5_ := ab [aw 77 98000, aw 80 5000]
def again_ := ab [aw 77 98000, aw 80 7000]
theorem split_ex : subprogram_Split.f 60 [rapid_, call_, end_, o5_, feed_, ret_] = some ([rapid_, call_, end_], [⟨5, [feed_]⟩], 0) := by kernel_rfl
theorem expand_ex : subprogram_Expand.f 60 [rapid_, call_, end_] [⟨5, [feed_]⟩] = some ([rapid_, feed_, feed_, end_], 0) := by kernel_rfl
theorem expand_ex2 : subprogram_Expand.f 60 [rapid_, call_, end_] [⟨5, [call5_]⟩] = some ([], 12) := by kernel_rfl
theorem fold_ex : subprogram_Fold.f 60 [rapid_, feed_, call_, rapid_, feed_, end_] 7 2 = some ([again_, call_, again_, end_], [⟨7, [rapid_, feed_]⟩], 0) := by kernel_rfl
theorem same_ex : swarfref41_Same.f 60 [rapid_, feed_, feed_, end_] [rapid_, feed_, feed_, end_] = some true := by kernel_rfl
theorem same_ex2 : swarfref41_Same.f 60 [again_, call_, again_, end_] [again_, call_, again_, end_] = some true := by kernel_rfl
end Go.Proofs.Ytehkhbnhmehobaa.P
namespace Go.Proofs.Ytehkhbnhmehobaa.P
open Go.RowKit Go.Proofs.YtehkhbnhmehobaaW.PrintWords Go.Proofs.YtehkhbnhmehobaaW.PrintLast Go.Proofs.YtehkhbnhmehobaaW.PrintMore
set_option linter.unusedVariables false
set_option linter.unusedSimpArgs false
set_option maxHeartbeats 16000000 in
set_option maxRecDepth 100000 in
theorem awake43_calls (w : World) : Calls Try.prog 23 #[] w fun e w' => e = .returned (.bool true) ∧ Below w.heap.size w w' := by
  have hu32 := Try.underlying32
  have hu54 := Try.underlying54
  have hu81 := Try.underlying81
  have hu78 := Try.underlying78
  have HL := Aside0.mk (Blks.nil w)
  have HB := Aside0.mk (Below.refl w.heap.size w)
  go_enter Try.func23, Try.ntmps23
  go_wp2_with (first | (go_at_call 44; (with_reducible refine (word_any 71 0 0 (by kernel_rfl) _).mono ?_); rintro e_ w_ ⟨rfl, hb⟩; (first | (have HL_ := Aside0.mk (HL.out.below hb); have HB_ := Aside0.mk (below_then HB.out HB.out.size hb)) | (have HL_ := Aside0.mk ((HL.out.alloc1 _).below hb); have HB_ := Aside0.mk (below_then (below_alloc HB.out _) (below_alloc HB.out _).size hb)) | (have HL_ := Aside0.mk ((HL.out.alloc3 _ _ _).below hb); have HB_ := Aside0.mk (below_then (below_alloc (below_alloc (below_alloc HB.out _) _) _) (below_alloc (below_alloc (below_alloc HB.out _) _) _).size hb))); clear HL HB hb; have HL := HL_; have HB := HB_; clear HL_ HB_) | (go_at_call 44; (with_reducible refine (word_any 88 1 1000 (by kernel_rfl) _).mono ?_); rintro e_ w_ ⟨rfl, hb⟩; (first | (have HL_ := Aside0.mk (HL.out.below hb); have HB_ := Aside0.mk (below_then HB.out HB.out.size hb)) | (have HL_ := Aside0.mk ((HL.out.alloc1 _).below hb); have HB_ := Aside0.mk (below_then (below_alloc HB.out _) (below_alloc HB.out _).size hb)) | (have HL_ := Aside0.mk ((HL.out.alloc3 _ _ _).below hb); have HB_ := Aside0.mk (below_then (below_alloc (below_alloc (below_alloc HB.out _) _) _) (below_alloc (below_alloc (below_alloc HB.out _) _) _).size hb))); clear HL HB hb; have HL := HL_; have HB := HB_; clear HL_ HB_) | (go_at_call 44; (with_reducible refine (word_any 71 1 1000 (by kernel_rfl) _).mono ?_); rintro e_ w_ ⟨rfl, hb⟩; (first | (have HL_ := Aside0.mk (HL.out.below hb); have HB_ := Aside0.mk (below_then HB.out HB.out.size hb)) | (have HL_ := Aside0.mk ((HL.out.alloc1 _).below hb); have HB_ := Aside0.mk (below_then (below_alloc HB.out _) (below_alloc HB.out _).size hb)) | (have HL_ := Aside0.mk ((HL.out.alloc3 _ _ _).below hb); have HB_ := Aside0.mk (below_then (below_alloc (below_alloc (below_alloc HB.out _) _) _) (below_alloc (below_alloc (below_alloc HB.out _) _) _).size hb))); clear HL HB hb; have HL := HL_; have HB := HB_; clear HL_ HB_) | (go_at_call 44; (with_reducible refine (word_any 88 2 2000 (by kernel_rfl) _).mono ?_); rintro e_ w_ ⟨rfl, hb⟩; (first | (have HL_ := Aside0.mk (HL.out.below hb); have HB_ := Aside0.mk (below_then HB.out HB.out.size hb)) | (have HL_ := Aside0.mk ((HL.out.alloc1 _).below hb); have HB_ := Aside0.mk (below_then (below_alloc HB.out _) (below_alloc HB.out _).size hb)) | (have HL_ := Aside0.mk ((HL.out.alloc3 _ _ _).below hb); have HB_ := Aside0.mk (below_then (below_alloc (below_alloc (below_alloc HB.out _) _) _) (below_alloc (below_alloc (below_alloc HB.out _) _) _).size hb))); clear HL HB hb; have HL := HL_; have HB := HB_; clear HL_ HB_) | (go_at_call 44; (with_reducible refine (word_any 77 30 30000 (by kernel_rfl) _).mono ?_); rintro e_ w_ ⟨rfl, hb⟩; (first | (have HL_ := Aside0.mk (HL.out.below hb); have HB_ := Aside0.mk (below_then HB.out HB.out.size hb)) | (have HL_ := Aside0.mk ((HL.out.alloc1 _).below hb); have HB_ := Aside0.mk (below_then (below_alloc HB.out _) (below_alloc HB.out _).size hb)) | (have HL_ := Aside0.mk ((HL.out.alloc3 _ _ _).below hb); have HB_ := Aside0.mk (below_then (below_alloc (below_alloc (below_alloc HB.out _) _) _) (below_alloc (below_alloc (below_alloc HB.out _) _) _).size hb))); clear HL HB hb; have HL := HL_; have HB := HB_; clear HL_ HB_) | (go_at_call 44; (with_reducible refine (word_any 77 98 98000 (by kernel_rfl) _).mono ?_); rintro e_ w_ ⟨rfl, hb⟩; (first | (have HL_ := Aside0.mk (HL.out.below hb); have HB_ := Aside0.mk (below_then HB.out HB.out.size hb)) | (have HL_ := Aside0.mk ((HL.out.alloc1 _).below hb); have HB_ := Aside0.mk (below_then (below_alloc HB.out _) (below_alloc HB.out _).size hb)) | (have HL_ := Aside0.mk ((HL.out.alloc3 _ _ _).below hb); have HB_ := Aside0.mk (below_then (below_alloc (below_alloc (below_alloc HB.out _) _) _) (below_alloc (below_alloc (below_alloc HB.out _) _) _).size hb))); clear HL HB hb; have HL := HL_; have HB := HB_; clear HL_ HB_) | (go_at_call 44; (with_reducible refine (word_any 80 5 5000 (by kernel_rfl) _).mono ?_); rintro e_ w_ ⟨rfl, hb⟩; (first | (have HL_ := Aside0.mk (HL.out.below hb); have HB_ := Aside0.mk (below_then HB.out HB.out.size hb)) | (have HL_ := Aside0.mk ((HL.out.alloc1 _).below hb); have HB_ := Aside0.mk (below_then (below_alloc HB.out _) (below_alloc HB.out _).size hb)) | (have HL_ := Aside0.mk ((HL.out.alloc3 _ _ _).below hb); have HB_ := Aside0.mk (below_then (below_alloc (below_alloc (below_alloc HB.out _) _) _) (below_alloc (below_alloc (below_alloc HB.out _) _) _).size hb))); clear HL HB hb; have HL := HL_; have HB := HB_; clear HL_ HB_) | (go_at_call 44; (with_reducible refine (word_any 76 2 2000 (by kernel_rfl) _).mono ?_); rintro e_ w_ ⟨rfl, hb⟩; (first | (have HL_ := Aside0.mk (HL.out.below hb); have HB_ := Aside0.mk (below_then HB.out HB.out.size hb)) | (have HL_ := Aside0.mk ((HL.out.alloc1 _).below hb); have HB_ := Aside0.mk (below_then (below_alloc HB.out _) (below_alloc HB.out _).size hb)) | (have HL_ := Aside0.mk ((HL.out.alloc3 _ _ _).below hb); have HB_ := Aside0.mk (below_then (below_alloc (below_alloc (below_alloc HB.out _) _) _) (below_alloc (below_alloc (below_alloc HB.out _) _) _).size hb))); clear HL HB hb; have HL := HL_; have HB := HB_; clear HL_ HB_) | (go_at_call 44; (with_reducible refine (word_any 79 5 5000 (by kernel_rfl) _).mono ?_); rintro e_ w_ ⟨rfl, hb⟩; (first | (have HL_ := Aside0.mk (HL.out.below hb); have HB_ := Aside0.mk (below_then HB.out HB.out.size hb)) | (have HL_ := Aside0.mk ((HL.out.alloc1 _).below hb); have HB_ := Aside0.mk (below_then (below_alloc HB.out _) (below_alloc HB.out _).size hb)) | (have HL_ := Aside0.mk ((HL.out.alloc3 _ _ _).below hb); have HB_ := Aside0.mk (below_then (below_alloc (below_alloc (below_alloc HB.out _) _) _) (below_alloc (below_alloc (below_alloc HB.out _) _) _).size hb))); clear HL HB hb; have HL := HL_; have HB := HB_; clear HL_ HB_) | (go_at_call 44; (with_reducible refine (word_any 77 99 99000 (by kernel_rfl) _).mono ?_); rintro e_ w_ ⟨rfl, hb⟩; (first | (have HL_ := Aside0.mk (HL.out.below hb); have HB_ := Aside0.mk (below_then HB.out HB.out.size hb)) | (have HL_ := Aside0.mk ((HL.out.alloc1 _).below hb); have HB_ := Aside0.mk (below_then (below_alloc HB.out _) (below_alloc HB.out _).size hb)) | (have HL_ := Aside0.mk ((HL.out.alloc3 _ _ _).below hb); have HB_ := Aside0.mk (below_then (below_alloc (below_alloc (below_alloc HB.out _) _) _) (below_alloc (below_alloc (below_alloc HB.out _) _) _).size hb))); clear HL HB hb; have HL := HL_; have HB := HB_; clear HL_ HB_) | (go_at_call 44; (with_reducible refine (word_any 80 7 7000 (by kernel_rfl) _).mono ?_); rintro e_ w_ ⟨rfl, hb⟩; (first | (have HL_ := Aside0.mk (HL.out.below hb); have HB_ := Aside0.mk (below_then HB.out HB.out.size hb)) | (have HL_ := Aside0.mk ((HL.out.alloc1 _).below hb); have HB_ := Aside0.mk (below_then (below_alloc HB.out _) (below_alloc HB.out _).size hb)) | (have HL_ := Aside0.mk ((HL.out.alloc3 _ _ _).below hb); have HB_ := Aside0.mk (below_then (below_alloc (below_alloc (below_alloc HB.out _) _) _) (below_alloc (below_alloc (below_alloc HB.out _) _) _).size hb))); clear HL HB hb; have HL := HL_; have HB := HB_; clear HL_ HB_) | (go_at_call 43; (with_reducible refine (words_any _ _ _ _).mono ?_); rintro e_ w_ ⟨rfl, hb⟩; have HL_ := Aside0.mk (Blks.cons (HL.out.below (below_then (below_alloc (Below.refl _ _) _) (below_alloc (Below.refl _ _) _).size hb)) (blk_below (alloc_at _ _) hb)); have HB_ := Aside0.mk (below_then HB.out HB.out.size (below_then (below_alloc (Below.refl _ _) _) (below_alloc (Below.refl _ _) _).size hb)); clear HL HB hb; have HL := HL_; have HB := HB_; clear HL_ HB_))
  rename_i y10 y9 y8 y7 y6 y5 y4 y3 y2 y1 y0 K_ hK_
  have HL4 := Aside0.mk (HL.out.alloc1 (.cells #[.bool false, .slice (some ⟨y0.heap.size, 0, none⟩) 3 3, .string ⟨#[]⟩] 32 (0, 0)))
  have HB4 := Aside0.mk (below_alloc HB.out (.cells #[.bool false, .slice (some ⟨y0.heap.size, 0, none⟩) 3 3, .string ⟨#[]⟩] 32 (0, 0)))
  generalize w_.alloc (.cells #[.bool false, .slice (some ⟨y0.heap.size, 0, none⟩) 3 3, .string ⟨#[]⟩] 32 (0, 0)) = W4 at HL4 HB4 ⊢
  generalize y9.heap.size = a1 at HL4 ⊢
  generalize y6.heap.size = a2 at HL4 ⊢
  generalize y4.heap.size = a3 at HL4 ⊢
  generalize y0.heap.size = a4 at HL4 ⊢
  generalize y3.heap.size + 1 + 1 = b3 at HL4 ⊢
  generalize y3.heap.size + 1 = b2 at HL4 ⊢
  generalize y3.heap.size = b1 at HL4 ⊢
  generalize w_.heap.size = b4 at HL4 ⊢
  clear HL HB y10 y9 y8 y7 y6 y5 y4 y3 y2 y1 y0 w_
  have S_ : ∀ {W : World} {L : List (Nat × Obj)}, Blks W L → (∀ p ∈ [(b4, BX a4 3), (b3, BX a3 1), (b2, BX a2 2), (b1, BX a1 2)], p ∈ L) → Blks W [(b4, BX a4 3), (b3, BX a3 1), (b2, BX a2 2), (b1, BX a1 2)] := fun h hs p hp => h p (hs p hp)
  refine start_ (n := 12) (S := fun w' => Blks w' [(b4, BX a4 3), (b3, BX a3 1), (b2, BX a2 2), (b1, BX a1 2)]) (ds := []) #[false, false, false, false, false, false, false, false, false, false, false, false] (by kernel_rfl) rfl rfl (Blks.drew (S_ HL4.out (by simp [BX]))) (fun hHeld => ?_)
  have HL5 := Aside0.mk (show Blks W4.drew _ from HL4.out)
  have HB5 := Aside0.mk (below_drew1 HB4.out)
  clear HL4 HB4
  generalize W4.drew = W5 at HL5 HB5 hHeld ⊢
  refine take_ (i := 0) (N := some 31) (v := ?_) (a' := ?_) #[true, false, false, false, false, false, false, false, false, false, false, false] rfl rfl (by kernel_rfl) (fun _ _ _ h => h) (Or.inl ⟨by rfl, ?_⟩) hHeld ?_ ?_
  rotate_left
  · intro w' hS
    have hb_ := hS.at (g := b1) (o := BX a1 2) (by simp)
    have c0 : w'.cell? ⟨b1, 0, none⟩ = some (.bool false) := (blk_cell hb_ 0).trans rfl
    have c1 : w'.cell? ⟨b1, 1, none⟩ = some (.slice (some ⟨a1, 0, none⟩) 2 2) := (blk_cell hb_ 1).trans rfl
    have c2 : w'.cell? ⟨b1, 2, none⟩ = some (.string ⟨#[]⟩) := (blk_cell hb_ 2).trans rfl
    go_simp
    with_reducible rfl
  rotate_left
  · simp only [Act.put, List.setIfInBounds_toArray, List.set_cons_zero, List.set_cons_succ, i64_w, i32_w]
    rfl
  refine take_ (i := 1) (N := some 32) (v := ?_) (a' := ?_) #[true, true, false, false, false, false, false, false, false, false, false, false] rfl rfl (by kernel_rfl) (fun _ _ _ h => h) (Or.inl ⟨by rfl, ?_⟩) hHeld ?_ ?_
  rotate_left
  · intro w' hS
    have hb_ := hS.at (g := b4) (o := BX a4 3) (by simp)
    have c0 : w'.cell? ⟨b4, 0, none⟩ = some (.bool false) := (blk_cell hb_ 0).trans rfl
    have c1 : w'.cell? ⟨b4, 1, none⟩ = some (.slice (some ⟨a4, 0, none⟩) 3 3) := (blk_cell hb_ 1).trans rfl
    have c2 : w'.cell? ⟨b4, 2, none⟩ = some (.string ⟨#[]⟩) := (blk_cell hb_ 2).trans rfl
    go_simp
    with_reducible rfl
  rotate_left
  · simp only [Act.put, List.setIfInBounds_toArray, List.set_cons_zero, List.set_cons_succ, i64_w, i32_w]
    rfl
  refine take_ (i := 2) (N := some 33) (v := ?_) (a' := ?_) #[true, true, true, false, false, false, false, false, false, false, false, false] rfl rfl (by kernel_rfl) (fun _ _ _ h => h) (Or.inl ⟨by rfl, ?_⟩) hHeld ?_ ?_
  rotate_left
  · intro w' hS
    have hb_ := hS.at (g := b3) (o := BX a3 1) (by simp)
    have c0 : w'.cell? ⟨b3, 0, none⟩ = some (.bool false) := (blk_cell hb_ 0).trans rfl
    have c1 : w'.cell? ⟨b3, 1, none⟩ = some (.slice (some ⟨a3, 0, none⟩) 1 1) := (blk_cell hb_ 1).trans rfl
    have c2 : w'.cell? ⟨b3, 2, none⟩ = some (.string ⟨#[]⟩) := (blk_cell hb_ 2).trans rfl
    go_simp
    with_reducible rfl
  rotate_left
  · simp only [Act.put, List.setIfInBounds_toArray, List.set_cons_zero, List.set_cons_succ, i64_w, i32_w]
    rfl
  refine take_ (i := 6) (N := some 37) (v := ?_) (a' := ?_) #[true, true, true, false, false, false, true, false, false, false, false, false] rfl rfl (by kernel_rfl) (fun _ _ _ h => h) (Or.inl ⟨by rfl, ?_⟩) hHeld ?_ ?_
  rotate_left
  · intro w' hS
    have hb_ := hS.at (g := b2) (o := BX a2 2) (by simp)
    have c0 : w'.cell? ⟨b2, 0, none⟩ = some (.bool false) := (blk_cell hb_ 0).trans rfl
    have c1 : w'.cell? ⟨b2, 1, none⟩ = some (.slice (some ⟨a2, 0, none⟩) 2 2) := (blk_cell hb_ 1).trans rfl
    have c2 : w'.cell? ⟨b2, 2, none⟩ = some (.string ⟨#[]⟩) := (blk_cell hb_ 2).trans rfl
    go_simp
    with_reducible rfl
  rotate_left
  · simp only [Act.put, List.setIfInBounds_toArray, List.set_cons_zero, List.set_cons_succ, i64_w, i32_w]
    rfl
  refine one_ (i := 3) (N := some 34) #[true, true, true, true, false, false, true, false, false, false, false, false] rfl rfl (by kernel_rfl) (by decide) (fun K hK => ?_)
  refine goes_ Try.func44 (by kernel_rfl) rfl #[.int .u8 79, .int .i64 5] (by rfl) rfl rfl (by (try simp only [List.map_toArray, List.map_cons, List.map_nil]); first | done | rfl) ?_
  refine (word_any 79 5 5000 (by kernel_rfl) _).mono ?_
  rintro e_ W6 ⟨rfl, hb_⟩
  refine ⟨_, rfl, ?_⟩
  clear hHeld
  have HL6 := Aside0.mk (HL5.out.below hb_)
  have HB6 := Aside0.mk (below_then HB5.out HB5.out.size hb_)
  clear hb_ HL5 HB5
  refine hK.out _ _ (S_ HL6.out (by simp [BX])) (fun hHeld => ?_)
  clear hK K
  refine norm_ (a' := ?_) ?_ ?_
  rotate_left
  · show Act.put _ (some 34) _ = _
    simp only [Act.put, List.setIfInBounds_toArray, List.set_cons_zero, List.set_cons_succ, i64_w, i32_w]
    rfl
  refine one_ (i := 4) (N := some 35) #[true, true, true, true, true, false, true, false, false, false, false, false] rfl rfl (by kernel_rfl) (by decide) (fun K hK => ?_)
  refine lit_step (v := .slice (some ⟨W6.heap.size, 0, none⟩) 1 1) (w' := W6.alloc (.cells #[.int .u8 79, .int .i64 5000] 78 (0, 0))) (by rfl) rfl (by first | (go_simp; done) | (go_simp; rfl)) ?_
  clear hHeld
  have HL7 := Aside0.mk (HL6.out.alloc1 (.cells #[.int .u8 79, .int .i64 5000] 78 (0, 0)))
  have HB7 := Aside0.mk (below_alloc HB6.out (.cells #[.int .u8 79, .int .i64 5000] 78 (0, 0)))
  generalize W6.alloc (.cells #[.int .u8 79, .int .i64 5000] 78 (0, 0)) = W7 at HL7 HB7 ⊢
  generalize W6.heap.size = a5 at HL7 ⊢
  clear HL6 HB6 W6
  refine hK.out _ _ (S_ HL7.out (by simp [BX])) (fun hHeld => ?_)
  clear hK K
  refine norm_ (a' := ?_) ?_ ?_
  rotate_left
  · show Act.put _ (some 35) _ = _
    simp only [Act.put, List.setIfInBounds_toArray, List.set_cons_zero, List.set_cons_succ, i64_w, i32_w]
    rfl
  refine one_ (i := 5) (N := some 36) #[true, true, true, true, true, true, true, false, false, false, false, false] rfl rfl (by kernel_rfl) (by decide) (fun K hK => ?_)
  refine goes_ Try.func43 (by kernel_rfl) rfl #[.slice (some ⟨a5, 0, none⟩) 1 1] (by rfl) rfl rfl (by (try simp only [List.map_toArray, List.map_cons, List.map_nil]); first | done | rfl) ?_
  refine (words_any _ _ _ _).mono ?_
  rintro e_ W8 ⟨rfl, hb_⟩
  refine ⟨_, rfl, ?_⟩
  clear hHeld
  have HL8 := Aside0.mk (HL7.out.below hb_)
  have HB8 := Aside0.mk (below_then HB7.out HB7.out.size hb_)
  clear hb_ HL7 HB7
  refine hK.out _ _ (S_ HL8.out (by simp [BX])) (fun hHeld => ?_)
  clear hK K
  refine norm_ (a' := ?_) ?_ ?_
  rotate_left
  · show Act.put _ (some 36) _ = _
    simp only [Act.put, List.setIfInBounds_toArray, List.set_cons_zero, List.set_cons_succ, i64_w, i32_w]
    rfl
  refine one_ (i := 7) (N := some 38) #[true, true, true, true, true, true, true, true, false, false, false, false] rfl rfl (by kernel_rfl) (by decide) (fun K hK => ?_)
  refine goes_ Try.func44 (by kernel_rfl) rfl #[.int .u8 77, .int .i64 99] (by rfl) rfl rfl (by (try simp only [List.map_toArray, List.map_cons, List.map_nil]); first | done | rfl) ?_
  refine (word_any 77 99 99000 (by kernel_rfl) _).mono ?_
  rintro e_ W9 ⟨rfl, hb_⟩
  refine ⟨_, rfl, ?_⟩
  clear hHeld
  have HL9 := Aside0.mk (HL8.out.below hb_)
  have HB9 := Aside0.mk (below_then HB8.out HB8.out.size hb_)
  clear hb_ HL8 HB8
  refine hK.out _ _ (S_ HL9.out (by simp [BX])) (fun hHeld => ?_)
  clear hK K
  refine norm_ (a' := ?_) ?_ ?_
  rotate_left
  · show Act.put _ (some 38) _ = _
    simp only [Act.put, List.setIfInBounds_toArray, List.set_cons_zero, List.set_cons_succ, i64_w, i32_w]
    rfl
  refine one_ (i := 8) (N := some 39) #[true, true, true, true, true, true, true, true, true, false, false, false] rfl rfl (by kernel_rfl) (by decide) (fun K hK => ?_)
  refine lit_step (v := .slice (some ⟨W9.heap.size, 0, none⟩) 1 1) (w' := W9.alloc (.cells #[.int .u8 77, .int .i64 99000] 78 (0, 0))) (by rfl) rfl (by first | (go_simp; done) | (go_simp; rfl)) ?_
  clear hHeld
  have HL10 := Aside0.mk (HL9.out.alloc1 (.cells #[.int .u8 77, .int .i64 99000] 78 (0, 0)))
  have HB10 := Aside0.mk (below_alloc HB9.out (.cells #[.int .u8 77, .int .i64 99000] 78 (0, 0)))
  generalize W9.alloc (.cells #[.int .u8 77, .int .i64 99000] 78 (0, 0)) = W10 at HL10 HB10 ⊢
  generalize W9.heap.size = a6 at HL10 ⊢
  clear HL9 HB9 W9
  refine hK.out _ _ (S_ HL10.out (by simp [BX])) (fun hHeld => ?_)
  clear hK K
  refine norm_ (a' := ?_) ?_ ?_
  rotate_left
  · show Act.put _ (some 39) _ = _
    simp only [Act.put, List.setIfInBounds_toArray, List.set_cons_zero, List.set_cons_succ, i64_w, i32_w]
    rfl
  refine one_ (i := 9) (N := some 40) #[true, true, true, true, true, true, true, true, true, true, false, false] rfl rfl (by kernel_rfl) (by decide) (fun K hK => ?_)
  refine goes_ Try.func43 (by kernel_rfl) rfl #[.slice (some ⟨a6, 0, none⟩) 1 1] (by rfl) rfl rfl (by (try simp only [List.map_toArray, List.map_cons, List.map_nil]); first | done | rfl) ?_
  refine (words_any _ _ _ _).mono ?_
  rintro e_ W11 ⟨rfl, hb_⟩
  refine ⟨_, rfl, ?_⟩
  clear hHeld
  have HL11 := Aside0.mk (HL10.out.below hb_)
  have HB11 := Aside0.mk (below_then HB10.out HB10.out.size hb_)
  clear hb_ HL10 HB10
  refine hK.out _ _ (S_ HL11.out (by simp [BX])) (fun hHeld => ?_)
  clear hK K
  refine norm_ (a' := ?_) ?_ ?_
  rotate_left
  · show Act.put _ (some 40) _ = _
    simp only [Act.put, List.setIfInBounds_toArray, List.set_cons_zero, List.set_cons_succ, i64_w, i32_w]
    rfl
  refine one_ (i := 10) (N := some 41) #[true, true, true, true, true, true, true, true, true, true, true, false] rfl rfl (by kernel_rfl) (by decide) (fun K hK => ?_)
  refine lit_step (v := .slice (some ⟨W11.heap.size, 0, none⟩) 6 6) (w' := W11.alloc (.cells #[.bool false, .slice (some ⟨a1, 0, none⟩) 2 2, .string ⟨#[]⟩, .bool false, .slice (some ⟨a4, 0, none⟩) 3 3, .string ⟨#[]⟩, .bool false, .slice (some ⟨a3, 0, none⟩) 1 1, .string ⟨#[]⟩, .bool false, .slice (some ⟨a5, 0, none⟩) 1 1, .string ⟨#[]⟩, .bool false, .slice (some ⟨a2, 0, none⟩) 2 2, .string ⟨#[]⟩, .bool false, .slice (some ⟨a6, 0, none⟩) 1 1, .string ⟨#[]⟩] 32 (0, 0))) (by rfl) rfl (by first | (go_simp; done) | (go_simp; rfl)) ?_
  clear hHeld
  have HL12 := Aside0.mk (HL11.out.alloc1 (.cells #[.bool false, .slice (some ⟨a1, 0, none⟩) 2 2, .string ⟨#[]⟩, .bool false, .slice (some ⟨a4, 0, none⟩) 3 3, .string ⟨#[]⟩, .bool false, .slice (some ⟨a3, 0, none⟩) 1 1, .string ⟨#[]⟩, .bool false, .slice (some ⟨a5, 0, none⟩) 1 1, .string ⟨#[]⟩, .bool false, .slice (some ⟨a2, 0, none⟩) 2 2, .string ⟨#[]⟩, .bool false, .slice (some ⟨a6, 0, none⟩) 1 1, .string ⟨#[]⟩] 32 (0, 0)))
  have HB12 := Aside0.mk (below_alloc HB11.out (.cells #[.bool false, .slice (some ⟨a1, 0, none⟩) 2 2, .string ⟨#[]⟩, .bool false, .slice (some ⟨a4, 0, none⟩) 3 3, .string ⟨#[]⟩, .bool false, .slice (some ⟨a3, 0, none⟩) 1 1, .string ⟨#[]⟩, .bool false, .slice (some ⟨a5, 0, none⟩) 1 1, .string ⟨#[]⟩, .bool false, .slice (some ⟨a2, 0, none⟩) 2 2, .string ⟨#[]⟩, .bool false, .slice (some ⟨a6, 0, none⟩) 1 1, .string ⟨#[]⟩] 32 (0, 0)))
  generalize W11.alloc (.cells #[.bool false, .slice (some ⟨a1, 0, none⟩) 2 2, .string ⟨#[]⟩, .bool false, .slice (some ⟨a4, 0, none⟩) 3 3, .string ⟨#[]⟩, .bool false, .slice (some ⟨a3, 0, none⟩) 1 1, .string ⟨#[]⟩, .bool false, .slice (some ⟨a5, 0, none⟩) 1 1, .string ⟨#[]⟩, .bool false, .slice (some ⟨a2, 0, none⟩) 2 2, .string ⟨#[]⟩, .bool false, .slice (some ⟨a6, 0, none⟩) 1 1, .string ⟨#[]⟩] 32 (0, 0)) = W12 at HL12 HB12 ⊢
  generalize W11.heap.size = al at HL12 ⊢
  clear HL11 HB11 W11
  refine hK.out _ _ (S_ HL12.out (by simp [BX])) (fun hHeld => ?_)
  clear hK K
  refine norm_ (a' := ?_) ?_ ?_
  rotate_left
  · show Act.put _ (some 41) _ = _
    simp only [Act.put, List.setIfInBounds_toArray, List.set_cons_zero, List.set_cons_succ, i64_w, i32_w]
    rfl
  refine pure_ (i := 11) (N := some 5) (v := ?_) (a' := ?_) #[true, true, true, true, true, true, true, true, true, true, true, true] rfl rfl (by kernel_rfl) (fun _ _ _ h => h) (Or.inl ⟨by rfl, ?_⟩) ?_ ?_
  rotate_left
  · intro w'
    go_simp
    with_reducible rfl
  rotate_left
  · simp only [Act.put, List.setIfInBounds_toArray, List.set_cons_zero, List.set_cons_succ, i64_w, i32_w]
    rfl
  refine done_ (by kernel_rfl) ?_
  clear hHeld
  have Kal := Aside0.mk HL12.out.hd
  have Ka6 := Aside0.mk HL12.out.tl.hd
  have Ka5 := Aside0.mk HL12.out.tl.tl.hd
  have Kb4 := Aside0.mk HL12.out.tl.tl.tl.hd
  have Ka4 := Aside0.mk HL12.out.tl.tl.tl.tl.hd
  have Kb3 := Aside0.mk HL12.out.tl.tl.tl.tl.tl.hd
  have Kb2 := Aside0.mk HL12.out.tl.tl.tl.tl.tl.tl.hd
  have Kb1 := Aside0.mk HL12.out.tl.tl.tl.tl.tl.tl.tl.hd
  have Ka3 := Aside0.mk HL12.out.tl.tl.tl.tl.tl.tl.tl.tl.hd
  have Ka2 := Aside0.mk HL12.out.tl.tl.tl.tl.tl.tl.tl.tl.tl.hd
  have Ka1 := Aside0.mk HL12.out.tl.tl.tl.tl.tl.tl.tl.tl.tl.tl.hd
  have Ca1 := Aside0.mk (show 2 ≤ 2 ∧ Kd.C k78 W12 (some ⟨a1, 0, none⟩) 2 (rapid_).f1 from ⟨Nat.le_refl _, C_words [aw 71 0, aw 88 1000] Ka1.out (by decide)⟩)
  have Ca2 := Aside0.mk (show 2 ≤ 2 ∧ Kd.C k78 W12 (some ⟨a2, 0, none⟩) 2 (feed_).f1 from ⟨Nat.le_refl _, C_words [aw 71 1000, aw 88 2000] Ka2.out (by decide)⟩)
  have Ca3 := Aside0.mk (show 1 ≤ 1 ∧ Kd.C k78 W12 (some ⟨a3, 0, none⟩) 1 (end_).f1 from ⟨Nat.le_refl _, C_words [aw 77 30000] Ka3.out (by decide)⟩)
  have Ca4 := Aside0.mk (show 3 ≤ 3 ∧ Kd.C k78 W12 (some ⟨a4, 0, none⟩) 3 (call_).f1 from ⟨Nat.le_refl _, C_words [aw 77 98000, aw 80 5000, aw 76 2000] Ka4.out (by decide)⟩)
  have Ca5 := Aside0.mk (show 1 ≤ 1 ∧ Kd.C k78 W12 (some ⟨a5, 0, none⟩) 1 (o5_).f1 from ⟨Nat.le_refl _, C_words [aw 79 5000] Ka5.out (by decide)⟩)
  have Ca6 := Aside0.mk (show 1 ≤ 1 ∧ Kd.C k78 W12 (some ⟨a6, 0, none⟩) 1 (ret_).f1 from ⟨Nat.le_refl _, C_words [aw 77 99000] Ka6.out (by decide)⟩)
  have HVl := Aside0.mk (show Kd.V k32 32 W12 W12.heap.size (fun k_ => k_ < W12.heap.size) (.slice (some ⟨al, 0, none⟩) 6 6) [rapid_, call_, end_, o5_, feed_, ret_] from Kd.V_mk (Nat.le_refl 6) (Kd.C_F k32_heap (C_blocks [(rapid_, some ⟨a1, 0, none⟩, 2), (call_, some ⟨a4, 0, none⟩, 3), (end_, some ⟨a3, 0, none⟩, 1), (o5_, some ⟨a5, 0, none⟩, 1), (feed_, some ⟨a2, 0, none⟩, 2), (ret_, some ⟨a6, 0, none⟩, 1)] Kal.out (by simp) (fun x hx => by simp only [List.mem_cons, List.not_mem_nil, or_false] at hx; rcases hx with rfl | rfl | rfl | rfl | rfl | rfl; exact ⟨Ca1.out.1, Kd.C_below Ca1.out.2 (Below.refl _ _)⟩; exact ⟨Ca4.out.1, Kd.C_below Ca4.out.2 (Below.refl _ _)⟩; exact ⟨Ca3.out.1, Kd.C_below Ca3.out.2 (Below.refl _ _)⟩; exact ⟨Ca5.out.1, Kd.C_below Ca5.out.2 (Below.refl _ _)⟩; exact ⟨Ca2.out.1, Kd.C_below Ca2.out.2 (Below.refl _ _)⟩; exact ⟨Ca6.out.1, Kd.C_below Ca6.out.2 (Below.refl _ _)⟩))))
  have SPL := Aside0.mk (show Calls Try.prog 45 #[.slice (some ⟨al, 0, none⟩) 6 6] W12 _ from subprogram_Split.calls 60 (fun k_ => k_ < W12.heap.size) (some ⟨al, 0, none⟩) 6 [rapid_, call_, end_, o5_, feed_, ret_] [rapid_, call_, end_] [⟨5, [feed_]⟩] 0 W12 HVl.out split_ex)
  have HB12' := Aside0.mk (Below.refl W12.heap.size W12)
  go_wp2_with (first | (go_at_call 45; refine SPL.out.mono ?_; rintro e_ w13 ⟨v0, v1, rfl, hn0, hn1, hb⟩; obtain ⟨A0, c0, rfl⟩ := Kd.N_slice hn0; obtain ⟨g8, c8, e8, ge8, lt8, cells8, hg8⟩ := Kd.N_form hn1 (by decide); obtain rfl := e8; have HN0 := Aside0.mk hn0; have HN1 := Aside0.mk hn1; have GE8 := Aside0.mk ge8; have C8LE := Aside0.mk (Kd.N_reads' hn1).2.1; have BK8 := Aside0.mk hg8; have HB13 := Aside0.mk hb; clear hn0 hn1 ge8 lt8 hg8 hb) | (go_at_call 28; refine (show Calls Try.prog 28 #[.agg #[.slice A0 3 c0, .slice (some ⟨g8, 0, none⟩) 1 c8]] _ _ from subprogram_Expand.calls 60 A0 c0 [rapid_, call_, end_] (some ⟨g8, 0, none⟩) c8 [⟨5, [feed_]⟩] [rapid_, feed_, feed_, end_] 0 _ (Kd.C_alloc (Kd.N_reads' HN0.out).2.2 _) (Kd.N_reads' HN0.out).2.1 (Kd.C_alloc (Kd.N_reads' HN1.out).2.2 _) (Kd.N_reads' HN1.out).2.1 expand_ex).mono ?_; rintro e_ w14 ⟨v2, rfl, hs2, hb⟩; obtain ⟨A2, c2, rfl⟩ := Kd.R_slice (Kd.S_R hs2); have HS2 := Aside0.mk (Kd.R_reads' (Kd.S_R hs2)); have BK6 := Aside0.mk (blk_below (alloc_at w13 _) hb); have HB6 := Aside0.mk (below_then (below_alloc (Below.refl _ _) _) (below_alloc (Below.refl _ _) _).size hb); have HB14 := Aside0.mk (below_then HB13.out HB13.out.size HB6.out); have HN0' := Aside0.mk (Kd.N_below HN0.out HB6.out); have HN1' := Aside0.mk (Kd.N_below HN1.out HB6.out); have BK8' := Aside0.mk (blk_below BK8.out HB6.out); clear hs2 hb HN0 HN1 BK8 HB6; have xb10 : w14.cell? ⟨b1, 0, none⟩ = some (.bool false) := (blk_cell (blk_below Kb1.out HB14.out) 0).trans rfl; have xb11 : w14.cell? ⟨b1, 1, none⟩ = some (.slice (some ⟨a1, 0, none⟩) 2 2) := (blk_cell (blk_below Kb1.out HB14.out) 1).trans rfl; have xb12 : w14.cell? ⟨b1, 2, none⟩ = some (.string ⟨#[]⟩) := (blk_cell (blk_below Kb1.out HB14.out) 2).trans rfl; have xb20 : w14.cell? ⟨b2, 0, none⟩ = some (.bool false) := (blk_cell (blk_below Kb2.out HB14.out) 0).trans rfl; have xb21 : w14.cell? ⟨b2, 1, none⟩ = some (.slice (some ⟨a2, 0, none⟩) 2 2) := (blk_cell (blk_below Kb2.out HB14.out) 1).trans rfl; have xb22 : w14.cell? ⟨b2, 2, none⟩ = some (.string ⟨#[]⟩) := (blk_cell (blk_below Kb2.out HB14.out) 2).trans rfl; have xb30 : w14.cell? ⟨b3, 0, none⟩ = some (.bool false) := (blk_cell (blk_below Kb3.out HB14.out) 0).trans rfl; have xb31 : w14.cell? ⟨b3, 1, none⟩ = some (.slice (some ⟨a3, 0, none⟩) 1 1) := (blk_cell (blk_below Kb3.out HB14.out) 1).trans rfl; have xb32 : w14.cell? ⟨b3, 2, none⟩ = some (.string ⟨#[]⟩) := (blk_cell (blk_below Kb3.out HB14.out) 2).trans rfl; have hz6_0 : w14.cell? ⟨w13.heap.size, 0, none⟩ = some (.slice A0 3 c0) := (blk_cell BK6.out 0).trans rfl; have hz6_1 : w14.cell? ⟨w13.heap.size, 1, none⟩ = some (.slice (some ⟨g8, 0, none⟩) 1 c8) := (blk_cell BK6.out 1).trans rfl; have SAMEC := Aside0.mk (show Calls Try.prog 19 #[.slice A2 4 c2, .slice (some ⟨w14.heap.size, 0, none⟩) 4 4] (w14.alloc (.cells #[.bool false, .slice (some ⟨a1, 0, none⟩) 2 2, .string ⟨#[]⟩, .bool false, .slice (some ⟨a2, 0, none⟩) 2 2, .string ⟨#[]⟩, .bool false, .slice (some ⟨a2, 0, none⟩) 2 2, .string ⟨#[]⟩, .bool false, .slice (some ⟨a3, 0, none⟩) 1 1, .string ⟨#[]⟩] 32 (0, 0))) _ from swarfref41_Same.calls 60 A2 c2 [rapid_, feed_, feed_, end_] (some ⟨w14.heap.size, 0, none⟩) 4 [rapid_, feed_, feed_, end_] true _ (Kd.C_alloc HS2.out.2.2 _) HS2.out.2.1 (C_blocks [(rapid_, some ⟨a1, 0, none⟩, 2), (feed_, some ⟨a2, 0, none⟩, 2), (feed_, some ⟨a2, 0, none⟩, 2), (end_, some ⟨a3, 0, none⟩, 1)] (show (w14.alloc (.cells #[.bool false, .slice (some ⟨a1, 0, none⟩) 2 2, .string ⟨#[]⟩, .bool false, .slice (some ⟨a2, 0, none⟩) 2 2, .string ⟨#[]⟩, .bool false, .slice (some ⟨a2, 0, none⟩) 2 2, .string ⟨#[]⟩, .bool false, .slice (some ⟨a3, 0, none⟩) 1 1, .string ⟨#[]⟩] 32 (0, 0))).heap[w14.heap.size]? = some (.cells (encB [(rapid_, some ⟨a1, 0, none⟩, 2), (feed_, some ⟨a2, 0, none⟩, 2), (feed_, some ⟨a2, 0, none⟩, 2), (end_, some ⟨a3, 0, none⟩, 1)]).toArray 32 (0, 0)) from alloc_at w14 _) (by simp) (fun x hx => by simp only [List.mem_cons, List.not_mem_nil, or_false] at hx; rcases hx with rfl | rfl | rfl | rfl; exact ⟨Ca1.out.1, Kd.C_below Ca1.out.2 (below_alloc HB14.out _)⟩; exact ⟨Ca2.out.1, Kd.C_below Ca2.out.2 (below_alloc HB14.out _)⟩; exact ⟨Ca2.out.1, Kd.C_below Ca2.out.2 (below_alloc HB14.out _)⟩; exact ⟨Ca3.out.1, Kd.C_below Ca3.out.2 (below_alloc HB14.out _)⟩)) (Nat.le_refl 4) same_ex)) | (go_at_call 19; refine SAMEC.out.mono ?_; rintro e_ w15 ⟨rfl, hb⟩; have HB7 := Aside0.mk (below_then (below_alloc (Below.refl _ _) _) (below_alloc (Below.refl _ _) _).size hb); have HB15 := Aside0.mk (below_then HB14.out HB14.out.size HB7.out); have BK6' := Aside0.mk (blk_below BK6.out HB7.out); have HN0'' := Aside0.mk (Kd.N_below HN0'.out HB7.out); have HN1'' := Aside0.mk (Kd.N_below HN1'.out HB7.out); have BK8'' := Aside0.mk (blk_below BK8'.out HB7.out); clear hb BK6 HN0' HN1' BK8' HB7 SAMEC))
  generalize w13.heap.size = b6 at BK6' ⊢
  clear HL12 HB12' SPL HVl HS2
  refine start_ (n := 10) (S := fun w' => w'.cell? ⟨b6, 1, none⟩ = some (.slice (some ⟨g8, 0, none⟩) 1 c8)) (ds := []) #[false, false, false, false, false, false, false, false, false, false] (by kernel_rfl) rfl rfl ((blk_cell (show w15.drew.heap[b6]? = _ from BK6'.out) 1).trans rfl) (fun hHeld => ?_)
  have hb_ := below_drew1 (Below.refl w15.heap.size w15)
  have HB_16 := Aside0.mk (below_then HB15.out HB15.out.size hb_)
  have BKP_16 := Aside0.mk (blk_below BK6'.out hb_)
  have HN0_16 := Aside0.mk (Kd.N_below HN0''.out hb_)
  have HN1_16 := Aside0.mk (Kd.N_below HN1''.out hb_)
  have BK8_16 := Aside0.mk (blk_below BK8''.out hb_)
  clear HB15 BK6' HN0'' HN1'' BK8''
  clear hb_
  generalize w15.drew = W16 at * 
  refine pure_ (i := 0) (N := some 74) (v := ?_) (a' := ?_) #[true, false, false, false, false, false, false, false, false, false] rfl rfl (by kernel_rfl) (fun _ _ _ h => h) (Or.inl ⟨by rfl, ?_⟩) ?_ ?_
  rotate_left
  · intro w'
    go_simp
    with_reducible rfl
  rotate_left
  · simp only [Act.put, List.setIfInBounds_toArray, List.set_cons_zero, List.set_cons_succ, i64_w, i32_w]
    rfl
  refine take_ (i := 1) (N := some 75) (v := ?_) (a' := ?_) #[true, true, false, false, false, false, false, false, false, false] rfl rfl (by kernel_rfl) (fun _ _ _ h => h) (Or.inl ⟨by rfl, ?_⟩) hHeld ?_ ?_
  rotate_left
  · intro w' hS
    go_simp
    with_reducible rfl
  rotate_left
  · simp only [Act.put, List.setIfInBounds_toArray, List.set_cons_zero, List.set_cons_succ, i64_w, i32_w]
    rfl
  refine one_ (i := 2) (N := some 76) #[true, true, true, false, false, false, false, false, false, false] rfl rfl (by kernel_rfl) (by decide) (fun K hK => ?_)
  refine goes_ Try.func44 (by kernel_rfl) rfl #[.int .u8 77, .int .i64 98] (by rfl) rfl rfl (by (try simp only [List.map_toArray, List.map_cons, List.map_nil]); first | done | rfl) ?_
  refine (word_any 77 98 98000 (by kernel_rfl) _).mono ?_
  rintro e_ W17 ⟨rfl, hb_⟩
  refine ⟨_, rfl, ?_⟩
  clear hHeld
  have HB_17 := Aside0.mk (below_then HB_16.out HB_16.out.size hb_)
  have BKP_17 := Aside0.mk (blk_below BKP_16.out hb_)
  have HN0_17 := Aside0.mk (Kd.N_below HN0_16.out hb_)
  have HN1_17 := Aside0.mk (Kd.N_below HN1_16.out hb_)
  have BK8_17 := Aside0.mk (blk_below BK8_16.out hb_)
  clear HB_16 BKP_16 HN0_16 HN1_16 BK8_16
  clear hb_
  refine hK.out _ _ ((blk_cell BKP_17.out 1).trans rfl) (fun hHeld => ?_)
  clear hK K
  refine norm_ (a' := ?_) ?_ ?_
  rotate_left
  · show Act.put _ (some 76) _ = _
    simp only [Act.put, List.setIfInBounds_toArray, List.set_cons_zero, List.set_cons_succ, i64_w, i32_w]
    rfl
  refine one_ (i := 3) (N := some 77) #[true, true, true, true, false, false, false, false, false, false] rfl rfl (by kernel_rfl) (by decide) (fun K hK => ?_)
  refine goes_ Try.func44 (by kernel_rfl) rfl #[.int .u8 80, .int .i64 5] (by rfl) rfl rfl (by (try simp only [List.map_toArray, List.map_cons, List.map_nil]); first | done | rfl) ?_
  refine (word_any 80 5 5000 (by kernel_rfl) _).mono ?_
  rintro e_ W18 ⟨rfl, hb_⟩
  refine ⟨_, rfl, ?_⟩
  clear hHeld
  have HB_18 := Aside0.mk (below_then HB_17.out HB_17.out.size hb_)
  have BKP_18 := Aside0.mk (blk_below BKP_17.out hb_)
  have HN0_18 := Aside0.mk (Kd.N_below HN0_17.out hb_)
  have HN1_18 := Aside0.mk (Kd.N_below HN1_17.out hb_)
  have BK8_18 := Aside0.mk (blk_below BK8_17.out hb_)
  clear HB_17 BKP_17 HN0_17 HN1_17 BK8_17
  clear hb_
  refine hK.out _ _ ((blk_cell BKP_18.out 1).trans rfl) (fun hHeld => ?_)
  clear hK K
  refine norm_ (a' := ?_) ?_ ?_
  rotate_left
  · show Act.put _ (some 77) _ = _
    simp only [Act.put, List.setIfInBounds_toArray, List.set_cons_zero, List.set_cons_succ, i64_w, i32_w]
    rfl
  refine one_ (i := 4) (N := some 78) #[true, true, true, true, true, false, false, false, false, false] rfl rfl (by kernel_rfl) (by decide) (fun K hK => ?_)
  refine lit_step (v := .slice (some ⟨W18.heap.size, 0, none⟩) 2 2) (w' := W18.alloc (.cells #[.int .u8 77, .int .i64 98000, .int .u8 80, .int .i64 5000] 78 (0, 0))) (by rfl) rfl (by first | (go_simp; done) | (go_simp; rfl)) ?_
  clear hHeld
  have hb_ := below_alloc (Below.refl W18.heap.size W18) (.cells #[.int .u8 77, .int .i64 98000, .int .u8 80, .int .i64 5000] 78 (0, 0))
  have Ka7_19 := Aside0.mk (alloc_at W18 (.cells #[.int .u8 77, .int .i64 98000, .int .u8 80, .int .i64 5000] 78 (0, 0)))
  have HB_19 := Aside0.mk (below_then HB_18.out HB_18.out.size hb_)
  have BKP_19 := Aside0.mk (blk_below BKP_18.out hb_)
  have HN0_19 := Aside0.mk (Kd.N_below HN0_18.out hb_)
  have HN1_19 := Aside0.mk (Kd.N_below HN1_18.out hb_)
  have BK8_19 := Aside0.mk (blk_below BK8_18.out hb_)
  clear HB_18 BKP_18 HN0_18 HN1_18 BK8_18
  clear hb_
  generalize W18.alloc (.cells #[.int .u8 77, .int .i64 98000, .int .u8 80, .int .i64 5000] 78 (0, 0)) = W19 at * 
  generalize W18.heap.size = a7 at * 
  refine hK.out _ _ ((blk_cell BKP_19.out 1).trans rfl) (fun hHeld => ?_)
  clear hK K
  refine norm_ (a' := ?_) ?_ ?_
  rotate_left
  · show Act.put _ (some 78) _ = _
    simp only [Act.put, List.setIfInBounds_toArray, List.set_cons_zero, List.set_cons_succ, i64_w, i32_w]
    rfl
  refine one_ (i := 5) (N := some 79) #[true, true, true, true, true, true, false, false, false, false] rfl rfl (by kernel_rfl) (by decide) (fun K hK => ?_)
  refine goes_ Try.func43 (by kernel_rfl) rfl #[.slice (some ⟨a7, 0, none⟩) 2 2] (by rfl) rfl rfl (by (try simp only [List.map_toArray, List.map_cons, List.map_nil]); first | done | rfl) ?_
  refine (words_any _ _ _ _).mono ?_
  rintro e_ W20 ⟨rfl, hb_⟩
  refine ⟨_, rfl, ?_⟩
  clear hHeld
  have HB_20 := Aside0.mk (below_then HB_19.out HB_19.out.size hb_)
  have BKP_20 := Aside0.mk (blk_below BKP_19.out hb_)
  have HN0_20 := Aside0.mk (Kd.N_below HN0_19.out hb_)
  have HN1_20 := Aside0.mk (Kd.N_below HN1_19.out hb_)
  have BK8_20 := Aside0.mk (blk_below BK8_19.out hb_)
  have Ka7_20 := Aside0.mk (blk_below Ka7_19.out hb_)
  clear HB_19 BKP_19 HN0_19 HN1_19 BK8_19 Ka7_19
  clear hb_
  refine hK.out _ _ ((blk_cell BKP_20.out 1).trans rfl) (fun hHeld => ?_)
  clear hK K
  refine norm_ (a' := ?_) ?_ ?_
  rotate_left
  · show Act.put _ (some 79) _ = _
    simp only [Act.put, List.setIfInBounds_toArray, List.set_cons_zero, List.set_cons_succ, i64_w, i32_w]
    rfl
  refine one_ (i := 6) (N := some 80) #[true, true, true, true, true, true, true, false, false, false] rfl rfl (by kernel_rfl) (by decide) (fun K hK => ?_)
  refine lit_step (v := .slice (some ⟨W20.heap.size, 0, none⟩) 1 1) (w' := W20.alloc (.cells #[.bool false, .slice (some ⟨a7, 0, none⟩) 2 2, .string ⟨#[]⟩] 32 (0, 0))) (by rfl) rfl (by first | (go_simp; done) | (go_simp; rfl)) ?_
  clear hHeld
  have hb_ := below_alloc (Below.refl W20.heap.size W20) (.cells #[.bool false, .slice (some ⟨a7, 0, none⟩) 2 2, .string ⟨#[]⟩] 32 (0, 0))
  have Ka8_21 := Aside0.mk (alloc_at W20 (.cells #[.bool false, .slice (some ⟨a7, 0, none⟩) 2 2, .string ⟨#[]⟩] 32 (0, 0)))
  have HB_21 := Aside0.mk (below_then HB_20.out HB_20.out.size hb_)
  have BKP_21 := Aside0.mk (blk_below BKP_20.out hb_)
  have HN0_21 := Aside0.mk (Kd.N_below HN0_20.out hb_)
  have HN1_21 := Aside0.mk (Kd.N_below HN1_20.out hb_)
  have BK8_21 := Aside0.mk (blk_below BK8_20.out hb_)
  have Ka7_21 := Aside0.mk (blk_below Ka7_20.out hb_)
  clear HB_20 BKP_20 HN0_20 HN1_20 BK8_20 Ka7_20
  clear hb_
  generalize W20.alloc (.cells #[.bool false, .slice (some ⟨a7, 0, none⟩) 2 2, .string ⟨#[]⟩] 32 (0, 0)) = W21 at * 
  generalize W20.heap.size = a8 at * 
  refine hK.out _ _ ((blk_cell BKP_21.out 1).trans rfl) (fun hHeld => ?_)
  clear hK K
  refine norm_ (a' := ?_) ?_ ?_
  rotate_left
  · show Act.put _ (some 80) _ = _
    simp only [Act.put, List.setIfInBounds_toArray, List.set_cons_zero, List.set_cons_succ, i64_w, i32_w]
    rfl
  refine pure_ (i := 7) (N := some 81) (v := ?_) (a' := ?_) #[true, true, true, true, true, true, true, true, false, false] rfl rfl (by kernel_rfl) (fun _ _ _ h => h) (Or.inl ⟨by rfl, ?_⟩) ?_ ?_
  rotate_left
  · intro w'
    go_simp
    with_reducible rfl
  rotate_left
  · simp only [Act.put, List.setIfInBounds_toArray, List.set_cons_zero, List.set_cons_succ, i64_w, i32_w]
    rfl
  refine pure_ (i := 8) (N := some 82) (v := ?_) (a' := ?_) #[true, true, true, true, true, true, true, true, true, false] rfl rfl (by kernel_rfl) (fun _ _ _ h => h) (Or.inl ⟨by rfl, ?_⟩) ?_ ?_
  rotate_left
  · intro w'
    go_simp
    with_reducible rfl
  rotate_left
  · simp only [Act.put, List.setIfInBounds_toArray, List.set_cons_zero, List.set_cons_succ, i64_w, i32_w]
    rfl
  obtain ⟨ad8, A8, c8', e8, hx8_, hy8_, hl8, hk8⟩ := at_T81 (Kd.N_reads' HN1_21.out).2.2 0 (by decide) (by decide)
  injection e8 with e8
  subst e8
  have hx8 : W21.cell? ⟨g8, 0, none⟩ = some (.int .i64 5) := hx8_
  have hy8 : W21.cell? ⟨g8, 1, none⟩ = some (.slice A8 1 c8') := hy8_
  clear hx8_ hy8_
  have hf8 := blk_frozen BK8_21.out 1
  refine one_ (i := 9) (N := none) #[true, true, true, true, true, true, true, true, true, true] rfl rfl (by kernel_rfl) (by decide) (fun K hK => ?_)
  refine store_step_ (w' := W21.setCell ⟨g8, 1, none⟩ (.slice (some ⟨a8, 0, none⟩) 1 1)) (by rfl) rfl (by first | (go_simp; done) | (go_simp; rfl)) ?_
  clear hHeld
  have HBs := Aside0.mk (show Below W12.heap.size W12 (W21.setCell ⟨g8, 1, none⟩ (.slice (some ⟨a8, 0, none⟩) 1 1)) from below_set HB_21.out GE8.out)
  have BKPs := Aside0.mk (blk_far (p := ⟨g8, 1, none⟩) BKP_21.out (fun e_ => by subst e_; have h_ := BKP_21.out.symm.trans BK8_21.out; injection h_ with h_; injection h_ with _ h2_ _; exact absurd h2_ (by decide)) (.slice (some ⟨a8, 0, none⟩) 1 1))
  have Ka7s := Aside0.mk (blk_far (p := ⟨g8, 1, none⟩) Ka7_21.out (fun e_ => by subst e_; have h_ := Ka7_21.out.symm.trans BK8_21.out; injection h_ with h_; injection h_ with _ h2_ _; exact absurd h2_ (by decide)) (.slice (some ⟨a8, 0, none⟩) 1 1))
  have Ka8s := Aside0.mk (blk_far (p := ⟨g8, 1, none⟩) Ka8_21.out (fun e_ => by subst e_; have h_ := Ka8_21.out.symm.trans BK8_21.out; injection h_ with h_; injection h_ with _ h2_ _; exact absurd h2_ (by decide)) (.slice (some ⟨a8, 0, none⟩) 1 1))
  have HN0s := Aside0.mk (Kd.N_far (p := ⟨g8, 1, none⟩) HN0_21.out (fun k_ hk_ e_ => hk_.2 (by rw [e_]; rfl)) (.slice (some ⟨a8, 0, none⟩) 1 1))
  have hs0 : (W21.setCell ⟨g8, 1, none⟩ (.slice (some ⟨a8, 0, none⟩) 1 1)).cell? ⟨g8, 0, none⟩ = some (.int .i64 5) := by
    have h1 := (blk_cell BK8_21.out 0).symm.trans hx8
    refine (blk_cell (blk_put BK8_21.out 1 _ rfl) 0).trans ?_
    simpa using h1
  have hs1 : (W21.setCell ⟨g8, 1, none⟩ (.slice (some ⟨a8, 0, none⟩) 1 1)).cell? ⟨g8, 1, none⟩ = some (.slice (some ⟨a8, 0, none⟩) 1 1) := by
    have h1 := (blk_cell BK8_21.out 1).symm.trans hy8
    refine (blk_cell (blk_put BK8_21.out 1 _ rfl) 1).trans ?_
    have h2 := (Array.getElem?_eq_some_iff.1 h1).1
    simp [h2]
  generalize W21.setCell ⟨g8, 1, none⟩ (.slice (some ⟨a8, 0, none⟩) 1 1) = W22 at *
  have CS := Aside0.mk (C_sub1 (l := [call5_]) hs0 hs1 (Nat.le_refl 1) (C_blocks [(call5_, some ⟨a7, 0, none⟩, 2)] Ka8s.out (by simp) (fun x hx => by simp only [List.mem_cons, List.not_mem_nil, or_false] at hx; rcases hx with rfl; exact ⟨Nat.le_refl 2, C_words [aw 77 98000, aw 80 5000] Ka7s.out (by decide)⟩)))
  clear hx8 hy8 hl8 hk8 hf8 hs0 hs1 HB_21 BKP_21 HN0_21 HN1_21 BK8_21 Ka7_21 Ka8_21
  refine hK.out _ _ ((blk_cell BKPs.out 1).trans rfl) (fun hHeld => ?_)
  clear hK K
  refine norm_ (a' := ?_) ?_ ?_
  rotate_left
  · show Act.put _ none _ = _
    rfl
  refine done_ (by kernel_rfl) ?_
  clear hHeld
  have hz6_0 : W22.cell? ⟨b6, 0, none⟩ = some (.slice A0 3 c0) := (blk_cell BKPs.out 0).trans rfl
  have hz6_1 : W22.cell? ⟨b6, 1, none⟩ = some (.slice (some ⟨g8, 0, none⟩) 1 c8) := (blk_cell BKPs.out 1).trans rfl
  go_wp2_with (fail)
  clear hz6_0 hz6_1
  refine (show Calls Try.prog 28 #[.agg #[.slice A0 3 c0, .slice (some ⟨g8, 0, none⟩) 1 c8]] W22 _ from subprogram_Expand.calls 60 A0 c0 [rapid_, call_, end_] (some ⟨g8, 0, none⟩) c8 [⟨5, [call5_]⟩] [] 12 W22 (Kd.N_reads' HN0s.out).2.2 (Kd.N_reads' HN0s.out).2.1 CS.out C8LE.out expand_ex2).mono ?_
  rintro e_ W23 ⟨v3, rfl, hs3, hb_⟩
  obtain ⟨A3, c3, rfl⟩ := Kd.R_slice (Kd.S_R hs3)
  have HB23 := Aside0.mk (below_then HBs.out HBs.out.size hb_)
  clear hs3 hb_ HN0s CS HBs BKPs Ka7s Ka8s
  have yb10 : W23.cell? ⟨b1, 0, none⟩ = some (.bool false) := (blk_cell (blk_below Kb1.out HB23.out) 0).trans rfl
  have yb11 : W23.cell? ⟨b1, 1, none⟩ = some (.slice (some ⟨a1, 0, none⟩) 2 2) := (blk_cell (blk_below Kb1.out HB23.out) 1).trans rfl
  have yb12 : W23.cell? ⟨b1, 2, none⟩ = some (.string ⟨#[]⟩) := (blk_cell (blk_below Kb1.out HB23.out) 2).trans rfl
  have yb20 : W23.cell? ⟨b2, 0, none⟩ = some (.bool false) := (blk_cell (blk_below Kb2.out HB23.out) 0).trans rfl
  have yb21 : W23.cell? ⟨b2, 1, none⟩ = some (.slice (some ⟨a2, 0, none⟩) 2 2) := (blk_cell (blk_below Kb2.out HB23.out) 1).trans rfl
  have yb22 : W23.cell? ⟨b2, 2, none⟩ = some (.string ⟨#[]⟩) := (blk_cell (blk_below Kb2.out HB23.out) 2).trans rfl
  have yb30 : W23.cell? ⟨b3, 0, none⟩ = some (.bool false) := (blk_cell (blk_below Kb3.out HB23.out) 0).trans rfl
  have yb31 : W23.cell? ⟨b3, 1, none⟩ = some (.slice (some ⟨a3, 0, none⟩) 1 1) := (blk_cell (blk_below Kb3.out HB23.out) 1).trans rfl
  have yb32 : W23.cell? ⟨b3, 2, none⟩ = some (.string ⟨#[]⟩) := (blk_cell (blk_below Kb3.out HB23.out) 2).trans rfl
  have yb40 : W23.cell? ⟨b4, 0, none⟩ = some (.bool false) := (blk_cell (blk_below Kb4.out HB23.out) 0).trans rfl
  have yb41 : W23.cell? ⟨b4, 1, none⟩ = some (.slice (some ⟨a4, 0, none⟩) 3 3) := (blk_cell (blk_below Kb4.out HB23.out) 1).trans rfl
  have yb42 : W23.cell? ⟨b4, 2, none⟩ = some (.string ⟨#[]⟩) := (blk_cell (blk_below Kb4.out HB23.out) 2).trans rfl
  go_wp2_with (fail)
  clear yb10 yb11 yb12 yb20 yb21 yb22 yb30 yb31 yb32 yb40 yb41 yb42
  refine (show Calls Try.prog 32 #[.slice (some ⟨W23.heap.size, 0, none⟩) 6 6, .int .i64 7, .int .i64 2] (W23.alloc (.cells #[.bool false, .slice (some ⟨a1, 0, none⟩) 2 2, .string ⟨#[]⟩, .bool false, .slice (some ⟨a2, 0, none⟩) 2 2, .string ⟨#[]⟩, .bool false, .slice (some ⟨a4, 0, none⟩) 3 3, .string ⟨#[]⟩, .bool false, .slice (some ⟨a1, 0, none⟩) 2 2, .string ⟨#[]⟩, .bool false, .slice (some ⟨a2, 0, none⟩) 2 2, .string ⟨#[]⟩, .bool false, .slice (some ⟨a3, 0, none⟩) 1 1, .string ⟨#[]⟩] 32 (0, 0))) _ from subprogram_Fold.calls 60 (fun k_ => k_ < (W23.alloc (.cells #[.bool false, .slice (some ⟨a1, 0, none⟩) 2 2, .string ⟨#[]⟩, .bool false, .slice (some ⟨a2, 0, none⟩) 2 2, .string ⟨#[]⟩, .bool false, .slice (some ⟨a4, 0, none⟩) 3 3, .string ⟨#[]⟩, .bool false, .slice (some ⟨a1, 0, none⟩) 2 2, .string ⟨#[]⟩, .bool false, .slice (some ⟨a2, 0, none⟩) 2 2, .string ⟨#[]⟩, .bool false, .slice (some ⟨a3, 0, none⟩) 1 1, .string ⟨#[]⟩] 32 (0, 0))).heap.size) (some ⟨W23.heap.size, 0, none⟩) 6 [rapid_, feed_, call_, rapid_, feed_, end_] 7 2 [again_, call_, again_, end_] [⟨7, [rapid_, feed_]⟩] 0 (W23.alloc (.cells #[.bool false, .slice (some ⟨a1, 0, none⟩) 2 2, .string ⟨#[]⟩, .bool false, .slice (some ⟨a2, 0, none⟩) 2 2, .string ⟨#[]⟩, .bool false, .slice (some ⟨a4, 0, none⟩) 3 3, .string ⟨#[]⟩, .bool false, .slice (some ⟨a1, 0, none⟩) 2 2, .string ⟨#[]⟩, .bool false, .slice (some ⟨a2, 0, none⟩) 2 2, .string ⟨#[]⟩, .bool false, .slice (some ⟨a3, 0, none⟩) 1 1, .string ⟨#[]⟩] 32 (0, 0))) (Kd.V_mk (Nat.le_refl 6) (Kd.C_F k32_heap (C_blocks [(rapid_, some ⟨a1, 0, none⟩, 2), (feed_, some ⟨a2, 0, none⟩, 2), (call_, some ⟨a4, 0, none⟩, 3), (rapid_, some ⟨a1, 0, none⟩, 2), (feed_, some ⟨a2, 0, none⟩, 2), (end_, some ⟨a3, 0, none⟩, 1)] (show (W23.alloc (.cells #[.bool false, .slice (some ⟨a1, 0, none⟩) 2 2, .string ⟨#[]⟩, .bool false, .slice (some ⟨a2, 0, none⟩) 2 2, .string ⟨#[]⟩, .bool false, .slice (some ⟨a4, 0, none⟩) 3 3, .string ⟨#[]⟩, .bool false, .slice (some ⟨a1, 0, none⟩) 2 2, .string ⟨#[]⟩, .bool false, .slice (some ⟨a2, 0, none⟩) 2 2, .string ⟨#[]⟩, .bool false, .slice (some ⟨a3, 0, none⟩) 1 1, .string ⟨#[]⟩] 32 (0, 0))).heap[W23.heap.size]? = some (.cells (encB [(rapid_, some ⟨a1, 0, none⟩, 2), (feed_, some ⟨a2, 0, none⟩, 2), (call_, some ⟨a4, 0, none⟩, 3), (rapid_, some ⟨a1, 0, none⟩, 2), (feed_, some ⟨a2, 0, none⟩, 2), (end_, some ⟨a3, 0, none⟩, 1)]).toArray 32 (0, 0)) from alloc_at W23 _) (by simp) (fun x hx => by simp only [List.mem_cons, List.not_mem_nil, or_false] at hx; rcases hx with rfl | rfl | rfl | rfl | rfl | rfl; exact ⟨Ca1.out.1, Kd.C_below Ca1.out.2 (below_alloc HB23.out _)⟩; exact ⟨Ca2.out.1, Kd.C_below Ca2.out.2 (below_alloc HB23.out _)⟩; exact ⟨Ca4.out.1, Kd.C_below Ca4.out.2 (below_alloc HB23.out _)⟩; exact ⟨Ca1.out.1, Kd.C_below Ca1.out.2 (below_alloc HB23.out _)⟩; exact ⟨Ca2.out.1, Kd.C_below Ca2.out.2 (below_alloc HB23.out _)⟩; exact ⟨Ca3.out.1, Kd.C_below Ca3.out.2 (below_alloc HB23.out _)⟩)))) fold_ex).mono ?_
  rintro e_ W24 ⟨v4, v5, rfl, hn4, hn5, hb_⟩
  obtain ⟨A4, c4, rfl⟩ := Kd.N_slice hn4
  obtain ⟨g5, c5, e5_, _, _, _, _⟩ := Kd.N_form hn5 (by decide)
  obtain rfl := e5_
  have HN4 := Aside0.mk hn4
  have HN5 := Aside0.mk hn5
  have HB24 := Aside0.mk (below_then (below_alloc HB23.out _) (below_alloc HB23.out _).size hb_)
  clear hn4 hn5 hb_ HB23
  go_wp2_with (fail)
  have HBx := HB24
  clear HB24
  refine (word_any 77 98 98000 (by kernel_rfl) _).mono ?_
  rintro e_ W25 ⟨rfl, hb_⟩
  have B12 := Aside0.mk (blk_below (alloc_at W24 _) hb_)
  have hb2_ := below_then (below_alloc (Below.refl W24.heap.size W24) _) (below_alloc (Below.refl W24.heap.size W24) _).size hb_
  have HBx' := Aside0.mk (below_then HBx.out HBx.out.size hb2_)
  have HN4' := Aside0.mk (Kd.N_below HN4.out hb2_)
  have HN5' := Aside0.mk (Kd.N_below HN5.out hb2_)
  clear HBx HN4 HN5
  have HBx := HBx'
  have HN4 := HN4'
  have HN5 := HN5'
  clear HBx' HN4' HN5'
  clear hb_ hb2_
  generalize W24.heap.size = b12 at *
  go_wp2_with (fail)
  refine (word_any 80 7 7000 (by kernel_rfl) _).mono ?_
  rintro e_ W26 ⟨rfl, hb_⟩
  have hb2_ := hb_
  have HBx' := Aside0.mk (below_then HBx.out HBx.out.size hb2_)
  have HN4' := Aside0.mk (Kd.N_below HN4.out hb2_)
  have HN5' := Aside0.mk (Kd.N_below HN5.out hb2_)
  have B12' := Aside0.mk (blk_below B12.out hb2_)
  clear HBx HN4 HN5 B12
  have HBx := HBx'
  have HN4 := HN4'
  have HN5 := HN5'
  have B12 := B12'
  clear HBx' HN4' HN5' B12'
  clear hb_ hb2_
  go_wp2_with (fail)
  refine (words_any _ _ _ _).mono ?_
  rintro e_ W27 ⟨rfl, hb_⟩
  have B9 := Aside0.mk (blk_below (alloc_at W26 _) hb_)
  have hb2_ := below_then (below_alloc (Below.refl W26.heap.size W26) _) (below_alloc (Below.refl W26.heap.size W26) _).size hb_
  have HBx' := Aside0.mk (below_then HBx.out HBx.out.size hb2_)
  have HN4' := Aside0.mk (Kd.N_below HN4.out hb2_)
  have HN5' := Aside0.mk (Kd.N_below HN5.out hb2_)
  have B12' := Aside0.mk (blk_below B12.out hb2_)
  clear HBx HN4 HN5 B12
  have HBx := HBx'
  have HN4 := HN4'
  have HN5 := HN5'
  have B12 := B12'
  clear HBx' HN4' HN5' B12'
  clear hb_ hb2_
  generalize W26.heap.size = a9 at *
  have hw0 : (W27.alloc (.cells #[.bool false, .slice (some ⟨a9, 0, none⟩) 2 2, .string ⟨#[]⟩] 32 (0, 0))).cell? ⟨b12, 0, none⟩ = some (.slice A4 4 c4) := (blk_cell (blk_alloc B12.out _) 0).trans rfl
  have hw1 : (W27.alloc (.cells #[.bool false, .slice (some ⟨a9, 0, none⟩) 2 2, .string ⟨#[]⟩] 32 (0, 0))).cell? ⟨b12, 1, none⟩ = some (.slice (some ⟨g5, 0, none⟩) 1 c5) := (blk_cell (blk_alloc B12.out _) 1).trans rfl
  obtain ⟨ad5, A9, c9, e5, hx5_, hy5_, hl5, hk5⟩ := at_T81 (Kd.C_alloc (Kd.N_reads' HN5.out).2.2 (.cells #[.bool false, .slice (some ⟨a9, 0, none⟩) 2 2, .string ⟨#[]⟩] 32 (0, 0))) 0 (by decide) (by decide)
  injection e5 with e5
  subst e5
  have hx5 : (W27.alloc (.cells #[.bool false, .slice (some ⟨a9, 0, none⟩) 2 2, .string ⟨#[]⟩] 32 (0, 0))).cell? ⟨g5, 0, none⟩ = some (.int .i64 7) := hx5_
  clear hx5_ hy5_ hl5 hk5
  have zb30 : (W27.alloc (.cells #[.bool false, .slice (some ⟨a9, 0, none⟩) 2 2, .string ⟨#[]⟩] 32 (0, 0))).cell? ⟨b3, 0, none⟩ = some (.bool false) := (blk_cell (blk_below Kb3.out (below_alloc HBx.out _)) 0).trans rfl
  have zb31 : (W27.alloc (.cells #[.bool false, .slice (some ⟨a9, 0, none⟩) 2 2, .string ⟨#[]⟩] 32 (0, 0))).cell? ⟨b3, 1, none⟩ = some (.slice (some ⟨a3, 0, none⟩) 1 1) := (blk_cell (blk_below Kb3.out (below_alloc HBx.out _)) 1).trans rfl
  have zb32 : (W27.alloc (.cells #[.bool false, .slice (some ⟨a9, 0, none⟩) 2 2, .string ⟨#[]⟩] 32 (0, 0))).cell? ⟨b3, 2, none⟩ = some (.string ⟨#[]⟩) := (blk_cell (blk_below Kb3.out (below_alloc HBx.out _)) 2).trans rfl
  have zb40 : (W27.alloc (.cells #[.bool false, .slice (some ⟨a9, 0, none⟩) 2 2, .string ⟨#[]⟩] 32 (0, 0))).cell? ⟨b4, 0, none⟩ = some (.bool false) := (blk_cell (blk_below Kb4.out (below_alloc HBx.out _)) 0).trans rfl
  have zb41 : (W27.alloc (.cells #[.bool false, .slice (some ⟨a9, 0, none⟩) 2 2, .string ⟨#[]⟩] 32 (0, 0))).cell? ⟨b4, 1, none⟩ = some (.slice (some ⟨a4, 0, none⟩) 3 3) := (blk_cell (blk_below Kb4.out (below_alloc HBx.out _)) 1).trans rfl
  have zb42 : (W27.alloc (.cells #[.bool false, .slice (some ⟨a9, 0, none⟩) 2 2, .string ⟨#[]⟩] 32 (0, 0))).cell? ⟨b4, 2, none⟩ = some (.string ⟨#[]⟩) := (blk_cell (blk_below Kb4.out (below_alloc HBx.out _)) 2).trans rfl
  go_wp2_with (fail)
  clear hw0 hw1 hx5 zb30 zb31 zb32 zb40 zb41 zb42
  have Ca9 := Aside0.mk (show 2 ≤ 2 ∧ Kd.C k78 W27 (some ⟨a9, 0, none⟩) 2 again_.f1 from ⟨Nat.le_refl _, C_words [aw 77 98000, aw 80 7000] B9.out (by decide)⟩)
  refine (show Calls Try.prog 19 #[.slice A4 4 c4, .slice (some ⟨W27.heap.size + 1, 0, none⟩) 4 4] ((W27.alloc (.cells #[.bool false, .slice (some ⟨a9, 0, none⟩) 2 2, .string ⟨#[]⟩] 32 (0, 0))).alloc (.cells #[.bool false, .slice (some ⟨a9, 0, none⟩) 2 2, .string ⟨#[]⟩, .bool false, .slice (some ⟨a4, 0, none⟩) 3 3, .string ⟨#[]⟩, .bool false, .slice (some ⟨a9, 0, none⟩) 2 2, .string ⟨#[]⟩, .bool false, .slice (some ⟨a3, 0, none⟩) 1 1, .string ⟨#[]⟩] 32 (0, 0))) _ from swarfref41_Same.calls 60 A4 c4 [again_, call_, again_, end_] (some ⟨W27.heap.size + 1, 0, none⟩) 4 [again_, call_, again_, end_] true _ (Kd.C_alloc (Kd.C_alloc (Kd.N_reads' HN4.out).2.2 _) _) (Kd.N_reads' HN4.out).2.1 (C_blocks [(again_, some ⟨a9, 0, none⟩, 2), (call_, some ⟨a4, 0, none⟩, 3), (again_, some ⟨a9, 0, none⟩, 2), (end_, some ⟨a3, 0, none⟩, 1)] (show ((W27.alloc (.cells #[.bool false, .slice (some ⟨a9, 0, none⟩) 2 2, .string ⟨#[]⟩] 32 (0, 0))).alloc (.cells #[.bool false, .slice (some ⟨a9, 0, none⟩) 2 2, .string ⟨#[]⟩, .bool false, .slice (some ⟨a4, 0, none⟩) 3 3, .string ⟨#[]⟩, .bool false, .slice (some ⟨a9, 0, none⟩) 2 2, .string ⟨#[]⟩, .bool false, .slice (some ⟨a3, 0, none⟩) 1 1, .string ⟨#[]⟩] 32 (0, 0))).heap[W27.heap.size + 1]? = some (.cells (encB [(again_, some ⟨a9, 0, none⟩, 2), (call_, some ⟨a4, 0, none⟩, 3), (again_, some ⟨a9, 0, none⟩, 2), (end_, some ⟨a3, 0, none⟩, 1)]).toArray 32 (0, 0)) from by rw [← size_alloc W27 (.cells #[.bool false, .slice (some ⟨a9, 0, none⟩) 2 2, .string ⟨#[]⟩] 32 (0, 0))]; exact alloc_at _ _) (by simp) (fun x hx => by simp only [List.mem_cons, List.not_mem_nil, or_false] at hx; rcases hx with rfl | rfl | rfl | rfl; exact ⟨Ca9.out.1, Kd.C_below Ca9.out.2 (below_alloc (below_alloc (Below.refl _ _) _) _)⟩; exact ⟨Ca4.out.1, Kd.C_below Ca4.out.2 (below_alloc (below_alloc HBx.out _) _)⟩; exact ⟨Ca9.out.1, Kd.C_below Ca9.out.2 (below_alloc (below_alloc (Below.refl _ _) _) _)⟩; exact ⟨Ca3.out.1, Kd.C_below Ca3.out.2 (below_alloc (below_alloc HBx.out _) _)⟩)) (Nat.le_refl 4) same_ex2).mono ?_
  rintro e_ W29 ⟨rfl, hb_⟩
  have hb2_ := below_then (below_alloc (below_alloc (Below.refl W27.heap.size W27) _) _) (below_alloc (below_alloc (Below.refl W27.heap.size W27) _) _).size hb_
  have HBy := Aside0.mk (below_then HBx.out HBx.out.size hb2_)
  have HN5' := Aside0.mk (Kd.N_below HN5.out hb2_)
  have B12' := Aside0.mk (blk_below B12.out hb2_)
  clear hb_ hb2_ HBx HN5 B12 HN4 B9 Ca9
  have HN5 := HN5'
  have B12 := B12'
  clear HN5' B12'
  have hw0 : W29.cell? ⟨b12, 0, none⟩ = some (.slice A4 4 c4) := (blk_cell B12.out 0).trans rfl
  have hw1 : W29.cell? ⟨b12, 1, none⟩ = some (.slice (some ⟨g5, 0, none⟩) 1 c5) := (blk_cell B12.out 1).trans rfl
  obtain ⟨ad5, A9, c9, e5, hx5_, hy5_, hl5, hk5⟩ := at_T81 (Kd.N_reads' HN5.out).2.2 0 (by decide) (by decide)
  injection e5 with e5
  subst e5
  have hx5 : W29.cell? ⟨g5, 0, none⟩ = some (.int .i64 7) := hx5_
  clear hx5_ hy5_ hl5 hk5
  go_wp2_with (fail)
  go_ret
  exact ⟨rfl, below_then HB12.out HB12.out.size HBy.out⟩
def swarflaw43_awake.f : Option (Bool) := some true
theorem swarflaw43_awake.calls (r : Bool) (w : World) (h : swarflaw43_awake.f = some r) : Calls Try.prog 23 #[] w fun e w' => e = .returned (.bool r) ∧ Below w.heap.size w w' := by
  obtain rfl := Option.some.inj h
  exact awake43_calls w
end Go.Proofs.Ytehkhbnhmehobaa.P
namespace Go.Proofs.Ytehkhbnhmehobaa.P
open Go.RowKit Go.Proofs.YtehkhbnhmehobaaW.PrintWords Go.Proofs.YtehkhbnhmehobaaW.PrintLast Go.Proofs.YtehkhbnhmehobaaW.PrintMore
set_option linter.unusedVariables false
set_option linter.unusedSimpArgs false
def swarflaw43_SubprogramCall.f (k : Nat) (a0_0 : Bool) (l0_1 : List (S78)) (a0_2 : ByteArray) : Option (Bool) :=
  (swarflaw43_valid.f k [⟨a0_0, l0_1, a0_2⟩] 1).bind fun v => if v = true then (subprogram_Call.f k a0_0 l0_1 a0_2).bind fun x => (swarfref43_Call.f k a0_0 l0_1 a0_2).bind fun y => if x.1 = y.1 ∧ x.2.1 = y.2.1 ∧ x.2.2.1 = y.2.2.1 ∧ x.2.2.2 = y.2.2.2 then some true else none else some true
set_option maxHeartbeats 4000000 in
set_option maxRecDepth 100000 in
theorem swarflaw43_SubprogramCall.calls (k : Nat) (a0_0 : Bool) (A0_1 : Option Addr) (c0_1 : Nat) (l0_1 : List (S78)) (a0_2 : ByteArray) (r : Bool) (w : World) (hr0_1 : Kd.C k78 w A0_1 l0_1.length l0_1) (hc0_1 : l0_1.length ≤ c0_1) (h : swarflaw43_SubprogramCall.f k a0_0 l0_1 a0_2 = some r) :
    Calls Try.prog 5 #[.agg #[.bool a0_0, .slice A0_1 l0_1.length c0_1, .string a0_2]] w fun e w' => e = .returned (.bool r) ∧ Below w.heap.size w w' := by
  have hu32 := Try.underlying32
  unfold swarflaw43_SubprogramCall.f at h
  obtain ⟨bv, hv, h2⟩ := Option.bind_eq_some_iff.mp h
  have HV := Aside0.mk hv
  have H := Aside0.mk h2
  have HR := Aside0.mk hr0_1
  have HC := Aside0.mk hc0_1
  clear hr0_1 hc0_1 h hv h2
  have HB := Aside0.mk (Below.refl w.heap.size w)
  cases bv with
  | false =>
    have H2 := H.out
    simp only [Bool.false_eq_true, if_false, Option.some.injEq] at H2
    subst H2
    clear H
    go_enter Try.func5, Try.ntmps5
    go_wp2_with ((with_reducible refine gate_dst (N := 1) rfl ?_); refine box_event ?hg (N := 1) ?hd (cs := #[.bool a0_0, .slice A0_1 l0_1.length c0_1, .string a0_2]) (t := 32) ?hr ?_; (case hd => rfl); (case hg => rfl); (case hr => first | (go_simp; done) | (go_simp; rfl)); intro gb hg w1 hbox hb; have BK1 := Aside0.mk hbox; have HB1 := Aside0.mk hb; clear hg hbox hb)
    refine (awake43_calls _).mono ?_
    rintro e_ w2 ⟨rfl, hb⟩
    have BK2 := Aside0.mk (blk_below BK1.out hb)
    have HB2 := Aside0.mk (below_then HB1.out HB1.out.size hb)
    clear hb BK1 HB1
    have hz0 : w2.cell? ⟨gb, 0, none⟩ = some (.bool a0_0) := (blk_cell BK2.out 0).trans rfl
    have hz1 : w2.cell? ⟨gb, 1, none⟩ = some (.slice A0_1 l0_1.length c0_1) := (blk_cell BK2.out 1).trans rfl
    have hz2 : w2.cell? ⟨gb, 2, none⟩ = some (.string a0_2) := (blk_cell BK2.out 2).trans rfl
    go_wp2_with (fail)
    clear hz0 hz1 hz2
    refine (show Calls Try.prog 24 #[.slice (some ⟨w2.heap.size, 0, none⟩) 1 1, .int .i64 1] (w2.alloc (.cells #[.bool a0_0, .slice A0_1 l0_1.length c0_1, .string a0_2] 32 (0, 0))) _ from swarflaw43_valid.calls k (some ⟨w2.heap.size, 0, none⟩) 1 [⟨a0_0, l0_1, a0_2⟩] 1 false _ (C_blocks [(⟨a0_0, l0_1, a0_2⟩, A0_1, c0_1)] (show (w2.alloc (.cells #[.bool a0_0, .slice A0_1 l0_1.length c0_1, .string a0_2] 32 (0, 0))).heap[w2.heap.size]? = some (.cells (encB [(⟨a0_0, l0_1, a0_2⟩, A0_1, c0_1)]).toArray 32 (0, 0)) from alloc_at w2 _) (by simp) (fun x hx => by simp only [List.mem_cons, List.not_mem_nil, or_false] at hx; subst hx; exact ⟨HC.out, Kd.C_below HR.out (below_alloc HB2.out _)⟩)) (Nat.le_refl 1) HV.out).mono ?_
    rintro e_ w3 ⟨rfl, hb⟩
    have hb3 := below_then (below_alloc (Below.refl w2.heap.size w2) _) (below_alloc (Below.refl w2.heap.size w2) _).size hb
    have BK3 := Aside0.mk (blk_below BK2.out hb3)
    have HB3 := Aside0.mk (below_then HB2.out HB2.out.size hb3)
    clear hb hb3 BK2 HB2
    go_wp2_with (fail)
    refine (awake43_calls _).mono ?_
    rintro e_ w4 ⟨rfl, hb⟩
    have HB4 := Aside0.mk (below_then HB3.out HB3.out.size hb)
    clear hb
    go_wp2_with (fail)
    go_ret
    exact ⟨rfl, HB4.out⟩
  | true =>
    have H2 := H.out
    simp only [if_true] at H2
    obtain ⟨⟨n, m, is, e⟩, hx, H3⟩ := Option.bind_eq_some_iff.mp H2
    obtain ⟨⟨n', m', is', e'⟩, hy, H4⟩ := Option.bind_eq_some_iff.mp H3
    by_cases hq : n = n' ∧ m = m' ∧ is = is' ∧ e = e'
    rotate_left
    · simp only [if_neg hq] at H4; cases H4
    simp only [if_pos hq, Option.some.injEq] at H4
    obtain ⟨rfl, rfl, rfl, rfl⟩ := hq
    subst H4
    have HX := Aside0.mk hx
    have HY := Aside0.mk hy
    clear hx hy H2 H3 H
    go_enter Try.func5, Try.ntmps5
    go_wp2_with ((with_reducible refine gate_dst (N := 1) rfl ?_); refine box_event ?hg (N := 1) ?hd (cs := #[.bool a0_0, .slice A0_1 l0_1.length c0_1, .string a0_2]) (t := 32) ?hr ?_; (case hd => rfl); (case hg => rfl); (case hr => first | (go_simp; done) | (go_simp; rfl)); intro gb hg w1 hbox hb; have BK1 := Aside0.mk hbox; have HB1 := Aside0.mk hb; clear hg hbox hb)
    refine (awake43_calls _).mono ?_
    rintro e_ w2 ⟨rfl, hb⟩
    have BK2 := Aside0.mk (blk_below BK1.out hb)
    have HB2 := Aside0.mk (below_then HB1.out HB1.out.size hb)
    clear hb BK1 HB1
    have hz0 : w2.cell? ⟨gb, 0, none⟩ = some (.bool a0_0) := (blk_cell BK2.out 0).trans rfl
    have hz1 : w2.cell? ⟨gb, 1, none⟩ = some (.slice A0_1 l0_1.length c0_1) := (blk_cell BK2.out 1).trans rfl
    have hz2 : w2.cell? ⟨gb, 2, none⟩ = some (.string a0_2) := (blk_cell BK2.out 2).trans rfl
    go_wp2_with (fail)
    clear hz0 hz1 hz2
    refine (show Calls Try.prog 24 #[.slice (some ⟨w2.heap.size, 0, none⟩) 1 1, .int .i64 1] (w2.alloc (.cells #[.bool a0_0, .slice A0_1 l0_1.length c0_1, .string a0_2] 32 (0, 0))) _ from swarflaw43_valid.calls k (some ⟨w2.heap.size, 0, none⟩) 1 [⟨a0_0, l0_1, a0_2⟩] 1 true _ (C_blocks [(⟨a0_0, l0_1, a0_2⟩, A0_1, c0_1)] (show (w2.alloc (.cells #[.bool a0_0, .slice A0_1 l0_1.length c0_1, .string a0_2] 32 (0, 0))).heap[w2.heap.size]? = some (.cells (encB [(⟨a0_0, l0_1, a0_2⟩, A0_1, c0_1)]).toArray 32 (0, 0)) from alloc_at w2 _) (by simp) (fun x hx => by simp only [List.mem_cons, List.not_mem_nil, or_false] at hx; subst hx; exact ⟨HC.out, Kd.C_below HR.out (below_alloc HB2.out _)⟩)) (Nat.le_refl 1) HV.out).mono ?_
    rintro e_ w3 ⟨rfl, hb⟩
    have hb3 := below_then (below_alloc (Below.refl w2.heap.size w2) _) (below_alloc (Below.refl w2.heap.size w2) _).size hb
    have BK3 := Aside0.mk (blk_below BK2.out hb3)
    have HB3 := Aside0.mk (below_then HB2.out HB2.out.size hb3)
    clear hb hb3 BK2 HB2
    have hz0 : w3.cell? ⟨gb, 0, none⟩ = some (.bool a0_0) := (blk_cell BK3.out 0).trans rfl
    have hz1 : w3.cell? ⟨gb, 1, none⟩ = some (.slice A0_1 l0_1.length c0_1) := (blk_cell BK3.out 1).trans rfl
    have hz2 : w3.cell? ⟨gb, 2, none⟩ = some (.string a0_2) := (blk_cell BK3.out 2).trans rfl
    go_wp2_with (fail)
    clear hz0 hz1 hz2
    refine (subprogram_Call.calls k a0_0 A0_1 c0_1 l0_1 a0_2 n m is e _ (Kd.C_below HR.out HB3.out) HC.out HX.out).mono ?_
    rintro e_ w4 ⟨rfl, hb⟩
    have BK4 := Aside0.mk (blk_below BK3.out hb)
    have HB4 := Aside0.mk (below_then HB3.out HB3.out.size hb)
    clear hb
    have hz0 : w4.cell? ⟨gb, 0, none⟩ = some (.bool a0_0) := (blk_cell BK4.out 0).trans rfl
    have hz1 : w4.cell? ⟨gb, 1, none⟩ = some (.slice A0_1 l0_1.length c0_1) := (blk_cell BK4.out 1).trans rfl
    have hz2 : w4.cell? ⟨gb, 2, none⟩ = some (.string a0_2) := (blk_cell BK4.out 2).trans rfl
    go_wp2_with (fail)
    clear hz0 hz1 hz2
    refine (swarfref43_Call.calls k a0_0 A0_1 c0_1 l0_1 a0_2 n m is e _ (Kd.C_below HR.out HB4.out) HC.out HY.out).mono ?_
    rintro e_ w5 ⟨rfl, hb⟩
    have HB5 := Aside0.mk (below_then HB4.out HB4.out.size hb)
    clear hb
    go_wp2_with (fail)
    go_ret
    exact ⟨rfl, HB5.out⟩
end Go.Proofs.Ytehkhbnhmehobaa.P
namespace Go.Proofs.Ytehkhbnhmehobaa.P
open Go.RowKit Go.Proofs.YtehkhbnhmehobaaW.PrintWords Go.Proofs.YtehkhbnhmehobaaW.PrintLast Go.Proofs.YtehkhbnhmehobaaW.PrintMore
theorem pure_SubprogramCall (b : Bk) (hb : okBlock b) : ∃ k, swarflaw43_SubprogramCall.f k b.f0 b.f1 b.f2 = some true := by
  refine Ev.get (g := fun k => swarflaw43_SubprogramCall.f k b.f0 b.f1 b.f2) ?_
  unfold swarflaw43_SubprogramCall.f
  obtain ⟨r, h1, h2⟩ := valid_ev [b] 1 (by simp) (by simpa using hb)
  refine Ev.bind h1 ?_
  cases r with
  | false => exact Ev.neg (by decide) Ev.some
  | true =>
    have hg := (h2 rfl).2 b (by simp)
    exact Ev.pos rfl (Ev.bind hg.callO (Ev.bind hg.callRef (Ev.pos ⟨rfl, rfl, rfl, rfl⟩ Ev.some)))
end Go.Proofs.Ytehkhbnhmehobaa.P
namespace Go.Proofs.Ytehkhbnhmehobaa.subprogramCall
open Go.ChangeShapes Go.WideShapes Go.ChangeAt Go.RowKit
open Go.ChangeMaps (open_string shut_string)
set_option linter.unusedVariables false
theorem own : ownKnob Try.prog.godebug = none := by kernel_rfl
theorem laidOut : laidOutB Try.prog = true := by kernel_rfl
set_option maxRecDepth 100000 in
theorem lifted (os : Os) (started : os.Started) (H : Type) (enc : TypeId × Value → H) :
    ReturnsInHanded {} Try.checked os 5 .any (Rows.subprogramCallSpec.pre6 enc Try.prog Try.f5 Rows.subprogramCallRow.domain false) (Rows.subprogramCallSpec.post enc Try.prog Try.f5 false true false false) := by
  refine returnsInHanded_of_change_sized (C := Try.checked) own started (by kernel_rfl) Try.func5
    (ChangeSpec.witness6 (enc := enc) (C := Try.checked) false ⟨#[], #[.agg #[.bool false, .slice none 0 0, .string ByteArray.empty]], []⟩ 8 (by kernel_rfl) (by kernel_rfl) (by kernel_rfl) (by kernel_rfl)) ?_
  intro W base args ds gs before hval0 hW hcnd hsz0 _
  have hsz : (DataW.weightsEach Try.prog (Try.f5.params.toList ++ Rows.subprogramCallSpec.plain.varTypes Try.prog) (ds ++ gs)).all (· ≤ reachBytes) = true := hsz0
  have hval : ∀ (j : Nat) t v, Try.f5.params[j]? = some t → args[j]? = some v → Value.okWide Try.prog W .any base t v := hval0
  have hW' := hW
  obtain ⟨p, q, hA0, hV, rfl, hfz, hnd⟩ := hW
  have hA : DataW.TrodAll enc Try.prog W 0 (fun _ => true) true Try.f5.params.toList args.toList ds p := hA0
  rw [Try.params5] at hA hval hsz
  obtain ⟨v0, vs0, d0, ds0, p0, q0, hargs, rfl, rfl, h0, r0⟩ := trodAll_cons hA
  obtain ⟨rfl, rfl, rfl⟩ := trodAll_nil r0
  obtain rfl : args = #[v0] := by cases args; simp_all
  obtain ⟨rfl, rfl⟩ := trodVars_none hV
  have k0 := h0
  have lt0 : ∀ x ∈ p0, x.block < W.heap.size := by obtain ⟨m, hm⟩ := k0; exact DataW.trod_lt m _ _ _ hm
  obtain ⟨b0, A0, c0, rfl, l0, r0_, w0⟩ := P.arg_Block (hval 0 32 v0 rfl rfl) h0
  clear hA0 hval0 hsz0 hsz
  obtain ⟨k_, pure_⟩ := P.pure_SubprogramCall b0 w0
  refine (P.swarflaw43_SubprogramCall.calls k_ b0.f0 A0 c0 b0.f1 b0.f2 true W r0_ l0 pure_).mono fun e W' ⟨he, bel⟩ => ?_
  subst he
  exact ⟨_, rfl, _, _, _, [], _, [], hW', trodAll_mk1 (shut_bool Try.underlying4 _), (trodAll_cons_mk (Below.trod laidOut (by kernel_rfl) (of_decide_eq_true (by kernel_rfl)) k0 bel lt0) trodAll_mk0), rfl, bel.frame _, fun h => by cases h⟩
theorem over : Rows.subprogramCallRow.holds Try.pinned (OpenSpec.ofChange Rows.subprogramCallSpec) :=
  OpenClaim.holds_of_wide 5 Try.f5 rfl rfl rfl rfl rfl rfl rfl ⟨rfl, rfl, rfl, rfl, rfl⟩ rfl rfl rfl rfl rfl (by kernel_rfl) Try.func5 (by kernel_rfl)
    (of_decide_eq_true (by kernel_rfl)) (by unfold Func.isWrapper; first | (rw [if_pos (by decide +kernel)]; kernel_rfl) | (rw [if_neg (by decide +kernel)]; exact ⟨rfl, rfl⟩))
    (fun os started H enc _ => lifted os started H enc)
theorem proved : Rows.SubprogramCallSaid := over
#print axioms proved
end Go.Proofs.Ytehkhbnhmehobaa.subprogramCall
namespace Go.Proofs.Ytehkhbnhmehobaa
theorem subprogramCall_holds : Rows.SubprogramCallSaid := subprogramCall.proved
end Go.Proofs.Ytehkhbnhmehobaa
