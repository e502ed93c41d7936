/- A part of the proof of SubprogramFold. -/
import Derived.Maps.Range
import Derived.Test.YtehkhbnhmehobaaCSubprogramFold1
import Derived.Test.YtehkhbnhmehobaaCSubprogramFold2
import Derived.Test.YtehkhbnhmehobaaCSubprogramFold3
namespace Go.Proofs.Ytehkhbnhmehobaa.P
open Go.RowKit Go.Proofs.YtehkhbnhmehobaaW.PrintWords Go.Proofs.YtehkhbnhmehobaaW.PrintLast Go.Proofs.YtehkhbnhmehobaaW.PrintMore
attribute [local go_sem] max2_int min2_int max_two min_two max_three min_three max_four min_four
set_option linter.unusedVariables false
set_option linter.unusedSimpArgs false
mutual
def swarfref43_Fold.j0 : Nat → List (S32) → Int → Int → Bool → Option ((List (S32)) × (List (S58)) × Int)
 | 0, _, _, _, _ => none
 | k + 1, x0, x1, x2, x22 => if x22 = true then (some (([] : List (S32)), ([] : List (S58)), 1)) else (swarfref43_Fold.l0 k x0 x1 x2 0)
def swarfref43_Fold.l0 : Nat → List (S32) → Int → Int → Int → Option ((List (S32)) × (List (S58)) × Int)
 | 0, _, _, _, _ => none
 | k + 1, x0, x1, x2, x8 => if (wrap64 (x8 + x2)) ≤ (x0.length : Int) then (swarfref43_Fold.l1 k x0 x1 x2 x8 false (wrap64 (x8 + x2))) else ((some (([] : List (S32)) : List (S32))).bind fun y610 => (if y610.length + x0.length < 2932031007402 then (some ((y610 ++ x0), ([] : List (S58)), 0)) else (none)))
def swarfref43_Fold.j3 : Nat → List (S32) → Int → Int → Int → Bool → Option ((List (S32)) × (List (S58)) × Int)
 | 0, _, _, _, _, _ => none
 | k + 1, x0, x1, x2, x8, x9 => if x9 = true then (swarfref43_Fold.l2 k x0 x1 x2 x8 0 ([] : List (S32))) else (swarfref43_Fold.l0 k x0 x1 x2 (wrap64 (x8 + 1)))
def swarfref43_Fold.l2 : Nat → List (S32) → Int → Int → Int → Int → List (S32) → Option ((List (S32)) × (List (S58)) × Int)
 | 0, _, _, _, _, _, _ => none
 | k + 1, x0, x1, x2, x8, x12, x618000 => if x12 < (x0.length : Int) then ((swarfref43_run.f k x0 x8 x12 x2).bind fun t618 => (if t618 = true then (if x618000.length < 2932031007402 then (swarfref43_Fold.l2 k x0 x1 x2 x8 (wrap64 (x12 + x2)) (x618000 ++ [(⟨false, (([(⟨77, 98000⟩ : S78), (⟨80, wrap64 (1000 * x1)⟩ : S78)] : List (S78))), (⟨#[]⟩ : ByteArray)⟩ : S32)])) else (none)) else (if 0 ≤ x12 then (if x618000.length < 2932031007402 then (swarfref43_Fold.l2 k x0 x1 x2 x8 (wrap64 (x12 + 1)) (x618000 ++ [(⟨(rd_T32 x0 x12).f0, (rd_T32 x0 x12).f1, (rd_T32 x0 x12).f2⟩ : S32)])) else (none)) else (none)))) else ((some (([] : List (S32)) : List (S32))).bind fun y629 => (if 0 ≤ x8 then (if x8 ≤ (wrap64 (x8 + x2)) then (if (wrap64 (x8 + x2)) ≤ (x0.length : Int) then ((some ((x0.take ((wrap64 (x8 + x2)) : Int).toNat).drop (x8 : Int).toNat : List (S32))).bind fun y632 => (if y629.length + y632.length < 2932031007402 then (some (x618000, (([(⟨x1, (y629 ++ y632)⟩ : S58)] : List (S58))), 0)) else (none))) else (none)) else (none)) else (none)))
def swarfref43_Fold.l1 : Nat → List (S32) → Int → Int → Int → Bool → Int → Option ((List (S32)) × (List (S58)) × Int)
 | 0, _, _, _, _, _, _ => none
 | k + 1, x0, x1, x2, x8, x9, x10 => if (wrap64 (x10 + x2)) ≤ (x0.length : Int) then (if x9 = true then (swarfref43_Fold.j3 k x0 x1 x2 x8 x9) else ((swarfref43_run.f k x0 x8 x10 x2).bind fun t616 => (swarfref43_Fold.l1 k x0 x1 x2 x8 t616 (wrap64 (x10 + 1))))) else (swarfref43_Fold.j3 k x0 x1 x2 x8 x9)
end
def swarfref43_Fold.f (k : Nat) (l0 : List (S32)) (a1 : Int) (a2 : Int) : Option ((List (S32)) × (List (S58)) × Int) := if a1 < 1 then (swarfref43_Fold.j0 k l0 a1 a2 true) else (if a1 > 9999 then (swarfref43_Fold.j0 k l0 a1 a2 true) else (swarfref43_Fold.j0 k l0 a1 a2 (decide (a2 < 1))))
theorem swarfref43_Fold.mono_l : ∀ k, (∀ y0 y1 y2 y3, LeO (swarfref43_Fold.j0 k y0 y1 y2 y3) (swarfref43_Fold.j0 (k + 1) y0 y1 y2 y3)) ∧ (∀ y0 y1 y2 y3, LeO (swarfref43_Fold.l0 k y0 y1 y2 y3) (swarfref43_Fold.l0 (k + 1) y0 y1 y2 y3)) ∧ (∀ y0 y1 y2 y3 y4, LeO (swarfref43_Fold.j3 k y0 y1 y2 y3 y4) (swarfref43_Fold.j3 (k + 1) y0 y1 y2 y3 y4)) ∧ (∀ y0 y1 y2 y3 y4 y5, LeO (swarfref43_Fold.l2 k y0 y1 y2 y3 y4 y5) (swarfref43_Fold.l2 (k + 1) y0 y1 y2 y3 y4 y5)) ∧ (∀ y0 y1 y2 y3 y4 y5, LeO (swarfref43_Fold.l1 k y0 y1 y2 y3 y4 y5) (swarfref43_Fold.l1 (k + 1) y0 y1 y2 y3 y4 y5))
 | 0 => ⟨fun _ _ _ _ r h => by simp [swarfref43_Fold.j0] at h, fun _ _ _ _ r h => by simp [swarfref43_Fold.l0] at h, fun _ _ _ _ _ r h => by simp [swarfref43_Fold.j3] at h, fun _ _ _ _ _ _ r h => by simp [swarfref43_Fold.l2] at h, fun _ _ _ _ _ _ r h => by simp [swarfref43_Fold.l1] at h⟩
 | k + 1 => by
  obtain ⟨ih0, ih1, ih2, ih3, ih4⟩ := swarfref43_Fold.mono_l k
  refine ⟨?_, ?_, ?_, ?_, ?_⟩
  ·intro y0 y1 y2 y3
   unfold swarfref43_Fold.j0
   repeat' first
   | (with_reducible exact ih0 _ _ _ _)
   | (with_reducible exact ih1 _ _ _ _)
   | (with_reducible exact ih2 _ _ _ _ _)
   | (with_reducible exact ih3 _ _ _ _ _ _)
   | (with_reducible exact ih4 _ _ _ _ _ _)
   | (with_reducible exact swarfref43_run.mono _ _ _ _ _)
   | (with_reducible exact LeO.refl _)
   | (with_reducible exact LeO.none _)
   | (with_reducible refine LeO.ite ?_ ?_)
   | (with_reducible refine LeO.bind ?_ (fun _ => ?_))
   | exact ih0 _ _ _ _
   | exact ih1 _ _ _ _
   | exact ih2 _ _ _ _ _
   | exact ih3 _ _ _ _ _ _
   | exact ih4 _ _ _ _ _ _
   | exact swarfref43_run.mono _ _ _ _ _
   | exact LeO.none _
   | refine LeO.ite ?_ ?_
   | refine LeO.bind ?_ (fun _ => ?_)
  ·intro y0 y1 y2 y3
   unfold swarfref43_Fold.l0
   repeat' first
   | (with_reducible exact ih0 _ _ _ _)
   | (with_reducible exact ih1 _ _ _ _)
   | (with_reducible exact ih2 _ _ _ _ _)
   | (with_reducible exact ih3 _ _ _ _ _ _)
   | (with_reducible exact ih4 _ _ _ _ _ _)
   | (with_reducible exact swarfref43_run.mono _ _ _ _ _)
   | (with_reducible exact LeO.refl _)
   | (with_reducible exact LeO.none _)
   | (with_reducible refine LeO.ite ?_ ?_)
   | (with_reducible refine LeO.bind ?_ (fun _ => ?_))
   | exact ih0 _ _ _ _
   | exact ih1 _ _ _ _
   | exact ih2 _ _ _ _ _
   | exact ih3 _ _ _ _ _ _
   | exact ih4 _ _ _ _ _ _
   | exact swarfref43_run.mono _ _ _ _ _
   | exact LeO.none _
   | refine LeO.ite ?_ ?_
   | refine LeO.bind ?_ (fun _ => ?_)
  ·intro y0 y1 y2 y3 y4
   unfold swarfref43_Fold.j3
   repeat' first
   | (with_reducible exact ih0 _ _ _ _)
   | (with_reducible exact ih1 _ _ _ _)
   | (with_reducible exact ih2 _ _ _ _ _)
   | (with_reducible exact ih3 _ _ _ _ _ _)
   | (with_reducible exact ih4 _ _ _ _ _ _)
   | (with_reducible exact swarfref43_run.mono _ _ _ _ _)
   | (with_reducible exact LeO.refl _)
   | (with_reducible exact LeO.none _)
   | (with_reducible refine LeO.ite ?_ ?_)
   | (with_reducible refine LeO.bind ?_ (fun _ => ?_))
   | exact ih0 _ _ _ _
   | exact ih1 _ _ _ _
   | exact ih2 _ _ _ _ _
   | exact ih3 _ _ _ _ _ _
   | exact ih4 _ _ _ _ _ _
   | exact swarfref43_run.mono _ _ _ _ _
   | exact LeO.none _
   | refine LeO.ite ?_ ?_
   | refine LeO.bind ?_ (fun _ => ?_)
  ·intro y0 y1 y2 y3 y4 y5
   unfold swarfref43_Fold.l2
   repeat' first
   | (with_reducible exact ih0 _ _ _ _)
   | (with_reducible exact ih1 _ _ _ _)
   | (with_reducible exact ih2 _ _ _ _ _)
   | (with_reducible exact ih3 _ _ _ _ _ _)
   | (with_reducible exact ih4 _ _ _ _ _ _)
   | (with_reducible exact swarfref43_run.mono _ _ _ _ _)
   | (with_reducible exact LeO.refl _)
   | (with_reducible exact LeO.none _)
   | (with_reducible refine LeO.ite ?_ ?_)
   | (with_reducible refine LeO.bind ?_ (fun _ => ?_))
   | exact ih0 _ _ _ _
   | exact ih1 _ _ _ _
   | exact ih2 _ _ _ _ _
   | exact ih3 _ _ _ _ _ _
   | exact ih4 _ _ _ _ _ _
   | exact swarfref43_run.mono _ _ _ _ _
   | exact LeO.none _
   | refine LeO.ite ?_ ?_
   | refine LeO.bind ?_ (fun _ => ?_)
  ·intro y0 y1 y2 y3 y4 y5
   unfold swarfref43_Fold.l1
   repeat' first
   | (with_reducible exact ih0 _ _ _ _)
   | (with_reducible exact ih1 _ _ _ _)
   | (with_reducible exact ih2 _ _ _ _ _)
   | (with_reducible exact ih3 _ _ _ _ _ _)
   | (with_reducible exact ih4 _ _ _ _ _ _)
   | (with_reducible exact swarfref43_run.mono _ _ _ _ _)
   | (with_reducible exact LeO.refl _)
   | (with_reducible exact LeO.none _)
   | (with_reducible refine LeO.ite ?_ ?_)
   | (with_reducible refine LeO.bind ?_ (fun _ => ?_))
   | exact ih0 _ _ _ _
   | exact ih1 _ _ _ _
   | exact ih2 _ _ _ _ _
   | exact ih3 _ _ _ _ _ _
   | exact ih4 _ _ _ _ _ _
   | exact swarfref43_run.mono _ _ _ _ _
   | exact LeO.none _
   | refine LeO.ite ?_ ?_
   | refine LeO.bind ?_ (fun _ => ?_)
theorem swarfref43_Fold.mono : ∀ a0 a1 a2 k, LeO (swarfref43_Fold.f k a0 a1 a2) (swarfref43_Fold.f (k + 1) a0 a1 a2) := by
 intro a0 a1 a2 k
 obtain ⟨ih0, ih1, ih2, ih3, ih4⟩ := swarfref43_Fold.mono_l k
 unfold swarfref43_Fold.f
 repeat' first
   | (with_reducible exact ih0 _ _ _ _)
   | (with_reducible exact ih1 _ _ _ _)
   | (with_reducible exact ih2 _ _ _ _ _)
   | (with_reducible exact ih3 _ _ _ _ _ _)
   | (with_reducible exact ih4 _ _ _ _ _ _)
   | (with_reducible exact swarfref43_run.mono _ _ _ _ _)
   | (with_reducible exact LeO.refl _)
   | (with_reducible exact LeO.none _)
   | (with_reducible refine LeO.ite ?_ ?_)
   | (with_reducible refine LeO.bind ?_ (fun _ => ?_))
   | exact ih0 _ _ _ _
   | exact ih1 _ _ _ _
   | exact ih2 _ _ _ _ _
   | exact ih3 _ _ _ _ _ _
   | exact ih4 _ _ _ _ _ _
   | exact swarfref43_run.mono _ _ _ _ _
   | exact LeO.none _
   | refine LeO.ite ?_ ?_
   | refine LeO.bind ?_ (fun _ => ?_)
def swarfref43_Fold.T16 : Bool × List (List Nat × List Nat) := (true, [([], []), ([0], [0]), ([], []), ([], []), ([2, 3], [2, 3]), ([4], [4]), ([5], [5]), ([1, 6], [1, 6]), ([0, 1, 2, 3, 4, 5, 6, 7], []), ([8, 7, 7, 0, 1, 2, 3, 4, 5, 6, 7], [7, 8])])
def swarfref43_Fold.B16 : List Nat := [0, 1, 0, 0, 12, 28, 60, 127, 255, 511]
theorem swarfref43_Fold.tab16 : rtab .any (opsOf Try.f34 16) = swarfref43_Fold.T16 := by kernel_rfl
theorem swarfref43_Fold.bits16 : waitsOk swarfref43_Fold.T16.2 swarfref43_Fold.B16 = true := by kernel_rfl
set_option maxHeartbeats 8000000 in
set_option maxRecDepth 100000 in
theorem swarfref43_Fold.calls (k : Nat) (P0_ : Nat → Prop) (A0 : Option Addr) (c0 : Nat) (l0 : List (S32)) (a1 : Int) (a2 : Int) (r1 : List (S32)) (r2 : List (S58)) (r3 : Int) (w : World) (hs0 : Kd.V k32 32 w w.heap.size (fun k_ => P0_ k_) (.slice A0 l0.length c0) l0) (h : swarfref43_Fold.f k l0 a1 a2 = some (r1, r2, r3)) :
  Calls Try.prog 34 #[.slice A0 l0.length c0, .int .i64 a1, .int .i64 a2] w fun e w' => ∃ v0_ v1_ : Value, e = .returned (.tuple #[.agg #[v0_, v1_], .int .i64 r3]) ∧ Kd.N k32 32 w' w.heap.size (fun k_ => (P0_ k_ ∨ w.heap.size ≤ k_) ∧ some k_ ≠ (v1_ : Value).ownBlock) v0_ r1 ∧ Kd.N k58 58 w' w.heap.size (fun k_ => (P0_ k_ ∨ w.heap.size ≤ k_) ∧ some k_ ≠ (v0_ : Value).ownBlock) v1_ r2 ∧ Below w.heap.size w w' := by
 have hu48 := Try.underlying48
 have hu32 := Try.underlying32
 have hu78 := Try.underlying78
 have hu58 := Try.underlying58
 have HO0 := Aside0.mk (show Kd.V k32 32 w w.heap.size (fun k_ => (P0_ k_ ∨ w.heap.size ≤ k_)) (.slice A0 l0.length c0) l0 from Kd.V_mono hs0 (fun k_ hk => .inl hk))
 have HB := Aside0.mk (Below.refl w.heap.size w)
 have H : (if a1 < 1 then (swarfref43_Fold.j0 k l0 a1 a2 true) else (if a1 > 9999 then (swarfref43_Fold.j0 k l0 a1 a2 true) else (swarfref43_Fold.j0 k l0 a1 a2 (decide (a2 < 1))))) = some (r1, r2, r3) := h
 clear h
 have HC4 := Aside0.mk H
 clear H
 go_enter Try.func34, Try.ntmps34
 go_upto_region 1 with (first | ((with_reducible refine gate_dst (N := 6) rfl ?_); refine box_event ?hg (N := 6) ?hd (cs := #[.slice none 0 0, .slice none 0 0]) (t := 48) ?hr ?_; (case hd => rfl); (case hg => rfl); (case hr => first | (go_simp; done) | (go_simp; rfl)); intro gb609 hg w5 hbox hb; have n0_ := Aside0.mk (Kd.V_below (Kd.V_elderB (by (with_reducible repeat (first | apply Kd.V_alloc | apply Kd.V_drewN | apply Kd.V_drew)); exact HO0.out) gb609 (Nat.le_of_eq hg.symm)) hb); have n1_ := Aside0.mk (below_step yB hb); have n2_ := Aside0.mk (hbox); have n3_ := Aside0.mk ((yG hg : w.heap.size ≤ gb609)); have n4_ := Aside0.mk ((yG hg : w.heap.size ≤ gb609)); clear HO0; clear HB; have HO0 := n0_; have HB := n1_; have BK609 := n2_; have GW609 := n3_; have GE609 := n4_; clear n0_ n1_ n2_ n3_ n4_; clear hb hbox hg))
 (try simp only [Act.put, List.setIfInBounds_toArray, List.set_cons_zero, List.set_cons_succ])
 go_cut [22] (fun v22 wc => ∃ (kq : Nat) (x22_3 : Bool), v22 = .bool x22_3 ∧ Aside0 (swarfref43_Fold.j0 kq l0 a1 a2 x22_3 = some (r1, r2, r3)) ∧ Aside0 (kq ≤ k) ∧ Aside0 (Kd.V k32 32 wc w.heap.size (fun k_ => (P0_ k_ ∨ w.heap.size ≤ k_) ∧ k_ ≠ gb609) (.slice A0 l0.length c0) l0) ∧ Aside0 (wc.heap[gb609]? = some (.cells #[(.slice none 0 0), (.slice none 0 0)] 48 (0, 0))) ∧ Aside0 (Below w.heap.size w wc))
 case first =>
  have H := HC4.out
  clear HC4
  by_cases c6 : a1 < 1
  ·rw [if_pos c6] at H
   have c6b0 : decide (a1 < 1) = true := decide_eq_true c6
   clear c6
   (first | rw [c6b0] | (simp only [i64_w, i32_w]; rw [c6b0]) | skip)
   have H' := Aside0.mk H
   clear H
   go_wp2
   go_meet
   case rel => exact ⟨_, (true), yS, H', ⟨by first | omega | exact Nat.le_refl _⟩, ⟨by (with_reducible repeat (first | apply Kd.V_alloc | apply Kd.V_drewN | apply Kd.V_drew)); exact HO0.out⟩, ⟨by (with_reducible repeat (first | refine blk_drewN ?_ _ | refine blk_drew ?_ | refine blk_alloc ?_ _)); exact BK609.out⟩, ⟨yB⟩⟩
  ·rw [if_neg c6] at H
   have c6b0 : decide (a1 < 1) = false := decide_eq_false c6
   clear c6
   (first | rw [c6b0] | (simp only [i64_w, i32_w]; rw [c6b0]) | skip)
   by_cases c7 : a1 > 9999
   ·rw [if_pos c7] at H
    have c7b0 : decide (9999 < a1) = true := decide_eq_true c7
    clear c7
    have H' := Aside0.mk H
    clear H
    go_wp2
    go_meet
    case rel => exact ⟨_, (true), yS, H', ⟨by first | omega | exact Nat.le_refl _⟩, ⟨by (with_reducible repeat (first | apply Kd.V_alloc | apply Kd.V_drewN | apply Kd.V_drew)); exact HO0.out⟩, ⟨by (with_reducible repeat (first | refine blk_drewN ?_ _ | refine blk_drew ?_ | refine blk_alloc ?_ _)); exact BK609.out⟩, ⟨yB⟩⟩
   ·rw [if_neg c7] at H
    have c7b0 : decide (9999 < a1) = false := decide_eq_false c7
    clear c7
    have H' := Aside0.mk H
    clear H
    go_wp2
    go_meet
    case rel => exact ⟨_, (decide (a2 < 1)), yS, H', ⟨by first | omega | exact Nat.le_refl _⟩, ⟨by (with_reducible repeat (first | apply Kd.V_alloc | apply Kd.V_drewN | apply Kd.V_drew)); exact HO0.out⟩, ⟨by (with_reducible repeat (first | refine blk_drewN ?_ _ | refine blk_drew ?_ | refine blk_alloc ?_ _)); exact BK609.out⟩, ⟨yB⟩⟩
 case rest =>
  clear HC4
  try clear p2
  try clear c3
  try clear c6
  try clear c6b0
  try clear c7
  try clear c7b0
  obtain ⟨kq, x22_3, rfl, HA, HJ3, HO_0, BK609, HB⟩ := hcut
  cases kq with
  | zero => exact absurd HA.out (by simp [swarfref43_Fold.j0])
  | succ kj3 =>
   have H := HA.out
   clear HA
   simp only [swarfref43_Fold.j0] at H
   by_cases c8 : x22_3 = true
   ·subst c8
    have H1 : (some (([] : List (S32)), ([] : List (S58)), 1)) = some (r1, r2, r3) := by rw [if_pos rfl] at H; exact H
    clear H
    have H := H1
    clear H1
    simp only [Option.some.injEq, Prod.mk.injEq] at H
    obtain ⟨rfl, rfl, rfl⟩ := H
    have hcz9_0 : wc.cell? ⟨gb609, 0, none⟩ = some (.slice none 0 0) := (blk_cell BK609.out 0).trans rfl
    have hcz9_1 : wc.cell? ⟨gb609, 1, none⟩ = some (.slice none 0 0) := (blk_cell BK609.out 1).trans rfl
    have hfz9_0 := blk_frozen BK609.out 0
    have hfz9_1 := blk_frozen BK609.out 1
    go_wp2
    refine bodyPost_ret (results_ct rfl _ _ gb609 48 #[.slice none 0 0, .slice none 0 0] (0, 0) _ rfl (by (with_reducible repeat (first | refine blk_drewN ?_ _ | refine blk_drew ?_ | refine blk_alloc ?_ _)); refine blk_put (cs := #[.slice none 0 0, .slice none 0 0]) ?_ 1 _ rfl; (with_reducible repeat (first | refine blk_drewN ?_ _ | refine blk_drew ?_ | refine blk_alloc ?_ _)); refine blk_put (cs := #[.slice none 0 0, .slice none 0 0]) ?_ 0 _ rfl; (with_reducible repeat (first | refine blk_drewN ?_ _ | refine blk_drew ?_ | refine blk_alloc ?_ _)); exact BK609.out) Try.underlying48 rfl (by kernel_rfl)) rfl ?_
    exact ⟨_, _, by first | rfl | (simp [errW_none, errW_some] <;> rfl) | (simp [*, errW_none, errW_some] <;> rfl), by first | exact Kd.S_nil _ _ _ _ _ | exact Kd.N_nil _ _ _ _ _ | exact Kd.V_nil _ _ _ _ _ | exact Kd.Q_nil _ _ _ _ _ | exact Kd.R_nil _ _ _ _ _, by first | exact Kd.R_nil _ _ _ _ _ | exact Kd.N_nil _ _ _ _ _ | exact Kd.V_nil _ _ _ _ _ | exact Kd.Q_nil _ _ _ _ _ | exact Kd.S_nil _ _ _ _ _, yB⟩
   ·replace c8 := Bool.eq_false_iff.mpr c8
    subst c8
    have H1 : (swarfref43_Fold.l0 kj3 l0 a1 a2 0) = some (r1, r2, r3) := by rw [if_neg (show ¬ (false = true) by decide)] at H; exact H
    clear H
    have H := H1
    clear H1
    have H' := Aside0.mk H
    clear H
    go_wp2
    go_loopg [8] kj3 (fun kq v8 w' => ∃ (x8_2 : Int), v8 = .int .i64 x8_2 ∧ Aside0 (swarfref43_Fold.l0 kq l0 a1 a2 x8_2 = some (r1, r2, r3)) ∧ Aside0 (kq ≤ kj3) ∧ Aside0 (Kd.V k32 32 w' w.heap.size (fun k_ => (P0_ k_ ∨ w.heap.size ≤ k_) ∧ k_ ≠ gb609) (.slice A0 l0.length c0) l0) ∧ Aside0 (w'.heap[gb609]? = some (.cells #[(.slice none 0 0), (.slice none 0 0)] 48 (0, 0))) ∧ Aside0 (Below w.heap.size w w'))
    case atStart => exact ⟨(0), yS, H', ⟨Nat.le_refl _⟩, ⟨by (with_reducible repeat (first | apply Kd.V_alloc | apply Kd.V_drewN | apply Kd.V_drew)); exact HO_0.out⟩, ⟨by (with_reducible repeat (first | refine blk_drewN ?_ _ | refine blk_drew ?_ | refine blk_alloc ?_ _)); exact BK609.out⟩, ⟨yB⟩⟩
    case round =>
     clear H'
     try clear p2
     try clear c3
     try clear c6
     try clear c6b0
     try clear c7
     try clear c7b0
     try clear c8
     try clear hcz9_0
     try clear hcz9_1
     try clear hfz9_0
     try clear hfz9_1
     try clear p2
     obtain ⟨x8_2, rfl, HA, HK2, HO_0, BK609, HB⟩ := hrel
     cases gk with
     | zero => exact absurd HA.out (by simp [swarfref43_Fold.l0])
     | succ k2 =>
      have H := HA.out
      clear HA
      simp only [swarfref43_Fold.l0] at H
      by_cases c10 : (wrap64 (x8_2 + a2)) ≤ (l0.length : Int)
      ·rw [if_pos c10] at H
       have c10b0 : decide ((wrap64 (x8_2 + a2)) ≤ (l0.length : Int)) = true := decide_eq_true c10
       clear c10
       have HC11 := Aside0.mk H
       clear H
       go_upto_block 2 with (fail)
       go_cut [9] (fun v9 wc => ∃ (kq : Nat) (x9_10 : Bool), v9 = .bool x9_10 ∧ Aside0 (swarfref43_Fold.j3 kq l0 a1 a2 x8_2 x9_10 = some (r1, r2, r3)) ∧ Aside0 (kq ≤ k2) ∧ Aside0 (Kd.V k32 32 wc w.heap.size (fun k_ => (P0_ k_ ∨ w.heap.size ≤ k_) ∧ k_ ≠ gb609) (.slice A0 l0.length c0) l0) ∧ Aside0 (wc.heap[gb609]? = some (.cells #[(.slice none 0 0), (.slice none 0 0)] 48 (0, 0))) ∧ Aside0 (Below w.heap.size w wc))
       case first =>
        have H := HC11.out
        clear HC11
        have H' := Aside0.mk H
        clear H
        go_wp2
        go_loopg [9, 10] k2 (fun kq v9 v10 w' => ∃ (x9_3 : Bool) (x10_3 : Int), v9 = .bool x9_3 ∧ v10 = .int .i64 x10_3 ∧ Aside0 (swarfref43_Fold.l1 kq l0 a1 a2 x8_2 x9_3 x10_3 = some (r1, r2, r3)) ∧ Aside0 (kq ≤ k2) ∧ Aside0 (Kd.V k32 32 w' w.heap.size (fun k_ => (P0_ k_ ∨ w.heap.size ≤ k_) ∧ k_ ≠ gb609) (.slice A0 l0.length c0) l0) ∧ Aside0 (w'.heap[gb609]? = some (.cells #[(.slice none 0 0), (.slice none 0 0)] 48 (0, 0))) ∧ Aside0 (Below w.heap.size w w'))
        case atStart => exact ⟨(false), (wrap64 (x8_2 + a2)), yS, yS, H', ⟨Nat.le_refl _⟩, ⟨by (with_reducible repeat (first | apply Kd.V_alloc | apply Kd.V_drewN | apply Kd.V_drew)); exact HO_0.out⟩, ⟨by (with_reducible repeat (first | refine blk_drewN ?_ _ | refine blk_drew ?_ | refine blk_alloc ?_ _)); exact BK609.out⟩, ⟨yB⟩⟩
        case round =>
         clear H'
         try clear c1
         try clear p2
         try clear c3
         try clear c6
         try clear c6b0
         try clear p6
         try clear c7
         try clear c7b0
         try clear c8
         try clear c10
         try clear c10b0
         try clear hcz9_0
         try clear hcz9_1
         try clear hfz9_0
         try clear hfz9_1
         try clear p2
         obtain ⟨x9_3, x10_3, rfl, rfl, HA, HK3, HO_0, BK609, HB⟩ := hrel
         cases gk with
         | zero => exact absurd HA.out (by simp [swarfref43_Fold.l1])
         | succ k3 =>
          have H := HA.out
          clear HA
          simp only [swarfref43_Fold.l1] at H
          by_cases c12 : (wrap64 (x10_3 + a2)) ≤ (l0.length : Int)
          ·rw [if_pos c12] at H
           have c12b0 : decide ((wrap64 (x10_3 + a2)) ≤ (l0.length : Int)) = true := decide_eq_true c12
           clear c12
           (first | rw [c12b0] | (simp only [i64_w, i32_w]; rw [c12b0]) | skip)
           by_cases c13 : x9_3 = true
           ·subst c13
            have H1 : (swarfref43_Fold.j3 k3 l0 a1 a2 x8_2 true) = some (r1, r2, r3) := by rw [if_pos rfl] at H; exact H
            clear H
            have H := H1
            clear H1
            have H' := Aside0.mk H
            clear H
            go_wp2
            go_meet
            case rel => exact ⟨_, (true), yS, H', ⟨by have := HJ3.out; have := HK2.out; have := HK3.out; first | omega | exact Nat.le_refl _⟩, ⟨by (with_reducible repeat (first | apply Kd.V_alloc | apply Kd.V_drewN | apply Kd.V_drew)); exact HO_0.out⟩, ⟨by (with_reducible repeat (first | refine blk_drewN ?_ _ | refine blk_drew ?_ | refine blk_alloc ?_ _)); exact BK609.out⟩, ⟨yB⟩⟩
           ·replace c13 := Bool.eq_false_iff.mpr c13
            subst c13
            have H1 : ((swarfref43_run.f k3 l0 x8_2 x10_3 a2).bind fun t616 => (swarfref43_Fold.l1 k3 l0 a1 a2 x8_2 t616 (wrap64 (x10_3 + 1)))) = some (r1, r2, r3) := by rw [if_neg (show ¬ (false = true) by decide)] at H; exact H
            clear H
            have H := H1
            clear H1
            replace H := Option.bind_eq_some_iff.mp H
            obtain ⟨t616, A140, H⟩ := H
            replace H : (swarfref43_Fold.l1 k3 l0 a1 a2 x8_2 t616 (wrap64 (x10_3 + 1))) = some (r1, r2, r3) := H
            have A14 := Aside0.mk A140
            clear A140
            have H' := Aside0.mk H
            clear H
            go_wp2_with (first | ((with_reducible refine gate_callee (f := 69) rfl ?_); refine goesL_ (some 51) rfl rfl Try.func69 (by kernel_rfl) rfl #[.slice A0 l0.length c0, .int .i64 x8_2, .int .i64 x10_3, .int .i64 a2] rfl yQ ?_; (with_reducible refine (swarfref43_run.calls k3 _ _ l0 x8_2 x10_3 a2 t616 _ ?side1 ?side2 A14.out).mono ?_); (case side1 => repeat (first | exact (Kd.V_reads' HO_0.out).2.2 | (with_reducible refine Kd.C_alloc ?_ _) | (with_reducible refine Kd.C_drewN ?_ _) | (with_reducible refine Kd.C_drew ?_))); (case side2 => exact (Kd.V_reads' HO_0.out).2.1); rintro e w15 ⟨rfl, hb⟩; refine ⟨_, rfl, ?_⟩; have n0_ := Aside0.mk (Kd.V_below (by (with_reducible repeat (first | apply Kd.V_alloc | apply Kd.V_drewN | apply Kd.V_drew)); exact HO_0.out) hb); have n1_ := Aside0.mk (blk_below (g := gb609) (o := .cells #[.slice none 0 0, .slice none 0 0] 48 (0, 0)) yK hb); have n2_ := Aside0.mk (below_step yB hb); clear HO_0; clear BK609; clear HB; have HO_0 := n0_; have BK609 := n1_; have HB := n2_; clear n0_ n1_ n2_; (try clear hb); (try clear hb2); (try clear hk); (try clear hi)))
            go_roundg k3
            case measure => have := HJ3.out; have := HK2.out; have := HK3.out; omega
            case rel => exact ⟨(t616), (wrap64 (x10_3 + 1)), yS, yS, H', ⟨by have := HJ3.out; have := HK2.out; have := HK3.out; omega⟩, ⟨by (with_reducible repeat (first | apply Kd.V_alloc | apply Kd.V_drewN | apply Kd.V_drew)); exact HO_0.out⟩, ⟨by (with_reducible repeat (first | refine blk_drewN ?_ _ | refine blk_drew ?_ | refine blk_alloc ?_ _)); exact BK609.out⟩, ⟨yB⟩⟩
          ·rw [if_neg c12] at H
           have c12b0 : decide ((wrap64 (x10_3 + a2)) ≤ (l0.length : Int)) = false := decide_eq_false c12
           clear c12
           (first | rw [c12b0] | (simp only [i64_w, i32_w]; rw [c12b0]) | skip)
           have H' := Aside0.mk H
           clear H
           go_wp2
           go_meet
           case rel => exact ⟨_, (x9_3), yS, H', ⟨by have := HJ3.out; have := HK2.out; have := HK3.out; first | omega | exact Nat.le_refl _⟩, ⟨by (with_reducible repeat (first | apply Kd.V_alloc | apply Kd.V_drewN | apply Kd.V_drew)); exact HO_0.out⟩, ⟨by (with_reducible repeat (first | refine blk_drewN ?_ _ | refine blk_drew ?_ | refine blk_alloc ?_ _)); exact BK609.out⟩, ⟨yB⟩⟩
       case rest =>
        clear HC11
        try clear c1
        try clear p2
        try clear c3
        try clear c6
        try clear c6b0
        try clear p6
        try clear c7
        try clear c7b0
        try clear c8
        try clear c10
        try clear c10b0
        try clear c12
        try clear c12b0
        try clear c13
        try clear hcz9_0
        try clear hcz9_1
        try clear hfz9_0
        try clear hfz9_1
        try clear p2
        try clear p6
        obtain ⟨kq, x9_10, rfl, HA, HJ10, HO_0, BK609, HB⟩ := hcut
        cases kq with
        | zero => exact absurd HA.out (by simp [swarfref43_Fold.j3])
        | succ kj10 =>
         have H := HA.out
         clear HA
         simp only [swarfref43_Fold.j3] at H
         by_cases c16 : x9_10 = true
         ·subst c16
          have H1 : (swarfref43_Fold.l2 kj10 l0 a1 a2 x8_2 0 ([] : List (S32))) = some (r1, r2, r3) := by rw [if_pos rfl] at H; exact H
          clear H
          have H := H1
          clear H1
          have H' := Aside0.mk H
          clear H
          go_wp2_with (first | ((with_reducible refine gate_dst (N := 11) rfl ?_); refine box_event ?hg (N := 11) ?hd (cs := #[.slice none 0 0, .slice none 0 0]) (t := 48) ?hr ?_; (case hd => rfl); (case hg => rfl); (case hr => first | (go_simp; done) | (go_simp; rfl)); intro gb617 hg w17 hbox hb; have n0_ := Aside0.mk (Kd.V_below (Kd.V_elderB (by (with_reducible repeat (first | apply Kd.V_alloc | apply Kd.V_drewN | apply Kd.V_drew)); exact HO_0.out) gb617 (Nat.le_of_eq hg.symm)) hb); have n1_ := Aside0.mk (blk_below (g := gb609) (o := .cells #[.slice none 0 0, .slice none 0 0] 48 (0, 0)) yK hb); have n2_ := Aside0.mk (below_step yB hb); have n3_ := Aside0.mk (hbox); have n4_ := Aside0.mk ((yG hg : w.heap.size ≤ gb617)); have n5_ := Aside0.mk ((yG hg : w.heap.size ≤ gb617)); have n6_ := Aside0.mk ((by rw [hg]; exact Nat.ne_of_lt (blk_lt (g := gb609) (o := .cells #[.slice none 0 0, .slice none 0 0] 48 (0, 0)) yK) : gb609 ≠ gb617)); have n7_ := Aside0.mk ((by rw [hg]; exact Nat.ne_of_gt (blk_lt (g := gb609) (o := .cells #[.slice none 0 0, .slice none 0 0] 48 (0, 0)) yK) : gb617 ≠ gb609)); clear HO_0; clear BK609; clear HB; have HO_0 := n0_; have BK609 := n1_; have HB := n2_; have BK617 := n3_; have GW617 := n4_; have GE617 := n5_; have NB609_617 := n6_; have NB617_609 := n7_; clear n0_ n1_ n2_ n3_ n4_ n5_ n6_ n7_; clear hb hbox hg))
          go_loopg [12] kj10 (fun kq v12 w' => ∃ (x12_4 : Int) (x618000_4 : List (S32)) (u618000 : Value), v12 = .int .i64 x12_4 ∧ Aside0 (swarfref43_Fold.l2 kq l0 a1 a2 x8_2 x12_4 x618000_4 = some (r1, r2, r3)) ∧ Aside0 (kq ≤ kj10) ∧ Aside0 (Kd.V k32 32 w' w.heap.size (fun k_ => (P0_ k_ ∨ w.heap.size ≤ k_) ∧ some k_ ≠ (u618000 : Value).ownBlock ∧ k_ ≠ gb609 ∧ k_ ≠ gb617) (.slice A0 l0.length c0) l0) ∧ Aside0 (Kd.N k32 32 w' w.heap.size (fun k_ => (P0_ k_ ∨ w.heap.size ≤ k_) ∧ k_ ≠ gb609 ∧ k_ ≠ gb617) u618000 x618000_4) ∧ Aside0 (w'.heap[gb609]? = some (.cells #[(.slice none 0 0), (.slice none 0 0)] 48 (0, 0))) ∧ Aside0 (w'.heap[gb617]? = some (.cells #[u618000, (.slice none 0 0)] 48 (0, 0))) ∧ Aside0 (Below w.heap.size w w'))
          case atStart => exact ⟨(0), (([] : List (S32))), (.slice none 0 0), yS, H', ⟨Nat.le_refl _⟩, ⟨by (with_reducible repeat (first | apply Kd.V_alloc | apply Kd.V_drewN | apply Kd.V_drew)); exact Kd.V_mono HO_0.out (fun _ hk => ⟨hk.1.1, ⟨(by simp [Value.ownBlock]), ⟨hk.1.2, hk.2⟩⟩⟩)⟩, ⟨by first | exact Kd.S_nil _ _ _ _ _ | exact Kd.N_nil _ _ _ _ _ | exact Kd.V_nil _ _ _ _ _ | exact Kd.Q_nil _ _ _ _ _ | exact Kd.R_nil _ _ _ _ _⟩, ⟨by (with_reducible repeat (first | refine blk_drewN ?_ _ | refine blk_drew ?_ | refine blk_alloc ?_ _)); exact BK609.out⟩, ⟨by (with_reducible repeat (first | refine blk_drewN ?_ _ | refine blk_drew ?_ | refine blk_alloc ?_ _)); exact BK617.out⟩, ⟨yB⟩⟩
          case round =>
           clear H'
           try clear c1
           try clear p2
           try clear c3
           try clear c6
           try clear c6b0
           try clear p6
           try clear c7
           try clear c7b0
           try clear c8
           try clear c10
           try clear c10b0
           try clear c12
           try clear c12b0
           try clear c13
           try clear c16
           try clear hcz9_0
           try clear hcz9_1
           try clear hfz9_0
           try clear hfz9_1
           try clear p2
           try clear p6
           obtain ⟨x12_4, x618000_4, u618000, rfl, HA, HK4, HO_0, HO_618000, BK609, BK617, HB⟩ := hrel
           cases gk with
           | zero => exact absurd HA.out (by simp [swarfref43_Fold.l2])
           | succ k4 =>
            have H := HA.out
            clear HA
            simp only [swarfref43_Fold.l2] at H
            by_cases c18 : x12_4 < (l0.length : Int)
            ·rw [if_pos c18] at H
             have c18b0 : decide (x12_4 < (l0.length : Int)) = true := decide_eq_true c18
             clear c18
             replace H := Option.bind_eq_some_iff.mp H
             obtain ⟨t618, A190, H⟩ := H
             replace H : (if t618 = true then (if x618000_4.length < 2932031007402 then (swarfref43_Fold.l2 k4 l0 a1 a2 x8_2 (wrap64 (x12_4 + a2)) (x618000_4 ++ [(⟨false, (([(⟨77, 98000⟩ : S78), (⟨80, wrap64 (1000 * a1)⟩ : S78)] : List (S78))), (⟨#[]⟩ : ByteArray)⟩ : S32)])) else (none)) else (if 0 ≤ x12_4 then (if x618000_4.length < 2932031007402 then (swarfref43_Fold.l2 k4 l0 a1 a2 x8_2 (wrap64 (x12_4 + 1)) (x618000_4 ++ [(⟨(rd_T32 l0 x12_4).f0, (rd_T32 l0 x12_4).f1, (rd_T32 l0 x12_4).f2⟩ : S32)])) else (none)) else (none))) = some (r1, r2, r3) := H
             have A19 := Aside0.mk A190
             clear A190
             by_cases c20 : t618 = true
             ·subst c20
              have H1 : (if x618000_4.length < 2932031007402 then (swarfref43_Fold.l2 k4 l0 a1 a2 x8_2 (wrap64 (x12_4 + a2)) (x618000_4 ++ [(⟨false, (([(⟨77, 98000⟩ : S78), (⟨80, wrap64 (1000 * a1)⟩ : S78)] : List (S78))), (⟨#[]⟩ : ByteArray)⟩ : S32)])) else (none)) = some (r1, r2, r3) := by rw [if_pos rfl] at H; exact H
              clear H
              have H := H1
              clear H1
              obtain ⟨y619, hy619⟩ : ∃ y_ : List (S78), y_ = (([(⟨77, 98000⟩ : S78), (⟨80, wrap64 (1000 * a1)⟩ : S78)] : List (S78))) := ⟨_, rfl⟩
              replace H : (if x618000_4.length < 2932031007402 then (swarfref43_Fold.l2 k4 l0 a1 a2 x8_2 (wrap64 (x12_4 + a2)) (x618000_4 ++ [(⟨false, y619, (⟨#[]⟩ : ByteArray)⟩ : S32)])) else (none)) = some (r1, r2, r3) := by first | (rw [hy619]; with_reducible exact H) | (have H2_ := (Option.bind_some _ _).symm.trans H; rw [hy619]; with_reducible exact H2_) | (have H2_ := (Option.bind_some _ _).symm.trans H; with_reducible exact H2_) | with_reducible exact H | (rw [hy619]; exact H) | exact H
              have Ny619 := Aside0.mk hy619
              clear hy619
              by_cases c21 : x618000_4.length < 2932031007402
              ·rw [if_pos c21] at H
               have LMc21 := Aside0.mk c21
               clear c21
               obtain ⟨y622, hy622⟩ : ∃ y_ : List (S32), y_ = (x618000_4 ++ [(⟨false, y619, (⟨#[]⟩ : ByteArray)⟩ : S32)]) := ⟨_, rfl⟩
               replace H : (swarfref43_Fold.l2 k4 l0 a1 a2 x8_2 (wrap64 (x12_4 + a2)) y622) = some (r1, r2, r3) := by first | (rw [hy622]; with_reducible exact H) | (have H2_ := (Option.bind_some _ _).symm.trans H; rw [hy622]; with_reducible exact H2_) | (have H2_ := (Option.bind_some _ _).symm.trans H; with_reducible exact H2_) | with_reducible exact H | (rw [hy622]; exact H) | exact H
               have Ny622 := Aside0.mk hy622
               clear hy622
               have H' := Aside0.mk H
               clear H
               go_wp2_with (first | ((with_reducible refine gate_callee (f := 69) rfl ?_); refine goesL_ (some 62) rfl rfl Try.func69 (by kernel_rfl) rfl #[.slice A0 l0.length c0, .int .i64 x8_2, .int .i64 x12_4, .int .i64 a2] rfl yQ ?_; (with_reducible refine (swarfref43_run.calls k4 _ _ l0 x8_2 x12_4 a2 true _ ?side1 ?side2 A19.out).mono ?_); (case side1 => repeat (first | exact (Kd.V_reads' HO_0.out).2.2 | (with_reducible refine Kd.C_alloc ?_ _) | (with_reducible refine Kd.C_drewN ?_ _) | (with_reducible refine Kd.C_drew ?_))); (case side2 => exact (Kd.V_reads' HO_0.out).2.1); rintro e w22 ⟨rfl, hb⟩; refine ⟨_, rfl, ?_⟩; have n0_ := Aside0.mk (Kd.V_below (by (with_reducible repeat (first | apply Kd.V_alloc | apply Kd.V_drewN | apply Kd.V_drew)); exact HO_0.out) hb); have n1_ := Aside0.mk (Kd.N_below (by (with_reducible repeat (first | apply Kd.N_alloc | apply Kd.N_drewN | apply Kd.N_drew)); exact HO_618000.out) hb); have n2_ := Aside0.mk (blk_below (g := gb609) (o := .cells #[.slice none 0 0, .slice none 0 0] 48 (0, 0)) yK hb); have n3_ := Aside0.mk (blk_below (g := gb617) (o := .cells #[u618000, .slice none 0 0] 48 (0, 0)) yK hb); have n4_ := Aside0.mk (below_step yB hb); clear HO_0; clear HO_618000; clear BK609; clear BK617; clear HB; have HO_0 := n0_; have HO_618000 := n1_; have BK609 := n2_; have BK617 := n3_; have HB := n4_; clear n0_ n1_ n2_ n3_ n4_; (try clear hb); (try clear hb2); (try clear hk); (try clear hi); have hnb23 := NB617_609.out; have hnc23 := NB609_617.out; have hcz24_0 : w22.cell? ⟨gb617, 0, none⟩ = some (u618000) := (blk_cell BK617.out 0).trans rfl; have hcz24_1 : w22.cell? ⟨gb617, 1, none⟩ = some (.slice none 0 0) := (blk_cell BK617.out 1).trans rfl; have hfz24_0 := blk_frozen BK617.out 0; have hfz24_1 := blk_frozen BK617.out 1) | ((with_reducible refine gate_dst (N := 81) rfl ?_); refine Kd.R_lit k78 _ 78 ?hg (N := 81) ?hd (xs := ([(⟨77, 98000⟩ : S78), (⟨80, wrap64 (1000 * a1)⟩ : S78)] : List (S78))) (inner := [.int .u8 77, .int .i64 98000, .int .u8 80, .int .i64 (wrap64 (1000 * a1))]) (ok := fun _ => True) (okp := fun _ => True) ?hr ?hp (fun _ hk => hk) trivial (Below.refl _ _) (Nat.le_refl _) (by simp) ?_; (case hd => rfl); (case hg => rfl); (case hr => first | (go_simp; done) | (go_simp; rfl)); (case hp => exact (Reps.c2 (show Kd.M k78 _ _ _ (⟨77, 98000⟩ : S78) [.int .u8 77, .int .i64 98000] from (k78_mkM _ _ _ (⟨77, 98000⟩ : S78) )) (Reps.c2 (show Kd.M k78 _ _ _ (⟨80, wrap64 (1000 * a1)⟩ : S78) [.int .u8 80, .int .i64 (wrap64 (1000 * a1))] from (k78_mkM _ _ _ (⟨80, wrap64 (1000 * a1)⟩ : S78) )) (Reps.none _ _)))); intro v620 w25 ho26 hb hg_ hnew_; clear hg_ hnew_; (first | rw [← Ny619.out] at ho26 | (simp only [Int.reduceToNat] at ho26; rw [← Ny619.out] at ho26)); have n0_ := Aside0.mk (Kd.V_elder' (by (with_reducible repeat (first | apply Kd.V_alloc | apply Kd.V_drewN | apply Kd.V_drew)); exact HO_0.out) (Kd.R_base ho26) hb); have n1_ := Aside0.mk (Kd.N_elder' (by (with_reducible repeat (first | apply Kd.N_alloc | apply Kd.N_drewN | apply Kd.N_drew)); exact HO_618000.out) (Kd.R_base ho26) hb); have n2_ := Aside0.mk (Kd.R_lower (Kd.R_newM (M := fun k_ => (w.heap.size ≤ k_)) ho26 (below_size yB) (fun k_ h_ => h_)) (below_size yB)); have n3_ := Aside0.mk (blk_below (g := gb609) (o := .cells #[.slice none 0 0, .slice none 0 0] 48 (0, 0)) yK hb); have n4_ := Aside0.mk (blk_below (g := gb617) (o := .cells #[u618000, .slice none 0 0] 48 (0, 0)) yK hb); have n5_ := Aside0.mk (below_step yB hb); clear HO_0; clear HO_618000; clear BK609; clear BK617; clear HB; have HO_0 := n0_; have HO_618000 := n1_; have HO621 := n2_; have BK609 := n3_; have BK617 := n4_; have HB := n5_; clear n0_ n1_ n2_ n3_ n4_ n5_; clear hb ho26; obtain ⟨Ao27, co27, eo27⟩ := Kd.R_slice HO621.out; subst eo27) | ((with_reducible refine gate_builtin (b := .append) (xs := #[.tmp 76, .tmp 83]) rfl ?_); at_builtin; refine Kd.N_append k32 (w0 := w) w.heap.size rfl (.tmp 76) (.tmp 83) 35 32 (.agg #[(.bool false), (.slice none 0 0), (.string ⟨#[]⟩)]) 48 rfl Try.underlying35 info32 rfl (by decide) (by omega) u618000 x618000_4 (⟨false, y619, (⟨#[]⟩ : ByteArray)⟩ : S32) [.bool false, .slice Ao27 y619.length co27, .string (⟨#[]⟩ : ByteArray)] (fun k_ => (P0_ k_ ∨ w.heap.size ≤ k_) ∧ k_ ≠ gb609 ∧ k_ ≠ gb617) (fun k_ => ((fun k_ => (P0_ k_ ∨ w.heap.size ≤ k_) ∧ k_ ≠ gb609 ∧ k_ ≠ gb617)) k_ ∧ some k_ ≠ (u618000 : Value).ownBlock) rfl rfl ?aP (fun _ hk => hk) ?aF ?aO ?aB ?aS ?aL ?_; (case aP => exact (k32_mkF _ _ (⟨false, y619, (⟨#[]⟩ : ByteArray)⟩ : S32) (Kd.R_reads' (Kd.R_mono (ok' := (fun k_ => ((fun k_ => (P0_ k_ ∨ w.heap.size ≤ k_) ∧ k_ ≠ gb609 ∧ k_ ≠ gb617)) k_ ∧ some k_ ≠ (u618000 : Value).ownBlock)) (Kd.R_types (Kd.R_types (Kd.R_apart' (HO621.out) (Kd.N_typed HO_618000.out) (by decide)) BK609.out (by decide)) BK617.out (by decide)) (fun k_ hk => ⟨⟨(.inr (hk.1.1.1.1)), ⟨hk.1.2, hk.2⟩⟩, hk.1.1.2⟩))).2.1 (Kd.R_F (Kd.R_mono (ok' := (fun k_ => ((fun k_ => (P0_ k_ ∨ w.heap.size ≤ k_) ∧ k_ ≠ gb609 ∧ k_ ≠ gb617)) k_ ∧ some k_ ≠ (u618000 : Value).ownBlock)) (Kd.R_types (Kd.R_types (Kd.R_apart' (HO621.out) (Kd.N_typed HO_618000.out) (by decide)) BK609.out (by decide)) BK617.out (by decide)) (fun k_ hk => ⟨⟨(.inr (hk.1.1.1.1)), ⟨hk.1.2, hk.2⟩⟩, hk.1.1.2⟩))))); (case aB => exact yB); (case aF => exact (fun k_ hk => ⟨(.inr (Nat.le_trans (below_size yB) hk)), Kd.freshB (g := gb609) (o := .cells #[.slice none 0 0, .slice none 0 0] 48 (0, 0)) yK k_ hk, Kd.freshB (g := gb617) (o := .cells #[u618000, .slice none 0 0] 48 (0, 0)) yK k_ hk⟩)); (case aO => exact (by (with_reducible repeat (first | apply Kd.N_alloc | apply Kd.N_drewN | apply Kd.N_drew)); exact Kd.N_mono HO_618000.out (fun _ hk => ⟨hk.1.1, ⟨hk.1.2.1, hk.1.2.2⟩⟩))); (case aS => exact (below_size yB)); (case aL => have := LMc21.out; omega); intro v623 w28 ho hb hg hat; rw [← Ny622.out] at ho; have n0_ := Aside0.mk (Kd.V_afterv (ok := (fun k_ => (P0_ k_ ∨ w.heap.size ≤ k_) ∧ some k_ ≠ (.slice Ao27 y619.length co27 : Value).ownBlock ∧ k_ ≠ gb609 ∧ k_ ≠ gb617)) (by (with_reducible repeat (first | apply Kd.V_alloc | apply Kd.V_drewN | apply Kd.V_drew)); exact Kd.V_mono HO_0.out (fun _ hk => ⟨⟨hk.1.1, ⟨hk.2, ⟨hk.1.2.2.1, hk.1.2.2.2⟩⟩⟩, hk.1.2.1⟩)) hg hat); have n1_ := Aside0.mk (blk_grown (g := gb609) (o := .cells #[.slice none 0 0, .slice none 0 0] 48 (0, 0)) yK hg (Kd.N_ne HO_618000.out BK609.out (by decide))); have n2_ := Aside0.mk (blk_grown (g := gb617) (o := .cells #[u618000, .slice none 0 0] 48 (0, 0)) yK hg (Kd.N_ne HO_618000.out BK617.out (by decide))); have n3_ := Aside0.mk (hb); have n4_ := Aside0.mk (ho); clear HO_0; clear BK609; clear BK617; clear HB; clear HO_618000; clear HO621; have HO_0 := n0_; have BK609 := n1_; have BK617 := n2_; have HB := n3_; have HO624 := n4_; clear n0_ n1_ n2_ n3_ n4_; clear ho hb hg hat; obtain ⟨Ao29, co29, eo29⟩ := Kd.N_slice HO624.out; subst eo29; have hcz30_0 : w28.cell? ⟨gb617, 0, none⟩ = some (u618000) := (blk_cell BK617.out 0).trans rfl; have hcz30_1 : w28.cell? ⟨gb617, 1, none⟩ = some (.slice none 0 0) := (blk_cell BK617.out 1).trans rfl; have hfz30_0 := blk_frozen BK617.out 0; have hfz30_1 := blk_frozen BK617.out 1))
               go_roundg k4
               case measure => have := HJ3.out; have := HK2.out; have := HJ10.out; have := HK4.out; omega
               case rel => exact ⟨(wrap64 (x12_4 + a2)), (y622), (.slice Ao29 y622.length co29), yS, H', ⟨by have := HJ3.out; have := HK2.out; have := HJ10.out; have := HK4.out; omega⟩, ⟨by (with_reducible repeat (first | apply Kd.V_alloc | apply Kd.V_drewN | apply Kd.V_drew)); exact Kd.V_mono (Kd.V_far (p := ⟨gb617, 0, none⟩) (Kd.V_mono HO_0.out (fun k_ hk => (⟨hk, hk.1.2.2.2⟩ : _ ∧ k_ ≠ gb617))) (fun _ hk => hk.2) (.slice Ao29 y622.length co29)) (fun _ hk => ⟨hk.1.1.1, ⟨hk.1.2, ⟨hk.1.1.2.2.1, hk.1.1.2.2.2⟩⟩⟩)⟩, ⟨by (with_reducible repeat (first | apply Kd.N_alloc | apply Kd.N_drewN | apply Kd.N_drew)); exact Kd.N_mono (Kd.N_far (p := ⟨gb617, 0, none⟩) (Kd.N_mono HO624.out (fun k_ hk => (⟨hk, hk.2.2⟩ : _ ∧ k_ ≠ gb617))) (fun _ hk => hk.2) (.slice Ao29 y622.length co29)) (fun _ hk => ⟨hk.1.1, ⟨hk.1.2.1, hk.1.2.2⟩⟩)⟩, ⟨by (with_reducible repeat (first | refine blk_drewN ?_ _ | refine blk_drew ?_ | refine blk_alloc ?_ _)); refine blk_far ?_ NB609_617.out _; (with_reducible repeat (first | refine blk_drewN ?_ _ | refine blk_drew ?_ | refine blk_alloc ?_ _)); exact BK609.out⟩, ⟨by (with_reducible repeat (first | refine blk_drewN ?_ _ | refine blk_drew ?_ | refine blk_alloc ?_ _)); refine blk_put (cs := #[u618000, .slice none 0 0]) ?_ 0 _ rfl; (with_reducible repeat (first | refine blk_drewN ?_ _ | refine blk_drew ?_ | refine blk_alloc ?_ _)); exact BK617.out⟩, ⟨yB⟩⟩
              ·rw [if_neg c21] at H
               exact absurd H (by simp)
             ·replace c20 := Bool.eq_false_iff.mpr c20
              subst c20
              have H1 : (if 0 ≤ x12_4 then (if x618000_4.length < 2932031007402 then (swarfref43_Fold.l2 k4 l0 a1 a2 x8_2 (wrap64 (x12_4 + 1)) (x618000_4 ++ [(⟨(rd_T32 l0 x12_4).f0, (rd_T32 l0 x12_4).f1, (rd_T32 l0 x12_4).f2⟩ : S32)])) else (none)) else (none)) = some (r1, r2, r3) := by rw [if_neg (show ¬ (false = true) by decide)] at H; exact H
              clear H
              have H := H1
              clear H1
              by_cases c31 : 0 ≤ x12_4
              ·rw [if_pos c31] at H
               have c31b0 : decide (0 ≤ x12_4) = true := decide_eq_true c31
               clear c31
               by_cases c32 : x618000_4.length < 2932031007402
               ·rw [if_pos c32] at H
                have LMc32 := Aside0.mk c32
                clear c32
                obtain ⟨y626, hy626⟩ : ∃ y_ : List (S32), y_ = (x618000_4 ++ [(⟨(rd_T32 l0 x12_4).f0, (rd_T32 l0 x12_4).f1, (rd_T32 l0 x12_4).f2⟩ : S32)]) := ⟨_, rfl⟩
                replace H : (swarfref43_Fold.l2 k4 l0 a1 a2 x8_2 (wrap64 (x12_4 + 1)) y626) = some (r1, r2, r3) := by first | (rw [hy626]; with_reducible exact H) | (have H2_ := (Option.bind_some _ _).symm.trans H; rw [hy626]; with_reducible exact H2_) | (have H2_ := (Option.bind_some _ _).symm.trans H; with_reducible exact H2_) | with_reducible exact H | (rw [hy626]; exact H) | exact H
                have Ny626 := Aside0.mk hy626
                clear hy626
                have H' := Aside0.mk H
                clear H
                try go_wp2_with (first | ((with_reducible refine gate_callee (f := 69) rfl ?_); refine goesL_ (some 62) rfl rfl Try.func69 (by kernel_rfl) rfl #[.slice A0 l0.length c0, .int .i64 x8_2, .int .i64 x12_4, .int .i64 a2] rfl yQ ?_; (with_reducible refine (swarfref43_run.calls k4 _ _ l0 x8_2 x12_4 a2 false _ ?side1 ?side2 A19.out).mono ?_); (case side1 => repeat (first | exact (Kd.V_reads' HO_0.out).2.2 | (with_reducible refine Kd.C_alloc ?_ _) | (with_reducible refine Kd.C_drewN ?_ _) | (with_reducible refine Kd.C_drew ?_))); (case side2 => exact (Kd.V_reads' HO_0.out).2.1); rintro e w33 ⟨rfl, hb⟩; refine ⟨_, rfl, ?_⟩; have n0_ := Aside0.mk (Kd.V_below (by (with_reducible repeat (first | apply Kd.V_alloc | apply Kd.V_drewN | apply Kd.V_drew)); exact HO_0.out) hb); have n1_ := Aside0.mk (Kd.N_below (by (with_reducible repeat (first | apply Kd.N_alloc | apply Kd.N_drewN | apply Kd.N_drew)); exact HO_618000.out) hb); have n2_ := Aside0.mk (blk_below (g := gb609) (o := .cells #[.slice none 0 0, .slice none 0 0] 48 (0, 0)) yK hb); have n3_ := Aside0.mk (blk_below (g := gb617) (o := .cells #[u618000, .slice none 0 0] 48 (0, 0)) yK hb); have n4_ := Aside0.mk (below_step yB hb); clear HO_0; clear HO_618000; clear BK609; clear BK617; clear HB; have HO_0 := n0_; have HO_618000 := n1_; have BK609 := n2_; have BK617 := n3_; have HB := n4_; clear n0_ n1_ n2_ n3_ n4_; (try clear hb); (try clear hb2); (try clear hk); (try clear hi)))
                have n0_ := Aside0.mk (Kd.V_drew HO_0.out)
                have n1_ := Aside0.mk (Kd.N_drew HO_618000.out)
                have n2_ := Aside0.mk (blk_drew BK609.out)
                have n3_ := Aside0.mk (blk_drew BK617.out)
                have n4_ := Aside0.mk (below_drew1 HB.out)
                clear HO_0
                clear HO_618000
                clear BK609
                clear BK617
                clear HB
                have HO_0 := n0_
                have HO_618000 := n1_
                have BK609 := n2_
                have BK617 := n3_
                have HB := n4_
                clear n0_ n1_ n2_ n3_ n4_
                have p625 : 0 ≤ (x12_4 : Int) := of_decide_eq_true yP
                have q625 : x12_4 < (l0.length : Int) := of_decide_eq_true yP
                obtain ⟨ad625, A625_1, c625_1, e625, hx625_0, hx625_1, hx625_2, hl625_1, hi625_1⟩ := at_T32 (Kd.V_reads' HO_0.out).2.2 x12_4 p625 q625
                cases e625
                obtain ⟨ce625, hce625, hMe625, hcc625⟩ := Kd.V_get HO_0.out z32 x12_4 p625 (by first | exact q625 | exact of_decide_eq_true yP | (have e_ := (Kd.V_reads' HO_0.out).1; omega))
                obtain ⟨ua625_1, uc625_1, rfl, ul625_1, ge625_1⟩ := k32_openF hMe625
                have hv625_1 := hcc625 1 _ rfl
                rw [add_field _ _ 1 (by omega)] at hv625_1
                replace hv625_1 := Option.some.inj (hv625_1.symm.trans hx625_1)
                injection hv625_1 with hva_ hvn_ hvc_
                rw [hva_] at ge625_1
                rw [hvc_] at ul625_1
                have HL625_1 := Aside0.mk (show Kd.V k78 78 _ w.heap.size _ _ ((rd_T32 l0 x12_4).f1) from Kd.V_mk ul625_1 ge625_1)
                clear hva_ hvn_ hvc_ ge625_1 ul625_1
                clear hcc625 hce625
                have HR625_1 := Aside0.mk hi625_1
                have HC625_1 := Aside0.mk hl625_1
                clear hi625_1 hl625_1
                replace p625 := eq_true p625
                replace q625 := eq_true q625
                refine start_ (n := 10) (S := fun w' => w'.cell? ⟨gb617, 0, none⟩ = some (u618000) ∧ w'.cell? ⟨gb617, 1, none⟩ = some (.slice none 0 0) ∧ w'.cell? (ad625.add ((x12_4).toNat * 3)) = some (.bool ((rd_T32 l0 x12_4).f0)) ∧ w'.cell? ⟨(ad625.add ((x12_4).toNat * 3)).block, (ad625.add ((x12_4).toNat * 3)).off + 1, none⟩ = some (.slice A625_1 ((rd_T32 l0 x12_4).f1).length c625_1) ∧ w'.cell? ⟨(ad625.add ((x12_4).toNat * 3)).block, (ad625.add ((x12_4).toNat * 3)).off + 2, none⟩ = some (.string ((rd_T32 l0 x12_4).f2))) (ds := [7, 9]) #[false, false, false, false, false, false, false, false, false, false] (by kernel_rfl) rfl rfl ⟨(blk_cell BK617.out 0).trans rfl, (blk_cell BK617.out 1).trans rfl, hx625_0, hx625_1, hx625_2⟩ (fun hHeld => ?_); refine with_tabW swarfref43_Fold.tab16 swarfref43_Fold.bits16 (fun HT_ HW_ => ?_)
                generalize w33.drew = w34 at HO_0 HO_618000 BK609 BK617 HB HL625_1 HR625_1 hx625_0 hx625_1 hx625_2 hHeld ⊢
                refine yp 0 64 ?_
                refine yp 2 66 ?_
                refine yp 3 67 ?_
                refine yp 4 68 ?_
                refine yt 1 65 hHeld ?_
                refine yt 5 69 hHeld ?_
                refine one_ (i := 6) (N := some 70) #[true, true, true, true, true, true, true, false, false, false] rfl rfl (one_of HT_.out (by kernel_rfl)) (by decide) (fun K hK => ?_)
                refine value_ (w1 := ?_) (v := ?_) (by rfl) rfl ?_ ?_
                rotate_left 2
                ·go_simp
                 constructor
                 ·rfl
                 ·rfl
                refine hK.out _ _ ⟨(blk_cell (blk_alloc BK617.out _) 0).trans rfl, (blk_cell (blk_alloc BK617.out _) 1).trans rfl, (World.cell?_alloc_lt _ _ _ (yL (hHeld.2.2.1))).trans (hHeld.2.2.1), (World.cell?_alloc_lt _ _ _ (yL (hHeld.2.2.2.1))).trans (hHeld.2.2.2.1), (World.cell?_alloc_lt _ _ _ (yL (hHeld.2.2.2.2))).trans (hHeld.2.2.2.2)⟩ (fun hHeld => ?_)
                clear hK K
                refine norm_ (a' := ?_) ?_ ?_
                rotate_left
                ·show Act.put _ (some 70) _ = _
                 simp only [Act.put, List.setIfInBounds_toArray, List.set_cons_zero, List.set_cons_succ, i64_w, i32_w]
                 rfl
                refine last_ (i := 7) (N := some 71) #[true, true, true, true, true, true, true, true, false, false] rfl rfl (one_of HT_.out (by kernel_rfl)) (by decide) (fun K hK => ?_)
                refine Kd.N_append_step k32 (w0 := w) w.heap.size (by rfl) (.tmp 65) (.tmp 70) 35 32 (.agg #[(.bool false), (.slice none 0 0), (.string ⟨#[]⟩)]) 48 rfl Try.underlying35 info32 rfl (by decide) (by omega) u618000 x618000_4 (⟨(rd_T32 l0 x12_4).f0, (rd_T32 l0 x12_4).f1, (rd_T32 l0 x12_4).f2⟩ : S32) [.bool ((rd_T32 l0 x12_4).f0), .slice A625_1 ((rd_T32 l0 x12_4).f1).length c625_1, .string ((rd_T32 l0 x12_4).f2)] (fun k_ => (P0_ k_ ∨ w.heap.size ≤ k_) ∧ k_ ≠ gb609 ∧ k_ ≠ gb617) (fun k_ => ((fun k_ => (P0_ k_ ∨ w.heap.size ≤ k_) ∧ k_ ≠ gb609 ∧ k_ ≠ gb617)) k_ ∧ some k_ ≠ (u618000 : Value).ownBlock) rfl rfl ?aP (fun _ hk => hk) ?aF ?aO ?aB ?aS ?aL ?_
                (case aP => exact (k32_mkF _ _ (⟨(rd_T32 l0 x12_4).f0, (rd_T32 l0 x12_4).f1, (rd_T32 l0 x12_4).f2⟩ : S32) (Kd.V_reads' (Kd.V_mono (ok' := (fun k_ => ((fun k_ => (P0_ k_ ∨ w.heap.size ≤ k_) ∧ k_ ≠ gb609 ∧ k_ ≠ gb617)) k_ ∧ some k_ ≠ (u618000 : Value).ownBlock)) (HL625_1.out) (fun k_ hk => ⟨⟨hk.1, ⟨hk.2.2.1, hk.2.2.2⟩⟩, hk.2.1⟩))).2.1 (Kd.V_F (Kd.V_mono (ok' := (fun k_ => ((fun k_ => (P0_ k_ ∨ w.heap.size ≤ k_) ∧ k_ ≠ gb609 ∧ k_ ≠ gb617)) k_ ∧ some k_ ≠ (u618000 : Value).ownBlock)) (HL625_1.out) (fun k_ hk => ⟨⟨hk.1, ⟨hk.2.2.1, hk.2.2.2⟩⟩, hk.2.1⟩)))))
                (case aB => exact yB)
                (case aF => exact (fun k_ hk => ⟨(.inr (Nat.le_trans (below_size yB) hk)), Kd.freshB (g := gb609) (o := .cells #[.slice none 0 0, .slice none 0 0] 48 (0, 0)) yK k_ hk, Kd.freshB (g := gb617) (o := .cells #[u618000, .slice none 0 0] 48 (0, 0)) yK k_ hk⟩))
                (case aO => exact (by (with_reducible repeat (first | apply Kd.N_alloc | apply Kd.N_drewN | apply Kd.N_drew)); exact HO_618000.out))
                (case aS => exact (below_size yB))
                (case aL => have := LMc32.out; omega)
                intro v627 w35 ho hb hg hat
                rw [← Ny626.out] at ho
                have n0_ := Aside0.mk (Kd.V_afterv (ok := (fun k_ => (P0_ k_ ∨ w.heap.size ≤ k_) ∧ k_ ≠ gb609 ∧ k_ ≠ gb617)) (by (with_reducible repeat (first | apply Kd.V_alloc | apply Kd.V_drewN | apply Kd.V_drew)); exact Kd.V_mono HO_0.out (fun _ hk => ⟨⟨hk.1, ⟨hk.2.2.1, hk.2.2.2⟩⟩, hk.2.1⟩)) hg hat)
                have n1_ := Aside0.mk (blk_grown (g := gb609) (o := .cells #[.slice none 0 0, .slice none 0 0] 48 (0, 0)) yK hg (Kd.N_ne HO_618000.out BK609.out (by decide)))
                have n2_ := Aside0.mk (blk_grown (g := gb617) (o := .cells #[u618000, .slice none 0 0] 48 (0, 0)) yK hg (Kd.N_ne HO_618000.out BK617.out (by decide)))
                have n3_ := Aside0.mk (Kd.V_afterv (ok := (fun k_ => (P0_ k_ ∨ w.heap.size ≤ k_) ∧ k_ ≠ gb609 ∧ k_ ≠ gb617)) (by (with_reducible repeat (first | apply Kd.V_alloc | apply Kd.V_drewN | apply Kd.V_drew)); exact Kd.V_mono HL625_1.out (fun _ hk => ⟨⟨hk.1, ⟨hk.2.2.1, hk.2.2.2⟩⟩, hk.2.1⟩)) hg hat)
                have n4_ := Aside0.mk (hb)
                have n5_ := Aside0.mk (ho)
                clear HO_0
                clear BK609
                clear BK617
                clear HL625_1
                clear HB
                clear HO_618000
                have HO_0 := n0_
                have BK609 := n1_
                have BK617 := n2_
                have HL625_1 := n3_
                have HB := n4_
                have HO628 := n5_
                clear n0_ n1_ n2_ n3_ n4_ n5_
                clear ho hb hg hat
                obtain ⟨Ao36, co36, eo36⟩ := Kd.N_slice HO628.out
                (first | subst eo36 | (injection eo36 with f1_ f2_ f3_; have f4_ := f1_.symm; have f5_ := f3_.symm; clear f1_ f2_ f3_; subst f4_; subst f5_))
                refine hK.out _ _ ?_
                clear hK K
                refine norm_ (a' := ?_) ?_ ?_
                rotate_left
                ·show Act.put _ (some 71) _ = _
                 simp only [Act.put, List.setIfInBounds_toArray, List.set_cons_zero, List.set_cons_succ, i64_w, i32_w]
                 rfl
                refine yp 8 72 ?_
                refine last_ (i := 9) (N := none) #[true, true, true, true, true, true, true, true, true, true] rfl rfl (one_of HT_.out (by kernel_rfl)) (by decide) (fun K hK => ?_)
                have hs37 : w35.cell? ⟨gb617, 0, none⟩ = some (u618000) := (blk_cell BK617.out 0).trans rfl
                have hfs37 := blk_frozen BK617.out 0
                have hns37_0 := NB609_617.out
                have hms37_0 := NB617_609.out
                refine skip_ (w1 := ?_) (by rfl) rfl ?_ ?_
                rotate_left
                ·go_simp
                 rfl
                refine hK.out _ _ ?_
                clear hK K
                refine done_ (done_of HT_.out (by kernel_rfl)) ?_
                try go_wp2
                go_roundg k4
                case measure => have := HJ3.out; have := HK2.out; have := HJ10.out; have := HK4.out; omega
                case rel => exact ⟨(wrap64 (x12_4 + 1)), (y626), (.slice Ao36 y626.length co36), yS, H', ⟨by have := HJ3.out; have := HK2.out; have := HJ10.out; have := HK4.out; omega⟩, ⟨by (with_reducible repeat (first | apply Kd.V_alloc | apply Kd.V_drewN | apply Kd.V_drew)); exact Kd.V_mono (Kd.V_far (p := ⟨gb617, 0, none⟩) (Kd.V_mono HO_0.out (fun k_ hk => (⟨hk, hk.1.2.2⟩ : _ ∧ k_ ≠ gb617))) (fun _ hk => hk.2) (.slice Ao36 y626.length co36)) (fun _ hk => ⟨hk.1.1.1, ⟨hk.1.2, ⟨hk.1.1.2.1, hk.1.1.2.2⟩⟩⟩)⟩, ⟨by (with_reducible repeat (first | apply Kd.N_alloc | apply Kd.N_drewN | apply Kd.N_drew)); exact Kd.N_mono (Kd.N_far (p := ⟨gb617, 0, none⟩) (Kd.N_mono HO628.out (fun k_ hk => (⟨hk, hk.2.2⟩ : _ ∧ k_ ≠ gb617))) (fun _ hk => hk.2) (.slice Ao36 y626.length co36)) (fun _ hk => ⟨hk.1.1, ⟨hk.1.2.1, hk.1.2.2⟩⟩)⟩, ⟨by (with_reducible repeat (first | refine blk_drewN ?_ _ | refine blk_drew ?_ | refine blk_alloc ?_ _)); refine blk_far ?_ NB609_617.out _; (with_reducible repeat (first | refine blk_drewN ?_ _ | refine blk_drew ?_ | refine blk_alloc ?_ _)); exact BK609.out⟩, ⟨by (with_reducible repeat (first | refine blk_drewN ?_ _ | refine blk_drew ?_ | refine blk_alloc ?_ _)); refine blk_put (cs := #[u618000, .slice none 0 0]) ?_ 0 _ rfl; (with_reducible repeat (first | refine blk_drewN ?_ _ | refine blk_drew ?_ | refine blk_alloc ?_ _)); exact BK617.out⟩, ⟨yB⟩⟩
               ·rw [if_neg c32] at H
                exact absurd H (by simp)
              ·rw [if_neg c31] at H
               exact absurd H (by simp)
            ·rw [if_neg c18] at H
             have c18b0 : decide (x12_4 < (l0.length : Int)) = false := decide_eq_false c18
             clear c18
             obtain ⟨y629, hy629⟩ : ∃ y_ : List (S32), y_ = (([] : List (S32))) := ⟨_, rfl⟩
             replace H : (if 0 ≤ x8_2 then (if x8_2 ≤ (wrap64 (x8_2 + a2)) then (if (wrap64 (x8_2 + a2)) ≤ (l0.length : Int) then ((some ((l0.take ((wrap64 (x8_2 + a2)) : Int).toNat).drop (x8_2 : Int).toNat : List (S32))).bind fun y632 => (if y629.length + y632.length < 2932031007402 then (some (x618000_4, (([(⟨a1, (y629 ++ y632)⟩ : S58)] : List (S58))), 0)) else (none))) else (none)) else (none)) else (none)) = some (r1, r2, r3) := by first | (rw [hy629]; with_reducible exact H) | (have H2_ := (Option.bind_some _ _).symm.trans H; rw [hy629]; with_reducible exact H2_) | (have H2_ := (Option.bind_some _ _).symm.trans H; with_reducible exact H2_) | with_reducible exact H | (rw [hy629]; exact H) | exact H
             have Ny629 := Aside0.mk hy629
             clear hy629
             by_cases c38 : 0 ≤ x8_2
             ·rw [if_pos c38] at H
              have c38b0 := eq_true c38
              have c38b1 : decide (0 ≤ x8_2) = true := decide_eq_true c38
              clear c38
              by_cases c39 : x8_2 ≤ (wrap64 (x8_2 + a2))
              ·rw [if_pos c39] at H
               have c39b0 := eq_true c39
               have c39b1 : decide (x8_2 ≤ (wrap64 (x8_2 + a2))) = true := decide_eq_true c39
               by_cases c40 : (wrap64 (x8_2 + a2)) ≤ (l0.length : Int)
               ·rw [if_pos c40] at H
                have c40b0 := eq_true c40
                have c40b1 : decide ((wrap64 (x8_2 + a2)) ≤ (l0.length : Int)) = true := decide_eq_true c40
                obtain ⟨y632, hy632⟩ : ∃ y_ : List (S32), y_ = ((l0.take ((wrap64 (x8_2 + a2)) : Int).toNat).drop (x8_2 : Int).toNat) := ⟨_, rfl⟩
                replace H : (if y629.length + y632.length < 2932031007402 then (some (x618000_4, (([(⟨a1, (y629 ++ y632)⟩ : S58)] : List (S58))), 0)) else (none)) = some (r1, r2, r3) := by first | (rw [hy632]; with_reducible exact H) | (have H2_ := (Option.bind_some _ _).symm.trans H; rw [hy632]; with_reducible exact H2_) | (have H2_ := (Option.bind_some _ _).symm.trans H; with_reducible exact H2_) | with_reducible exact H | (rw [hy632]; exact H) | exact H
                have Ny632 := Aside0.mk hy632
                clear hy632
                by_cases c41 : y629.length + y632.length < 2932031007402
                ·rw [if_pos c41] at H
                 have LMc41 := Aside0.mk c41
                 clear c41
                 obtain ⟨y637, hy637⟩ : ∃ y_ : List (S32), y_ = (y629 ++ y632) := ⟨_, rfl⟩
                 replace H : (some (x618000_4, (([(⟨a1, y637⟩ : S58)] : List (S58))), 0)) = some (r1, r2, r3) := by first | (rw [hy637]; with_reducible exact H) | (have H2_ := (Option.bind_some _ _).symm.trans H; rw [hy637]; with_reducible exact H2_) | (have H2_ := (Option.bind_some _ _).symm.trans H; with_reducible exact H2_) | with_reducible exact H | (rw [hy637]; exact H) | exact H
                 have Ny637 := Aside0.mk hy637
                 clear hy637
                 obtain ⟨y640, hy640⟩ : ∃ y_ : List (S58), y_ = (([(⟨a1, y637⟩ : S58)] : List (S58))) := ⟨_, rfl⟩
                 replace H : (some (x618000_4, y640, 0)) = some (r1, r2, r3) := by first | (rw [hy640]; with_reducible exact H) | (have H2_ := (Option.bind_some _ _).symm.trans H; rw [hy640]; with_reducible exact H2_) | (have H2_ := (Option.bind_some _ _).symm.trans H; with_reducible exact H2_) | with_reducible exact H | (rw [hy640]; exact H) | exact H
                 have Ny640 := Aside0.mk hy640
                 clear hy640
                 simp only [Option.some.injEq, Prod.mk.injEq] at H
                 obtain ⟨rfl, rfl, rfl⟩ := H
                 go_wp2_with (first | ((with_reducible refine gate_dst (N := 90) rfl ?_); refine Kd.N_lit k32 _ 32 ?hg (N' := 90) ?hd (xs := ([] : List (S32))) (inner := []) (ok := (fun k_ => (P0_ k_ ∨ w.heap.size ≤ k_) ∧ some k_ ≠ (u618000 : Value).ownBlock ∧ k_ ≠ gb609 ∧ k_ ≠ gb617)) (okp := (fun k_ => (P0_ k_ ∨ w.heap.size ≤ k_) ∧ some k_ ≠ (u618000 : Value).ownBlock ∧ k_ ≠ gb609 ∧ k_ ≠ gb617)) ?hr ?hp (fun _ hk => hk) ((show ∀ k_, wr.heap.size ≤ k_ → (fun k_ => (P0_ k_ ∨ w.heap.size ≤ k_) ∧ some k_ ≠ (u618000 : Value).ownBlock ∧ k_ ≠ gb609 ∧ k_ ≠ gb617) k_ from fun k_ hk => ⟨(.inr (Nat.le_trans (below_size yB) hk)), Kd.fresh' (Kd.N_lt (by (with_reducible repeat (first | apply Kd.N_alloc | apply Kd.N_drewN | apply Kd.N_drew)); exact HO_618000.out)) k_ hk, Kd.freshB (g := gb609) (o := .cells #[.slice none 0 0, .slice none 0 0] 48 (0, 0)) yK k_ hk, Kd.freshB (g := gb617) (o := .cells #[u618000, .slice none 0 0] 48 (0, 0)) yK k_ hk⟩) _ (Nat.le_refl _)) (Below.refl _ _) (Nat.le_refl _) (by simp) ?_; (case hd => rfl); (case hg => rfl); (case hr => first | (go_simp; done) | (go_simp; rfl)); (case hp => exact (Reps.none _ _)); intro v630 w42 ho43 hb hg_ hnew_; clear hg_ hnew_; (first | rw [← Ny629.out] at ho43 | (simp only [Int.reduceToNat] at ho43; rw [← Ny629.out] at ho43)); have n0_ := Aside0.mk (Kd.V_elder' (by (with_reducible repeat (first | apply Kd.V_alloc | apply Kd.V_drewN | apply Kd.V_drew)); exact HO_0.out) (Kd.N_base ho43) hb); have n1_ := Aside0.mk (Kd.N_elder' (by (with_reducible repeat (first | apply Kd.N_alloc | apply Kd.N_drewN | apply Kd.N_drew)); exact HO_618000.out) (Kd.N_base ho43) hb); have n2_ := Aside0.mk (Kd.N_lower ho43 (below_size yB)); have n3_ := Aside0.mk (blk_below (g := gb609) (o := .cells #[.slice none 0 0, .slice none 0 0] 48 (0, 0)) yK hb); have n4_ := Aside0.mk (blk_below (g := gb617) (o := .cells #[u618000, .slice none 0 0] 48 (0, 0)) yK hb); have n5_ := Aside0.mk (below_step yB hb); clear HO_0; clear HO_618000; clear BK609; clear BK617; clear HB; have HO_0 := n0_; have HO_618000 := n1_; have HO631 := n2_; have BK609 := n3_; have BK617 := n4_; have HB := n5_; clear n0_ n1_ n2_ n3_ n4_ n5_; clear hb ho43; have q44 : ((wrap64 (x8_2 + a2)) : Int) ≤ ((l0.length : Int) : Int) := of_decide_eq_true yP; obtain ⟨i044, hi044, _, hsz44, _⟩ := info_parts info32; have hroom44 : l0.length ≤ c0 := (Kd.V_reads' HO_0.out).2.1; have hC44 : Kd.F k32 _ _ A0 l0.length l0 := (Kd.V_at (base := w.heap.size) HO_0.out).2.2; have ql44 : (x8_2 : Int) ≤ ((wrap64 (x8_2 + a2)) : Int) := of_decide_eq_true yP; have q044 : (0 : Int) ≤ (x8_2 : Int) := of_decide_eq_true yP; have hcut44 := cut_mid (P := Try.prog) 35 32 .i64 .i64 Try.underlying35 hi044 3 hsz44 A0 l0.length c0 x8_2 (wrap64 (x8_2 + a2)) q044 ql44 q44 hroom44; have hr44 := Kd.F_mid (lo := (x8_2 : Int).toNat) (hi := ((wrap64 (x8_2 + a2)) : Int).toNat) (c := c0) hC44 (by omega) (by omega) hroom44; obtain ⟨A44, hA44⟩ : ∃ A1, A1 = (if c0 = (x8_2 : Int).toNat then A0 else (A0 : Option Addr).map (·.add ((x8_2 : Int).toNat * 3))) := ⟨_, rfl⟩; obtain ⟨c44, hc44⟩ : ∃ c1, c1 = c0 - (x8_2 : Int).toNat := ⟨_, rfl⟩; have hy44 : y632.length = ((wrap64 (x8_2 + a2)) : Int).toNat - (x8_2 : Int).toNat := (by rw [Ny632.out, List.length_drop, List.length_take] <;> omega); rw [show ((l0).take ((wrap64 (x8_2 + a2)) : Int).toNat).drop (x8_2 : Int).toNat = y632 from Ny632.out.symm] at hr44; replace hr44 : Kd.F k32 _ _ A44 y632.length y632 := (by rw [hA44]; exact hr44); rw [← hy44, ← hA44, ← hc44] at hcut44; have HO636 := Aside0.mk (show Kd.V k32 32 _ w.heap.size _ (.slice A44 y632.length c44) y632 from Kd.V_mk (by rw [hy44, hc44]; exact Nat.sub_le_sub_right (Nat.le_trans (by omega) hroom44) _) hr44); have HC636 := Aside0.mk (show y632.length ≤ c44 from by rw [hy44, hc44]; exact Nat.sub_le_sub_right (Nat.le_trans (by omega) hroom44) _); clear hr44 hC44 hroom44 hi044 hsz44 hc44; have KY44 := Aside0.mk hy44; have KA44 := Aside0.mk hA44; clear hy44 hA44; replace q44 := eq_true q44) | ((with_reducible refine gate_builtin (b := .append) (xs := #[.tmp 90, .tmp 96]) rfl ?_); at_builtin; refine Kd.N_append_rows k32 (w0 := w) w.heap.size rfl (.tmp 90) (.tmp 96) 35 32 (.agg #[(.bool false), (.slice none 0 0), (.string ⟨#[]⟩)]) 48 rfl Try.underlying35 info32 rfl (by decide) (by omega) v630 y629 y632 _ _ _ (fun k_ => (P0_ k_ ∨ w.heap.size ≤ k_) ∧ some k_ ≠ (u618000 : Value).ownBlock ∧ k_ ≠ gb609 ∧ k_ ≠ gb617) (fun k_ => ((fun k_ => (P0_ k_ ∨ w.heap.size ≤ k_) ∧ some k_ ≠ (u618000 : Value).ownBlock ∧ k_ ≠ gb609 ∧ k_ ≠ gb617)) k_ ∧ some k_ ≠ (v630 : Value).ownBlock) rfl rfl ?aO ?aR (fun _ hk => hk) ?aF ?aB ?aS ?aL ?_; (case aR => exact (by skip; exact Kd.V_F (Kd.V_mono (ok' := (fun k_ => ((fun k_ => (P0_ k_ ∨ w.heap.size ≤ k_) ∧ some k_ ≠ (u618000 : Value).ownBlock ∧ k_ ≠ gb609 ∧ k_ ≠ gb617)) k_ ∧ some k_ ≠ (v630 : Value).ownBlock)) (HO636.out) (fun k_ hk => ⟨⟨hk.1.1, ⟨hk.1.2.1, ⟨hk.1.2.2.1, hk.1.2.2.2⟩⟩⟩, hk.2⟩)))); (case aB => exact yB); (case aF => exact (fun k_ hk => ⟨(.inr (Nat.le_trans (below_size yB) hk)), Kd.fresh' (Kd.N_lt (by (with_reducible repeat (first | apply Kd.N_alloc | apply Kd.N_drewN | apply Kd.N_drew)); exact HO_618000.out)) k_ hk, Kd.freshB (g := gb609) (o := .cells #[.slice none 0 0, .slice none 0 0] 48 (0, 0)) yK k_ hk, Kd.freshB (g := gb617) (o := .cells #[u618000, .slice none 0 0] 48 (0, 0)) yK k_ hk⟩)); (case aO => exact (by (with_reducible repeat (first | apply Kd.N_alloc | apply Kd.N_drewN | apply Kd.N_drew)); exact HO631.out)); (case aS => exact (below_size yB)); (case aL => have := LMc41.out; omega); intro v638 w45 ho hb hg hat; rw [← Ny637.out] at ho; have n0_ := Aside0.mk (Kd.V_afterv (ok := (fun k_ => (P0_ k_ ∨ w.heap.size ≤ k_) ∧ some k_ ≠ (u618000 : Value).ownBlock ∧ k_ ≠ gb609 ∧ k_ ≠ gb617)) (by (with_reducible repeat (first | apply Kd.V_alloc | apply Kd.V_drewN | apply Kd.V_drew)); exact HO_0.out) hg hat); have n1_ := Aside0.mk (Kd.N_afterv (ok := (fun k_ => (P0_ k_ ∨ w.heap.size ≤ k_) ∧ k_ ≠ gb609 ∧ k_ ≠ gb617)) (by (with_reducible repeat (first | apply Kd.N_alloc | apply Kd.N_drewN | apply Kd.N_drew)); exact HO_618000.out) hg hat); have n2_ := Aside0.mk (blk_grown (g := gb609) (o := .cells #[.slice none 0 0, .slice none 0 0] 48 (0, 0)) yK hg (Kd.N_ne HO631.out BK609.out (by decide))); have n3_ := Aside0.mk (blk_grown (g := gb617) (o := .cells #[u618000, .slice none 0 0] 48 (0, 0)) yK hg (Kd.N_ne HO631.out BK617.out (by decide))); have n4_ := Aside0.mk (Kd.V_afterv (ok := (fun k_ => (P0_ k_ ∨ w.heap.size ≤ k_) ∧ some k_ ≠ (u618000 : Value).ownBlock ∧ k_ ≠ gb609 ∧ k_ ≠ gb617)) (by (with_reducible repeat (first | apply Kd.V_alloc | apply Kd.V_drewN | apply Kd.V_drew)); exact HO636.out) hg hat); have n5_ := Aside0.mk (hb); have n6_ := Aside0.mk (ho); clear HO_0; clear HO_618000; clear BK609; clear BK617; clear HO636; clear HB; clear HO631; have HO_0 := n0_; have HO_618000 := n1_; have BK609 := n2_; have BK617 := n3_; have HO636 := n4_; have HB := n5_; have HO639 := n6_; clear n0_ n1_ n2_ n3_ n4_ n5_ n6_; clear ho hb hg hat; obtain ⟨Ao46, co46, eo46⟩ := Kd.N_slice HO639.out; subst eo46) | ((with_reducible refine gate_dst (N := 99) rfl ?_); refine Kd.N_lit k58 _ 58 ?hg (N' := 99) ?hd (xs := ([(⟨a1, y637⟩ : S58)] : List (S58))) (inner := [.int .i64 a1, .slice Ao46 y637.length co46]) (ok := (fun k_ => (P0_ k_ ∨ w.heap.size ≤ k_) ∧ some k_ ≠ (u618000 : Value).ownBlock ∧ k_ ≠ gb609 ∧ k_ ≠ gb617)) (okp := (fun k_ => (P0_ k_ ∨ w.heap.size ≤ k_) ∧ some k_ ≠ (u618000 : Value).ownBlock ∧ k_ ≠ gb609 ∧ k_ ≠ gb617)) ?hr ?hp (fun _ hk => hk) ((show ∀ k_, w45.heap.size ≤ k_ → (fun k_ => (P0_ k_ ∨ w.heap.size ≤ k_) ∧ some k_ ≠ (u618000 : Value).ownBlock ∧ k_ ≠ gb609 ∧ k_ ≠ gb617) k_ from fun k_ hk => ⟨(.inr (Nat.le_trans (below_size yB) hk)), Kd.fresh' (Kd.N_lt (by (with_reducible repeat (first | apply Kd.N_alloc | apply Kd.N_drewN | apply Kd.N_drew)); exact HO_618000.out)) k_ hk, Kd.freshB (g := gb609) (o := .cells #[.slice none 0 0, .slice none 0 0] 48 (0, 0)) yK k_ hk, Kd.freshB (g := gb617) (o := .cells #[u618000, .slice none 0 0] 48 (0, 0)) yK k_ hk⟩) _ (Nat.le_refl _)) (Below.refl _ _) (Nat.le_refl _) (by simp) ?_; (case hd => rfl); (case hg => rfl); (case hr => first | (go_simp; done) | (go_simp; rfl)); (case hp => exact (Reps.c2 (show Kd.FK k58 _ _ (⟨a1, y637⟩ : S58) [.int .i64 a1, .slice Ao46 y637.length co46] from (k58_mkF _ _ (⟨a1, y637⟩ : S58) (Kd.N_reads' (Kd.N_mono (ok' := (fun k_ => (P0_ k_ ∨ w.heap.size ≤ k_) ∧ some k_ ≠ (u618000 : Value).ownBlock ∧ k_ ≠ gb609 ∧ k_ ≠ gb617)) (HO639.out) (fun k_ hk => ⟨hk.1, ⟨hk.2.1, ⟨hk.2.2.1, hk.2.2.2⟩⟩⟩))).2.1 (Kd.N_F (Kd.N_mono (ok' := (fun k_ => (P0_ k_ ∨ w.heap.size ≤ k_) ∧ some k_ ≠ (u618000 : Value).ownBlock ∧ k_ ≠ gb609 ∧ k_ ≠ gb617)) (HO639.out) (fun k_ hk => ⟨hk.1, ⟨hk.2.1, ⟨hk.2.2.1, hk.2.2.2⟩⟩⟩))))) (Reps.none _ _))); intro v641 w47 ho48 hb hg_ hnew_; clear hg_ hnew_; (first | rw [← Ny640.out] at ho48 | (simp only [Int.reduceToNat] at ho48; rw [← Ny640.out] at ho48)); have n0_ := Aside0.mk (Kd.V_elder' (by (with_reducible repeat (first | apply Kd.V_alloc | apply Kd.V_drewN | apply Kd.V_drew)); exact HO_0.out) (Kd.N_base ho48) hb); have n1_ := Aside0.mk (Kd.N_elder' (by (with_reducible repeat (first | apply Kd.N_alloc | apply Kd.N_drewN | apply Kd.N_drew)); exact HO_618000.out) (Kd.N_base ho48) hb); have n2_ := Aside0.mk (Kd.V_elder' (by (with_reducible repeat (first | apply Kd.V_alloc | apply Kd.V_drewN | apply Kd.V_drew)); exact HO636.out) (Kd.N_base ho48) hb); have n3_ := Aside0.mk (Kd.N_lower ho48 (below_size yB)); have n4_ := Aside0.mk (blk_below (g := gb609) (o := .cells #[.slice none 0 0, .slice none 0 0] 48 (0, 0)) yK hb); have n5_ := Aside0.mk (blk_below (g := gb617) (o := .cells #[u618000, .slice none 0 0] 48 (0, 0)) yK hb); have n6_ := Aside0.mk (below_step yB hb); clear HO_0; clear HO_618000; clear HO636; clear BK609; clear BK617; clear HB; clear HO639; have HO_0 := n0_; have HO_618000 := n1_; have HO636 := n2_; have HO642 := n3_; have BK609 := n4_; have BK617 := n5_; have HB := n6_; clear n0_ n1_ n2_ n3_ n4_ n5_ n6_; clear hb ho48; obtain ⟨Ao49, co49, eo49⟩ := Kd.N_slice HO642.out; subst eo49; have hnb50 := NB617_609.out; have hnc50 := NB609_617.out; have hcz51_0 : w47.cell? ⟨gb617, 0, none⟩ = some (u618000) := (blk_cell BK617.out 0).trans rfl; have hcz51_1 : w47.cell? ⟨gb617, 1, none⟩ = some (.slice none 0 0) := (blk_cell BK617.out 1).trans rfl; have hfz51_0 := blk_frozen BK617.out 0; have hfz51_1 := blk_frozen BK617.out 1; obtain ⟨Ao52, co52, eo52⟩ := Kd.N_slice HO_618000.out; subst eo52; have hcz53_0 : w47.cell? ⟨gb609, 0, none⟩ = some (.slice none 0 0) := (blk_cell BK609.out 0).trans rfl; have hcz53_1 : w47.cell? ⟨gb609, 1, none⟩ = some (.slice none 0 0) := (blk_cell BK609.out 1).trans rfl; have hfz53_0 := blk_frozen BK609.out 0; have hfz53_1 := blk_frozen BK609.out 1))
                 refine bodyPost_ret (results_ct rfl _ _ gb609 48 #[.slice Ao52 x618000_4.length co52, .slice Ao49 y640.length co49] (0, 0) _ rfl (by (with_reducible repeat (first | refine blk_drewN ?_ _ | refine blk_drew ?_ | refine blk_alloc ?_ _)); refine blk_put (cs := #[.slice Ao52 x618000_4.length co52, .slice none 0 0]) ?_ 1 _ rfl; (with_reducible repeat (first | refine blk_drewN ?_ _ | refine blk_drew ?_ | refine blk_alloc ?_ _)); refine blk_put (cs := #[.slice none 0 0, .slice none 0 0]) ?_ 0 _ rfl; (with_reducible repeat (first | refine blk_drewN ?_ _ | refine blk_drew ?_ | refine blk_alloc ?_ _)); refine blk_far ?_ NB609_617.out _; (with_reducible repeat (first | refine blk_drewN ?_ _ | refine blk_drew ?_ | refine blk_alloc ?_ _)); exact BK609.out) Try.underlying48 rfl (by kernel_rfl)) rfl ?_
                 exact ⟨_, _, by first | rfl | (simp [errW_none, errW_some] <;> rfl) | (simp [*, errW_none, errW_some] <;> rfl), by (with_reducible repeat (first | apply Kd.N_alloc | apply Kd.N_drewN | apply Kd.N_drew)); exact Kd.N_mono (Kd.N_far (p := ⟨gb609, 1, none⟩) (Kd.N_far (p := ⟨gb609, 0, none⟩) (Kd.N_far (p := ⟨gb617, 1, none⟩) (Kd.N_mono (Kd.N_mono HO_618000.out (fun k_ hk => (⟨hk, hk.1.1.2.2⟩ : _ ∧ k_ ≠ gb617))) (fun k_ hk => (⟨hk, hk.1.1.1.2.1⟩ : _ ∧ k_ ≠ gb609))) (fun _ hk => hk.1.2) (.slice Ao49 y640.length co49)) (fun _ hk => hk.2) (.slice Ao52 x618000_4.length co52)) (fun _ hk => hk.2) (.slice Ao49 y640.length co49)) (fun _ hk => ⟨hk.1.1.1.1.1, hk.1.1.2⟩), by (with_reducible repeat (first | apply Kd.N_alloc | apply Kd.N_drewN | apply Kd.N_drew)); exact Kd.N_mono (Kd.N_far (p := ⟨gb609, 1, none⟩) (Kd.N_far (p := ⟨gb609, 0, none⟩) (Kd.N_far (p := ⟨gb617, 1, none⟩) (Kd.N_mono (Kd.N_mono HO642.out (fun k_ hk => (⟨hk, hk.2.2.2⟩ : _ ∧ k_ ≠ gb617))) (fun k_ hk => (⟨hk, hk.1.2.2.1⟩ : _ ∧ k_ ≠ gb609))) (fun _ hk => hk.1.2) (.slice Ao49 y640.length co49)) (fun _ hk => hk.2) (.slice Ao52 x618000_4.length co52)) (fun _ hk => hk.2) (.slice Ao49 y640.length co49)) (fun _ hk => ⟨hk.1.1.1, hk.1.1.2.1⟩), yB⟩
                ·rw [if_neg c41] at H
                 exact absurd H (by simp)
               ·rw [if_neg c40] at H
                exact absurd H (by simp)
              ·rw [if_neg c39] at H
               exact absurd H (by simp)
             ·rw [if_neg c38] at H
              exact absurd H (by simp)
         ·replace c16 := Bool.eq_false_iff.mpr c16
          subst c16
          have H1 : (swarfref43_Fold.l0 kj10 l0 a1 a2 (wrap64 (x8_2 + 1))) = some (r1, r2, r3) := by rw [if_neg (show ¬ (false = true) by decide)] at H; exact H
          clear H
          have H := H1
          clear H1
          have H' := Aside0.mk H
          clear H
          go_wp2
          go_roundg kj10
          case measure => have := HJ3.out; have := HK2.out; have := HJ10.out; omega
          case rel => exact ⟨(wrap64 (x8_2 + 1)), yS, H', ⟨by have := HJ3.out; have := HK2.out; have := HJ10.out; omega⟩, ⟨by (with_reducible repeat (first | apply Kd.V_alloc | apply Kd.V_drewN | apply Kd.V_drew)); exact HO_0.out⟩, ⟨by (with_reducible repeat (first | refine blk_drewN ?_ _ | refine blk_drew ?_ | refine blk_alloc ?_ _)); exact BK609.out⟩, ⟨yB⟩⟩
      ·rw [if_neg c10] at H
       have c10b0 : decide ((wrap64 (x8_2 + a2)) ≤ (l0.length : Int)) = false := decide_eq_false c10
       clear c10
       obtain ⟨y610, hy610⟩ : ∃ y_ : List (S32), y_ = (([] : List (S32))) := ⟨_, rfl⟩
       replace H : (if y610.length + l0.length < 2932031007402 then (some ((y610 ++ l0), ([] : List (S58)), 0)) else (none)) = some (r1, r2, r3) := by first | (rw [hy610]; with_reducible exact H) | (have H2_ := (Option.bind_some _ _).symm.trans H; rw [hy610]; with_reducible exact H2_) | (have H2_ := (Option.bind_some _ _).symm.trans H; with_reducible exact H2_) | with_reducible exact H | (rw [hy610]; exact H) | exact H
       have Ny610 := Aside0.mk hy610
       clear hy610
       by_cases c54 : y610.length + l0.length < 2932031007402
       ·rw [if_pos c54] at H
        have LMc54 := Aside0.mk c54
        clear c54
        obtain ⟨y613, hy613⟩ : ∃ y_ : List (S32), y_ = (y610 ++ l0) := ⟨_, rfl⟩
        replace H : (some (y613, ([] : List (S58)), 0)) = some (r1, r2, r3) := by first | (rw [hy613]; with_reducible exact H) | (have H2_ := (Option.bind_some _ _).symm.trans H; rw [hy613]; with_reducible exact H2_) | (have H2_ := (Option.bind_some _ _).symm.trans H; with_reducible exact H2_) | with_reducible exact H | (rw [hy613]; exact H) | exact H
        have Ny613 := Aside0.mk hy613
        clear hy613
        simp only [Option.some.injEq, Prod.mk.injEq] at H
        obtain ⟨rfl, rfl, rfl⟩ := H
        go_wp2_with (first | ((with_reducible refine gate_dst (N := 102) rfl ?_); refine Kd.N_lit k32 _ 32 ?hg (N' := 102) ?hd (xs := ([] : List (S32))) (inner := []) (ok := (fun k_ => (P0_ k_ ∨ w.heap.size ≤ k_) ∧ k_ ≠ gb609)) (okp := (fun k_ => (P0_ k_ ∨ w.heap.size ≤ k_) ∧ k_ ≠ gb609)) ?hr ?hp (fun _ hk => hk) ((show ∀ k_, wr.heap.size ≤ k_ → (fun k_ => (P0_ k_ ∨ w.heap.size ≤ k_) ∧ k_ ≠ gb609) k_ from fun k_ hk => ⟨(.inr (Nat.le_trans (below_size yB) hk)), Kd.freshB (g := gb609) (o := .cells #[.slice none 0 0, .slice none 0 0] 48 (0, 0)) yK k_ hk⟩) _ (Nat.le_refl _)) (Below.refl _ _) (Nat.le_refl _) (by simp) ?_; (case hd => rfl); (case hg => rfl); (case hr => first | (go_simp; done) | (go_simp; rfl)); (case hp => exact (Reps.none _ _)); intro v611 w55 ho56 hb hg_ hnew_; clear hg_ hnew_; (first | rw [← Ny610.out] at ho56 | (simp only [Int.reduceToNat] at ho56; rw [← Ny610.out] at ho56)); have n0_ := Aside0.mk (Kd.V_elder' (by (with_reducible repeat (first | apply Kd.V_alloc | apply Kd.V_drewN | apply Kd.V_drew)); exact HO_0.out) (Kd.N_base ho56) hb); have n1_ := Aside0.mk (Kd.N_lower ho56 (below_size yB)); have n2_ := Aside0.mk (blk_below (g := gb609) (o := .cells #[.slice none 0 0, .slice none 0 0] 48 (0, 0)) yK hb); have n3_ := Aside0.mk (below_step yB hb); clear HO_0; clear BK609; clear HB; have HO_0 := n0_; have HO612 := n1_; have BK609 := n2_; have HB := n3_; clear n0_ n1_ n2_ n3_; clear hb ho56) | ((with_reducible refine gate_builtin (b := .append) (xs := #[.tmp 102, .tmp 103]) rfl ?_); at_builtin; refine Kd.N_append_rows k32 (w0 := w) w.heap.size rfl (.tmp 102) (.tmp 103) 35 32 (.agg #[(.bool false), (.slice none 0 0), (.string ⟨#[]⟩)]) 48 rfl Try.underlying35 info32 rfl (by decide) (by omega) v611 y610 l0 _ _ _ (fun k_ => (P0_ k_ ∨ w.heap.size ≤ k_) ∧ k_ ≠ gb609) (fun k_ => ((fun k_ => (P0_ k_ ∨ w.heap.size ≤ k_) ∧ k_ ≠ gb609)) k_ ∧ some k_ ≠ (v611 : Value).ownBlock) rfl rfl ?aO ?aR (fun _ hk => hk) ?aF ?aB ?aS ?aL ?_; (case aR => exact (by skip; exact Kd.V_F (Kd.V_mono (ok' := (fun k_ => ((fun k_ => (P0_ k_ ∨ w.heap.size ≤ k_) ∧ k_ ≠ gb609)) k_ ∧ some k_ ≠ (v611 : Value).ownBlock)) (HO_0.out) (fun k_ hk => ⟨⟨hk.1.1, hk.1.2⟩, hk.2⟩)))); (case aB => exact yB); (case aF => exact (fun k_ hk => ⟨(.inr (Nat.le_trans (below_size yB) hk)), Kd.freshB (g := gb609) (o := .cells #[.slice none 0 0, .slice none 0 0] 48 (0, 0)) yK k_ hk⟩)); (case aO => exact (by (with_reducible repeat (first | apply Kd.N_alloc | apply Kd.N_drewN | apply Kd.N_drew)); exact HO612.out)); (case aS => exact (below_size yB)); (case aL => have := LMc54.out; omega); intro v614 w57 ho hb hg hat; rw [← Ny613.out] at ho; have n0_ := Aside0.mk (Kd.V_afterv (ok := (fun k_ => (P0_ k_ ∨ w.heap.size ≤ k_) ∧ k_ ≠ gb609)) (by (with_reducible repeat (first | apply Kd.V_alloc | apply Kd.V_drewN | apply Kd.V_drew)); exact HO_0.out) hg hat); have n1_ := Aside0.mk (blk_grown (g := gb609) (o := .cells #[.slice none 0 0, .slice none 0 0] 48 (0, 0)) yK hg (Kd.N_ne HO612.out BK609.out (by decide))); have n2_ := Aside0.mk (hb); have n3_ := Aside0.mk (ho); clear HO_0; clear BK609; clear HB; clear HO612; have HO_0 := n0_; have BK609 := n1_; have HB := n2_; have HO615 := n3_; clear n0_ n1_ n2_ n3_; clear ho hb hg hat; obtain ⟨Ao58, co58, eo58⟩ := Kd.N_slice HO615.out; subst eo58; have hcz59_0 : w57.cell? ⟨gb609, 0, none⟩ = some (.slice none 0 0) := (blk_cell BK609.out 0).trans rfl; have hcz59_1 : w57.cell? ⟨gb609, 1, none⟩ = some (.slice none 0 0) := (blk_cell BK609.out 1).trans rfl; have hfz59_0 := blk_frozen BK609.out 0; have hfz59_1 := blk_frozen BK609.out 1))
        refine bodyPost_ret (results_ct rfl _ _ gb609 48 #[.slice Ao58 y613.length co58, .slice none 0 0] (0, 0) _ rfl (by (with_reducible repeat (first | refine blk_drewN ?_ _ | refine blk_drew ?_ | refine blk_alloc ?_ _)); refine blk_put (cs := #[.slice Ao58 y613.length co58, .slice none 0 0]) ?_ 1 _ rfl; (with_reducible repeat (first | refine blk_drewN ?_ _ | refine blk_drew ?_ | refine blk_alloc ?_ _)); refine blk_put (cs := #[.slice none 0 0, .slice none 0 0]) ?_ 0 _ rfl; (with_reducible repeat (first | refine blk_drewN ?_ _ | refine blk_drew ?_ | refine blk_alloc ?_ _)); exact BK609.out) Try.underlying48 rfl (by kernel_rfl)) rfl ?_
        exact ⟨_, _, by first | rfl | (simp [errW_none, errW_some] <;> rfl) | (simp [*, errW_none, errW_some] <;> rfl), by (with_reducible repeat (first | apply Kd.N_alloc | apply Kd.N_drewN | apply Kd.N_drew)); exact Kd.N_mono (Kd.N_far (p := ⟨gb609, 1, none⟩) (Kd.N_far (p := ⟨gb609, 0, none⟩) (Kd.N_mono HO615.out (fun k_ hk => (⟨hk, hk.2⟩ : _ ∧ k_ ≠ gb609))) (fun _ hk => hk.2) (.slice Ao58 y613.length co58)) (fun _ hk => hk.2) (.slice none 0 0)) (fun _ hk => ⟨hk.1.1, (by simp [Value.ownBlock])⟩), by first | exact Kd.R_nil _ _ _ _ _ | exact Kd.N_nil _ _ _ _ _ | exact Kd.V_nil _ _ _ _ _ | exact Kd.Q_nil _ _ _ _ _ | exact Kd.S_nil _ _ _ _ _, yB⟩
       ·rw [if_neg c54] at H
        exact absurd H (by simp)
end Go.Proofs.Ytehkhbnhmehobaa.P
namespace Go.Proofs.Ytehkhbnhmehobaa.P
open Go.RowKit Go.Proofs.YtehkhbnhmehobaaW.PrintWords Go.Proofs.YtehkhbnhmehobaaW.PrintLast Go.Proofs.YtehkhbnhmehobaaW.PrintMore
attribute [local go_sem] max2_int min2_int max_two min_two max_three min_three max_four min_four
set_option linter.unusedVariables false
set_option linter.unusedSimpArgs false
mutual
def swarfref43_Same.j0 : Nat → Bool → List (S32) → List (S58) → List (S32) → List (S58) → Option (Bool)
 | 0, _, _, _, _, _ => none
 | k + 1, x20, x644000, x644001, x645000, x645001 => if x20 = true then (some false) else (swarfref43_Same.l0 k 0 x644000 x644001 x645000 x645001)
def swarfref43_Same.l0 : Nat → Int → List (S32) → List (S58) → List (S32) → List (S58) → Option (Bool)
 | 0, _, _, _, _, _ => none
 | k + 1, x5, x644000, x644001, x645000, x645001 => if x5 < (x644001.length : Int) then (if 0 ≤ x5 then (if x5 < (x645001.length : Int) then (if ((rd_T58 x644001 x5).f0) = ((rd_T58 x645001 x5).f0) then ((swarfref41_Same.f k ((rd_T58 x644001 x5).f1) ((rd_T58 x645001 x5).f1)).bind fun t650 => (if t650 = true then (swarfref43_Same.l0 k (wrap64 (x5 + 1)) x644000 x644001 x645000 x645001) else (some false))) else (some false)) else (none)) else (none)) else (some true)
end
def swarfref43_Same.f (k : Nat) (l0_0 : List (S32)) (l0_1 : List (S58)) (l1_0 : List (S32)) (l1_1 : List (S58)) : Option (Bool) := (swarfref41_Same.f k l0_0 l1_0).bind fun t645 => (if t645 = true then (swarfref43_Same.j0 k ((l0_1.length : Int) != (l1_1.length : Int)) l0_0 l0_1 l1_0 l1_1) else (swarfref43_Same.j0 k true l0_0 l0_1 l1_0 l1_1))
theorem swarfref43_Same.mono_l : ∀ k, (∀ y0 y1 y2 y3 y4, LeO (swarfref43_Same.j0 k y0 y1 y2 y3 y4) (swarfref43_Same.j0 (k + 1) y0 y1 y2 y3 y4)) ∧ (∀ y0 y1 y2 y3 y4, LeO (swarfref43_Same.l0 k y0 y1 y2 y3 y4) (swarfref43_Same.l0 (k + 1) y0 y1 y2 y3 y4))
 | 0 => ⟨fun _ _ _ _ _ r h => by simp [swarfref43_Same.j0] at h, fun _ _ _ _ _ r h => by simp [swarfref43_Same.l0] at h⟩
 | k + 1 => by
  obtain ⟨ih0, ih1⟩ := swarfref43_Same.mono_l k
  refine ⟨?_, ?_⟩
  ·intro y0 y1 y2 y3 y4
   unfold swarfref43_Same.j0
   repeat' first
   | (with_reducible exact ih0 _ _ _ _ _)
   | (with_reducible exact ih1 _ _ _ _ _)
   | (with_reducible exact swarfref41_Same.mono _ _ _)
   | (with_reducible exact LeO.refl _)
   | (with_reducible exact LeO.none _)
   | (with_reducible refine LeO.ite ?_ ?_)
   | (with_reducible refine LeO.bind ?_ (fun _ => ?_))
   | exact ih0 _ _ _ _ _
   | exact ih1 _ _ _ _ _
   | exact swarfref41_Same.mono _ _ _
   | exact LeO.none _
   | refine LeO.ite ?_ ?_
   | refine LeO.bind ?_ (fun _ => ?_)
  ·intro y0 y1 y2 y3 y4
   unfold swarfref43_Same.l0
   repeat' first
   | (with_reducible exact ih0 _ _ _ _ _)
   | (with_reducible exact ih1 _ _ _ _ _)
   | (with_reducible exact swarfref41_Same.mono _ _ _)
   | (with_reducible exact LeO.refl _)
   | (with_reducible exact LeO.none _)
   | (with_reducible refine LeO.ite ?_ ?_)
   | (with_reducible refine LeO.bind ?_ (fun _ => ?_))
   | exact ih0 _ _ _ _ _
   | exact ih1 _ _ _ _ _
   | exact swarfref41_Same.mono _ _ _
   | exact LeO.none _
   | refine LeO.ite ?_ ?_
   | refine LeO.bind ?_ (fun _ => ?_)
theorem swarfref43_Same.mono : ∀ a0 a1 a2 a3 k, LeO (swarfref43_Same.f k a0 a1 a2 a3) (swarfref43_Same.f (k + 1) a0 a1 a2 a3) := by
 intro a0 a1 a2 a3 k
 obtain ⟨ih0, ih1⟩ := swarfref43_Same.mono_l k
 unfold swarfref43_Same.f
 repeat' first
   | (with_reducible exact ih0 _ _ _ _ _)
   | (with_reducible exact ih1 _ _ _ _ _)
   | (with_reducible exact swarfref41_Same.mono _ _ _)
   | (with_reducible exact LeO.refl _)
   | (with_reducible exact LeO.none _)
   | (with_reducible refine LeO.ite ?_ ?_)
   | (with_reducible refine LeO.bind ?_ (fun _ => ?_))
   | exact ih0 _ _ _ _ _
   | exact ih1 _ _ _ _ _
   | exact swarfref41_Same.mono _ _ _
   | exact LeO.none _
   | refine LeO.ite ?_ ?_
   | refine LeO.bind ?_ (fun _ => ?_)
def swarfref43_Same.T6 : Bool × List (List Nat × List Nat) := (true, [([], []), ([0], [0]), ([], []), ([1, 2], [1, 2]), ([3], [3]), ([4], [4]), ([], []), ([6], [6]), ([], []), ([7, 8], [7, 8]), ([9], [9]), ([10], [10]), ([5, 11], [5, 11]), ([12], [12]), ([13], [13]), ([14, 13], [13, 14]), ([13], [13]), ([15, 16, 13], [13, 15, 16]), ([17, 13], [13, 17]), ([18, 13], [13, 18]), ([13], [13]), ([20, 13], [13, 20]), ([13], [13]), ([21, 22, 13], [13, 21, 22]), ([23, 13], [13, 23]), ([24, 13], [13, 24]), ([19, 25, 13, 13], [13, 19, 25]), ([26, 13], [13, 26]), ([13, 27], [13, 27])])
def swarfref43_Same.B6 : List Nat := [0, 1, 0, 7, 15, 31, 0, 64, 0, 448, 960, 1984, 4095, 8191, 16383, 32767, 16383, 131071, 262143, 524287, 16383, 1064959, 16383, 7356415, 15745023, 32522239, 67108863, 134217727, 268435455]
theorem swarfref43_Same.tab6 : rtab .any (opsOf Try.f35 6) = swarfref43_Same.T6 := by kernel_rfl
theorem swarfref43_Same.bits6 : waitsOk swarfref43_Same.T6.2 swarfref43_Same.B6 = true := by kernel_rfl
set_option maxHeartbeats 8000000 in
set_option maxRecDepth 100000 in
theorem swarfref43_Same.calls (k : Nat) (A0_0 : Option Addr) (c0_0 : Nat) (l0_0 : List (S32)) (A0_1 : Option Addr) (c0_1 : Nat) (l0_1 : List (S58)) (A1_0 : Option Addr) (c1_0 : Nat) (l1_0 : List (S32)) (A1_1 : Option Addr) (c1_1 : Nat) (l1_1 : List (S58)) (r : Bool) (w : World) (hr0_0 : Kd.C k32 w A0_0 l0_0.length l0_0) (hc0_0 : l0_0.length ≤ c0_0) (hr0_1 : Kd.C k58 w A0_1 l0_1.length l0_1) (hc0_1 : l0_1.length ≤ c0_1) (hr1_0 : Kd.C k32 w A1_0 l1_0.length l1_0) (hc1_0 : l1_0.length ≤ c1_0) (hr1_1 : Kd.C k58 w A1_1 l1_1.length l1_1) (hc1_1 : l1_1.length ≤ c1_1) (h : swarfref43_Same.f k l0_0 l0_1 l1_0 l1_1 = some r) :
  Calls Try.prog 35 #[.agg #[.slice A0_0 l0_0.length c0_0, .slice A0_1 l0_1.length c0_1], .agg #[.slice A1_0 l1_0.length c1_0, .slice A1_1 l1_1.length c1_1]] w fun e w' => e = .returned (.bool r) ∧ Below w.heap.size w w' := by
 have hu48 := Try.underlying48
 have HR0_0 := Aside0.mk hr0_0
 have HC0_0 := Aside0.mk hc0_0
 clear hr0_0 hc0_0
 have HR0_1 := Aside0.mk hr0_1
 have HC0_1 := Aside0.mk hc0_1
 clear hr0_1 hc0_1
 have HR1_0 := Aside0.mk hr1_0
 have HC1_0 := Aside0.mk hc1_0
 clear hr1_0 hc1_0
 have HR1_1 := Aside0.mk hr1_1
 have HC1_1 := Aside0.mk hc1_1
 clear hr1_1 hc1_1
 have HB := Aside0.mk (Below.refl w.heap.size w)
 have H : ((swarfref41_Same.f k l0_0 l1_0).bind fun t645 => (if t645 = true then (swarfref43_Same.j0 k ((l0_1.length : Int) != (l1_1.length : Int)) l0_0 l0_1 l1_0 l1_1) else (swarfref43_Same.j0 k true l0_0 l0_1 l1_0 l1_1))) = some r := h
 clear h
 have HC3 := Aside0.mk H
 clear H
 go_enter Try.func35, Try.ntmps35
 go_upto_region 1 with (first | ((with_reducible refine gate_dst (N := 2) rfl ?_); (try (refine gate_guard (by rfl) ?_; dsimp only)); refine box_event ?hg (N := 2) ?hd (cs := #[.slice A0_0 l0_0.length c0_0, .slice A0_1 l0_1.length c0_1]) (t := 48) ?hr ?_; (case hd => rfl); (case hg => rfl); (case hr => first | (go_simp; done) | (go_simp; rfl)); intro gb643 hg w4 hbox hb; have n0_ := Aside0.mk (below_step yB hb); have n1_ := Aside0.mk (hbox); have n2_ := Aside0.mk ((yG hg : w.heap.size ≤ gb643)); have n3_ := Aside0.mk ((yG hg : w.heap.size ≤ gb643)); clear HB; have HB := n0_; have BK643 := n1_; have GW643 := n2_; have GE643 := n3_; clear n0_ n1_ n2_ n3_; clear hb hbox hg) | ((with_reducible refine gate_dst (N := 3) rfl ?_); (try (refine gate_guard (by rfl) ?_; dsimp only)); refine box_event ?hg (N := 3) ?hd (cs := #[.slice A1_0 l1_0.length c1_0, .slice A1_1 l1_1.length c1_1]) (t := 48) ?hr ?_; (case hd => rfl); (case hg => rfl); (case hr => first | (go_simp; done) | (go_simp; rfl)); intro gb644 hg w5 hbox hb; have n0_ := Aside0.mk (blk_below (g := gb643) (o := .cells #[.slice A0_0 l0_0.length c0_0, .slice A0_1 l0_1.length c0_1] 48 (0, 0)) yK hb); have n1_ := Aside0.mk (below_step yB hb); have n2_ := Aside0.mk (hbox); have n3_ := Aside0.mk ((yG hg : w.heap.size ≤ gb644)); have n4_ := Aside0.mk ((yG hg : w.heap.size ≤ gb644)); have n5_ := Aside0.mk ((by rw [hg]; exact Nat.ne_of_lt (blk_lt (g := gb643) (o := .cells #[.slice A0_0 l0_0.length c0_0, .slice A0_1 l0_1.length c0_1] 48 (0, 0)) yK) : gb643 ≠ gb644)); have n6_ := Aside0.mk ((by rw [hg]; exact Nat.ne_of_gt (blk_lt (g := gb643) (o := .cells #[.slice A0_0 l0_0.length c0_0, .slice A0_1 l0_1.length c0_1] 48 (0, 0)) yK) : gb644 ≠ gb643)); clear BK643; clear HB; have BK643 := n0_; have HB := n1_; have BK644 := n2_; have GW644 := n3_; have GE644 := n4_; have NB643_644 := n5_; have NB644_643 := n6_; clear n0_ n1_ n2_ n3_ n4_ n5_ n6_; clear hb hbox hg))
 (try simp only [Act.put, List.setIfInBounds_toArray, List.set_cons_zero, List.set_cons_succ])
 go_cut [20] (fun v20 wc => ∃ (kq : Nat) (x20_2 : Bool), v20 = .bool x20_2 ∧ Aside0 (swarfref43_Same.j0 kq x20_2 l0_0 l0_1 l1_0 l1_1 = some r) ∧ Aside0 (kq ≤ k) ∧ Aside0 (wc.heap[gb643]? = some (.cells #[(.slice A0_0 l0_0.length c0_0), (.slice A0_1 l0_1.length c0_1)] 48 (0, 0))) ∧ Aside0 (wc.heap[gb644]? = some (.cells #[(.slice A1_0 l1_0.length c1_0), (.slice A1_1 l1_1.length c1_1)] 48 (0, 0))) ∧ Aside0 (Below w.heap.size w wc))
 case first =>
  have H := HC3.out
  clear HC3
  replace H := Option.bind_eq_some_iff.mp H
  obtain ⟨t645, A60, H⟩ := H
  replace H : (if t645 = true then (swarfref43_Same.j0 k ((l0_1.length : Int) != (l1_1.length : Int)) l0_0 l0_1 l1_0 l1_1) else (swarfref43_Same.j0 k true l0_0 l0_1 l1_0 l1_1)) = some r := H
  have A6 := Aside0.mk A60
  clear A60
  by_cases c7 : t645 = true
  ·subst c7
   have H1 : (swarfref43_Same.j0 k ((l0_1.length : Int) != (l1_1.length : Int)) l0_0 l0_1 l1_0 l1_1) = some r := by rw [if_pos rfl] at H; exact H
   clear H
   have H := H1
   clear H1
   have H' := Aside0.mk H
   clear H
   have hnb8 := NB643_644.out
   have hnc8 := NB644_643.out
   have hcz9_0 : w5.cell? ⟨gb643, 0, none⟩ = some (.slice A0_0 l0_0.length c0_0) := (blk_cell BK643.out 0).trans rfl
   have hcz9_1 : w5.cell? ⟨gb643, 1, none⟩ = some (.slice A0_1 l0_1.length c0_1) := (blk_cell BK643.out 1).trans rfl
   have hfz9_0 := blk_frozen BK643.out 0
   have hfz9_1 := blk_frozen BK643.out 1
   have hcz10_0 : w5.cell? ⟨gb644, 0, none⟩ = some (.slice A1_0 l1_0.length c1_0) := (blk_cell BK644.out 0).trans rfl
   have hcz10_1 : w5.cell? ⟨gb644, 1, none⟩ = some (.slice A1_1 l1_1.length c1_1) := (blk_cell BK644.out 1).trans rfl
   have hfz10_0 := blk_frozen BK644.out 0
   have hfz10_1 := blk_frozen BK644.out 1
   go_wp2_with (first | ((with_reducible refine gate_callee (f := 19) rfl ?_); refine goesL_ (some 10) rfl rfl Try.func19 (by kernel_rfl) rfl #[.slice A0_0 l0_0.length c0_0, .slice A1_0 l1_0.length c1_0] rfl yQ ?_; (with_reducible refine (swarfref41_Same.calls k _ _ l0_0 _ _ l1_0 true _ ?side1 ?side2 ?side3 ?side4 A6.out).mono ?_); (case side1 => exact yC HR0_0.out); (case side2 => exact HC0_0.out); (case side3 => exact yC HR1_0.out); (case side4 => exact HC1_0.out); rintro e w11 ⟨rfl, hb⟩; refine ⟨_, rfl, ?_⟩; have n0_ := Aside0.mk (blk_below (g := gb643) (o := .cells #[.slice A0_0 l0_0.length c0_0, .slice A0_1 l0_1.length c0_1] 48 (0, 0)) yK hb); have n1_ := Aside0.mk (blk_below (g := gb644) (o := .cells #[.slice A1_0 l1_0.length c1_0, .slice A1_1 l1_1.length c1_1] 48 (0, 0)) yK hb); have n2_ := Aside0.mk (below_step yB hb); clear BK643; clear BK644; clear HB; have BK643 := n0_; have BK644 := n1_; have HB := n2_; clear n0_ n1_ n2_; (try clear hb); (try clear hb2); (try clear hk); (try clear hi); have hcz12_0 : w11.cell? ⟨gb643, 0, none⟩ = some (.slice A0_0 l0_0.length c0_0) := (blk_cell BK643.out 0).trans rfl; have hcz12_1 : w11.cell? ⟨gb643, 1, none⟩ = some (.slice A0_1 l0_1.length c0_1) := (blk_cell BK643.out 1).trans rfl; have hfz12_0 := blk_frozen BK643.out 0; have hfz12_1 := blk_frozen BK643.out 1; have hcz13_0 : w11.cell? ⟨gb644, 0, none⟩ = some (.slice A1_0 l1_0.length c1_0) := (blk_cell BK644.out 0).trans rfl; have hcz13_1 : w11.cell? ⟨gb644, 1, none⟩ = some (.slice A1_1 l1_1.length c1_1) := (blk_cell BK644.out 1).trans rfl; have hfz13_0 := blk_frozen BK644.out 0; have hfz13_1 := blk_frozen BK644.out 1))
   go_meet
   case rel => exact ⟨_, (((l0_1.length : Int) != (l1_1.length : Int))), yS, H', ⟨by first | omega | exact Nat.le_refl _⟩, ⟨by (with_reducible repeat (first | refine blk_drewN ?_ _ | refine blk_drew ?_ | refine blk_alloc ?_ _)); exact BK643.out⟩, ⟨by (with_reducible repeat (first | refine blk_drewN ?_ _ | refine blk_drew ?_ | refine blk_alloc ?_ _)); exact BK644.out⟩, ⟨yB⟩⟩
  ·replace c7 := Bool.eq_false_iff.mpr c7
   subst c7
   have H1 : (swarfref43_Same.j0 k true l0_0 l0_1 l1_0 l1_1) = some r := by rw [if_neg (show ¬ (false = true) by decide)] at H; exact H
   clear H
   have H := H1
   clear H1
   have H' := Aside0.mk H
   clear H
   have hnb14 := NB643_644.out
   have hnc14 := NB644_643.out
   have hcz15_0 : w5.cell? ⟨gb643, 0, none⟩ = some (.slice A0_0 l0_0.length c0_0) := (blk_cell BK643.out 0).trans rfl
   have hcz15_1 : w5.cell? ⟨gb643, 1, none⟩ = some (.slice A0_1 l0_1.length c0_1) := (blk_cell BK643.out 1).trans rfl
   have hfz15_0 := blk_frozen BK643.out 0
   have hfz15_1 := blk_frozen BK643.out 1
   have hcz16_0 : w5.cell? ⟨gb644, 0, none⟩ = some (.slice A1_0 l1_0.length c1_0) := (blk_cell BK644.out 0).trans rfl
   have hcz16_1 : w5.cell? ⟨gb644, 1, none⟩ = some (.slice A1_1 l1_1.length c1_1) := (blk_cell BK644.out 1).trans rfl
   have hfz16_0 := blk_frozen BK644.out 0
   have hfz16_1 := blk_frozen BK644.out 1
   go_wp2_with (first | ((with_reducible refine gate_callee (f := 19) rfl ?_); refine goesL_ (some 10) rfl rfl Try.func19 (by kernel_rfl) rfl #[.slice A0_0 l0_0.length c0_0, .slice A1_0 l1_0.length c1_0] rfl yQ ?_; (with_reducible refine (swarfref41_Same.calls k _ _ l0_0 _ _ l1_0 false _ ?side1 ?side2 ?side3 ?side4 A6.out).mono ?_); (case side1 => exact yC HR0_0.out); (case side2 => exact HC0_0.out); (case side3 => exact yC HR1_0.out); (case side4 => exact HC1_0.out); rintro e w17 ⟨rfl, hb⟩; refine ⟨_, rfl, ?_⟩; have n0_ := Aside0.mk (blk_below (g := gb643) (o := .cells #[.slice A0_0 l0_0.length c0_0, .slice A0_1 l0_1.length c0_1] 48 (0, 0)) yK hb); have n1_ := Aside0.mk (blk_below (g := gb644) (o := .cells #[.slice A1_0 l1_0.length c1_0, .slice A1_1 l1_1.length c1_1] 48 (0, 0)) yK hb); have n2_ := Aside0.mk (below_step yB hb); clear BK643; clear BK644; clear HB; have BK643 := n0_; have BK644 := n1_; have HB := n2_; clear n0_ n1_ n2_; (try clear hb); (try clear hb2); (try clear hk); (try clear hi)))
   go_meet
   case rel => exact ⟨_, (true), yS, H', ⟨by first | omega | exact Nat.le_refl _⟩, ⟨by (with_reducible repeat (first | refine blk_drewN ?_ _ | refine blk_drew ?_ | refine blk_alloc ?_ _)); exact BK643.out⟩, ⟨by (with_reducible repeat (first | refine blk_drewN ?_ _ | refine blk_drew ?_ | refine blk_alloc ?_ _)); exact BK644.out⟩, ⟨yB⟩⟩
 case rest =>
  clear HC3
  try clear c1
  try clear p2
  try clear c3
  try clear c7
  try clear c8
  try clear c14
  try clear hcz10_0
  try clear hcz10_1
  try clear hcz12_0
  try clear hcz12_1
  try clear hcz13_0
  try clear hcz13_1
  try clear hcz15_0
  try clear hcz15_1
  try clear hcz16_0
  try clear hcz16_1
  try clear hcz9_0
  try clear hcz9_1
  try clear hfz10_0
  try clear hfz10_1
  try clear hfz12_0
  try clear hfz12_1
  try clear hfz13_0
  try clear hfz13_1
  try clear hfz15_0
  try clear hfz15_1
  try clear hfz16_0
  try clear hfz16_1
  try clear hfz9_0
  try clear hfz9_1
  obtain ⟨kq, x20_2, rfl, HA, HJ2, BK643, BK644, HB⟩ := hcut
  cases kq with
  | zero => exact absurd HA.out (by simp [swarfref43_Same.j0])
  | succ kj2 =>
   have H := HA.out
   clear HA
   simp only [swarfref43_Same.j0] at H
   by_cases c18 : x20_2 = true
   ·subst c18
    have H1 : (some false) = some r := by rw [if_pos rfl] at H; exact H
    clear H
    have H := H1
    clear H1
    obtain rfl := Option.some.inj H
    go_wp2
    go_ret
    exact ⟨by first | rfl | (simp [errW_none, errW_some] <;> rfl) | (simp [*, errW_none, errW_some] <;> rfl), yB⟩
   ·replace c18 := Bool.eq_false_iff.mpr c18
    subst c18
    have H1 : (swarfref43_Same.l0 kj2 0 l0_0 l0_1 l1_0 l1_1) = some r := by rw [if_neg (show ¬ (false = true) by decide)] at H; exact H
    clear H
    have H := H1
    clear H1
    have H' := Aside0.mk H
    clear H
    go_wp2
    go_loopg [5] kj2 (fun kq v5 w' => ∃ (x5_2 : Int), v5 = .int .i64 x5_2 ∧ Aside0 (swarfref43_Same.l0 kq x5_2 l0_0 l0_1 l1_0 l1_1 = some r) ∧ Aside0 (kq ≤ kj2) ∧ Aside0 (w'.heap[gb643]? = some (.cells #[(.slice A0_0 l0_0.length c0_0), (.slice A0_1 l0_1.length c0_1)] 48 (0, 0))) ∧ Aside0 (w'.heap[gb644]? = some (.cells #[(.slice A1_0 l1_0.length c1_0), (.slice A1_1 l1_1.length c1_1)] 48 (0, 0))) ∧ Aside0 (Below w.heap.size w w'))
    case atStart => exact ⟨(0), yS, H', ⟨Nat.le_refl _⟩, ⟨by (with_reducible repeat (first | refine blk_drewN ?_ _ | refine blk_drew ?_ | refine blk_alloc ?_ _)); exact BK643.out⟩, ⟨by (with_reducible repeat (first | refine blk_drewN ?_ _ | refine blk_drew ?_ | refine blk_alloc ?_ _)); exact BK644.out⟩, ⟨yB⟩⟩
    case round =>
     clear H'
     try clear c1
     try clear p2
     try clear c3
     try clear c7
     try clear c8
     try clear c14
     try clear c18
     try clear hcz10_0
     try clear hcz10_1
     try clear hcz12_0
     try clear hcz12_1
     try clear hcz13_0
     try clear hcz13_1
     try clear hcz15_0
     try clear hcz15_1
     try clear hcz16_0
     try clear hcz16_1
     try clear hcz9_0
     try clear hcz9_1
     try clear hfz10_0
     try clear hfz10_1
     try clear hfz12_0
     try clear hfz12_1
     try clear hfz13_0
     try clear hfz13_1
     try clear hfz15_0
     try clear hfz15_1
     try clear hfz16_0
     try clear hfz16_1
     try clear hfz9_0
     try clear hfz9_1
     try clear p2
     obtain ⟨x5_2, rfl, HA, HK2, BK643, BK644, HB⟩ := hrel
     cases gk with
     | zero => exact absurd HA.out (by simp [swarfref43_Same.l0])
     | succ k2 =>
      have H := HA.out
      clear HA
      simp only [swarfref43_Same.l0] at H
      by_cases c19 : x5_2 < (l0_1.length : Int)
      ·rw [if_pos c19] at H
       have c19b0 : decide (x5_2 < (l0_1.length : Int)) = true := decide_eq_true c19
       clear c19
       by_cases c20 : 0 ≤ x5_2
       ·rw [if_pos c20] at H
        have c20b0 : decide (0 ≤ x5_2) = true := decide_eq_true c20
        clear c20
        by_cases c21 : x5_2 < (l1_1.length : Int)
        ·rw [if_pos c21] at H
         have c21b0 : decide (x5_2 < (l1_1.length : Int)) = true := decide_eq_true c21
         clear c21
         by_cases c22 : ((rd_T58 l0_1 x5_2).f0) = ((rd_T58 l1_1 x5_2).f0)
         ·rw [if_pos c22] at H
          have c22b0 : (((rd_T58 l0_1 x5_2).f0) == ((rd_T58 l1_1 x5_2).f0)) = true := beq_iff_eq.mpr c22
          have c22b1 : (((rd_T58 l0_1 x5_2).f0) != ((rd_T58 l1_1 x5_2).f0)) = false := bne_eq_false_iff_eq.mpr c22
          clear c22
          replace H := Option.bind_eq_some_iff.mp H
          obtain ⟨t650, A230, H⟩ := H
          replace H : (if t650 = true then (swarfref43_Same.l0 k2 (wrap64 (x5_2 + 1)) l0_0 l0_1 l1_0 l1_1) else (some false)) = some r := H
          have A23 := Aside0.mk A230
          clear A230
          by_cases c24 : t650 = true
          ·subst c24
           have H1 : (swarfref43_Same.l0 k2 (wrap64 (x5_2 + 1)) l0_0 l0_1 l1_0 l1_1) = some r := by rw [if_pos rfl] at H; exact H
           clear H
           have H := H1
           clear H1
           have H' := Aside0.mk H
           clear H
           have hnb25 := NB643_644.out
           have hnc25 := NB644_643.out
           have hcz26_0 : wr.cell? ⟨gb643, 0, none⟩ = some (.slice A0_0 l0_0.length c0_0) := (blk_cell BK643.out 0).trans rfl
           have hcz26_1 : wr.cell? ⟨gb643, 1, none⟩ = some (.slice A0_1 l0_1.length c0_1) := (blk_cell BK643.out 1).trans rfl
           have hfz26_0 := blk_frozen BK643.out 0
           have hfz26_1 := blk_frozen BK643.out 1
           try go_wp2
           have n0_ := Aside0.mk (blk_drew BK643.out)
           have n1_ := Aside0.mk (blk_drew BK644.out)
           have n2_ := Aside0.mk (below_drew1 HB.out)
           clear BK643
           clear BK644
           clear HB
           have BK643 := n0_
           have BK644 := n1_
           have HB := n2_
           clear n0_ n1_ n2_
           have p646 : 0 ≤ (x5_2 : Int) := of_decide_eq_true yP
           have q646 : x5_2 < (l0_1.length : Int) := of_decide_eq_true yP
           obtain ⟨ad646, A646_1, c646_1, e646, hx646_0, hx646_1, hl646_1, hi646_1⟩ := at_T58 HR0_1.out x5_2 p646 q646
           have hw646_1 := hx646_1
           have hw646_0 := hx646_0
           cases e646
           replace hx646_0 := (HB.out.cell (yL hx646_0)).trans hx646_0
           replace hx646_1 := (HB.out.cell (yL hx646_1)).trans hx646_1
           have HR646_1 := Aside0.mk hi646_1
           have HC646_1 := Aside0.mk hl646_1
           clear hi646_1 hl646_1
           replace p646 := eq_true p646
           replace q646 := eq_true q646
           have p647 : 0 ≤ (x5_2 : Int) := of_decide_eq_true yP
           have q647 : x5_2 < (l1_1.length : Int) := of_decide_eq_true yP
           obtain ⟨ad647, A647_1, c647_1, e647, hx647_0, hx647_1, hl647_1, hi647_1⟩ := at_T58 HR1_1.out x5_2 p647 q647
           have hw647_1 := hx647_1
           have hw647_0 := hx647_0
           cases e647
           replace hx647_0 := (HB.out.cell (yL hx647_0)).trans hx647_0
           replace hx647_1 := (HB.out.cell (yL hx647_1)).trans hx647_1
           have HR647_1 := Aside0.mk hi647_1
           have HC647_1 := Aside0.mk hl647_1
           clear hi647_1 hl647_1
           replace p647 := eq_true p647
           replace q647 := eq_true q647
           have p648 : 0 ≤ (x5_2 : Int) := of_decide_eq_true yP
           have q648 : x5_2 < (l0_1.length : Int) := of_decide_eq_true yP
           obtain ⟨ad648, A648_1, c648_1, e648, hx648_0, hx648_1, hl648_1, hi648_1⟩ := at_T58 HR0_1.out x5_2 p648 q648
           have hw648_1 := hx648_1
           have hw648_0 := hx648_0
           obtain rfl : ad646 = ad648 := (by injection e648)
           have HQA648_1 := Aside0.mk (show A648_1 = A646_1 from by first | (have e_ := Option.some.inj (hw646_1.symm.trans hw648_1); injection e_ with e1_ e2_ e3_; exact e1_.symm) | (have e_ := Option.some.inj (hx646_1.symm.trans hx648_1); injection e_ with e1_ e2_ e3_; exact e1_.symm))
           have HQc648_1 := Aside0.mk (show c648_1 = c646_1 from by first | (have e_ := Option.some.inj (hw646_1.symm.trans hw648_1); injection e_ with e1_ e2_ e3_; exact e3_.symm) | (have e_ := Option.some.inj (hx646_1.symm.trans hx648_1); injection e_ with e1_ e2_ e3_; exact e3_.symm))
           replace hx648_0 := (HB.out.cell (yL hx648_0)).trans hx648_0
           replace hx648_1 := (HB.out.cell (yL hx648_1)).trans hx648_1
           have HR648_1 := Aside0.mk hi648_1
           have HC648_1 := Aside0.mk hl648_1
           clear hi648_1 hl648_1
           replace p648 := eq_true p648
           replace q648 := eq_true q648
           have ea_ := Option.some.inj (hx646_1.symm.trans hx648_1)
           injection ea_ with ea_ en_ ec_
           subst ea_
           subst ec_
           clear en_
           have p649 : 0 ≤ (x5_2 : Int) := of_decide_eq_true yP
           have q649 : x5_2 < (l1_1.length : Int) := of_decide_eq_true yP
           obtain ⟨ad649, A649_1, c649_1, e649, hx649_0, hx649_1, hl649_1, hi649_1⟩ := at_T58 HR1_1.out x5_2 p649 q649
           have hw649_1 := hx649_1
           have hw649_0 := hx649_0
           obtain rfl : ad647 = ad649 := (by injection e649)
           have HQA649_1 := Aside0.mk (show A649_1 = A647_1 from by first | (have e_ := Option.some.inj (hw647_1.symm.trans hw649_1); injection e_ with e1_ e2_ e3_; exact e1_.symm) | (have e_ := Option.some.inj (hx647_1.symm.trans hx649_1); injection e_ with e1_ e2_ e3_; exact e1_.symm))
           have HQc649_1 := Aside0.mk (show c649_1 = c647_1 from by first | (have e_ := Option.some.inj (hw647_1.symm.trans hw649_1); injection e_ with e1_ e2_ e3_; exact e3_.symm) | (have e_ := Option.some.inj (hx647_1.symm.trans hx649_1); injection e_ with e1_ e2_ e3_; exact e3_.symm))
           replace hx649_0 := (HB.out.cell (yL hx649_0)).trans hx649_0
           replace hx649_1 := (HB.out.cell (yL hx649_1)).trans hx649_1
           have HR649_1 := Aside0.mk hi649_1
           have HC649_1 := Aside0.mk hl649_1
           clear hi649_1 hl649_1
           replace p649 := eq_true p649
           replace q649 := eq_true q649
           have ea_ := Option.some.inj (hx647_1.symm.trans hx649_1)
           injection ea_ with ea_ en_ ec_
           subst ea_
           subst ec_
           clear en_
           refine start_ (n := 29) (S := fun w' => w'.cell? ⟨gb643, 0, none⟩ = some (.slice A0_0 l0_0.length c0_0) ∧ w'.cell? ⟨gb643, 1, none⟩ = some (.slice (some ad646) l0_1.length c0_1) ∧ w'.cell? ⟨gb644, 0, none⟩ = some (.slice A1_0 l1_0.length c1_0) ∧ w'.cell? ⟨gb644, 1, none⟩ = some (.slice (some ad647) l1_1.length c1_1) ∧ w'.cell? (ad646.add ((x5_2).toNat * 2)) = some (.int .i64 ((rd_T58 l0_1 x5_2).f0)) ∧ w'.cell? ⟨(ad646.add ((x5_2).toNat * 2)).block, (ad646.add ((x5_2).toNat * 2)).off + 1, none⟩ = some (.slice A646_1 ((rd_T58 l0_1 x5_2).f1).length c646_1) ∧ w'.cell? (ad647.add ((x5_2).toNat * 2)) = some (.int .i64 ((rd_T58 l1_1 x5_2).f0)) ∧ w'.cell? ⟨(ad647.add ((x5_2).toNat * 2)).block, (ad647.add ((x5_2).toNat * 2)).off + 1, none⟩ = some (.slice A647_1 ((rd_T58 l1_1 x5_2).f1).length c647_1) ∧ w'.cell? (ad646.add ((x5_2).toNat * 2)) = some (.int .i64 ((rd_T58 l0_1 x5_2).f0)) ∧ w'.cell? ⟨(ad646.add ((x5_2).toNat * 2)).block, (ad646.add ((x5_2).toNat * 2)).off + 1, none⟩ = some (.slice A646_1 ((rd_T58 l0_1 x5_2).f1).length c646_1) ∧ w'.cell? (ad647.add ((x5_2).toNat * 2)) = some (.int .i64 ((rd_T58 l1_1 x5_2).f0)) ∧ w'.cell? ⟨(ad647.add ((x5_2).toNat * 2)).block, (ad647.add ((x5_2).toNat * 2)).off + 1, none⟩ = some (.slice A647_1 ((rd_T58 l1_1 x5_2).f1).length c647_1)) (ds := []) #[false, false, false, false, false, false, false, false, false, false, false, false, false, false, false, false, false, false, false, false, false, false, false, false, false, false, false, false, false] (by kernel_rfl) rfl rfl ⟨(blk_cell BK643.out 0).trans rfl, (blk_cell BK643.out 1).trans rfl, (blk_cell BK644.out 0).trans rfl, (blk_cell BK644.out 1).trans rfl, ((HB.out.cell (yL hw646_0)).trans hw646_0), ((HB.out.cell (yL hw646_1)).trans hw646_1), ((HB.out.cell (yL hw647_0)).trans hw647_0), ((HB.out.cell (yL hw647_1)).trans hw647_1), ((HB.out.cell (yL hw648_0)).trans hw648_0), ((HB.out.cell (yL hw648_1)).trans hw648_1), ((HB.out.cell (yL hw649_0)).trans hw649_0), ((HB.out.cell (yL hw649_1)).trans hw649_1)⟩ (fun hHeld => ?_); refine with_tabW swarfref43_Same.tab6 swarfref43_Same.bits6 (fun HT_ HW_ => ?_)
           generalize wr.drew = w27 at BK643 BK644 HB HR646_1 HR647_1 HR648_1 HR649_1 hx646_0 hx646_1 hx647_0 hx647_1 hx648_0 hx648_1 hx649_0 hx649_1 hHeld ⊢
           refine yp 0 28 ?_
           refine yp 2 30 ?_
           refine yp 6 34 ?_
           refine yp 8 36 ?_
           refine yt 1 29 hHeld ?_
           refine yp 3 31 ?_
           refine yp 4 32 ?_
           refine yt 5 33 hHeld ?_
           refine yt 7 35 hHeld ?_
           refine yp 9 37 ?_
           refine yp 10 38 ?_
           refine yt 11 39 hHeld ?_
           refine yp 12 40 ?_
           refine yp 13 41 ?_
           refine yp 14 42 ?_
           refine yp 16 44 ?_
           refine yp 20 48 ?_
           refine yp 22 50 ?_
           refine yt 15 43 hHeld ?_
           refine yp 17 45 ?_
           refine yp 18 46 ?_
           refine yt 19 47 hHeld ?_
           refine yt 21 49 hHeld ?_
           refine yp 23 51 ?_
           refine yp 24 52 ?_
           refine yt 25 53 hHeld ?_
           refine one_ (i := 26) (N := some 54) #[true, true, true, true, true, true, true, true, true, true, true, true, true, true, true, true, true, true, true, true, true, true, true, true, true, true, true, false, false] rfl rfl (one_of HT_.out (by kernel_rfl)) (by decide) (fun K hK => ?_)
           refine goes_ Try.func19 (by kernel_rfl) rfl #[.slice A646_1 ((rd_T58 l0_1 x5_2).f1).length c646_1, .slice A647_1 ((rd_T58 l1_1 x5_2).f1).length c647_1] (by rfl) rfl rfl (by (try simp only [List.map_toArray, List.map_cons, List.map_nil]); first | done | rfl | (simp only [List.length_drop, List.length_take]; rfl) | (simp only [HQA649_1.out, HQc649_1.out]; rfl) | (simp only [HQA648_1.out, HQc648_1.out]; rfl) | (simp only [HQA648_1.out, HQc648_1.out, HQA649_1.out, HQc649_1.out]; rfl)) ?_
           with_reducible refine (swarfref41_Same.calls k2 _ _ ((rd_T58 l0_1 x5_2).f1) _ _ ((rd_T58 l1_1 x5_2).f1) true _ ?side1 ?side2 ?side3 ?side4 A23.out).mono ?_
           (case side1 => exact yC HR648_1.out)
           (case side2 => exact HC648_1.out)
           (case side3 => exact yC HR649_1.out)
           (case side4 => exact HC649_1.out)
           rintro e w28 ⟨rfl, hb⟩
           refine ⟨_, rfl, ?_⟩
           have n0_ := Aside0.mk (blk_below (g := gb643) (o := .cells #[.slice A0_0 l0_0.length c0_0, .slice (some ad646) l0_1.length c0_1] 48 (0, 0)) yK hb)
           have n1_ := Aside0.mk (blk_below (g := gb644) (o := .cells #[.slice A1_0 l1_0.length c1_0, .slice (some ad647) l1_1.length c1_1] 48 (0, 0)) yK hb)
           have n2_ := Aside0.mk (below_step yB hb)
           clear BK643
           clear BK644
           clear HB
           have BK643 := n0_
           have BK644 := n1_
           have HB := n2_
           clear n0_ n1_ n2_
           (try clear hb)
           (try clear hb2)
           (try clear hk)
           (try clear hi)
           refine hK.out _ _ ⟨(blk_cell BK643.out 0).trans rfl, (blk_cell BK643.out 1).trans rfl, (blk_cell BK644.out 0).trans rfl, (blk_cell BK644.out 1).trans rfl, ((HB.out.cell (yL hw646_0)).trans hw646_0), ((HB.out.cell (yL hw646_1)).trans hw646_1), ((HB.out.cell (yL hw647_0)).trans hw647_0), ((HB.out.cell (yL hw647_1)).trans hw647_1), ((HB.out.cell (yL hw648_0)).trans hw648_0), ((HB.out.cell (yL hw648_1)).trans hw648_1), ((HB.out.cell (yL hw649_0)).trans hw649_0), ((HB.out.cell (yL hw649_1)).trans hw649_1)⟩ (fun hHeld => ?_)
           clear hK K
           refine norm_ (a' := ?_) ?_ ?_
           rotate_left
           ·show Act.put _ (some 54) _ = _
            simp only [Act.put, List.setIfInBounds_toArray, List.set_cons_zero, List.set_cons_succ, i64_w, i32_w]
            rfl
           refine yp 27 55 ?_
           refine yp 28 56 ?_
           refine done_ (done_of HT_.out (by kernel_rfl)) ?_
           try go_wp2
           go_roundg k2
           case measure => have := HJ2.out; have := HK2.out; omega
           case rel => exact ⟨(wrap64 (x5_2 + 1)), yS, H', ⟨by have := HJ2.out; have := HK2.out; omega⟩, ⟨by (with_reducible repeat (first | refine blk_drewN ?_ _ | refine blk_drew ?_ | refine blk_alloc ?_ _)); exact BK643.out⟩, ⟨by (with_reducible repeat (first | refine blk_drewN ?_ _ | refine blk_drew ?_ | refine blk_alloc ?_ _)); exact BK644.out⟩, ⟨yB⟩⟩
          ·replace c24 := Bool.eq_false_iff.mpr c24
           subst c24
           have H1 : (some false) = some r := by rw [if_neg (show ¬ (false = true) by decide)] at H; exact H
           clear H
           have H := H1
           clear H1
           obtain rfl := Option.some.inj H
           have hnb29 := NB643_644.out
           have hnc29 := NB644_643.out
           have hcz30_0 : wr.cell? ⟨gb643, 0, none⟩ = some (.slice A0_0 l0_0.length c0_0) := (blk_cell BK643.out 0).trans rfl
           have hcz30_1 : wr.cell? ⟨gb643, 1, none⟩ = some (.slice A0_1 l0_1.length c0_1) := (blk_cell BK643.out 1).trans rfl
           have hfz30_0 := blk_frozen BK643.out 0
           have hfz30_1 := blk_frozen BK643.out 1
           try go_wp2
           have n0_ := Aside0.mk (blk_drew BK643.out)
           have n1_ := Aside0.mk (blk_drew BK644.out)
           have n2_ := Aside0.mk (below_drew1 HB.out)
           clear BK643
           clear BK644
           clear HB
           have BK643 := n0_
           have BK644 := n1_
           have HB := n2_
           clear n0_ n1_ n2_
           have p646 : 0 ≤ (x5_2 : Int) := of_decide_eq_true yP
           have q646 : x5_2 < (l0_1.length : Int) := of_decide_eq_true yP
           obtain ⟨ad646, A646_1, c646_1, e646, hx646_0, hx646_1, hl646_1, hi646_1⟩ := at_T58 HR0_1.out x5_2 p646 q646
           have hw646_1 := hx646_1
           have hw646_0 := hx646_0
           cases e646
           replace hx646_0 := (HB.out.cell (yL hx646_0)).trans hx646_0
           replace hx646_1 := (HB.out.cell (yL hx646_1)).trans hx646_1
           have HR646_1 := Aside0.mk hi646_1
           have HC646_1 := Aside0.mk hl646_1
           clear hi646_1 hl646_1
           replace p646 := eq_true p646
           replace q646 := eq_true q646
           have p647 : 0 ≤ (x5_2 : Int) := of_decide_eq_true yP
           have q647 : x5_2 < (l1_1.length : Int) := of_decide_eq_true yP
           obtain ⟨ad647, A647_1, c647_1, e647, hx647_0, hx647_1, hl647_1, hi647_1⟩ := at_T58 HR1_1.out x5_2 p647 q647
           have hw647_1 := hx647_1
           have hw647_0 := hx647_0
           cases e647
           replace hx647_0 := (HB.out.cell (yL hx647_0)).trans hx647_0
           replace hx647_1 := (HB.out.cell (yL hx647_1)).trans hx647_1
           have HR647_1 := Aside0.mk hi647_1
           have HC647_1 := Aside0.mk hl647_1
           clear hi647_1 hl647_1
           replace p647 := eq_true p647
           replace q647 := eq_true q647
           have p648 : 0 ≤ (x5_2 : Int) := of_decide_eq_true yP
           have q648 : x5_2 < (l0_1.length : Int) := of_decide_eq_true yP
           obtain ⟨ad648, A648_1, c648_1, e648, hx648_0, hx648_1, hl648_1, hi648_1⟩ := at_T58 HR0_1.out x5_2 p648 q648
           have hw648_1 := hx648_1
           have hw648_0 := hx648_0
           obtain rfl : ad646 = ad648 := (by injection e648)
           have HQA648_1 := Aside0.mk (show A648_1 = A646_1 from by first | (have e_ := Option.some.inj (hw646_1.symm.trans hw648_1); injection e_ with e1_ e2_ e3_; exact e1_.symm) | (have e_ := Option.some.inj (hx646_1.symm.trans hx648_1); injection e_ with e1_ e2_ e3_; exact e1_.symm))
           have HQc648_1 := Aside0.mk (show c648_1 = c646_1 from by first | (have e_ := Option.some.inj (hw646_1.symm.trans hw648_1); injection e_ with e1_ e2_ e3_; exact e3_.symm) | (have e_ := Option.some.inj (hx646_1.symm.trans hx648_1); injection e_ with e1_ e2_ e3_; exact e3_.symm))
           replace hx648_0 := (HB.out.cell (yL hx648_0)).trans hx648_0
           replace hx648_1 := (HB.out.cell (yL hx648_1)).trans hx648_1
           have HR648_1 := Aside0.mk hi648_1
           have HC648_1 := Aside0.mk hl648_1
           clear hi648_1 hl648_1
           replace p648 := eq_true p648
           replace q648 := eq_true q648
           have ea_ := Option.some.inj (hx646_1.symm.trans hx648_1)
           injection ea_ with ea_ en_ ec_
           subst ea_
           subst ec_
           clear en_
           have p649 : 0 ≤ (x5_2 : Int) := of_decide_eq_true yP
           have q649 : x5_2 < (l1_1.length : Int) := of_decide_eq_true yP
           obtain ⟨ad649, A649_1, c649_1, e649, hx649_0, hx649_1, hl649_1, hi649_1⟩ := at_T58 HR1_1.out x5_2 p649 q649
           have hw649_1 := hx649_1
           have hw649_0 := hx649_0
           obtain rfl : ad647 = ad649 := (by injection e649)
           have HQA649_1 := Aside0.mk (show A649_1 = A647_1 from by first | (have e_ := Option.some.inj (hw647_1.symm.trans hw649_1); injection e_ with e1_ e2_ e3_; exact e1_.symm) | (have e_ := Option.some.inj (hx647_1.symm.trans hx649_1); injection e_ with e1_ e2_ e3_; exact e1_.symm))
           have HQc649_1 := Aside0.mk (show c649_1 = c647_1 from by first | (have e_ := Option.some.inj (hw647_1.symm.trans hw649_1); injection e_ with e1_ e2_ e3_; exact e3_.symm) | (have e_ := Option.some.inj (hx647_1.symm.trans hx649_1); injection e_ with e1_ e2_ e3_; exact e3_.symm))
           replace hx649_0 := (HB.out.cell (yL hx649_0)).trans hx649_0
           replace hx649_1 := (HB.out.cell (yL hx649_1)).trans hx649_1
           have HR649_1 := Aside0.mk hi649_1
           have HC649_1 := Aside0.mk hl649_1
           clear hi649_1 hl649_1
           replace p649 := eq_true p649
           replace q649 := eq_true q649
           have ea_ := Option.some.inj (hx647_1.symm.trans hx649_1)
           injection ea_ with ea_ en_ ec_
           subst ea_
           subst ec_
           clear en_
           refine start_ (n := 29) (S := fun w' => w'.cell? ⟨gb643, 0, none⟩ = some (.slice A0_0 l0_0.length c0_0) ∧ w'.cell? ⟨gb643, 1, none⟩ = some (.slice (some ad646) l0_1.length c0_1) ∧ w'.cell? ⟨gb644, 0, none⟩ = some (.slice A1_0 l1_0.length c1_0) ∧ w'.cell? ⟨gb644, 1, none⟩ = some (.slice (some ad647) l1_1.length c1_1) ∧ w'.cell? (ad646.add ((x5_2).toNat * 2)) = some (.int .i64 ((rd_T58 l0_1 x5_2).f0)) ∧ w'.cell? ⟨(ad646.add ((x5_2).toNat * 2)).block, (ad646.add ((x5_2).toNat * 2)).off + 1, none⟩ = some (.slice A646_1 ((rd_T58 l0_1 x5_2).f1).length c646_1) ∧ w'.cell? (ad647.add ((x5_2).toNat * 2)) = some (.int .i64 ((rd_T58 l1_1 x5_2).f0)) ∧ w'.cell? ⟨(ad647.add ((x5_2).toNat * 2)).block, (ad647.add ((x5_2).toNat * 2)).off + 1, none⟩ = some (.slice A647_1 ((rd_T58 l1_1 x5_2).f1).length c647_1) ∧ w'.cell? (ad646.add ((x5_2).toNat * 2)) = some (.int .i64 ((rd_T58 l0_1 x5_2).f0)) ∧ w'.cell? ⟨(ad646.add ((x5_2).toNat * 2)).block, (ad646.add ((x5_2).toNat * 2)).off + 1, none⟩ = some (.slice A646_1 ((rd_T58 l0_1 x5_2).f1).length c646_1) ∧ w'.cell? (ad647.add ((x5_2).toNat * 2)) = some (.int .i64 ((rd_T58 l1_1 x5_2).f0)) ∧ w'.cell? ⟨(ad647.add ((x5_2).toNat * 2)).block, (ad647.add ((x5_2).toNat * 2)).off + 1, none⟩ = some (.slice A647_1 ((rd_T58 l1_1 x5_2).f1).length c647_1)) (ds := []) #[false, false, false, false, false, false, false, false, false, false, false, false, false, false, false, false, false, false, false, false, false, false, false, false, false, false, false, false, false] (by kernel_rfl) rfl rfl ⟨(blk_cell BK643.out 0).trans rfl, (blk_cell BK643.out 1).trans rfl, (blk_cell BK644.out 0).trans rfl, (blk_cell BK644.out 1).trans rfl, ((HB.out.cell (yL hw646_0)).trans hw646_0), ((HB.out.cell (yL hw646_1)).trans hw646_1), ((HB.out.cell (yL hw647_0)).trans hw647_0), ((HB.out.cell (yL hw647_1)).trans hw647_1), ((HB.out.cell (yL hw648_0)).trans hw648_0), ((HB.out.cell (yL hw648_1)).trans hw648_1), ((HB.out.cell (yL hw649_0)).trans hw649_0), ((HB.out.cell (yL hw649_1)).trans hw649_1)⟩ (fun hHeld => ?_); refine with_tabW swarfref43_Same.tab6 swarfref43_Same.bits6 (fun HT_ HW_ => ?_)
           generalize wr.drew = w31 at BK643 BK644 HB HR646_1 HR647_1 HR648_1 HR649_1 hx646_0 hx646_1 hx647_0 hx647_1 hx648_0 hx648_1 hx649_0 hx649_1 hHeld ⊢
           refine yp 0 28 ?_
           refine yp 2 30 ?_
           refine yp 6 34 ?_
           refine yp 8 36 ?_
           refine yt 1 29 hHeld ?_
           refine yp 3 31 ?_
           refine yp 4 32 ?_
           refine yt 5 33 hHeld ?_
           refine yt 7 35 hHeld ?_
           refine yp 9 37 ?_
           refine yp 10 38 ?_
           refine yt 11 39 hHeld ?_
           refine yp 12 40 ?_
           refine yp 13 41 ?_
           refine yp 14 42 ?_
           refine yp 16 44 ?_
           refine yp 20 48 ?_
           refine yp 22 50 ?_
           refine yt 15 43 hHeld ?_
           refine yp 17 45 ?_
           refine yp 18 46 ?_
           refine yt 19 47 hHeld ?_
           refine yt 21 49 hHeld ?_
           refine yp 23 51 ?_
           refine yp 24 52 ?_
           refine yt 25 53 hHeld ?_
           refine one_ (i := 26) (N := some 54) #[true, true, true, true, true, true, true, true, true, true, true, true, true, true, true, true, true, true, true, true, true, true, true, true, true, true, true, false, false] rfl rfl (one_of HT_.out (by kernel_rfl)) (by decide) (fun K hK => ?_)
           refine goes_ Try.func19 (by kernel_rfl) rfl #[.slice A646_1 ((rd_T58 l0_1 x5_2).f1).length c646_1, .slice A647_1 ((rd_T58 l1_1 x5_2).f1).length c647_1] (by rfl) rfl rfl (by (try simp only [List.map_toArray, List.map_cons, List.map_nil]); first | done | rfl | (simp only [List.length_drop, List.length_take]; rfl) | (simp only [HQA649_1.out, HQc649_1.out]; rfl) | (simp only [HQA648_1.out, HQc648_1.out]; rfl) | (simp only [HQA648_1.out, HQc648_1.out, HQA649_1.out, HQc649_1.out]; rfl)) ?_
           with_reducible refine (swarfref41_Same.calls k2 _ _ ((rd_T58 l0_1 x5_2).f1) _ _ ((rd_T58 l1_1 x5_2).f1) false _ ?side1 ?side2 ?side3 ?side4 A23.out).mono ?_
           (case side1 => exact yC HR648_1.out)
           (case side2 => exact HC648_1.out)
           (case side3 => exact yC HR649_1.out)
           (case side4 => exact HC649_1.out)
           rintro e w32 ⟨rfl, hb⟩
           refine ⟨_, rfl, ?_⟩
           have n0_ := Aside0.mk (blk_below (g := gb643) (o := .cells #[.slice A0_0 l0_0.length c0_0, .slice (some ad646) l0_1.length c0_1] 48 (0, 0)) yK hb)
           have n1_ := Aside0.mk (blk_below (g := gb644) (o := .cells #[.slice A1_0 l1_0.length c1_0, .slice (some ad647) l1_1.length c1_1] 48 (0, 0)) yK hb)
           have n2_ := Aside0.mk (below_step yB hb)
           clear BK643
           clear BK644
           clear HB
           have BK643 := n0_
           have BK644 := n1_
           have HB := n2_
           clear n0_ n1_ n2_
           (try clear hb)
           (try clear hb2)
           (try clear hk)
           (try clear hi)
           refine hK.out _ _ ⟨(blk_cell BK643.out 0).trans rfl, (blk_cell BK643.out 1).trans rfl, (blk_cell BK644.out 0).trans rfl, (blk_cell BK644.out 1).trans rfl, ((HB.out.cell (yL hw646_0)).trans hw646_0), ((HB.out.cell (yL hw646_1)).trans hw646_1), ((HB.out.cell (yL hw647_0)).trans hw647_0), ((HB.out.cell (yL hw647_1)).trans hw647_1), ((HB.out.cell (yL hw648_0)).trans hw648_0), ((HB.out.cell (yL hw648_1)).trans hw648_1), ((HB.out.cell (yL hw649_0)).trans hw649_0), ((HB.out.cell (yL hw649_1)).trans hw649_1)⟩ (fun hHeld => ?_)
           clear hK K
           refine norm_ (a' := ?_) ?_ ?_
           rotate_left
           ·show Act.put _ (some 54) _ = _
            simp only [Act.put, List.setIfInBounds_toArray, List.set_cons_zero, List.set_cons_succ, i64_w, i32_w]
            rfl
           refine yp 27 55 ?_
           refine yp 28 56 ?_
           refine done_ (done_of HT_.out (by kernel_rfl)) ?_
           try go_wp2
           go_ret
           exact ⟨by first | rfl | (simp [errW_none, errW_some] <;> rfl) | (simp [*, errW_none, errW_some] <;> rfl), yB⟩
         ·rw [if_neg c22] at H
          have c22b0 : (((rd_T58 l0_1 x5_2).f0) == ((rd_T58 l1_1 x5_2).f0)) = false := beq_eq_false_iff_ne.mpr c22
          have c22b1 : (((rd_T58 l0_1 x5_2).f0) != ((rd_T58 l1_1 x5_2).f0)) = true := bne_iff_ne.mpr c22
          obtain rfl := Option.some.inj H
          have hnb33 := NB643_644.out
          have hnc33 := NB644_643.out
          have hcz34_0 : wr.cell? ⟨gb643, 0, none⟩ = some (.slice A0_0 l0_0.length c0_0) := (blk_cell BK643.out 0).trans rfl
          have hcz34_1 : wr.cell? ⟨gb643, 1, none⟩ = some (.slice A0_1 l0_1.length c0_1) := (blk_cell BK643.out 1).trans rfl
          have hfz34_0 := blk_frozen BK643.out 0
          have hfz34_1 := blk_frozen BK643.out 1
          try go_wp2
          have n0_ := Aside0.mk (blk_drew BK643.out)
          have n1_ := Aside0.mk (blk_drew BK644.out)
          have n2_ := Aside0.mk (below_drew1 HB.out)
          clear BK643
          clear BK644
          clear HB
          have BK643 := n0_
          have BK644 := n1_
          have HB := n2_
          clear n0_ n1_ n2_
          have p646 : 0 ≤ (x5_2 : Int) := of_decide_eq_true yP
          have q646 : x5_2 < (l0_1.length : Int) := of_decide_eq_true yP
          obtain ⟨ad646, A646_1, c646_1, e646, hx646_0, hx646_1, hl646_1, hi646_1⟩ := at_T58 HR0_1.out x5_2 p646 q646
          have hw646_1 := hx646_1
          have hw646_0 := hx646_0
          cases e646
          replace hx646_0 := (HB.out.cell (yL hx646_0)).trans hx646_0
          replace hx646_1 := (HB.out.cell (yL hx646_1)).trans hx646_1
          have HR646_1 := Aside0.mk hi646_1
          have HC646_1 := Aside0.mk hl646_1
          clear hi646_1 hl646_1
          replace p646 := eq_true p646
          replace q646 := eq_true q646
          have p647 : 0 ≤ (x5_2 : Int) := of_decide_eq_true yP
          have q647 : x5_2 < (l1_1.length : Int) := of_decide_eq_true yP
          obtain ⟨ad647, A647_1, c647_1, e647, hx647_0, hx647_1, hl647_1, hi647_1⟩ := at_T58 HR1_1.out x5_2 p647 q647
          have hw647_1 := hx647_1
          have hw647_0 := hx647_0
          cases e647
          replace hx647_0 := (HB.out.cell (yL hx647_0)).trans hx647_0
          replace hx647_1 := (HB.out.cell (yL hx647_1)).trans hx647_1
          have HR647_1 := Aside0.mk hi647_1
          have HC647_1 := Aside0.mk hl647_1
          clear hi647_1 hl647_1
          replace p647 := eq_true p647
          replace q647 := eq_true q647
          refine start_ (n := 29) (S := fun w' => w'.cell? ⟨gb643, 0, none⟩ = some (.slice A0_0 l0_0.length c0_0) ∧ w'.cell? ⟨gb643, 1, none⟩ = some (.slice (some ad646) l0_1.length c0_1) ∧ w'.cell? ⟨gb644, 0, none⟩ = some (.slice A1_0 l1_0.length c1_0) ∧ w'.cell? ⟨gb644, 1, none⟩ = some (.slice (some ad647) l1_1.length c1_1) ∧ w'.cell? (ad646.add ((x5_2).toNat * 2)) = some (.int .i64 ((rd_T58 l0_1 x5_2).f0)) ∧ w'.cell? ⟨(ad646.add ((x5_2).toNat * 2)).block, (ad646.add ((x5_2).toNat * 2)).off + 1, none⟩ = some (.slice A646_1 ((rd_T58 l0_1 x5_2).f1).length c646_1) ∧ w'.cell? (ad647.add ((x5_2).toNat * 2)) = some (.int .i64 ((rd_T58 l1_1 x5_2).f0)) ∧ w'.cell? ⟨(ad647.add ((x5_2).toNat * 2)).block, (ad647.add ((x5_2).toNat * 2)).off + 1, none⟩ = some (.slice A647_1 ((rd_T58 l1_1 x5_2).f1).length c647_1)) (ds := []) #[false, false, false, false, false, false, false, false, false, false, false, false, false, false, false, false, false, false, false, false, false, false, false, false, false, false, false, false, false] (by kernel_rfl) rfl rfl ⟨(blk_cell BK643.out 0).trans rfl, (blk_cell BK643.out 1).trans rfl, (blk_cell BK644.out 0).trans rfl, (blk_cell BK644.out 1).trans rfl, ((HB.out.cell (yL hw646_0)).trans hw646_0), ((HB.out.cell (yL hw646_1)).trans hw646_1), ((HB.out.cell (yL hw647_0)).trans hw647_0), ((HB.out.cell (yL hw647_1)).trans hw647_1)⟩ (fun hHeld => ?_); refine with_tabW swarfref43_Same.tab6 swarfref43_Same.bits6 (fun HT_ HW_ => ?_)
          generalize wr.drew = w35 at BK643 BK644 HB HR646_1 HR647_1 hx646_0 hx646_1 hx647_0 hx647_1 hHeld ⊢
          refine yp 0 28 ?_
          refine yp 2 30 ?_
          refine yp 6 34 ?_
          refine yp 8 36 ?_
          refine yt 1 29 hHeld ?_
          refine yp 3 31 ?_
          refine yp 4 32 ?_
          refine yt 5 33 hHeld ?_
          refine yt 7 35 hHeld ?_
          refine yp 9 37 ?_
          refine yp 10 38 ?_
          refine yt 11 39 hHeld ?_
          refine yp 12 40 ?_
          refine yp 13 41 ?_
          refine yu 14 42 ?_
          refine yu 15 43 ?_
          refine yu 16 44 ?_
          refine yu 17 45 ?_
          refine yu 18 46 ?_
          refine yu 19 47 ?_
          refine yu 20 48 ?_
          refine yu 21 49 ?_
          refine yu 22 50 ?_
          refine yu 23 51 ?_
          refine yu 24 52 ?_
          refine yu 25 53 ?_
          refine yu 26 54 ?_
          refine yu 27 55 ?_
          refine yp 28 56 ?_
          refine done_ (done_of HT_.out (by kernel_rfl)) ?_
          try go_wp2
          go_ret
          exact ⟨by first | rfl | (simp [errW_none, errW_some] <;> rfl) | (simp [*, errW_none, errW_some] <;> rfl), yB⟩
        ·rw [if_neg c21] at H
         exact absurd H (by simp)
       ·rw [if_neg c20] at H
        exact absurd H (by simp)
      ·rw [if_neg c19] at H
       have c19b0 : decide (x5_2 < (l0_1.length : Int)) = false := decide_eq_false c19
       clear c19
       obtain rfl := Option.some.inj H
       have hnb36 := NB643_644.out
       have hnc36 := NB644_643.out
       have hcz37_0 : wr.cell? ⟨gb643, 0, none⟩ = some (.slice A0_0 l0_0.length c0_0) := (blk_cell BK643.out 0).trans rfl
       have hcz37_1 : wr.cell? ⟨gb643, 1, none⟩ = some (.slice A0_1 l0_1.length c0_1) := (blk_cell BK643.out 1).trans rfl
       have hfz37_0 := blk_frozen BK643.out 0
       have hfz37_1 := blk_frozen BK643.out 1
       go_wp2
       go_ret
       exact ⟨by first | rfl | (simp [errW_none, errW_some] <;> rfl) | (simp [*, errW_none, errW_some] <;> rfl), yB⟩
end Go.Proofs.Ytehkhbnhmehobaa.P
namespace Go.Proofs.Ytehkhbnhmehobaa.P
open Go.RowKit Go.Proofs.YtehkhbnhmehobaaW.PrintWords Go.Proofs.YtehkhbnhmehobaaW.PrintLast Go.Proofs.YtehkhbnhmehobaaW.PrintMore
attribute [local go_sem] max2_int min2_int max_two min_two max_three min_three max_four min_four
set_option linter.unusedVariables false
set_option linter.unusedSimpArgs false
def swarflaw43_back.l0 : Nat → List (S81) → Int → Int → List (S32) → List (S58) → Option ((List (S32)) × (List (S58)))
 | 0, _, _, _, _, _ => none
 | k + 1, x10, x11, x12, x654000, x654001 => if x12 < x11 then (if 0 ≤ x12 then (if x12 < (x10.length : Int) then (if x654001.length < 4398046511104 then (swarflaw43_back.l0 k x10 x11 (wrap64 (x12 + 1)) x654000 (x654001 ++ [(⟨(rd_T81 x10 x12).f0, (rd_T81 x10 x12).f1⟩ : S58)])) else (none)) else (none)) else (none)) else (some (x654000, x654001))
def swarflaw43_back.f (k : Nat) (l0_0 : List (S32)) (l0_1 : List (S81)) : Option ((List (S32)) × (List (S58))) := swarflaw43_back.l0 k l0_1 (l0_1.length : Int) 0 l0_0 ([] : List (S58))
theorem swarflaw43_back.mono_l : ∀ k, (∀ y0 y1 y2 y3 y4, LeO (swarflaw43_back.l0 k y0 y1 y2 y3 y4) (swarflaw43_back.l0 (k + 1) y0 y1 y2 y3 y4))
 | 0 => fun _ _ _ _ _ r h => by simp [swarflaw43_back.l0] at h
 | k + 1 => by
  have ih0 := swarflaw43_back.mono_l k
  ·intro y0 y1 y2 y3 y4
   unfold swarflaw43_back.l0
   repeat' first
   | (with_reducible exact ih0 _ _ _ _ _)
   | (with_reducible exact LeO.refl _)
   | (with_reducible exact LeO.none _)
   | (with_reducible refine LeO.ite ?_ ?_)
   | (with_reducible refine LeO.bind ?_ (fun _ => ?_))
   | exact ih0 _ _ _ _ _
   | exact LeO.none _
   | refine LeO.ite ?_ ?_
   | refine LeO.bind ?_ (fun _ => ?_)
theorem swarflaw43_back.mono : ∀ a0 a1 k, LeO (swarflaw43_back.f k a0 a1) (swarflaw43_back.f (k + 1) a0 a1) := by
 intro a0 a1 k
 have ih0 := swarflaw43_back.mono_l k
 unfold swarflaw43_back.f
 repeat' first
   | (with_reducible exact ih0 _ _ _ _ _)
   | (with_reducible exact LeO.refl _)
   | (with_reducible exact LeO.none _)
   | (with_reducible refine LeO.ite ?_ ?_)
   | (with_reducible refine LeO.bind ?_ (fun _ => ?_))
   | exact ih0 _ _ _ _ _
   | exact LeO.none _
   | refine LeO.ite ?_ ?_
   | refine LeO.bind ?_ (fun _ => ?_)
set_option maxHeartbeats 8000000 in
set_option maxRecDepth 100000 in
theorem swarflaw43_back.calls (k : Nat) (P0_0_ : Nat → Prop) (A0_0 : Option Addr) (c0_0 : Nat) (l0_0 : List (S32)) (P0_1_ : Nat → Prop) (A0_1 : Option Addr) (c0_1 : Nat) (l0_1 : List (S81)) (r1 : List (S32)) (r2 : List (S58)) (w : World) (hs0_0 : Kd.V k32 32 w w.heap.size (fun k_ => P0_0_ k_) (.slice A0_0 l0_0.length c0_0) l0_0) (hs0_1 : Kd.V k81 81 w w.heap.size (fun k_ => P0_1_ k_) (.slice A0_1 l0_1.length c0_1) l0_1) (h : swarflaw43_back.f k l0_0 l0_1 = some (r1, r2)) :
  Calls Try.prog 36 #[.agg #[.slice A0_0 l0_0.length c0_0, .slice A0_1 l0_1.length c0_1]] w fun e w' => ∃ v0_ v1_ : Value, e = .returned (.agg #[v0_, v1_]) ∧ Kd.V k32 32 w' w.heap.size (fun k_ => ((P0_0_ k_ ∨ P0_1_ k_) ∨ w.heap.size ≤ k_) ∧ some k_ ≠ (v1_ : Value).ownBlock) v0_ r1 ∧ Kd.N k58 58 w' w.heap.size (fun k_ => ((P0_0_ k_ ∨ P0_1_ k_) ∨ w.heap.size ≤ k_)) v1_ r2 ∧ Below w.heap.size w w' := by
 have hu54 := Try.underlying54
 have hu48 := Try.underlying48
 have hu81 := Try.underlying81
 have hu58 := Try.underlying58
 have HO0_0 := Aside0.mk (show Kd.V k32 32 w w.heap.size (fun k_ => ((P0_0_ k_ ∨ P0_1_ k_) ∨ w.heap.size ≤ k_)) (.slice A0_0 l0_0.length c0_0) l0_0 from Kd.V_mono hs0_0 (fun k_ hk => .inl (.inl hk)))
 have HO0_1 := Aside0.mk (show Kd.V k81 81 w w.heap.size (fun k_ => ((P0_0_ k_ ∨ P0_1_ k_) ∨ w.heap.size ≤ k_)) (.slice A0_1 l0_1.length c0_1) l0_1 from Kd.V_mono hs0_1 (fun k_ hk => .inl (.inr hk)))
 have HB := Aside0.mk (Below.refl w.heap.size w)
 have H : (swarflaw43_back.l0 k l0_1 (l0_1.length : Int) 0 l0_0 ([] : List (S58))) = some (r1, r2) := h
 clear h
 have H' := Aside0.mk H
 clear H
 go_enter Try.func36, Try.ntmps36
 go_wp2_with (first | ((with_reducible refine gate_dst (N := 1) rfl ?_); refine box_event ?hg (N := 1) ?hd (cs := #[.slice A0_0 l0_0.length c0_0, .slice A0_1 l0_1.length c0_1]) (t := 54) ?hr ?_; (case hd => rfl); (case hg => rfl); (case hr => first | (go_simp; done) | (go_simp; rfl)); intro gb651 hg w2 hbox hb; have n0_ := Aside0.mk (Kd.V_below (Kd.V_elderB (by (with_reducible repeat (first | apply Kd.V_alloc | apply Kd.V_drewN | apply Kd.V_drew)); exact HO0_0.out) gb651 (Nat.le_of_eq hg.symm)) hb); have n1_ := Aside0.mk (Kd.V_below (Kd.V_elderB (by (with_reducible repeat (first | apply Kd.V_alloc | apply Kd.V_drewN | apply Kd.V_drew)); exact HO0_1.out) gb651 (Nat.le_of_eq hg.symm)) hb); have n2_ := Aside0.mk (below_step yB hb); have n3_ := Aside0.mk (hbox); have n4_ := Aside0.mk ((yG hg : w.heap.size ≤ gb651)); have n5_ := Aside0.mk ((yG hg : w.heap.size ≤ gb651)); clear HO0_0; clear HO0_1; clear HB; have HO0_0 := n0_; have HO0_1 := n1_; have HB := n2_; have BK651 := n3_; have GW651 := n4_; have GE651 := n5_; clear n0_ n1_ n2_ n3_ n4_ n5_; clear hb hbox hg) | ((with_reducible refine gate_dst (N := 2) rfl ?_); refine box_event ?hg (N := 2) ?hd (cs := #[.slice none 0 0, .slice none 0 0]) (t := 48) ?hr ?_; (case hd => rfl); (case hg => rfl); (case hr => first | (go_simp; done) | (go_simp; rfl)); intro gb652 hg w3 hbox hb; have n0_ := Aside0.mk (Kd.V_below (Kd.V_elderB (by (with_reducible repeat (first | apply Kd.V_alloc | apply Kd.V_drewN | apply Kd.V_drew)); exact HO0_0.out) gb652 (Nat.le_of_eq hg.symm)) hb); have n1_ := Aside0.mk (Kd.V_below (Kd.V_elderB (by (with_reducible repeat (first | apply Kd.V_alloc | apply Kd.V_drewN | apply Kd.V_drew)); exact HO0_1.out) gb652 (Nat.le_of_eq hg.symm)) hb); have n2_ := Aside0.mk (blk_below (g := gb651) (o := .cells #[.slice A0_0 l0_0.length c0_0, .slice A0_1 l0_1.length c0_1] 54 (0, 0)) yK hb); have n3_ := Aside0.mk (below_step yB hb); have n4_ := Aside0.mk (hbox); have n5_ := Aside0.mk ((yG hg : w.heap.size ≤ gb652)); have n6_ := Aside0.mk ((yG hg : w.heap.size ≤ gb652)); have n7_ := Aside0.mk ((by rw [hg]; exact Nat.ne_of_lt (blk_lt (g := gb651) (o := .cells #[.slice A0_0 l0_0.length c0_0, .slice A0_1 l0_1.length c0_1] 54 (0, 0)) yK) : gb651 ≠ gb652)); have n8_ := Aside0.mk ((by rw [hg]; exact Nat.ne_of_gt (blk_lt (g := gb651) (o := .cells #[.slice A0_0 l0_0.length c0_0, .slice A0_1 l0_1.length c0_1] 54 (0, 0)) yK) : gb652 ≠ gb651)); clear HO0_0; clear HO0_1; clear BK651; clear HB; have HO0_0 := n0_; have HO0_1 := n1_; have BK651 := n2_; have HB := n3_; have BK652 := n4_; have GW652 := n5_; have GE652 := n6_; have NB651_652 := n7_; have NB652_651 := n8_; clear n0_ n1_ n2_ n3_ n4_ n5_ n6_ n7_ n8_; clear hb hbox hg; have hnb4 := NB651_652.out; have hnc4 := NB652_651.out; have hcz5_0 : w3.cell? ⟨gb651, 0, none⟩ = some (.slice A0_0 l0_0.length c0_0) := (blk_cell BK651.out 0).trans rfl; have hcz5_1 : w3.cell? ⟨gb651, 1, none⟩ = some (.slice A0_1 l0_1.length c0_1) := (blk_cell BK651.out 1).trans rfl; have hfz5_0 := blk_frozen BK651.out 0; have hfz5_1 := blk_frozen BK651.out 1) | ((with_reducible refine gate_dst (N := 3) rfl ?_); refine box_event ?hg (N := 3) ?hd (cs := #[.slice none 0 0, .slice none 0 0]) (t := 48) ?hr ?_; (case hd => rfl); (case hg => rfl); (case hr => first | (go_simp; done) | (go_simp; rfl)); intro gb653 hg w6 hbox hb; have n0_ := Aside0.mk (Kd.V_below (Kd.V_elderB (by (with_reducible repeat (first | apply Kd.V_alloc | apply Kd.V_drewN | apply Kd.V_drew)); exact HO0_0.out) gb653 (Nat.le_of_eq hg.symm)) hb); have n1_ := Aside0.mk (Kd.V_below (Kd.V_elderB (by (with_reducible repeat (first | apply Kd.V_alloc | apply Kd.V_drewN | apply Kd.V_drew)); exact HO0_1.out) gb653 (Nat.le_of_eq hg.symm)) hb); have n2_ := Aside0.mk (blk_below (g := gb651) (o := .cells #[.slice A0_0 l0_0.length c0_0, .slice A0_1 l0_1.length c0_1] 54 (0, 0)) yK hb); have n3_ := Aside0.mk (blk_below (g := gb652) (o := .cells #[.slice none 0 0, .slice none 0 0] 48 (0, 0)) yK hb); have n4_ := Aside0.mk (below_step yB hb); have n5_ := Aside0.mk (hbox); have n6_ := Aside0.mk ((yG hg : w.heap.size ≤ gb653)); have n7_ := Aside0.mk ((yG hg : w.heap.size ≤ gb653)); have n8_ := Aside0.mk ((by rw [hg]; exact Nat.ne_of_lt (blk_lt (g := gb651) (o := .cells #[.slice A0_0 l0_0.length c0_0, .slice A0_1 l0_1.length c0_1] 54 (0, 0)) yK) : gb651 ≠ gb653)); have n9_ := Aside0.mk ((by rw [hg]; exact Nat.ne_of_gt (blk_lt (g := gb651) (o := .cells #[.slice A0_0 l0_0.length c0_0, .slice A0_1 l0_1.length c0_1] 54 (0, 0)) yK) : gb653 ≠ gb651)); have n10_ := Aside0.mk ((by rw [hg]; exact Nat.ne_of_lt (blk_lt (g := gb652) (o := .cells #[.slice none 0 0, .slice none 0 0] 48 (0, 0)) yK) : gb652 ≠ gb653)); have n11_ := Aside0.mk ((by rw [hg]; exact Nat.ne_of_gt (blk_lt (g := gb652) (o := .cells #[.slice none 0 0, .slice none 0 0] 48 (0, 0)) yK) : gb653 ≠ gb652)); clear HO0_0; clear HO0_1; clear BK651; clear BK652; clear HB; have HO0_0 := n0_; have HO0_1 := n1_; have BK651 := n2_; have BK652 := n3_; have HB := n4_; have BK653 := n5_; have GW653 := n6_; have GE653 := n7_; have NB651_653 := n8_; have NB653_651 := n9_; have NB652_653 := n10_; have NB653_652 := n11_; clear n0_ n1_ n2_ n3_ n4_ n5_ n6_ n7_ n8_ n9_ n10_ n11_; clear hb hbox hg; have hnb7 := NB653_651.out; have hnc7 := NB651_653.out; have hnb8 := NB653_652.out; have hnc8 := NB652_653.out; have hcz9_0 : w6.cell? ⟨gb653, 0, none⟩ = some (.slice none 0 0) := (blk_cell BK653.out 0).trans rfl; have hcz9_1 : w6.cell? ⟨gb653, 1, none⟩ = some (.slice none 0 0) := (blk_cell BK653.out 1).trans rfl; have hfz9_0 := blk_frozen BK653.out 0; have hfz9_1 := blk_frozen BK653.out 1; have hcz10_0 : w6.cell? ⟨gb651, 0, none⟩ = some (.slice A0_0 l0_0.length c0_0) := (blk_cell BK651.out 0).trans rfl; have hcz10_1 : w6.cell? ⟨gb651, 1, none⟩ = some (.slice A0_1 l0_1.length c0_1) := (blk_cell BK651.out 1).trans rfl; have hfz10_0 := blk_frozen BK651.out 0; have hfz10_1 := blk_frozen BK651.out 1))
 go_loopg [12] k (fun kq v12 w' => ∃ (x12_1 : Int) (x654001_1 : List (S58)) (u654001 : Value), v12 = .int .i64 x12_1 ∧ Aside0 (swarflaw43_back.l0 kq l0_1 (l0_1.length : Int) x12_1 l0_0 x654001_1 = some (r1, r2)) ∧ Aside0 (kq ≤ k) ∧ Aside0 (Kd.V k81 81 w' w.heap.size (fun k_ => ((P0_0_ k_ ∨ P0_1_ k_) ∨ w.heap.size ≤ k_) ∧ some k_ ≠ (u654001 : Value).ownBlock ∧ k_ ≠ gb651 ∧ k_ ≠ gb652 ∧ k_ ≠ gb653) (.slice A0_1 l0_1.length c0_1) l0_1) ∧ Aside0 (Kd.V k32 32 w' w.heap.size (fun k_ => ((P0_0_ k_ ∨ P0_1_ k_) ∨ w.heap.size ≤ k_) ∧ some k_ ≠ (u654001 : Value).ownBlock ∧ k_ ≠ gb651 ∧ k_ ≠ gb652 ∧ k_ ≠ gb653) (.slice A0_0 l0_0.length c0_0) l0_0) ∧ Aside0 (Kd.V k81 81 w' w.heap.size (fun k_ => ((P0_0_ k_ ∨ P0_1_ k_) ∨ w.heap.size ≤ k_) ∧ some k_ ≠ (u654001 : Value).ownBlock ∧ k_ ≠ gb651 ∧ k_ ≠ gb652 ∧ k_ ≠ gb653) (.slice A0_1 l0_1.length c0_1) l0_1) ∧ Aside0 (Kd.V k32 32 w' w.heap.size (fun k_ => ((P0_0_ k_ ∨ P0_1_ k_) ∨ w.heap.size ≤ k_) ∧ some k_ ≠ (u654001 : Value).ownBlock ∧ k_ ≠ gb651 ∧ k_ ≠ gb652 ∧ k_ ≠ gb653) (.slice A0_0 l0_0.length c0_0) l0_0) ∧ Aside0 (Kd.N k58 58 w' w.heap.size (fun k_ => ((P0_0_ k_ ∨ P0_1_ k_) ∨ w.heap.size ≤ k_) ∧ k_ ≠ gb651 ∧ k_ ≠ gb652 ∧ k_ ≠ gb653) u654001 x654001_1) ∧ Aside0 (w'.heap[gb651]? = some (.cells #[(.slice A0_0 l0_0.length c0_0), (.slice A0_1 l0_1.length c0_1)] 54 (0, 0))) ∧ Aside0 (w'.heap[gb652]? = some (.cells #[(.slice none 0 0), (.slice none 0 0)] 48 (0, 0))) ∧ Aside0 (w'.heap[gb653]? = some (.cells #[(.slice A0_0 l0_0.length c0_0), u654001] 48 (0, 0))) ∧ Aside0 (Below w.heap.size w w'))
 case atStart => exact ⟨(0), (([] : List (S58))), (.slice none 0 0), yS, H', ⟨Nat.le_refl _⟩, ⟨by (with_reducible repeat (first | apply Kd.V_alloc | apply Kd.V_drewN | apply Kd.V_drew)); exact Kd.V_mono (Kd.V_far (p := ⟨gb653, 1, none⟩) (Kd.V_far (p := ⟨gb653, 0, none⟩) (Kd.V_mono HO0_1.out (fun k_ hk => (⟨hk, hk.2⟩ : _ ∧ k_ ≠ gb653))) (fun _ hk => hk.2) (.slice A0_0 l0_0.length c0_0)) (fun _ hk => hk.2) (.slice none 0 0)) (fun _ hk => ⟨hk.1.1.1.1, ⟨(by simp [Value.ownBlock]), ⟨hk.1.1.1.2, ⟨hk.1.1.2, hk.1.2⟩⟩⟩⟩)⟩, ⟨by (with_reducible repeat (first | apply Kd.V_alloc | apply Kd.V_drewN | apply Kd.V_drew)); exact Kd.V_mono (Kd.V_far (p := ⟨gb653, 1, none⟩) (Kd.V_far (p := ⟨gb653, 0, none⟩) (Kd.V_mono HO0_0.out (fun k_ hk => (⟨hk, hk.2⟩ : _ ∧ k_ ≠ gb653))) (fun _ hk => hk.2) (.slice A0_0 l0_0.length c0_0)) (fun _ hk => hk.2) (.slice none 0 0)) (fun _ hk => ⟨hk.1.1.1.1, ⟨(by simp [Value.ownBlock]), ⟨hk.1.1.1.2, ⟨hk.1.1.2, hk.1.2⟩⟩⟩⟩)⟩, ⟨by (with_reducible repeat (first | apply Kd.V_alloc | apply Kd.V_drewN | apply Kd.V_drew)); exact Kd.V_mono (Kd.V_far (p := ⟨gb653, 1, none⟩) (Kd.V_far (p := ⟨gb653, 0, none⟩) (Kd.V_mono HO0_1.out (fun k_ hk => (⟨hk, hk.2⟩ : _ ∧ k_ ≠ gb653))) (fun _ hk => hk.2) (.slice A0_0 l0_0.length c0_0)) (fun _ hk => hk.2) (.slice none 0 0)) (fun _ hk => ⟨hk.1.1.1.1, ⟨(by simp [Value.ownBlock]), ⟨hk.1.1.1.2, ⟨hk.1.1.2, hk.1.2⟩⟩⟩⟩)⟩, ⟨by (with_reducible repeat (first | apply Kd.V_alloc | apply Kd.V_drewN | apply Kd.V_drew)); exact Kd.V_mono (Kd.V_far (p := ⟨gb653, 1, none⟩) (Kd.V_far (p := ⟨gb653, 0, none⟩) (Kd.V_mono HO0_0.out (fun k_ hk => (⟨hk, hk.2⟩ : _ ∧ k_ ≠ gb653))) (fun _ hk => hk.2) (.slice A0_0 l0_0.length c0_0)) (fun _ hk => hk.2) (.slice none 0 0)) (fun _ hk => ⟨hk.1.1.1.1, ⟨(by simp [Value.ownBlock]), ⟨hk.1.1.1.2, ⟨hk.1.1.2, hk.1.2⟩⟩⟩⟩)⟩, ⟨by first | exact Kd.R_nil _ _ _ _ _ | exact Kd.N_nil _ _ _ _ _ | exact Kd.V_nil _ _ _ _ _ | exact Kd.Q_nil _ _ _ _ _ | exact Kd.S_nil _ _ _ _ _⟩, ⟨by (with_reducible repeat (first | refine blk_drewN ?_ _ | refine blk_drew ?_ | refine blk_alloc ?_ _)); refine blk_far ?_ NB651_653.out _; (with_reducible repeat (first | refine blk_drewN ?_ _ | refine blk_drew ?_ | refine blk_alloc ?_ _)); refine blk_far ?_ NB651_653.out _; (with_reducible repeat (first | refine blk_drewN ?_ _ | refine blk_drew ?_ | refine blk_alloc ?_ _)); exact BK651.out⟩, ⟨by (with_reducible repeat (first | refine blk_drewN ?_ _ | refine blk_drew ?_ | refine blk_alloc ?_ _)); refine blk_far ?_ NB652_653.out _; (with_reducible repeat (first | refine blk_drewN ?_ _ | refine blk_drew ?_ | refine blk_alloc ?_ _)); refine blk_far ?_ NB652_653.out _; (with_reducible repeat (first | refine blk_drewN ?_ _ | refine blk_drew ?_ | refine blk_alloc ?_ _)); exact BK652.out⟩, ⟨by (with_reducible repeat (first | refine blk_drewN ?_ _ | refine blk_drew ?_ | refine blk_alloc ?_ _)); refine blk_put (cs := #[.slice A0_0 l0_0.length c0_0, .slice none 0 0]) ?_ 1 _ rfl; (with_reducible repeat (first | refine blk_drewN ?_ _ | refine blk_drew ?_ | refine blk_alloc ?_ _)); refine blk_put (cs := #[.slice none 0 0, .slice none 0 0]) ?_ 0 _ rfl; (with_reducible repeat (first | refine blk_drewN ?_ _ | refine blk_drew ?_ | refine blk_alloc ?_ _)); exact BK653.out⟩, ⟨yB⟩⟩
 case round =>
  clear H'
  try clear p2
  try clear c3
  try clear c4
  try clear c7
  try clear c8
  try clear hcz10_0
  try clear hcz10_1
  try clear hcz5_0
  try clear hcz5_1
  try clear hcz9_0
  try clear hcz9_1
  try clear hfz10_0
  try clear hfz10_1
  try clear hfz5_0
  try clear hfz5_1
  try clear hfz9_0
  try clear hfz9_1
  obtain ⟨x12_1, x654001_1, u654001, rfl, HA, HK1, HO_10, HO_652000, HO_652001, HO_654000, HO_654001, BK651, BK652, BK653, HB⟩ := hrel
  cases gk with
  | zero => exact absurd HA.out (by simp [swarflaw43_back.l0])
  | succ k1 =>
   have H := HA.out
   clear HA
   simp only [swarflaw43_back.l0] at H
   by_cases c11 : x12_1 < (l0_1.length : Int)
   ·rw [if_pos c11] at H
    have c11b0 : decide (x12_1 < (l0_1.length : Int)) = true := decide_eq_true c11
    clear c11
    by_cases c12 : 0 ≤ x12_1
    ·rw [if_pos c12] at H
     have c12b0 : decide (0 ≤ x12_1) = true := decide_eq_true c12
     clear c12
     by_cases c13 : x12_1 < (l0_1.length : Int)
     ·rw [if_pos c13] at H
      have c13b0 : decide (x12_1 < (l0_1.length : Int)) = true := decide_eq_true c13
      clear c13
      by_cases c14 : x654001_1.length < 4398046511104
      ·rw [if_pos c14] at H
       have LMc14 := Aside0.mk c14
       clear c14
       obtain ⟨y656, hy656⟩ : ∃ y_ : List (S58), y_ = (x654001_1 ++ [(⟨(rd_T81 l0_1 x12_1).f0, (rd_T81 l0_1 x12_1).f1⟩ : S58)]) := ⟨_, rfl⟩
       replace H : (swarflaw43_back.l0 k1 l0_1 (l0_1.length : Int) (wrap64 (x12_1 + 1)) l0_0 y656) = some (r1, r2) := by first | (rw [hy656]; with_reducible exact H) | (have H2_ := (Option.bind_some _ _).symm.trans H; rw [hy656]; with_reducible exact H2_) | (have H2_ := (Option.bind_some _ _).symm.trans H; with_reducible exact H2_) | with_reducible exact H | (rw [hy656]; exact H) | exact H
       have Ny656 := Aside0.mk hy656
       clear hy656
       have H' := Aside0.mk H
       clear H
       have p654 : 0 ≤ (x12_1 : Int) := of_decide_eq_true yP
       have q654 : x12_1 < (l0_1.length : Int) := of_decide_eq_true yP
       obtain ⟨ad654, A654_1, c654_1, e654, hx654_0, hx654_1, hl654_1, hi654_1⟩ := at_T81 (Kd.V_reads' HO_10.out).2.2 x12_1 p654 q654
       cases e654
       obtain ⟨ce654, hce654, hMe654, hcc654⟩ := Kd.V_get HO_10.out z81 x12_1 p654 (by first | exact q654 | exact of_decide_eq_true yP | (have e_ := (Kd.V_reads' HO_10.out).1; omega))
       obtain ⟨ua654_1, uc654_1, rfl, ul654_1, ge654_1⟩ := k81_openF hMe654
       have hv654_1 := hcc654 1 _ rfl
       rw [add_field _ _ 1 (by omega)] at hv654_1
       replace hv654_1 := Option.some.inj (hv654_1.symm.trans hx654_1)
       injection hv654_1 with hva_ hvn_ hvc_
       rw [hva_] at ge654_1
       rw [hvc_] at ul654_1
       have HL654_1 := Aside0.mk (show Kd.V k32 32 _ w.heap.size _ _ ((rd_T81 l0_1 x12_1).f1) from Kd.V_mk ul654_1 ge654_1)
       clear hva_ hvn_ hvc_ ge654_1 ul654_1
       clear hcc654 hce654
       have HR654_1 := Aside0.mk hi654_1
       have HC654_1 := Aside0.mk hl654_1
       clear hi654_1 hl654_1
       replace p654 := eq_true p654
       replace q654 := eq_true q654
       go_wp2_with (first | ((with_reducible refine gate_dst (N := 5) rfl ?_); refine box_event ?hg (N := 5) ?hd (cs := #[.int .i64 0, .slice none 0 0]) (t := 81) ?hr ?_; (case hd => rfl); (case hg => rfl); (case hr => first | (go_simp; done) | (go_simp; rfl)); intro gb655 hg w15 hbox hb; have n0_ := Aside0.mk (Kd.V_below (Kd.V_elderB (by (with_reducible repeat (first | apply Kd.V_alloc | apply Kd.V_drewN | apply Kd.V_drew)); exact HO_10.out) gb655 (Nat.le_of_eq hg.symm)) hb); have n1_ := Aside0.mk (Kd.V_below (Kd.V_elderB (by (with_reducible repeat (first | apply Kd.V_alloc | apply Kd.V_drewN | apply Kd.V_drew)); exact HO_652000.out) gb655 (Nat.le_of_eq hg.symm)) hb); have n2_ := Aside0.mk (Kd.V_below (Kd.V_elderB (by (with_reducible repeat (first | apply Kd.V_alloc | apply Kd.V_drewN | apply Kd.V_drew)); exact HO_652001.out) gb655 (Nat.le_of_eq hg.symm)) hb); have n3_ := Aside0.mk (Kd.V_below (Kd.V_elderB (by (with_reducible repeat (first | apply Kd.V_alloc | apply Kd.V_drewN | apply Kd.V_drew)); exact HO_654000.out) gb655 (Nat.le_of_eq hg.symm)) hb); have n4_ := Aside0.mk (Kd.N_below (Kd.N_elderB (by (with_reducible repeat (first | apply Kd.N_alloc | apply Kd.N_drewN | apply Kd.N_drew)); exact HO_654001.out) gb655 (Nat.le_of_eq hg.symm)) hb); have n5_ := Aside0.mk (Kd.V_below (Kd.V_elderB (by (with_reducible repeat (first | apply Kd.V_alloc | apply Kd.V_drewN | apply Kd.V_drew)); exact HL654_1.out) gb655 (Nat.le_of_eq hg.symm)) hb); have n6_ := Aside0.mk (blk_below (g := gb651) (o := .cells #[.slice A0_0 l0_0.length c0_0, .slice (some ad654) l0_1.length c0_1] 54 (0, 0)) yK hb); have n7_ := Aside0.mk (blk_below (g := gb652) (o := .cells #[.slice none 0 0, .slice none 0 0] 48 (0, 0)) yK hb); have n8_ := Aside0.mk (blk_below (g := gb653) (o := .cells #[.slice A0_0 l0_0.length c0_0, u654001] 48 (0, 0)) yK hb); have n9_ := Aside0.mk (Kd.C_below (by repeat (first | (with_reducible exact HR654_1.out) | (with_reducible refine Kd.C_alloc ?_ _) | (with_reducible refine Kd.C_drewN ?_ _) | (with_reducible refine Kd.C_drew ?_) | exact HR654_1.out)) hb); have n10_ := Aside0.mk (below_step yB hb); have n11_ := Aside0.mk (hbox); have n12_ := Aside0.mk ((yG hg : w.heap.size ≤ gb655)); have n13_ := Aside0.mk ((yG hg : w.heap.size ≤ gb655)); have n14_ := Aside0.mk ((by rw [hg]; exact Nat.ne_of_lt (blk_lt (g := gb651) (o := .cells #[.slice A0_0 l0_0.length c0_0, .slice (some ad654) l0_1.length c0_1] 54 (0, 0)) yK) : gb651 ≠ gb655)); have n15_ := Aside0.mk ((by rw [hg]; exact Nat.ne_of_gt (blk_lt (g := gb651) (o := .cells #[.slice A0_0 l0_0.length c0_0, .slice (some ad654) l0_1.length c0_1] 54 (0, 0)) yK) : gb655 ≠ gb651)); have n16_ := Aside0.mk ((by rw [hg]; exact Nat.ne_of_lt (blk_lt (g := gb652) (o := .cells #[.slice none 0 0, .slice none 0 0] 48 (0, 0)) yK) : gb652 ≠ gb655)); have n17_ := Aside0.mk ((by rw [hg]; exact Nat.ne_of_gt (blk_lt (g := gb652) (o := .cells #[.slice none 0 0, .slice none 0 0] 48 (0, 0)) yK) : gb655 ≠ gb652)); have n18_ := Aside0.mk ((by rw [hg]; exact Nat.ne_of_lt (blk_lt (g := gb653) (o := .cells #[.slice A0_0 l0_0.length c0_0, u654001] 48 (0, 0)) yK) : gb653 ≠ gb655)); have n19_ := Aside0.mk ((by rw [hg]; exact Nat.ne_of_gt (blk_lt (g := gb653) (o := .cells #[.slice A0_0 l0_0.length c0_0, u654001] 48 (0, 0)) yK) : gb655 ≠ gb653)); clear HO_10; clear HO_652000; clear HO_652001; clear HO_654000; clear HO_654001; clear HL654_1; clear BK651; clear BK652; clear BK653; clear HR654_1; clear HB; have HO_10 := n0_; have HO_652000 := n1_; have HO_652001 := n2_; have HO_654000 := n3_; have HO_654001 := n4_; have HL654_1 := n5_; have BK651 := n6_; have BK652 := n7_; have BK653 := n8_; have HR654_1 := n9_; have HB := n10_; have BK655 := n11_; have GW655 := n12_; have GE655 := n13_; have NB651_655 := n14_; have NB655_651 := n15_; have NB652_655 := n16_; have NB655_652 := n17_; have NB653_655 := n18_; have NB655_653 := n19_; clear n0_ n1_ n2_ n3_ n4_ n5_ n6_ n7_ n8_ n9_ n10_ n11_ n12_ n13_ n14_ n15_ n16_ n17_ n18_ n19_; clear hb hbox hg; have hnb16 := NB655_651.out; have hnc16 := NB651_655.out; have hnb17 := NB655_652.out; have hnc17 := NB652_655.out; have hnb18 := NB655_653.out; have hnc18 := NB653_655.out; have hcz19_0 : w15.cell? ⟨gb655, 0, none⟩ = some (.int .i64 0) := (blk_cell BK655.out 0).trans rfl; have hcz19_1 : w15.cell? ⟨gb655, 1, none⟩ = some (.slice none 0 0) := (blk_cell BK655.out 1).trans rfl; have hfz19_0 := blk_frozen BK655.out 0; have hfz19_1 := blk_frozen BK655.out 1) | ((with_reducible refine gate_store (t := 81) (p := 5) rfl ?_); refine store_event (t := 81) (p := 5) (v := ?vo_w20) (w1 := ((w15.setCell ⟨gb655, 0, none⟩ (.int .i64 ((rd_T81 l0_1 x12_1).f0))).setCell ⟨gb655, 1, none⟩ (.slice A654_1 ((rd_T81 l0_1 x12_1).f1).length c654_1))) ?hg ?ho ?hn ?hr ?_; (case ho => rfl); (case hg => rfl); (case hn => rfl); (case hr => first | (go_simp; done) | (go_simp; rfl)); intro w20 hw; have n0_ : Aside0 (Kd.V k81 81 w20 w.heap.size (fun k_ => ((P0_0_ k_ ∨ P0_1_ k_) ∨ w.heap.size ≤ k_) ∧ some k_ ≠ (u654001 : Value).ownBlock ∧ k_ ≠ gb651 ∧ k_ ≠ gb652 ∧ k_ ≠ gb653 ∧ k_ ≠ gb655) (.slice (some ad654) l0_1.length c0_1) l0_1) := ⟨(by rw [hw]; exact (by (with_reducible repeat (first | apply Kd.V_alloc | apply Kd.V_drewN | apply Kd.V_drew)); exact Kd.V_mono (Kd.V_far (p := ⟨gb655, 1, none⟩) (Kd.V_far (p := ⟨gb655, 0, none⟩) (Kd.V_mono HO_10.out (fun k_ hk => (⟨hk, hk.2⟩ : _ ∧ k_ ≠ gb655))) (fun _ hk => hk.2) (.int .i64 ((rd_T81 l0_1 x12_1).f0))) (fun _ hk => hk.2) (.slice A654_1 ((rd_T81 l0_1 x12_1).f1).length c654_1)) (fun _ hk => ⟨hk.1.1.1, ⟨hk.1.1.2.1, ⟨hk.1.1.2.2.1, ⟨hk.1.1.2.2.2.1, ⟨hk.1.1.2.2.2.2, hk.1.2⟩⟩⟩⟩⟩)))⟩; have n1_ : Aside0 (Kd.V k32 32 w20 w.heap.size (fun k_ => ((P0_0_ k_ ∨ P0_1_ k_) ∨ w.heap.size ≤ k_) ∧ some k_ ≠ (u654001 : Value).ownBlock ∧ k_ ≠ gb651 ∧ k_ ≠ gb652 ∧ k_ ≠ gb653 ∧ k_ ≠ gb655) (.slice A0_0 l0_0.length c0_0) l0_0) := ⟨(by rw [hw]; exact (by (with_reducible repeat (first | apply Kd.V_alloc | apply Kd.V_drewN | apply Kd.V_drew)); exact Kd.V_mono (Kd.V_far (p := ⟨gb655, 1, none⟩) (Kd.V_far (p := ⟨gb655, 0, none⟩) (Kd.V_mono HO_652000.out (fun k_ hk => (⟨hk, hk.2⟩ : _ ∧ k_ ≠ gb655))) (fun _ hk => hk.2) (.int .i64 ((rd_T81 l0_1 x12_1).f0))) (fun _ hk => hk.2) (.slice A654_1 ((rd_T81 l0_1 x12_1).f1).length c654_1)) (fun _ hk => ⟨hk.1.1.1, ⟨hk.1.1.2.1, ⟨hk.1.1.2.2.1, ⟨hk.1.1.2.2.2.1, ⟨hk.1.1.2.2.2.2, hk.1.2⟩⟩⟩⟩⟩)))⟩; have n2_ : Aside0 (Kd.V k81 81 w20 w.heap.size (fun k_ => ((P0_0_ k_ ∨ P0_1_ k_) ∨ w.heap.size ≤ k_) ∧ some k_ ≠ (u654001 : Value).ownBlock ∧ k_ ≠ gb651 ∧ k_ ≠ gb652 ∧ k_ ≠ gb653 ∧ k_ ≠ gb655) (.slice (some ad654) l0_1.length c0_1) l0_1) := ⟨(by rw [hw]; exact (by (with_reducible repeat (first | apply Kd.V_alloc | apply Kd.V_drewN | apply Kd.V_drew)); exact Kd.V_mono (Kd.V_far (p := ⟨gb655, 1, none⟩) (Kd.V_far (p := ⟨gb655, 0, none⟩) (Kd.V_mono HO_652001.out (fun k_ hk => (⟨hk, hk.2⟩ : _ ∧ k_ ≠ gb655))) (fun _ hk => hk.2) (.int .i64 ((rd_T81 l0_1 x12_1).f0))) (fun _ hk => hk.2) (.slice A654_1 ((rd_T81 l0_1 x12_1).f1).length c654_1)) (fun _ hk => ⟨hk.1.1.1, ⟨hk.1.1.2.1, ⟨hk.1.1.2.2.1, ⟨hk.1.1.2.2.2.1, ⟨hk.1.1.2.2.2.2, hk.1.2⟩⟩⟩⟩⟩)))⟩; have n3_ : Aside0 (Kd.V k32 32 w20 w.heap.size (fun k_ => ((P0_0_ k_ ∨ P0_1_ k_) ∨ w.heap.size ≤ k_) ∧ some k_ ≠ (u654001 : Value).ownBlock ∧ k_ ≠ gb651 ∧ k_ ≠ gb652 ∧ k_ ≠ gb653 ∧ k_ ≠ gb655) (.slice A0_0 l0_0.length c0_0) l0_0) := ⟨(by rw [hw]; exact (by (with_reducible repeat (first | apply Kd.V_alloc | apply Kd.V_drewN | apply Kd.V_drew)); exact Kd.V_mono (Kd.V_far (p := ⟨gb655, 1, none⟩) (Kd.V_far (p := ⟨gb655, 0, none⟩) (Kd.V_mono HO_654000.out (fun k_ hk => (⟨hk, hk.2⟩ : _ ∧ k_ ≠ gb655))) (fun _ hk => hk.2) (.int .i64 ((rd_T81 l0_1 x12_1).f0))) (fun _ hk => hk.2) (.slice A654_1 ((rd_T81 l0_1 x12_1).f1).length c654_1)) (fun _ hk => ⟨hk.1.1.1, ⟨hk.1.1.2.1, ⟨hk.1.1.2.2.1, ⟨hk.1.1.2.2.2.1, ⟨hk.1.1.2.2.2.2, hk.1.2⟩⟩⟩⟩⟩)))⟩; have n4_ : Aside0 (Kd.N k58 58 w20 w.heap.size (fun k_ => ((P0_0_ k_ ∨ P0_1_ k_) ∨ w.heap.size ≤ k_) ∧ k_ ≠ gb651 ∧ k_ ≠ gb652 ∧ k_ ≠ gb653 ∧ k_ ≠ gb655) u654001 x654001_1) := ⟨(by rw [hw]; exact (by (with_reducible repeat (first | apply Kd.N_alloc | apply Kd.N_drewN | apply Kd.N_drew)); exact Kd.N_mono (Kd.N_far (p := ⟨gb655, 1, none⟩) (Kd.N_far (p := ⟨gb655, 0, none⟩) (Kd.N_mono HO_654001.out (fun k_ hk => (⟨hk, hk.2⟩ : _ ∧ k_ ≠ gb655))) (fun _ hk => hk.2) (.int .i64 ((rd_T81 l0_1 x12_1).f0))) (fun _ hk => hk.2) (.slice A654_1 ((rd_T81 l0_1 x12_1).f1).length c654_1)) (fun _ hk => ⟨hk.1.1.1, ⟨hk.1.1.2.1, ⟨hk.1.1.2.2.1, ⟨hk.1.1.2.2.2, hk.1.2⟩⟩⟩⟩)))⟩; have n5_ : Aside0 (Kd.V k32 32 w20 w.heap.size (fun k_ => ((P0_0_ k_ ∨ P0_1_ k_) ∨ w.heap.size ≤ k_) ∧ some k_ ≠ (u654001 : Value).ownBlock ∧ k_ ≠ gb651 ∧ k_ ≠ gb652 ∧ k_ ≠ gb653 ∧ k_ ≠ gb655) (.slice A654_1 ((rd_T81 l0_1 x12_1).f1).length c654_1) ((rd_T81 l0_1 x12_1).f1)) := ⟨(by rw [hw]; exact (by (with_reducible repeat (first | apply Kd.V_alloc | apply Kd.V_drewN | apply Kd.V_drew)); exact Kd.V_mono (Kd.V_far (p := ⟨gb655, 1, none⟩) (Kd.V_far (p := ⟨gb655, 0, none⟩) (Kd.V_mono HL654_1.out (fun k_ hk => (⟨hk, hk.2⟩ : _ ∧ k_ ≠ gb655))) (fun _ hk => hk.2) (.int .i64 ((rd_T81 l0_1 x12_1).f0))) (fun _ hk => hk.2) (.slice A654_1 ((rd_T81 l0_1 x12_1).f1).length c654_1)) (fun _ hk => ⟨hk.1.1.1, ⟨hk.1.1.2.1, ⟨hk.1.1.2.2.1, ⟨hk.1.1.2.2.2.1, ⟨hk.1.1.2.2.2.2, hk.1.2⟩⟩⟩⟩⟩)))⟩; have n6_ : Aside0 (w20.heap[gb651]? = some (.cells #[.slice A0_0 l0_0.length c0_0, .slice (some ad654) l0_1.length c0_1] 54 (0, 0))) := ⟨(by rw [hw]; exact (by (with_reducible repeat (first | refine blk_drewN ?_ _ | refine blk_drew ?_ | refine blk_alloc ?_ _)); refine blk_far ?_ NB651_655.out _; (with_reducible repeat (first | refine blk_drewN ?_ _ | refine blk_drew ?_ | refine blk_alloc ?_ _)); refine blk_far ?_ NB651_655.out _; (with_reducible repeat (first | refine blk_drewN ?_ _ | refine blk_drew ?_ | refine blk_alloc ?_ _)); exact BK651.out))⟩; have n7_ : Aside0 (w20.heap[gb652]? = some (.cells #[.slice none 0 0, .slice none 0 0] 48 (0, 0))) := ⟨(by rw [hw]; exact (by (with_reducible repeat (first | refine blk_drewN ?_ _ | refine blk_drew ?_ | refine blk_alloc ?_ _)); refine blk_far ?_ NB652_655.out _; (with_reducible repeat (first | refine blk_drewN ?_ _ | refine blk_drew ?_ | refine blk_alloc ?_ _)); refine blk_far ?_ NB652_655.out _; (with_reducible repeat (first | refine blk_drewN ?_ _ | refine blk_drew ?_ | refine blk_alloc ?_ _)); exact BK652.out))⟩; have n8_ : Aside0 (w20.heap[gb653]? = some (.cells #[.slice A0_0 l0_0.length c0_0, u654001] 48 (0, 0))) := ⟨(by rw [hw]; exact (by (with_reducible repeat (first | refine blk_drewN ?_ _ | refine blk_drew ?_ | refine blk_alloc ?_ _)); refine blk_far ?_ NB653_655.out _; (with_reducible repeat (first | refine blk_drewN ?_ _ | refine blk_drew ?_ | refine blk_alloc ?_ _)); refine blk_far ?_ NB653_655.out _; (with_reducible repeat (first | refine blk_drewN ?_ _ | refine blk_drew ?_ | refine blk_alloc ?_ _)); exact BK653.out))⟩; have n9_ : Aside0 (w20.heap[gb655]? = some (.cells #[.int .i64 ((rd_T81 l0_1 x12_1).f0), .slice A654_1 ((rd_T81 l0_1 x12_1).f1).length c654_1] 81 (0, 0))) := ⟨(by rw [hw]; exact (by (with_reducible repeat (first | refine blk_drewN ?_ _ | refine blk_drew ?_ | refine blk_alloc ?_ _)); refine blk_put (cs := #[.int .i64 ((rd_T81 l0_1 x12_1).f0), .slice none 0 0]) ?_ 1 _ rfl; (with_reducible repeat (first | refine blk_drewN ?_ _ | refine blk_drew ?_ | refine blk_alloc ?_ _)); refine blk_put (cs := #[.int .i64 0, .slice none 0 0]) ?_ 0 _ rfl; (with_reducible repeat (first | refine blk_drewN ?_ _ | refine blk_drew ?_ | refine blk_alloc ?_ _)); exact BK655.out))⟩; have n10_ : Aside0 (Below w.heap.size w w20) := ⟨(by rw [hw]; exact yB)⟩; clear hw; clear HO_10; clear HO_652000; clear HO_652001; clear HO_654000; clear HO_654001; clear HL654_1; clear BK651; clear BK652; clear BK653; clear BK655; clear HB; have HO_10 := n0_; have HO_652000 := n1_; have HO_652001 := n2_; have HO_654000 := n3_; have HO_654001 := n4_; have HL654_1 := n5_; have BK651 := n6_; have BK652 := n7_; have BK653 := n8_; have BK655 := n9_; have HB := n10_; clear n0_ n1_ n2_ n3_ n4_ n5_ n6_ n7_ n8_ n9_ n10_; have hnb21 := NB653_651.out; have hnc21 := NB651_653.out; have hnb22 := NB653_652.out; have hnc22 := NB652_653.out; have hcz23_0 : w20.cell? ⟨gb653, 0, none⟩ = some (.slice A0_0 l0_0.length c0_0) := (blk_cell BK653.out 0).trans rfl; have hcz23_1 : w20.cell? ⟨gb653, 1, none⟩ = some (u654001) := (blk_cell BK653.out 1).trans rfl; have hfz23_0 := blk_frozen BK653.out 0; have hfz23_1 := blk_frozen BK653.out 1; have hcz24_0 : w20.cell? ⟨gb655, 0, none⟩ = some (.int .i64 ((rd_T81 l0_1 x12_1).f0)) := (blk_cell BK655.out 0).trans rfl; have hcz24_1 : w20.cell? ⟨gb655, 1, none⟩ = some (.slice A654_1 ((rd_T81 l0_1 x12_1).f1).length c654_1) := (blk_cell BK655.out 1).trans rfl; have hfz24_0 := blk_frozen BK655.out 0; have hfz24_1 := blk_frozen BK655.out 1) | ((with_reducible refine gate_builtin (b := .append) (xs := #[.tmp 17, .tmp 23]) rfl ?_); at_builtin; refine Kd.N_append k58 (w0 := w) w.heap.size rfl (.tmp 17) (.tmp 23) 46 58 (.agg #[(.int .i64 0), (.slice none 0 0)]) 32 rfl Try.underlying46 info58 rfl (by decide) (by omega) u654001 x654001_1 (⟨(rd_T81 l0_1 x12_1).f0, (rd_T81 l0_1 x12_1).f1⟩ : S58) [.int .i64 ((rd_T81 l0_1 x12_1).f0), .slice A654_1 ((rd_T81 l0_1 x12_1).f1).length c654_1] (fun k_ => ((P0_0_ k_ ∨ P0_1_ k_) ∨ w.heap.size ≤ k_) ∧ k_ ≠ gb651 ∧ k_ ≠ gb652 ∧ k_ ≠ gb653 ∧ k_ ≠ gb655) (fun k_ => ((fun k_ => ((P0_0_ k_ ∨ P0_1_ k_) ∨ w.heap.size ≤ k_) ∧ k_ ≠ gb651 ∧ k_ ≠ gb652 ∧ k_ ≠ gb653 ∧ k_ ≠ gb655)) k_ ∧ some k_ ≠ (u654001 : Value).ownBlock) rfl rfl ?aP (fun _ hk => hk) ?aF ?aO ?aB ?aS ?aL ?_; (case aP => exact (k58_mkF _ _ (⟨(rd_T81 l0_1 x12_1).f0, (rd_T81 l0_1 x12_1).f1⟩ : S58) (Kd.V_reads' (Kd.V_mono (ok' := (fun k_ => ((fun k_ => ((P0_0_ k_ ∨ P0_1_ k_) ∨ w.heap.size ≤ k_) ∧ k_ ≠ gb651 ∧ k_ ≠ gb652 ∧ k_ ≠ gb653 ∧ k_ ≠ gb655)) k_ ∧ some k_ ≠ (u654001 : Value).ownBlock)) (HL654_1.out) (fun k_ hk => ⟨⟨hk.1, ⟨hk.2.2.1, ⟨hk.2.2.2.1, ⟨hk.2.2.2.2.1, hk.2.2.2.2.2⟩⟩⟩⟩, hk.2.1⟩))).2.1 (Kd.V_F (Kd.V_mono (ok' := (fun k_ => ((fun k_ => ((P0_0_ k_ ∨ P0_1_ k_) ∨ w.heap.size ≤ k_) ∧ k_ ≠ gb651 ∧ k_ ≠ gb652 ∧ k_ ≠ gb653 ∧ k_ ≠ gb655)) k_ ∧ some k_ ≠ (u654001 : Value).ownBlock)) (HL654_1.out) (fun k_ hk => ⟨⟨hk.1, ⟨hk.2.2.1, ⟨hk.2.2.2.1, ⟨hk.2.2.2.2.1, hk.2.2.2.2.2⟩⟩⟩⟩, hk.2.1⟩))))); (case aB => exact yB); (case aF => exact (fun k_ hk => ⟨(.inr (Nat.le_trans (below_size yB) hk)), Kd.freshB (g := gb651) (o := .cells #[.slice A0_0 l0_0.length c0_0, .slice (some ad654) l0_1.length c0_1] 54 (0, 0)) yK k_ hk, Kd.freshB (g := gb652) (o := .cells #[.slice none 0 0, .slice none 0 0] 48 (0, 0)) yK k_ hk, Kd.freshB (g := gb653) (o := .cells #[.slice A0_0 l0_0.length c0_0, u654001] 48 (0, 0)) yK k_ hk, Kd.freshB (g := gb655) (o := .cells #[.int .i64 ((rd_T81 l0_1 x12_1).f0), .slice A654_1 ((rd_T81 l0_1 x12_1).f1).length c654_1] 81 (0, 0)) yK k_ hk⟩)); (case aO => exact (by (with_reducible repeat (first | apply Kd.N_alloc | apply Kd.N_drewN | apply Kd.N_drew)); exact HO_654001.out)); (case aS => exact (below_size yB)); (case aL => have := LMc14.out; omega); intro v657 w25 ho hb hg hat; rw [← Ny656.out] at ho; have n0_ := Aside0.mk (Kd.V_afterv (ok := (fun k_ => ((P0_0_ k_ ∨ P0_1_ k_) ∨ w.heap.size ≤ k_) ∧ k_ ≠ gb651 ∧ k_ ≠ gb652 ∧ k_ ≠ gb653 ∧ k_ ≠ gb655)) (by (with_reducible repeat (first | apply Kd.V_alloc | apply Kd.V_drewN | apply Kd.V_drew)); exact Kd.V_mono HO_10.out (fun _ hk => ⟨⟨hk.1, ⟨hk.2.2.1, ⟨hk.2.2.2.1, ⟨hk.2.2.2.2.1, hk.2.2.2.2.2⟩⟩⟩⟩, hk.2.1⟩)) hg hat); have n1_ := Aside0.mk (Kd.V_afterv (ok := (fun k_ => ((P0_0_ k_ ∨ P0_1_ k_) ∨ w.heap.size ≤ k_) ∧ k_ ≠ gb651 ∧ k_ ≠ gb652 ∧ k_ ≠ gb653 ∧ k_ ≠ gb655)) (by (with_reducible repeat (first | apply Kd.V_alloc | apply Kd.V_drewN | apply Kd.V_drew)); exact Kd.V_mono HO_652000.out (fun _ hk => ⟨⟨hk.1, ⟨hk.2.2.1, ⟨hk.2.2.2.1, ⟨hk.2.2.2.2.1, hk.2.2.2.2.2⟩⟩⟩⟩, hk.2.1⟩)) hg hat); have n2_ := Aside0.mk (Kd.V_afterv (ok := (fun k_ => ((P0_0_ k_ ∨ P0_1_ k_) ∨ w.heap.size ≤ k_) ∧ k_ ≠ gb651 ∧ k_ ≠ gb652 ∧ k_ ≠ gb653 ∧ k_ ≠ gb655)) (by (with_reducible repeat (first | apply Kd.V_alloc | apply Kd.V_drewN | apply Kd.V_drew)); exact Kd.V_mono HO_652001.out (fun _ hk => ⟨⟨hk.1, ⟨hk.2.2.1, ⟨hk.2.2.2.1, ⟨hk.2.2.2.2.1, hk.2.2.2.2.2⟩⟩⟩⟩, hk.2.1⟩)) hg hat); have n3_ := Aside0.mk (Kd.V_afterv (ok := (fun k_ => ((P0_0_ k_ ∨ P0_1_ k_) ∨ w.heap.size ≤ k_) ∧ k_ ≠ gb651 ∧ k_ ≠ gb652 ∧ k_ ≠ gb653 ∧ k_ ≠ gb655)) (by (with_reducible repeat (first | apply Kd.V_alloc | apply Kd.V_drewN | apply Kd.V_drew)); exact Kd.V_mono HO_654000.out (fun _ hk => ⟨⟨hk.1, ⟨hk.2.2.1, ⟨hk.2.2.2.1, ⟨hk.2.2.2.2.1, hk.2.2.2.2.2⟩⟩⟩⟩, hk.2.1⟩)) hg hat); have n4_ := Aside0.mk (blk_grown (g := gb651) (o := .cells #[.slice A0_0 l0_0.length c0_0, .slice (some ad654) l0_1.length c0_1] 54 (0, 0)) yK hg (Kd.N_ne HO_654001.out BK651.out (by decide))); have n5_ := Aside0.mk (blk_grown (g := gb652) (o := .cells #[.slice none 0 0, .slice none 0 0] 48 (0, 0)) yK hg (Kd.N_ne HO_654001.out BK652.out (by decide))); have n6_ := Aside0.mk (blk_grown (g := gb653) (o := .cells #[.slice A0_0 l0_0.length c0_0, u654001] 48 (0, 0)) yK hg (Kd.N_ne HO_654001.out BK653.out (by decide))); have n7_ := Aside0.mk (Kd.V_afterv (ok := (fun k_ => ((P0_0_ k_ ∨ P0_1_ k_) ∨ w.heap.size ≤ k_) ∧ k_ ≠ gb651 ∧ k_ ≠ gb652 ∧ k_ ≠ gb653 ∧ k_ ≠ gb655)) (by (with_reducible repeat (first | apply Kd.V_alloc | apply Kd.V_drewN | apply Kd.V_drew)); exact Kd.V_mono HL654_1.out (fun _ hk => ⟨⟨hk.1, ⟨hk.2.2.1, ⟨hk.2.2.2.1, ⟨hk.2.2.2.2.1, hk.2.2.2.2.2⟩⟩⟩⟩, hk.2.1⟩)) hg hat); have n8_ := Aside0.mk (blk_grown (g := gb655) (o := .cells #[.int .i64 ((rd_T81 l0_1 x12_1).f0), .slice A654_1 ((rd_T81 l0_1 x12_1).f1).length c654_1] 81 (0, 0)) yK hg (Kd.N_ne HO_654001.out BK655.out (by decide))); have n9_ := Aside0.mk (hb); have n10_ := Aside0.mk (ho); clear HO_10; clear HO_652000; clear HO_652001; clear HO_654000; clear BK651; clear BK652; clear BK653; clear HL654_1; clear BK655; clear HB; clear HO_654001; have HO_10 := n0_; have HO_652000 := n1_; have HO_652001 := n2_; have HO_654000 := n3_; have BK651 := n4_; have BK652 := n5_; have BK653 := n6_; have HL654_1 := n7_; have BK655 := n8_; have HB := n9_; have HO658 := n10_; clear n0_ n1_ n2_ n3_ n4_ n5_ n6_ n7_ n8_ n9_ n10_; clear ho hb hg hat; obtain ⟨Ao26, co26, eo26⟩ := Kd.N_slice HO658.out; subst eo26; have hcz27_0 : w25.cell? ⟨gb653, 0, none⟩ = some (.slice A0_0 l0_0.length c0_0) := (blk_cell BK653.out 0).trans rfl; have hcz27_1 : w25.cell? ⟨gb653, 1, none⟩ = some (u654001) := (blk_cell BK653.out 1).trans rfl; have hfz27_0 := blk_frozen BK653.out 0; have hfz27_1 := blk_frozen BK653.out 1))
       go_roundg k1
       case measure => have := HK1.out; omega
       case rel => exact ⟨(wrap64 (x12_1 + 1)), (y656), (.slice Ao26 y656.length co26), yS, H', ⟨by have := HK1.out; omega⟩, ⟨by (with_reducible repeat (first | apply Kd.V_alloc | apply Kd.V_drewN | apply Kd.V_drew)); exact Kd.V_mono (Kd.V_far (p := ⟨gb653, 1, none⟩) (Kd.V_mono HO_10.out (fun k_ hk => (⟨hk, hk.1.2.2.2.1⟩ : _ ∧ k_ ≠ gb653))) (fun _ hk => hk.2) (.slice Ao26 y656.length co26)) (fun _ hk => ⟨hk.1.1.1, ⟨hk.1.2, ⟨hk.1.1.2.1, ⟨hk.1.1.2.2.1, hk.1.1.2.2.2.1⟩⟩⟩⟩)⟩, ⟨by (with_reducible repeat (first | apply Kd.V_alloc | apply Kd.V_drewN | apply Kd.V_drew)); exact Kd.V_mono (Kd.V_far (p := ⟨gb653, 1, none⟩) (Kd.V_mono HO_652000.out (fun k_ hk => (⟨hk, hk.1.2.2.2.1⟩ : _ ∧ k_ ≠ gb653))) (fun _ hk => hk.2) (.slice Ao26 y656.length co26)) (fun _ hk => ⟨hk.1.1.1, ⟨hk.1.2, ⟨hk.1.1.2.1, ⟨hk.1.1.2.2.1, hk.1.1.2.2.2.1⟩⟩⟩⟩)⟩, ⟨by (with_reducible repeat (first | apply Kd.V_alloc | apply Kd.V_drewN | apply Kd.V_drew)); exact Kd.V_mono (Kd.V_far (p := ⟨gb653, 1, none⟩) (Kd.V_mono HO_652001.out (fun k_ hk => (⟨hk, hk.1.2.2.2.1⟩ : _ ∧ k_ ≠ gb653))) (fun _ hk => hk.2) (.slice Ao26 y656.length co26)) (fun _ hk => ⟨hk.1.1.1, ⟨hk.1.2, ⟨hk.1.1.2.1, ⟨hk.1.1.2.2.1, hk.1.1.2.2.2.1⟩⟩⟩⟩)⟩, ⟨by (with_reducible repeat (first | apply Kd.V_alloc | apply Kd.V_drewN | apply Kd.V_drew)); exact Kd.V_mono (Kd.V_far (p := ⟨gb653, 1, none⟩) (Kd.V_mono HO_654000.out (fun k_ hk => (⟨hk, hk.1.2.2.2.1⟩ : _ ∧ k_ ≠ gb653))) (fun _ hk => hk.2) (.slice Ao26 y656.length co26)) (fun _ hk => ⟨hk.1.1.1, ⟨hk.1.2, ⟨hk.1.1.2.1, ⟨hk.1.1.2.2.1, hk.1.1.2.2.2.1⟩⟩⟩⟩)⟩, ⟨by (with_reducible repeat (first | apply Kd.N_alloc | apply Kd.N_drewN | apply Kd.N_drew)); exact Kd.N_mono (Kd.N_far (p := ⟨gb653, 1, none⟩) (Kd.N_mono HO658.out (fun k_ hk => (⟨hk, hk.2.2.2.1⟩ : _ ∧ k_ ≠ gb653))) (fun _ hk => hk.2) (.slice Ao26 y656.length co26)) (fun _ hk => ⟨hk.1.1, ⟨hk.1.2.1, ⟨hk.1.2.2.1, hk.1.2.2.2.1⟩⟩⟩)⟩, ⟨by (with_reducible repeat (first | refine blk_drewN ?_ _ | refine blk_drew ?_ | refine blk_alloc ?_ _)); refine blk_far ?_ NB651_653.out _; (with_reducible repeat (first | refine blk_drewN ?_ _ | refine blk_drew ?_ | refine blk_alloc ?_ _)); exact BK651.out⟩, ⟨by (with_reducible repeat (first | refine blk_drewN ?_ _ | refine blk_drew ?_ | refine blk_alloc ?_ _)); refine blk_far ?_ NB652_653.out _; (with_reducible repeat (first | refine blk_drewN ?_ _ | refine blk_drew ?_ | refine blk_alloc ?_ _)); exact BK652.out⟩, ⟨by (with_reducible repeat (first | refine blk_drewN ?_ _ | refine blk_drew ?_ | refine blk_alloc ?_ _)); refine blk_put (cs := #[.slice A0_0 l0_0.length c0_0, u654001]) ?_ 1 _ rfl; (with_reducible repeat (first | refine blk_drewN ?_ _ | refine blk_drew ?_ | refine blk_alloc ?_ _)); exact BK653.out⟩, ⟨yB⟩⟩
      ·rw [if_neg c14] at H
       exact absurd H (by simp)
     ·rw [if_neg c13] at H
      exact absurd H (by simp)
    ·rw [if_neg c12] at H
     exact absurd H (by simp)
   ·rw [if_neg c11] at H
    have c11b0 : decide (x12_1 < (l0_1.length : Int)) = false := decide_eq_false c11
    clear c11
    simp only [Option.some.injEq, Prod.mk.injEq] at H
    obtain ⟨rfl, rfl⟩ := H
    have hnb28 := NB653_651.out
    have hnc28 := NB651_653.out
    have hnb29 := NB653_652.out
    have hnc29 := NB652_653.out
    have hcz30_0 : wr.cell? ⟨gb653, 0, none⟩ = some (.slice A0_0 l0_0.length c0_0) := (blk_cell BK653.out 0).trans rfl
    have hcz30_1 : wr.cell? ⟨gb653, 1, none⟩ = some (u654001) := (blk_cell BK653.out 1).trans rfl
    have hfz30_0 := blk_frozen BK653.out 0
    have hfz30_1 := blk_frozen BK653.out 1
    have hnb31 := NB652_651.out
    have hnc31 := NB651_652.out
    have hcz32_0 : wr.cell? ⟨gb652, 0, none⟩ = some (.slice none 0 0) := (blk_cell BK652.out 0).trans rfl
    have hcz32_1 : wr.cell? ⟨gb652, 1, none⟩ = some (.slice none 0 0) := (blk_cell BK652.out 1).trans rfl
    have hfz32_0 := blk_frozen BK652.out 0
    have hfz32_1 := blk_frozen BK652.out 1
    obtain ⟨Ao33, co33, eo33⟩ := Kd.N_slice HO_654001.out
    subst eo33
    go_wp2
    refine bodyPost_ret (results_cell_row rfl _ _ gb652 48 #[.slice A0_0 l0_0.length c0_0, .slice Ao33 x654001_1.length co33] (0, 0) _ rfl (by (with_reducible repeat (first | refine blk_drewN ?_ _ | refine blk_drew ?_ | refine blk_alloc ?_ _)); refine blk_put (cs := #[.slice A0_0 l0_0.length c0_0, .slice none 0 0]) ?_ 1 _ rfl; (with_reducible repeat (first | refine blk_drewN ?_ _ | refine blk_drew ?_ | refine blk_alloc ?_ _)); refine blk_put (cs := #[.slice none 0 0, .slice none 0 0]) ?_ 0 _ rfl; (with_reducible repeat (first | refine blk_drewN ?_ _ | refine blk_drew ?_ | refine blk_alloc ?_ _)); exact BK652.out) Try.underlying48 rfl (by kernel_rfl)) rfl ?_
    exact ⟨_, _, by first | rfl | (simp [errW_none, errW_some] <;> rfl) | (simp [*, errW_none, errW_some] <;> rfl), by (with_reducible repeat (first | apply Kd.V_alloc | apply Kd.V_drewN | apply Kd.V_drew)); exact Kd.V_mono (Kd.V_far (p := ⟨gb652, 1, none⟩) (Kd.V_far (p := ⟨gb652, 0, none⟩) (Kd.V_mono HO_654000.out (fun k_ hk => (⟨hk, hk.2.2.2.1⟩ : _ ∧ k_ ≠ gb652))) (fun _ hk => hk.2) (.slice A0_0 l0_0.length c0_0)) (fun _ hk => hk.2) (.slice Ao33 x654001_1.length co33)) (fun _ hk => ⟨hk.1.1, hk.1.2.1⟩), by (with_reducible repeat (first | apply Kd.N_alloc | apply Kd.N_drewN | apply Kd.N_drew)); exact Kd.N_mono (Kd.N_far (p := ⟨gb652, 1, none⟩) (Kd.N_far (p := ⟨gb652, 0, none⟩) (Kd.N_mono HO_654001.out (fun k_ hk => (⟨hk, hk.2.2.1⟩ : _ ∧ k_ ≠ gb652))) (fun _ hk => hk.2) (.slice A0_0 l0_0.length c0_0)) (fun _ hk => hk.2) (.slice Ao33 x654001_1.length co33)) (fun _ hk => hk.1.1), yB⟩
end Go.Proofs.Ytehkhbnhmehobaa.P
namespace Go.Proofs.Ytehkhbnhmehobaa.P
open Go.RowKit Go.Proofs.YtehkhbnhmehobaaW.PrintWords Go.Proofs.YtehkhbnhmehobaaW.PrintLast Go.Proofs.YtehkhbnhmehobaaW.PrintMore
set_option linter.unusedVariables false
set_option linter.unusedSimpArgs false
abbrev Sb := S81
abbrev Rb := S58
abbrev zB := z32
def foldS (l : List Wd) : Bool := !(markS l) && (!(anyS l 78) && !(hasS l 77 98000))
theorem foldO_ev (s : Bool) (l : List Wd) (c : ByteArray) (hl : l.length ≤ 1000000) : Ev (fun k => subprogram_foldable.f k s l c) (foldS l) := by
  unfold subprogram_foldable.f foldS
  refine Ev.bind (marked_ev s l c hl) ?_
  cases hm : markS l with
  | true => exact Ev.pos rfl Ev.some
  | false =>
    refine Ev.neg (by decide) (Ev.bind (Codes_ev s l c 78 hl) ?_)
    have hp := codesS_pos l 78
    by_cases h0 : ((codesS l 78).length : Int) = 0
    · rw [decide_eq_false (by omega)] at hp
      rw [← hp]
      refine Ev.pos h0 (Ev.bind (has_ev s l c 77 98000 hl) ?_)
      simpa using Ev.some
    · rw [decide_eq_true (by omega)] at hp
      rw [← hp]
      refine Ev.neg h0 ?_
      simpa using Ev.some
theorem foldR_ev (s : Bool) (l : List Wd) (c : ByteArray) (hl : l.length ≤ 1000000) : Ev (fun k => swarfref43_folds.f k s l c) (foldS l) := by
  unfold swarfref43_folds.f foldS markS
  refine Ev.bind (letter_ev s l c 78 hl) ?_
  cases h1 : anyS l 78 with
  | true => refine Ev.pos rfl ?_; simpa using Ev.some
  | false =>
    refine Ev.neg (by decide) (Ev.bind (letter_ev s l c 79 hl) ?_)
    cases h2 : anyS l 79 with
    | true => refine Ev.pos rfl ?_; simpa using Ev.some
    | false =>
      refine Ev.neg (by decide) (Ev.bind (End_ev s l c hl) ?_)
      cases h3 : hasS l 77 30000 with
      | true => refine Ev.pos rfl ?_; simpa using Ev.some
      | false =>
        refine Ev.neg (by decide) (Ev.bind (Return_ev s l c hl) ?_)
        cases h4 : hasS l 77 99000 with
        | true => refine Ev.pos rfl ?_; simpa using Ev.some
        | false =>
          refine Ev.neg (by decide) (Ev.bind (hasR_ev s l c 77 98000 hl) ?_)
          simpa using Ev.some
theorem wordsEq_l0 (l m : List Wd) (hl : l.length = m.length) (hm : l.length ≤ 9223372036854775807) : ∀ (n j : Nat), j + n = l.length → Ev (fun k => api_Word_112.l0 k l m (l.length : Int) (j : Int)) (decide (l.drop j = m.drop j)) := by
  intro n
  induction n with
  | zero =>
    intro j hj
    refine Ev.step (fun k => by rw [api_Word_112.l0]) (Ev.neg (by omega) ?_)
    rw [List.drop_eq_nil_of_le (by omega), List.drop_eq_nil_of_le (by omega)]
    exact Ev.some
  | succ n ih =>
    intro j hj
    have h2 := ih (j + 1) (by omega)
    have hd := dropW_eq (show j < l.length by omega) (show j < m.length by omega)
    refine Ev.step (fun k => by rw [api_Word_112.l0]) (Ev.pos (by omega) (Ev.pos (by omega) (Ev.pos (by omega) (Ev.pos (by omega) ?_))))
    rw [rd_T78_at (show j < l.length by omega), rd_T78_at (show j < m.length by omega)]
    by_cases he : l[j]'(by omega) = m[j]'(by omega)
    · refine Ev.neg (by simp [he]) ?_
      rw [wrapI (by omega), decide_eq_decide.mpr (hd.trans ⟨fun h => h.2, fun h => ⟨he, h⟩⟩)]
      exact h2
    · refine Ev.pos ?_ ?_
      · simp only [Bool.or_eq_true, Bool.not_eq_true', beq_eq_false_iff_ne]
        by_cases h0 : (l[j]'(by omega)).f0 = (m[j]'(by omega)).f0
        · right; intro h1; exact he (by cases h : l[j]'(by omega); cases h' : m[j]'(by omega); simp_all)
        · exact .inl h0
      · rw [decide_eq_false (fun h => he (hd.mp h).1)]
        exact Ev.some
theorem EqualO_ev (a b : Bk) (hm : a.f1.length ≤ 9223372036854775807) : Ev (fun k => block_Equal.f k a.f0 a.f1 a.f2 b.f0 b.f1 b.f2) (decide (a = b)) := by
  unfold block_Equal.f
  by_cases h0 : a.f0 = b.f0
  · refine Ev.pos (by simp [h0]) ?_
    by_cases h2 : a.f2 = b.f2
    · refine Ev.pos (by rw [h2]) ?_
      have he : decide (a = b) = decide (a.f1 = b.f1) := decide_eq_decide.mpr ⟨fun h => by rw [h], fun h => by cases a; cases b; simp_all⟩
      rw [he]
      refine Ev.bind (v := decide (a.f1 = b.f1)) ?_ Ev.some
      unfold api_Word_112.f
      by_cases hl : a.f1.length = b.f1.length
      · refine Ev.pos (by omega) ?_
        have := wordsEq_l0 a.f1 b.f1 hl hm a.f1.length 0 (by omega)
        rw [List.drop_zero, List.drop_zero] at this
        exact this
      · rw [decide_eq_false (fun h => hl (by rw [h]))]
        exact Ev.neg (by omega) Ev.some
    · rw [decide_eq_false (fun h => h2 (by rw [h]))]
      exact Ev.neg (fun h => h2 (data_eq.mp h)) Ev.some
  · rw [decide_eq_false (fun h => h0 (by rw [h]))]
    exact Ev.neg (by simpa using h0) Ev.some
theorem wadd {a b : Nat} (h : a + b < 9223372036854775807) : wrap64 ((a : Int) + (b : Int)) = ((a + b : Nat) : Int) := by unfold wrap64; omega
theorem wsub {a b : Nat} (h : b ≤ a) (h2 : a < 9223372036854775807) : wrap64 ((a : Int) - (b : Int)) = ((a - b : Nat) : Int) := by unfold wrap64; omega
def runB (l : List Bk) (i j : Nat) : Nat → Nat → Bool
  | 0, _ => true
  | c + 1, q => (foldS (l.getD (i + q) zB).f1 && decide (l.getD (i + q) zB = l.getD (j + q) zB)) && runB l i j c (q + 1)
theorem rdB (l : List Bk) (j : Nat) : rd_T32 l (j : Int) = l.getD j zB := by simp [rd_T32]
theorem getD_mem {l : List Bk} {j : Nat} (h : j < l.length) : l.getD j zB ∈ l := by
  rw [List.getD_eq_getElem?_getD, List.getElem?_eq_getElem h]
  exact List.getElem_mem h
section
variable {l : List Bk} (hl : l.length ≤ 1000) (hg : ∀ b ∈ l, goodB b)
include hl hg
theorem run_l0 (i j n : Nat) (hi : i + n ≤ l.length) (hj : j + n ≤ l.length) : ∀ (c q : Nat), q + c = n → Ev (fun k => subprogram_run.l0 k l (i : Int) (j : Int) (n : Int) (q : Int)) (runB l i j c q) := by
  intro c
  induction c with
  | zero =>
    intro q hq
    refine Ev.step (fun k => by rw [subprogram_run.l0]) ?_
    exact Ev.neg (by omega) Ev.some
  | succ c ih =>
    intro q hq
    have h0 := ih (q + 1) (by omega)
    have ga := hg _ (getD_mem (l := l) (j := i + q) (by omega))
    refine Ev.step (fun k => by rw [subprogram_run.l0]) ?_
    rw [wadd (a := i) (b := q) (by omega), wadd (a := j) (b := q) (by omega), rdB, rdB]
    refine Ev.pos (by omega) (Ev.pos (by omega) (Ev.pos (by omega) (Ev.bind (foldO_ev _ _ _ ga.len) ?_)))
    unfold runB
    cases hf : foldS (l.getD (i + q) zB).f1 with
    | false => exact Ev.neg (by decide) Ev.some
    | true =>
      refine Ev.pos rfl (Ev.pos (by omega) (Ev.pos (by omega) (Ev.bind (EqualO_ev _ _ (by have := ga.len; omega)) ?_)))
      by_cases he : l.getD (i + q) zB = l.getD (j + q) zB
      · rw [decide_eq_true he]
        refine Ev.pos rfl ?_
        rw [wrapI (by omega)]
        exact h0
      · rw [decide_eq_false he]
        exact Ev.neg (by decide) Ev.some
theorem runR_l0 (i j n : Nat) (hi : i + n ≤ l.length) (hj : j + n ≤ l.length) : ∀ (c q : Nat), q + c = n → Ev (fun k => swarfref43_run.l0 k l (i : Int) (j : Int) (n : Int) (q : Int)) (runB l i j c q) := by
  intro c
  induction c with
  | zero =>
    intro q hq
    refine Ev.step (fun k => by rw [swarfref43_run.l0]) ?_
    exact Ev.neg (by omega) Ev.some
  | succ c ih =>
    intro q hq
    have h0 := ih (q + 1) (by omega)
    have ga := hg _ (getD_mem (l := l) (j := i + q) (by omega))
    refine Ev.step (fun k => by rw [swarfref43_run.l0]) ?_
    rw [wadd (a := i) (b := q) (by omega), wadd (a := j) (b := q) (by omega), rdB, rdB]
    refine Ev.pos (by omega) (Ev.pos (by omega) (Ev.pos (by omega) (Ev.bind (foldR_ev _ _ _ ga.len) ?_)))
    unfold runB
    cases hf : foldS (l.getD (i + q) zB).f1 with
    | false => exact Ev.neg (by decide) Ev.some
    | true =>
      refine Ev.pos rfl (Ev.pos (by omega) (Ev.pos (by omega) (Ev.bind (Equal_f _ _ (by have := ga.len; omega)) ?_)))
      by_cases he : l.getD (i + q) zB = l.getD (j + q) zB
      · rw [decide_eq_true he]
        refine Ev.pos rfl ?_
        rw [wrapI (by omega)]
        exact h0
      · rw [decide_eq_false he]
        exact Ev.neg (by decide) Ev.some
theorem run_ev (i j n : Nat) (hi : i + n ≤ l.length) (hj : j + n ≤ l.length) : Ev (fun k => subprogram_run.f k l (i : Int) (j : Int) (n : Int)) (runB l i j n 0) := run_l0 hl hg i j n hi hj n 0 (by omega)
theorem runR_ev (i j n : Nat) (hi : i + n ≤ l.length) (hn : n ≤ l.length) (hj : j ≤ l.length) : Ev (fun k => swarfref43_run.f k l (i : Int) (j : Int) (n : Int)) (decide (j + n ≤ l.length) && runB l i j n 0) := by
  unfold swarfref43_run.f
  rw [wadd (a := j) (b := n) (by omega)]
  by_cases h : j + n ≤ l.length
  · rw [decide_eq_true h, Bool.true_and]
    exact Ev.neg (by omega) (runR_l0 hl hg i j n hi h n 0 (by omega))
  · rw [decide_eq_false h, Bool.false_and]
    exact Ev.pos (by omega) Ev.some
omit hl hg in
end
def foundB (l : List Bk) (n i : Nat) : Nat → Nat → Bool
  | 0, _ => false
  | c + 1, j => if runB l i j n 0 = true then true else foundB l n i c (j + 1)
def foundI (l : List Bk) (n i : Nat) : Bool := foundB l n i (l.length + 1 - n - (i + n)) (i + n)
def firstB (l : List Bk) (n : Nat) : Nat → Nat → Option Nat
  | 0, _ => none
  | c + 1, i => if foundI l n i = true then some i else firstB l n c (i + 1)
theorem firstB_none (l : List Bk) (n : Nat) : ∀ (d i : Nat), (∀ x, i ≤ x → foundI l n x = false) → firstB l n d i = none
  | 0, i, h => rfl
  | d + 1, i, h => by
    show (if foundI l n i = true then some i else firstB l n d (i + 1)) = none
    rw [h i (Nat.le_refl _), if_neg (by decide)]
    exact firstB_none l n d (i + 1) (fun x hx => h x (by omega))
theorem firstB_more (l : List Bk) (n d : Nat) : ∀ (c i : Nat), (∀ x, i + c ≤ x → foundI l n x = false) → firstB l n (c + d) i = firstB l n c i
  | 0, i, h => by
    rw [Nat.zero_add]
    exact firstB_none l n d i (fun x hx => h x (by omega))
  | c + 1, i, h => by
    rw [show c + 1 + d = (c + d) + 1 by omega]
    show (if foundI l n i = true then some i else firstB l n (c + d) (i + 1)) = (if foundI l n i = true then some i else firstB l n c (i + 1))
    rw [firstB_more l n d c (i + 1) (fun x hx => h x (by omega))]
theorem firstB_lt {l : List Bk} {n : Nat} : ∀ {c i x : Nat}, firstB l n c i = some x → foundI l n x = true
  | 0, i, x, h => by cases h
  | c + 1, i, x, h => by
    rw [firstB] at h
    by_cases hf : foundI l n i = true
    · rw [if_pos hf] at h; cases h; exact hf
    · rw [if_neg hf] at h; exact firstB_lt h
theorem foundI_le {l : List Bk} {n i : Nat} (h : foundI l n i = true) : i + n + n ≤ l.length := by
  unfold foundI at h
  apply Decidable.byContradiction
  intro hn
  rw [show l.length + 1 - n - (i + n) = 0 by omega, foundB] at h
  cases h
section
variable {l : List Bk} (hl : l.length ≤ 1000) (hg : ∀ b ∈ l, goodB b)
include hl hg
theorem first_ev (n : Nat) (hn : 1 ≤ n) (h2 : n + n ≤ l.length) : ∀ (c i : Nat), i + c = l.length + 1 - n - n → ∃ r : Int, Ev (fun k => subprogram_first.l0 k l (n : Int) (i : Int)) r ∧ r = (match firstB l n c i with | some x => (x : Int) | none => -1) := by
  intro c
  induction c with
  | zero =>
    intro i hi
    refine ⟨-1, Ev.step (fun k => by rw [subprogram_first.l0]) ?_, rfl⟩
    rw [wadd (a := i) (b := n) (by omega), wsub (a := l.length) (b := n) (by omega) (by omega)]
    exact Ev.neg (by omega) Ev.some
  | succ c ih =>
    intro i hi
    obtain ⟨r', h1, h3⟩ := ih (i + 1) (by omega)
    have H3 := Aside0.mk h3
    clear h3 ih
    have inner : ∀ (d j : Nat), j + d = l.length + 1 - n → i + n ≤ j → ∃ r : Int, Ev (fun k => subprogram_first.l1 k l (n : Int) (i : Int) (j : Int)) r ∧ r = if foundB l n i d j = true then (i : Int) else r' := by
      intro d
      induction d with
      | zero =>
        intro j hj hij
        refine ⟨r', Ev.step (fun k => by rw [subprogram_first.l1]) ?_, by simp [foundB]⟩
        rw [wadd (a := j) (b := n) (by omega), wrapI (j := i) (by omega)]
        exact Ev.neg (by omega) h1
      | succ d ihd =>
        intro j hj hij
        obtain ⟨r2, h4, h5⟩ := ihd (j + 1) (by omega) (by omega)
        by_cases hr : runB l i j n 0 = true
        · refine ⟨i, Ev.step (fun k => by rw [subprogram_first.l1]) ?_, by rw [foundB, if_pos hr]; rfl⟩
          rw [wadd (a := j) (b := n) (by omega)]
          refine Ev.pos (by omega) (Ev.bind (run_ev hl hg i j n (by omega) (by omega)) (Ev.pos hr Ev.some))
        · refine ⟨r2, Ev.step (fun k => by rw [subprogram_first.l1]) ?_, by rw [foundB, if_neg hr]; exact h5⟩
          rw [wadd (a := j) (b := n) (by omega)]
          refine Ev.pos (by omega) (Ev.bind (run_ev hl hg i j n (by omega) (by omega)) (Ev.neg hr ?_))
          rw [wrapI (j := j) (by omega)]
          exact h4
    obtain ⟨r, h4, h5⟩ := inner (l.length + 1 - n - (i + n)) (i + n) (by omega) (by omega)
    refine ⟨r, Ev.step (fun k => by rw [subprogram_first.l0]) ?_, ?_⟩
    · rw [wadd (a := i) (b := n) (by omega), wsub (a := l.length) (b := n) (by omega) (by omega)]
      exact Ev.pos (by omega) h4
    · rw [h5, firstB]
      unfold foundI
      by_cases hf : foundB l n i (l.length + 1 - n - (i + n)) (i + n) = true
      · rw [if_pos hf, if_pos hf]
      · rw [if_neg hf, if_neg hf]; exact H3.out
end
def callB (num : Int) : Bk := ⟨false, [⟨77, 98000⟩, ⟨80, wrap64 (1000 * num)⟩], ⟨#[]⟩⟩
def mainB (l : List Bk) (num : Int) (a n : Nat) : Nat → Nat → List Bk → List Bk
  | 0, _, acc => acc
  | f + 1, i, acc => if i < l.length then (if i + n ≤ l.length ∧ runB l a i n 0 = true then mainB l num a n f (i + n) (acc ++ [callB num]) else mainB l num a n f (i + 1) (acc ++ [l.getD i zB])) else acc
def foldSpec (l : List Bk) (num n : Int) : List Bk × List (Int × List Bk) × Int :=
  if num < 1 ∨ num > 9999 ∨ n < 1 then ([], [], 1) else
  match firstB l n.toNat (l.length + 1 - n.toNat - n.toNat) 0 with
  | none => (l, [], 0)
  | some a => (mainB l num a n.toNat (l.length + 1) 0 [], [(num, (l.take (a + n.toNat)).drop a)], 0)
def toO (s : List (Int × List Bk)) : List Sb := s.map (fun p => ⟨p.1, p.2⟩)
def toR (s : List (Int × List Bk)) : List Rb := s.map (fun p => ⟨p.1, p.2⟩)
section
variable {l : List Bk} (hl : l.length ≤ 1000) (hg : ∀ b ∈ l, goodB b)
include hl hg
theorem foldO_l0 (num : Int) (a n : Nat) (hn : 1 ≤ n) (ha : a + n ≤ l.length) : ∀ (f i : Nat) (acc : List Bk), l.length < i + f → i ≤ l.length → acc.length ≤ i → Ev (fun k => subprogram_Fold.l0 k l num (n : Int) (a : Int) acc (i : Int)) (mainB l num a n f i acc, toO [(num, (l.take (a + n)).drop a)], 0) := by
  intro f
  induction f with
  | zero => intro i acc hf hi hacc; omega
  | succ f ih =>
    intro i acc hf hi hacc
    refine Ev.step (fun k => by rw [subprogram_Fold.l0]) ?_
    rw [mainB, wadd (a := i) (b := n) (by omega), wadd (a := a) (b := n) (by omega), rdB, wrapI (by omega)]
    by_cases h1 : i < l.length
    · rw [if_pos h1]
      refine Ev.pos (by omega) ?_
      by_cases h2 : i + n ≤ l.length
      · refine Ev.pos (by omega) (Ev.bind (run_ev hl hg a i n ha h2) ?_)
        by_cases h3 : runB l a i n 0 = true
        · rw [if_pos ⟨h2, h3⟩]
          exact Ev.pos h3 (Ev.pos (by omega) (ih (i + n) _ (by omega) (by omega) (by simp; omega)))
        · rw [if_neg (fun h => h3 h.2)]
          exact Ev.neg h3 (Ev.pos (by omega) (Ev.pos (by omega) (ih (i + 1) _ (by omega) (by omega) (by simp; omega))))
      · rw [if_neg (fun h => h2 h.1)]
        exact Ev.neg (by omega) (Ev.pos (by omega) (Ev.pos (by omega) (ih (i + 1) _ (by omega) (by omega) (by simp; omega))))
    · rw [if_neg h1]
      refine Ev.neg (by omega) (Ev.pos (by omega) (Ev.pos (by omega) (Ev.pos (by omega) ?_)))
      refine Ev.bind (v := (l.take (a + n)).drop a) (Ev.of (fun _ => ?_)) ?_
      · unfold Clone_Block.f
        rw [Int.toNat_natCast, Int.toNat_natCast, if_pos (by simp; omega)]
      · exact Ev.some
theorem foldR_l2 (num : Int) (a n : Nat) (hn : 1 ≤ n) (ha : a + n ≤ l.length) : ∀ (f i : Nat) (acc : List Bk), l.length < i + f → i ≤ l.length → acc.length ≤ i → Ev (fun k => swarfref43_Fold.l2 k l num (n : Int) (a : Int) (i : Int) acc) (mainB l num a n f i acc, toR [(num, (l.take (a + n)).drop a)], 0) := by
  intro f
  induction f with
  | zero => intro i acc hf hi hacc; omega
  | succ f ih =>
    intro i acc hf hi hacc
    refine Ev.step (fun k => by rw [swarfref43_Fold.l2]) ?_
    rw [mainB, wadd (a := i) (b := n) (by omega), wadd (a := a) (b := n) (by omega), rdB, wrapI (by omega)]
    by_cases h1 : i < l.length
    · rw [if_pos h1]
      refine Ev.pos (by omega) (Ev.bind (runR_ev hl hg a i n ha (by omega) (by omega)) ?_)
      by_cases h3 : i + n ≤ l.length ∧ runB l a i n 0 = true
      · rw [if_pos h3]
        exact Ev.pos (by simp [h3]) (Ev.pos (by omega) (ih (i + n) _ (by omega) (by omega) (by simp; omega)))
      · rw [if_neg h3]
        refine Ev.neg ?_ (Ev.pos (by omega) (Ev.pos (by omega) (ih (i + 1) _ (by omega) (by omega) (by simp; omega))))
        intro h; rw [Bool.and_eq_true] at h; exact h3 ⟨of_decide_eq_true h.1, h.2⟩
    · rw [if_neg h1]
      refine Ev.neg (by omega) (Ev.bind Ev.some (Ev.pos (by omega) (Ev.pos (by omega) (Ev.pos (by omega) ?_))))
      refine Ev.bind Ev.some ?_
      rw [Int.toNat_natCast, Int.toNat_natCast]
      refine Ev.pos (by simp; omega) ?_
      simpa [toR] using Ev.some
theorem FoldO_ev (num n : Int) (hn : I64 n) : Ev (fun k => subprogram_Fold.f k l num n) ((foldSpec l num n).1, toO (foldSpec l num n).2.1, (foldSpec l num n).2.2) := by
  have bad : (num < 1 ∨ num > 9999 ∨ n < 1) → ∀ c, c = true → Ev (fun k => subprogram_Fold.j0 k l num n c) ((foldSpec l num n).1, toO (foldSpec l num n).2.1, (foldSpec l num n).2.2) := by
    intro hb c hc
    unfold foldSpec
    rw [if_pos hb]
    refine Ev.step (fun k => by rw [subprogram_Fold.j0]) ?_
    refine Ev.pos hc ?_
    exact Ev.some
  unfold subprogram_Fold.f
  by_cases h1 : num < 1
  · exact Ev.pos h1 (bad (.inl h1) _ rfl)
  · refine Ev.neg h1 ?_
    by_cases h2 : num > 9999
    · exact Ev.pos h2 (bad (.inr (.inl h2)) _ rfl)
    · refine Ev.neg h2 ?_
      by_cases h3 : n < 1
      · exact bad (.inr (.inr h3)) _ (decide_eq_true h3)
      · unfold I64 at hn
        obtain ⟨m, rfl⟩ : ∃ m : Nat, n = (m : Int) := ⟨n.toNat, by omega⟩
        unfold foldSpec
        rw [if_neg (by omega), Int.toNat_natCast]
        refine Ev.step (fun k => by rw [subprogram_Fold.j0]) (Ev.neg (by simp; omega) ?_)
        have w0 : wrap64 ((l.length : Int) / 2) = (l.length : Int) / 2 := by unfold wrap64; omega
        rw [w0]
        have clone : Clone_Block.f l = some l := by unfold Clone_Block.f; rw [if_pos (by omega)]
        by_cases h4 : (m : Int) ≤ (l.length : Int) / 2
        · obtain ⟨r, h5, h6⟩ := first_ev hl hg m (by omega) (by omega) (l.length + 1 - m - m) 0 (by omega)
          refine Ev.pos h4 (Ev.bind (v := r) h5 ?_)
          cases hf : firstB l m (l.length + 1 - m - m) 0 with
          | none =>
            rw [hf] at h6
            replace h6 : r = -1 := h6
            subst h6
            refine Ev.step (fun k => by rw [subprogram_Fold.j1]) (Ev.pos (by decide) ?_)
            rw [clone]
            exact Ev.bind Ev.some Ev.some
          | some x =>
            rw [hf] at h6
            replace h6 : r = (x : Int) := h6
            subst h6
            have hx := foundI_le (firstB_lt hf)
            refine Ev.step (fun k => by rw [subprogram_Fold.j1]) (Ev.neg (by omega) ?_)
            exact foldO_l0 hl hg num x m (by omega) (by omega) (l.length + 1) 0 [] (by omega) (by omega) (by simp)
        · rw [show l.length + 1 - m - m = 0 by omega, firstB]
          refine Ev.neg h4 (Ev.step (fun k => by rw [subprogram_Fold.j1]) (Ev.pos (by decide) ?_))
          rw [clone]
          exact Ev.bind Ev.some Ev.some
theorem FoldR_l0 (num : Int) (m : Nat) (hm1 : 1 ≤ m) (hm : m ≤ l.length) : ∀ (c i : Nat), i + c = l.length + 1 - m → Ev (fun k => swarfref43_Fold.l0 k l num (m : Int) (i : Int)) (match firstB l m c i with | none => (l, [], 0) | some a => (mainB l num a m (l.length + 1) 0 [], toR [(num, (l.take (a + m)).drop a)], 0)) := by
  intro c
  induction c with
  | zero =>
    intro i hi
    refine Ev.step (fun k => by rw [swarfref43_Fold.l0]) ?_
    rw [wadd (a := i) (b := m) (by omega)]
    refine Ev.neg (by omega) (Ev.bind Ev.some (Ev.pos (by simp; omega) ?_))
    simpa [firstB] using Ev.some
  | succ c ih =>
    intro i hi
    have h0 := ih (i + 1) (by omega)
    refine Ev.step (fun k => by rw [swarfref43_Fold.l0]) ?_
    rw [wadd (a := i) (b := m) (by omega)]
    refine Ev.pos (by omega) ?_
    have j3 : ∀ b : Bool, b = foundI l m i → Ev (fun k => swarfref43_Fold.j3 k l num (m : Int) (i : Int) b) (match firstB l m (c + 1) i with | none => (l, [], 0) | some a => (mainB l num a m (l.length + 1) 0 [], toR [(num, (l.take (a + m)).drop a)], 0)) := by
      intro b hb
      rw [firstB, ← hb]
      refine Ev.step (fun k => by rw [swarfref43_Fold.j3]) ?_
      cases b with
      | true => exact Ev.pos rfl (foldR_l2 hl hg num i m hm1 (by omega) (l.length + 1) 0 [] (by omega) (by omega) (by simp))
      | false =>
        refine Ev.neg (by decide) ?_
        rw [wrapI (by omega)]
        exact h0
    have inner : ∀ (d j : Nat), j + d = l.length + 1 - m → i + m ≤ j → foundI l m i = foundB l m i d j → Ev (fun k => swarfref43_Fold.l1 k l num (m : Int) (i : Int) false (j : Int)) (match firstB l m (c + 1) i with | none => (l, [], 0) | some a => (mainB l num a m (l.length + 1) 0 [], toR [(num, (l.take (a + m)).drop a)], 0)) := by
      intro d
      induction d with
      | zero =>
        intro j hj hij hfi
        refine Ev.step (fun k => by rw [swarfref43_Fold.l1]) ?_
        rw [wadd (a := j) (b := m) (by omega)]
        exact Ev.neg (by omega) (j3 false (by rw [hfi, foundB]))
      | succ d ihd =>
        intro j hj hij hfi
        refine Ev.step (fun k => by rw [swarfref43_Fold.l1]) ?_
        rw [wadd (a := j) (b := m) (by omega)]
        refine Ev.pos (by omega) (Ev.neg (by decide) (Ev.bind (runR_ev hl hg i j m (by omega) hm (by omega)) ?_))
        rw [decide_eq_true (show j + m ≤ l.length by omega), Bool.true_and, wrapI (by omega)]
        rw [foundB] at hfi
        cases hr : runB l i j m 0 with
        | true =>
          rw [if_pos hr] at hfi
          refine Ev.step (fun k => by rw [swarfref43_Fold.l1]) ?_
          rw [wadd (a := (j + 1)) (b := m) (by omega)]
          by_cases h5 : j + 1 + m ≤ l.length
          · exact Ev.pos (by omega) (Ev.pos rfl (j3 true hfi.symm))
          · exact Ev.neg (by omega) (j3 true hfi.symm)
        | false =>
          rw [if_neg (by rw [hr]; decide)] at hfi
          exact ihd (j + 1) (by omega) (by omega) hfi
    by_cases hii : i + m + m ≤ l.length + 1
    · exact inner (l.length + 1 - m - (i + m)) (i + m) (by omega) (by omega) rfl
    · have hz : l.length + 1 - m - (i + m) = 0 := by omega
      refine Ev.step (fun k => by rw [swarfref43_Fold.l1]) ?_
      rw [wadd (a := (i + m)) (b := m) (by omega)]
      exact Ev.neg (by omega) (j3 false (by unfold foundI; rw [hz, foundB]))
theorem FoldR_ev (num n : Int) (hn : I64 n) : Ev (fun k => swarfref43_Fold.f k l num n) ((foldSpec l num n).1, toR (foldSpec l num n).2.1, (foldSpec l num n).2.2) := by
  have bad : (num < 1 ∨ num > 9999 ∨ n < 1) → ∀ c, c = true → Ev (fun k => swarfref43_Fold.j0 k l num n c) ((foldSpec l num n).1, toR (foldSpec l num n).2.1, (foldSpec l num n).2.2) := by
    intro hb c hc
    unfold foldSpec
    rw [if_pos hb]
    refine Ev.step (fun k => by rw [swarfref43_Fold.j0]) ?_
    refine Ev.pos hc ?_
    exact Ev.some
  unfold swarfref43_Fold.f
  by_cases h1 : num < 1
  · exact Ev.pos h1 (bad (.inl h1) _ rfl)
  · refine Ev.neg h1 ?_
    by_cases h2 : num > 9999
    · exact Ev.pos h2 (bad (.inr (.inl h2)) _ rfl)
    · refine Ev.neg h2 ?_
      by_cases h3 : n < 1
      · exact bad (.inr (.inr h3)) _ (decide_eq_true h3)
      · unfold I64 at hn
        obtain ⟨m, rfl⟩ : ∃ m : Nat, n = (m : Int) := ⟨n.toNat, by omega⟩
        unfold foldSpec
        rw [if_neg (by omega), Int.toNat_natCast]
        refine Ev.step (fun k => by rw [swarfref43_Fold.j0]) (Ev.neg (by simp; omega) ?_)
        by_cases h4 : m ≤ l.length
        · have h5 := FoldR_l0 hl hg num m (by omega) h4 (l.length + 1 - m) 0 (by omega)
          have h6 : firstB l m (l.length + 1 - m) 0 = firstB l m (l.length + 1 - m - m) 0 := by
            have := firstB_more l m (l.length + 1 - m - (l.length + 1 - m - m)) (l.length + 1 - m - m) 0 (fun x hx => by
              cases hf : foundI l m x with
              | false => rfl
              | true => have := foundI_le hf; omega)
            rw [← this]
            congr 1
            omega
          rw [h6] at h5
          cases hf : firstB l m (l.length + 1 - m - m) 0 with
          | none => rw [hf] at h5; exact h5
          | some x => rw [hf] at h5; exact h5
        · rw [show l.length + 1 - m - m = 0 by omega, firstB]
          have w1 : wrap64 (0 + (m : Int)) = (m : Int) := by unfold wrap64; omega
          refine Ev.step (fun k => by rw [swarfref43_Fold.l0]) ?_
          rw [w1]
          refine Ev.neg (by omega) (Ev.bind Ev.some (Ev.pos (by simp; omega) ?_))
          simpa [toR] using Ev.some
end
theorem rd_Sb {l : List Sb} {j : Nat} (h : j < l.length) : rd_T81 l (j : Int) = l[j] := by simp [rd_T81, h]
theorem rd_Rb {l : List Rb} {j : Nat} (h : j < l.length) : rd_T58 l (j : Int) = l[j] := by simp [rd_T58, h]
def rOf (s : Sb) : Rb := ⟨s.f0, s.f1⟩
theorem back_l0 (m : List Bk) (s : List Sb) (hs : s.length ≤ 1000000) : ∀ (n j : Nat) (acc : List Rb), j + n = s.length → acc.length ≤ j → Ev (fun k => swarflaw43_back.l0 k s (s.length : Int) (j : Int) m acc) (m, acc ++ (s.drop j).map rOf) := by
  intro n
  induction n with
  | zero =>
    intro j acc hj ha
    refine Ev.step (fun k => by rw [swarflaw43_back.l0]) (Ev.neg (by omega) ?_)
    rw [List.drop_eq_nil_of_le (by omega)]
    simpa using Ev.some
  | succ n ih =>
    intro j acc hj ha
    have h0 := ih (j + 1) (acc ++ [rOf (s[j]'(by omega))]) (by omega) (by simp; omega)
    refine Ev.step (fun k => by rw [swarflaw43_back.l0]) (Ev.pos (by omega) (Ev.pos (by omega) (Ev.pos (by omega) (Ev.pos (by omega) ?_))))
    rw [rd_Sb (show j < s.length by omega), wrapI (by omega), List.drop_eq_getElem_cons (show j < s.length by omega), List.map_cons]
    have e : acc ++ rOf (s[j]'(by omega)) :: (s.drop (j + 1)).map rOf = acc ++ [rOf (s[j]'(by omega))] ++ (s.drop (j + 1)).map rOf := by rw [List.append_assoc]; rfl
    rw [e]
    exact h0
theorem back_ev (m : List Bk) (s : List Sb) (hs : s.length ≤ 1000000) : Ev (fun k => swarflaw43_back.f k m s) (m, s.map rOf) := by
  unfold swarflaw43_back.f
  simpa using back_l0 m s hs s.length 0 [] (by omega) (by simp)
theorem toO_back (s : List (Int × List Bk)) : (toO s).map rOf = toR s := by
  unfold toO toR
  rw [List.map_map]
  rfl
def seenB (l : List Bk) : Prop := l.length ≤ 9223372036854775807 ∧ ∀ b ∈ l, b.f1.length ≤ 9223372036854775807
theorem SameR_l0 (m m2 : List Bk) (s : List Rb) (hs : s.length ≤ 1000000) (hb : ∀ x ∈ s, seenB x.f1) : ∀ (n j : Nat), j + n = s.length → Ev (fun k => swarfref43_Same.l0 k (j : Int) m s m2 s) true := by
  intro n
  induction n with
  | zero =>
    intro j hj
    exact Ev.step (fun k => by rw [swarfref43_Same.l0]) (Ev.neg (by omega) Ev.some)
  | succ n ih =>
    intro j hj
    have h0 := ih (j + 1) (by omega)
    have h1 := hb _ (List.getElem_mem (show j < s.length by omega))
    have h2 := Same_f (s[j]'(by omega)).f1 (s[j]'(by omega)).f1 h1.1 h1.2
    rw [decide_eq_true rfl] at h2
    refine Ev.step (fun k => by rw [swarfref43_Same.l0]) (Ev.pos (by omega) (Ev.pos (by omega) (Ev.pos (by omega) (Ev.pos rfl ?_))))
    rw [rd_Rb (show j < s.length by omega)]
    refine Ev.bind h2 (Ev.pos rfl ?_)
    rw [wrapI (by omega)]
    exact h0
theorem SameR_refl (m : List Bk) (s : List Rb) (hm : seenB m) (hs : s.length ≤ 1000000) (hb : ∀ x ∈ s, seenB x.f1) : Ev (fun k => swarfref43_Same.f k m s m s) true := by
  unfold swarfref43_Same.f
  have h2 := Same_f m m hm.1 hm.2
  rw [decide_eq_true rfl] at h2
  refine Ev.bind h2 (Ev.pos rfl (Ev.step (fun k => by rw [swarfref43_Same.j0]) (Ev.neg (by simp) ?_)))
  exact SameR_l0 m m s hs hb s.length 0 (by omega)
theorem mainB_mem (l : List Bk) (num : Int) (a n : Nat) : ∀ (f i : Nat) (acc : List Bk) (b : Bk), b ∈ mainB l num a n f i acc → b ∈ acc ∨ b = callB num ∨ b ∈ l
  | 0, i, acc, b, h => .inl h
  | f + 1, i, acc, b, h => by
    rw [mainB] at h
    by_cases h1 : i < l.length
    · rw [if_pos h1] at h
      by_cases h2 : i + n ≤ l.length ∧ runB l a i n 0 = true
      · rw [if_pos h2] at h
        rcases mainB_mem l num a n f _ _ b h with h | h
        · rcases List.mem_append.mp h with h | h
          · exact .inl h
          · exact .inr (.inl (by simpa using h))
        · exact .inr h
      · rw [if_neg h2] at h
        rcases mainB_mem l num a n f _ _ b h with h | h
        · rcases List.mem_append.mp h with h | h
          · exact .inl h
          · exact .inr (.inr (by rw [List.mem_singleton] at h; rw [h]; exact getD_mem h1))
        · exact .inr h
    · rw [if_neg h1] at h; exact .inl h
theorem mainB_len (l : List Bk) (num : Int) (a n : Nat) (hn : 1 ≤ n) : ∀ (f i : Nat) (acc : List Bk), i ≤ l.length → (mainB l num a n f i acc).length ≤ acc.length + (l.length - i)
  | 0, i, acc, _ => by simp [mainB]
  | f + 1, i, acc, hi => by
    rw [mainB]
    by_cases h1 : i < l.length
    · rw [if_pos h1]
      by_cases h2 : i + n ≤ l.length ∧ runB l a i n 0 = true
      · rw [if_pos h2]
        have := mainB_len l num a n hn f (i + n) (acc ++ [callB num]) (by omega)
        simp only [List.length_append, List.length_singleton] at this
        omega
      · rw [if_neg h2]
        have := mainB_len l num a n hn f (i + 1) (acc ++ [l.getD i zB]) (by omega)
        simp only [List.length_append, List.length_singleton] at this
        omega
    · rw [if_neg h1]; omega
end Go.Proofs.Ytehkhbnhmehobaa.P
namespace Go.Proofs.Ytehkhbnhmehobaa.P
open Go.RowKit Go.Proofs.YtehkhbnhmehobaaW.PrintWords Go.Proofs.YtehkhbnhmehobaaW.PrintLast Go.Proofs.YtehkhbnhmehobaaW.PrintMore
open Go.Maps (Keyed)
set_option linter.unusedVariables false
theorem size_put_le {H : Type} {D : DataW H} {kl : Lit} (hk : WideAt.IsKeyLit kl) (d : DataW H) (hD : Maps.IsMap D) : Maps.size (D.put kl d) ≤ if Maps.has D kl = true then Maps.size D else Maps.size D + 1 := by
  obtain ⟨es, rfl⟩ := hD
  show (DataW.insert (kl, d) (es.filter fun p => !p.1.sameKey kl)).length ≤ _
  have e : (DataW.insert (kl, d) (es.filter fun p => !p.1.sameKey kl)).length = (es.filter fun p => !p.1.sameKey kl).length + 1 := by rw [length_insert]
  rw [e]
  have h1 := List.length_filter_le (fun p : Lit × DataW H => !p.1.sameKey kl) es
  show _ ≤ if es.any (fun p => p.1.sameKey kl) = true then es.length else es.length + 1
  split
  · rename_i h
    obtain ⟨p, hp, hpk⟩ := List.any_eq_true.1 h
    have : (es.filter fun p => !p.1.sameKey kl).length < es.length := List.length_filter_lt_length_iff_exists.2 ⟨p, hp, by simp [hpk]⟩
    omega
  · omega
def cntF (f : Int → Option Value) : Nat := (List.range 10000).countP (fun y : Nat => (f (y : Int)).isSome)
theorem cntF_le (f : Int → Option Value) : cntF f ≤ 10000 := by
  have := List.countP_le_length (p := fun y : Nat => (f (y : Int)).isSome) (l := List.range 10000)
  rw [List.length_range] at this
  exact this
theorem countP_lt {α : Type} {p q : α → Bool} : ∀ (l : List α), (∀ y ∈ l, p y = true → q y = true) → (∃ y ∈ l, p y = false ∧ q y = true) → l.countP p + 1 ≤ l.countP q
  | [], _, ⟨y, hy, _⟩ => by simp at hy
  | x :: l, h, ⟨y, hy, h1, h2⟩ => by
    rw [List.countP_cons, List.countP_cons]
    have hm : l.countP p ≤ l.countP q := List.countP_mono_left (fun z hz hp => h z (List.mem_cons_of_mem _ hz) hp)
    rcases List.mem_cons.mp hy with rfl | hy
    · simp [h1, h2]; omega
    · have := countP_lt l (fun z hz => h z (List.mem_cons_of_mem _ hz)) ⟨y, hy, h1, h2⟩
      have hx := h x List.mem_cons_self
      have e1 : (if p x = true then 1 else 0) ≤ (if q x = true then 1 else 0) := by
        by_cases hp : p x = true
        · rw [if_pos hp, if_pos (hx hp)]; exact Nat.le_refl _
        · rw [if_neg hp]; exact Nat.zero_le _
      omega
section
variable {P : Program} {k : TypeId} {q : IntKind} {w w1 : World} {b n : Nat} {f : Int → Option Value}
def MapFew (P : Program) (k : TypeId) (q : IntKind) (w : World) (b : Nat) (f : Int → Option Value) : Prop := ∃ n, MapIs P k q w b n f ∧ n ≤ cntF f
theorem MapFew.made (P : Program) (k : TypeId) (q : IntKind) (w : World) : MapFew P k q (w.alloc (.map #[] 0)) w.heap.size (fun _ => none) := ⟨0, MapIs.made P k q w, Nat.zero_le _⟩
theorem MapFew.below (h : MapFew P k q w b f) (hb : Below w.heap.size w w1) : MapFew P k q w1 b f := by
  obtain ⟨n, h, hn⟩ := h
  exact ⟨n, h.below hb, hn⟩
theorem MapFew.kept {row : Option Nat} (h : MapFew P k q w b f) (hg : w.grownBy w1 row) (hne : some b ≠ row) : MapFew P k q w1 b f := by
  obtain ⟨n, h, hn⟩ := h
  exact ⟨n, h.kept hg hne, hn⟩
theorem MapFew.same (h : MapFew P k q w b f) (hb : w1.heap[b]? = w.heap[b]?) : MapFew P k q w1 b f := by
  obtain ⟨n, h, hn⟩ := h
  exact ⟨n, h.same hb, hn⟩
theorem MapFew.lt (h : MapFew P k q w b f) : b < w.heap.size := by
  obtain ⟨n, h, _⟩ := h
  exact h.lt
theorem MapFew.put {t e : TypeId} (h : MapFew P k q w b f) (hk : P.underlying k = some (.int q)) (ht : P.underlying t = some (.map k e)) {a : Int} (ha : (Lit.int q a).wf = true) (h0 : 0 ≤ a) (h1 : a < 10000) (v : Value) :
    ∃ w1, (Instr.mapUpdate t (.map (some b)) (.int q a) v).run P w = .ok () w1 ∧ MapFew P k q w1 b (fun x => if x = a then some v else f x) ∧ w.grownBy w1 (some b) := by
  obtain ⟨n, h, hn⟩ := h
  have hc := cntF_le f
  obtain ⟨D, hD, hf⟩ := h
  have hm := hD.isMap
  have hsz := hD.size_le
  obtain ⟨w1, hrun, hD1, hg⟩ := hD.update (Maps.int_keyed hk) ht (show n < maxLen by unfold maxLen; omega) (R := rawR) (Maps.keyOf_int_mk hk ha) (val := v) rfl
  refine ⟨w1, hrun, ?_, hg⟩
  have hp := size_put_le (kl := .int q a) (show WideAt.IsKeyLit (.int q a) from trivial) (.held v : DataW Value) hm
  rw [(hf a).1] at hp
  have hf' : ∀ x : Int, Maps.has (D.put (.int q a) (.held v)) (.int q x) = (if x = a then some v else f x).isSome ∧ ∀ z, (D.put (.int q a) (.held v)).atKey (.int q x) (.held z) = .held ((if x = a then some v else f x).getD z) := by
    intro x
    by_cases hx : x = a
    · subst hx
      rw [if_pos rfl]
      exact ⟨Maps.has_put_same hm (show WideAt.IsKeyLit (.int q x) from trivial) _, fun z => Maps.atKey_put_same hm (show WideAt.IsKeyLit (.int q x) from trivial) _ _⟩
    · rw [if_neg hx]
      have hne : Lit.int q x ≠ Lit.int q a := fun e => hx (by injection e)
      exact ⟨(Maps.has_put_other hne _).trans (hf x).1, fun z => (Maps.atKey_put_other hne _ _).trans ((hf x).2 z)⟩
  have hcnt : cntF f + (if (f a).isSome = true then 0 else 1) ≤ cntF (fun x => if x = a then some v else f x) := by
    unfold cntF
    by_cases hs : (f a).isSome = true
    · rw [if_pos hs, Nat.add_zero]
      refine List.countP_mono_left (fun y _ hy => ?_)
      by_cases hy2 : (y : Int) = a <;> simp [hy2]
      simpa using hy
    · rw [if_neg hs]
      refine countP_lt _ (fun y _ hy => ?_) ⟨a.toNat, by simp; omega, ?_, ?_⟩
      · by_cases hy2 : (y : Int) = a <;> simp [hy2]
        simpa using hy
      · rw [Int.toNat_of_nonneg h0]
        simpa using hs
      · rw [Int.toNat_of_nonneg h0]
        simp
  refine ⟨if (f a).isSome = true then n else n + 1, ?_, by
    have e1 : (if (f a).isSome = true then n else n + 1) = n + (if (f a).isSome = true then 0 else 1) := by
      by_cases hs : (f a).isSome = true
      · rw [if_pos hs, if_pos hs]; rfl
      · rw [if_neg hs, if_neg hs]
    rw [e1]; omega⟩
  obtain ⟨es, clock, hb, F, hn1, hDe⟩ := hD1
  refine ⟨D.put (.int q a) (.held v), ⟨es, clock, hb, F, ?_, hDe⟩, hf'⟩
  have : Maps.size (D.put (.int q a) (.held v)) = es.size := by rw [hDe]; simp [Maps.size, length_sorted]
  rw [← this]
  refine Nat.le_trans hp ?_
  by_cases hs : (f a).isSome = true
  · rw [if_pos hs, if_pos hs]; exact hsz
  · rw [if_neg hs, if_neg hs]; omega
end
section
variable {P : Program} {ops : Array Oper} {rest : List Oper} {o : Oper} {a : Act} {Q : Exit → Act → World → Prop} {W : World} {k e t : TypeId} {q : IntKind} {b : Nat} {f : Int → Option Value}
theorem few_put (hg : o.guard = none) {m x y : Operand} (hop : o.op = Op.mapUpdate t m x y) (hk : P.underlying k = some (.int q)) (ht : P.underlying t = some (.map k e))
    (h : MapFew P k q W b f) (hm : a.eval m = .map (some b)) (i : Int) (hx : a.eval x = .int q i) (hi : (Lit.int q i).wf = true) (h0 : 0 ≤ i) (h1 : i < 10000) (v : Value) (hv : a.eval y = v)
    (hK : ∀ w1, MapFew P k q w1 b (fun x => if x = i then some v else f x) → W.grownBy w1 (some b) → wpList P ops Q rest (a.put o.dst undef) w1) : wpList P ops Q (o :: rest) a W := by
  refine wpList_plain hg fun K' hK' => ?_
  obtain ⟨w1, hrun, h1, h2⟩ := h.put hk ht hi h0 h1 v
  unfold Oper.wp
  simp [execOp, hop, hm, hx, hv, hrun, Result.andThen]
  exact hK' _ _ (hK w1 h1 h2)
theorem few_put_step {K : Act → World → Prop} {N : Option Tmp} (hw : Region.wanted o (yielded ops a.tmps) = true) (hN : o.dst = N) {m x y : Operand} (hop : o.op = Op.mapUpdate t m x y) (hk : P.underlying k = some (.int q)) (ht : P.underlying t = some (.map k e))
    (h : MapFew P k q W b f) (hm : a.eval m = .map (some b)) (i : Int) (hx : a.eval x = .int q i) (hi : (Lit.int q i).wf = true) (h0 : 0 ≤ i) (h1 : i < 10000) (v : Value) (hv : a.eval y = v)
    (hK : ∀ w1, MapFew P k q w1 b (fun x => if x = i then some v else f x) → W.grownBy w1 (some b) → K (a.put N undef) w1) : if Region.wanted o (yielded ops a.tmps) = true then Oper.wp P o a W K Q else K (a.put N undef) W := by
  rw [if_pos hw]
  subst hN
  obtain ⟨w1, hrun, h2, h3⟩ := h.put hk ht hi h0 h1 v
  unfold Oper.wp
  simp [execOp, hop, hm, hx, hv, hrun, Result.andThen]
  exact hK w1 h2 h3
end
end Go.Proofs.Ytehkhbnhmehobaa.P
namespace Go.Proofs.Ytehkhbnhmehobaa.P
open Go.RowKit Go.Proofs.YtehkhbnhmehobaaW.PrintWords Go.Proofs.YtehkhbnhmehobaaW.PrintLast Go.Proofs.YtehkhbnhmehobaaW.PrintMore
set_option linter.unusedVariables false
set_option linter.unusedSimpArgs false
attribute [local go_sem] max2_int min2_int max_two min_two
def callF (k : Nat) (b : S32) : Option (Int × Int × Bool × Int) := subprogram_Call.f k b.f0 b.f1 b.f2
theorem callF_mono (k : Nat) (b : S32) : LeO (callF k b) (callF (k + 1) b) := subprogram_Call.mono _ _ _ k
def mx (x y : Int) : Int := if x < y then y else x
def mn (x y : Int) : Int := if y < x then y else x
def IN (n : Int) : Prop := 1 ≤ n ∧ n ≤ 9999
instance (n : Int) : Decidable (IN n) := by unfold IN; infer_instance
theorem IN.wf {n : Int} (h : IN n) : (Lit.int .i64 n).wf = true := WalkArith.wf_i64 (by unfold IN at h; omega)
def ExpIs (W : World) (gx g0 g1 g2 g3 g4 : Nat) : Prop := W.heap[gx]? = some (.cells #[.map (some g0), .map (some g1), .map (some g2), .map (some g3), .map (some g4)] 139 (0, 0))
def IntMap (W : World) (g : Nat) (f : Int → Int) : Prop := ∃ F, MapFew Try.prog 2 .i64 W g F ∧ ∀ y, (F y).getD (.int .i64 0) = .int .i64 (f y)
theorem IntMap.below {w w1 : World} {g : Nat} {f : Int → Int} (h : IntMap w g f) (hb : Below w.heap.size w w1) : IntMap w1 g f := by
  obtain ⟨F, h, hf⟩ := h
  exact ⟨F, h.below hb, hf⟩
def sumL (k : Nat) (dp sz : Int → Int) : List S32 → Int → Int → Option (Int × Int)
  | [], d, s => some (d, s)
  | b :: l, d, s => (callF k b).bind fun r => if r.2.2.1 = true then (if IN r.1 then sumL k dp sz l (mx d (wrap64 (1 + dp r.1))) (mn (wrap64 (s + mn (wrap64 (r.2.1 * sz r.1)) 20001)) 20001) else none) else sumL k dp sz l d (mn (wrap64 (s + 1)) 20001)
theorem sum_step {k : Nat} {dp sz : Int → Int} {l : List S32} {j : Nat} (h : j < l.length) {d s : Int} {r : Int × Int} (hr : sumL k dp sz (l.drop j) d s = some r) :
    ∃ n t is e, callF k l[j] = some (n, t, is, e) ∧ (is = true → IN n ∧ sumL k dp sz (l.drop (j + 1)) (mx d (wrap64 (1 + dp n))) (mn (wrap64 (s + mn (wrap64 (t * sz n)) 20001)) 20001) = some r) ∧ (is = false → sumL k dp sz (l.drop (j + 1)) d (mn (wrap64 (s + 1)) 20001) = some r) := by
  rw [List.drop_eq_getElem_cons h, sumL] at hr
  obtain ⟨⟨n, t, is, e⟩, h1, h2⟩ := Option.bind_eq_some_iff.mp hr
  refine ⟨n, t, is, e, h1, fun hi => ?_, fun hi => ?_⟩
  · subst hi
    simp only [if_true] at h2
    by_cases hn : IN n
    · rw [if_pos hn] at h2; exact ⟨hn, h2⟩
    · rw [if_neg hn] at h2; cases h2
  · subst hi
    simpa using h2
theorem zero_i64 (w : World) : (zeroValue 2).run Try.prog w = .ok (.int .i64 0) w := by kernel_rfl
set_option maxHeartbeats 4000000 in
set_option maxRecDepth 100000 in
theorem sum_calls (k : Nat) (gx g0 g1 g2 g3 g4 : Nat) (dp sz : Int → Int) (A0 : Option Addr) (c0 : Nat) (l : List (S32)) (r1 r2 : Int) (w : World) (hx : ExpIs w gx g0 g1 g2 g3 g4) (h2 : IntMap w g2 dp) (h3 : IntMap w g3 sz)
    (hr0 : Kd.C k32 w A0 l.length l) (hc0 : l.length ≤ c0) (h : sumL k dp sz l 0 0 = some (r1, r2)) :
    Calls Try.prog 95 #[.pointer (some ⟨gx, 0, none⟩), .slice A0 l.length c0] w fun e w' => e = .returned (.tuple #[.int .i64 r1, .int .i64 r2]) ∧ Below w.heap.size w w' := by
  have hu32 := Try.underlying32
  have hu139 := Try.underlying139
  have HR := Aside0.mk hr0
  have HM := Aside0.mk (Kd.C_max hr0)
  have H := Aside0.mk h
  have HX := Aside0.mk hx
  have H2 := Aside0.mk h2
  have H3 := Aside0.mk h3
  clear hr0 hc0 h hx h2 h3
  go_enter Try.func95, Try.ntmps95
  go_wp2
  go_loopw [16, 6, 7] (fun i vd vs w' => ∃ (j : Nat) (d s : Int), i = .int .i64 j ∧ vd = .int .i64 d ∧ vs = .int .i64 s ∧ Aside0 (j ≤ l.length) ∧ Aside0 (sumL k dp sz (l.drop j) d s = some (r1, r2)) ∧ Aside0 (Below w.heap.size w w')) (fun i _ _ _ => l.length - (intOf i).toNat)
  case atStart => exact ⟨0, 0, 0, rfl, rfl, rfl, ⟨Nat.zero_le _⟩, ⟨H.out⟩, ⟨Below.refl _ _⟩⟩
  case round =>
    obtain ⟨j, d, s, rfl, rfl, rfl, HJ, HI, HB⟩ := hrel
    clear H
    by_cases hlt : j < l.length
    · obtain ⟨ad, A1, c1, e, hx0, hx1, hx2, hl1, hk1⟩ := at_T32 (Kd.C_below HR.out HB.out) (j : Int) (by omega) (by omega)
      cases e
      have hrd : rd_T32 l (j : Int) = l[j] := by simp [rd_T32, hlt]
      rw [hrd] at hx0 hx1 hx2 hl1 hk1
      obtain ⟨n, t, is, e, hcl, hyes, hno⟩ := sum_step hlt HI.out
      have HCL := Aside0.mk (show subprogram_Call.f k l[j].f0 l[j].f1 l[j].f2 = some (n, t, is, e) from hcl)
      have HYES := Aside0.mk hyes
      have HNO := Aside0.mk hno
      have HL1 := Aside0.mk hl1
      have HK1 := Aside0.mk hk1
      clear hrd hcl hyes hno hl1 hk1
      generalize l[j] = x at *
      simp only [Int.toNat_natCast] at hx0 hx1 hx2
      have hlt' : decide ((j : Int) < (l.length : Int)) = true := by simp; omega
      cases is with
      | true =>
        obtain ⟨hin, hnext⟩ := HYES.out rfl
        have HIN := Aside0.mk hin
        have HN := Aside0.mk hnext
        clear hin hnext HNO
        go_wp2_with (first | (go_at_call 25; (with_reducible refine (subprogram_Call.calls k x.f0 A1 c1 x.f1 x.f2 n t true e _ (Kd.C_alloc HK1.out _) HL1.out HCL.out).mono ?_); rintro e2 w2 ⟨rfl, hb2⟩; have HB2 := Aside0.mk (below_then (below_alloc HB.out _) (Nat.le_trans HB.out.size (below_alloc (Below.refl _ _) _).size) hb2); have HXX := Aside0.mk (blk_below HX.out HB2.out); have HZ2 := Aside0.mk (H2.out.below HB2.out); have HZ3 := Aside0.mk (H3.out.below HB2.out); clear hb2; have hq2 : w2.cell? ⟨gx, 2, none⟩ = some (.map (some g2)) := (blk_cell HXX.out 2).trans rfl; have hq3 : w2.cell? ⟨gx, 3, none⟩ = some (.map (some g3)) := (blk_cell HXX.out 3).trans rfl; obtain ⟨F2, ⟨n2, m2, _⟩, f2⟩ := HZ2.out; obtain ⟨F3, ⟨n3, m3, _⟩, f3⟩ := HZ3.out; have HM2 := Aside0.mk m2; have HM3 := Aside0.mk m3; have HF2 := Aside0.mk f2; have HF3 := Aside0.mk f3; clear m2 m3 f2 f3) | ((with_reducible refine gate_dst (N := 37) rfl ?_); refine map_look 37 rfl rfl rfl Try.underlying2 Try.underlying136 zero_int3 HM2.out rfl n rfl HIN.out.wf _ (HF2.out n) ?_) | ((with_reducible refine gate_dst (N := 47) rfl ?_); refine map_look 47 rfl rfl rfl Try.underlying2 Try.underlying137 zero_i64 HM3.out rfl n rfl HIN.out.wf _ (HF3.out n) ?_))
        go_roundw
        case rel => exact ⟨j + 1, _, _, by rw [wrap_succ hlt HM.out], rfl, rfl, ⟨by omega⟩, ⟨HN.out⟩, ⟨HB2.out⟩⟩
        case measure => rw [wrap_succ hlt HM.out]; simp only [intOf, Int.toNat_natCast]; omega
      | false =>
        have HN := Aside0.mk (HNO.out rfl)
        clear HYES
        go_wp2_with (go_at_call 25; (with_reducible refine (subprogram_Call.calls k x.f0 A1 c1 x.f1 x.f2 n t false e _ (Kd.C_alloc HK1.out _) HL1.out HCL.out).mono ?_); rintro e2 w2 ⟨rfl, hb2⟩; have HB2 := Aside0.mk (below_then (below_alloc HB.out _) (Nat.le_trans HB.out.size (below_alloc (Below.refl _ _) _).size) hb2); clear hb2)
        go_roundw
        case rel => exact ⟨j + 1, _, _, by rw [wrap_succ hlt HM.out], rfl, rfl, ⟨by omega⟩, ⟨HN.out⟩, ⟨HB2.out⟩⟩
        case measure => rw [wrap_succ hlt HM.out]; simp only [intOf, Int.toNat_natCast]; omega
    · have hlt' : decide ((j : Int) < (l.length : Int)) = false := by simp; omega
      have hI := HI.out
      rw [List.drop_eq_nil_of_le (by omega)] at hI
      simp only [sumL, Option.some.injEq, Prod.mk.injEq] at hI
      obtain ⟨rfl, rfl⟩ := hI
      go_wp2
      refine bodyPost_ret (results_list (rs := [.tmp 4, .tmp 5]) rfl (by simp) (.tmp (.tmp .nil))) rfl ?_
      exact ⟨rfl, HB.out⟩
end Go.Proofs.Ytehkhbnhmehobaa.P
namespace Go.Proofs.Ytehkhbnhmehobaa.P
open Go.RowKit Go.Proofs.YtehkhbnhmehobaaW.PrintWords Go.Proofs.YtehkhbnhmehobaaW.PrintLast Go.Proofs.YtehkhbnhmehobaaW.PrintMore
set_option linter.unusedVariables false
set_option linter.unusedSimpArgs false
def SubMap (w0 W : World) (g : Nat) (subs : Int → List S32) : Prop := ∃ F, MapFew Try.prog 2 .i64 W g F ∧ ∀ y, ∃ A c, (F y).getD (.slice none 0 0) = .slice A (subs y).length c ∧ (subs y).length ≤ c ∧ Kd.C k32 w0 A (subs y).length (subs y)
abbrev St3 := (Int → Int) × (Int → Int) × (Int → Int)
structure ExpW (w0 W : World) (gx g0 g1 g2 g3 g4 : Nat) (subs : Int → List S32) (S : St3) : Prop where
  below : Below w0.heap.size w0 W
  exp : ExpIs W gx g0 g1 g2 g3 g4
  sub : SubMap w0 W g0 subs
  m1 : IntMap W g1 S.1
  m2 : IntMap W g2 S.2.1
  m3 : IntMap W g3 S.2.2
  m4 : MapFew Try.prog 2 .i64 W g4 (fun _ => none)
  ge1 : w0.heap.size ≤ g1
  ge2 : w0.heap.size ≤ g2
  ge3 : w0.heap.size ≤ g3
  ge4 : w0.heap.size ≤ g4
  n01 : g0 ≠ g1
  n02 : g0 ≠ g2
  n03 : g0 ≠ g3
  n04 : g0 ≠ g4
  n12 : g1 ≠ g2
  n13 : g1 ≠ g3
  n14 : g1 ≠ g4
  n23 : g2 ≠ g3
  n24 : g2 ≠ g4
  n34 : g3 ≠ g4
section
variable {w0 W W' : World} {gx g0 g1 g2 g3 g4 : Nat} {subs : Int → List S32} {S : St3}
theorem IntMap.kept {row : Option Nat} {g : Nat} {f : Int → Int} (h : IntMap W g f) (hg : W.grownBy W' row) (hne : some g ≠ row) : IntMap W' g f := by
  obtain ⟨F, h, hf⟩ := h
  exact ⟨F, h.kept hg hne, hf⟩
theorem SubMap.kept {row : Option Nat} {g : Nat} (h : SubMap w0 W g subs) (hg : W.grownBy W' row) (hne : some g ≠ row) : SubMap w0 W' g subs := by
  obtain ⟨F, h, hf⟩ := h
  exact ⟨F, h.kept hg hne, hf⟩
theorem IntMap.ne_exp {g : Nat} {f : Int → Int} (h : IntMap W g f) (hx : ExpIs W gx g0 g1 g2 g3 g4) : some gx ≠ some g := by
  obtain ⟨F, ⟨n, h, _⟩, _⟩ := h
  intro e
  injection e with e
  exact h.ne hx e.symm
theorem ExpW.step (h : ExpW w0 W gx g0 g1 g2 g3 g4 subs S) (hb : Below W.heap.size W W') : ExpW w0 W' gx g0 g1 g2 g3 g4 subs S :=
  { h with below := below_then h.below h.below.size hb, exp := blk_below h.exp hb, sub := by obtain ⟨F, hm, hf⟩ := h.sub; exact ⟨F, hm.below hb, hf⟩, m1 := h.m1.below hb, m2 := h.m2.below hb, m3 := h.m3.below hb, m4 := h.m4.below hb }
theorem below_row {g : Nat} (h : Below w0.heap.size w0 W) (hg : W.grownBy W' (some g)) (hge : w0.heap.size ≤ g) : Below w0.heap.size w0 W' := h.grown hg h.size (fun k_ e_ => by injection e_ with e_; rw [← e_]; exact hge)
theorem ExpIs.kept {g : Nat} (h : ExpIs W gx g0 g1 g2 g3 g4) (hg : W.grownBy W' (some g)) (hne : some gx ≠ some g) : ExpIs W' gx g0 g1 g2 g3 g4 := (hg.block gx (blk_lt h) hne).trans h
theorem someNe {a b : Nat} (h : a ≠ b) : some a ≠ some b := fun e => h (by injection e)
theorem ExpW.put1 (h : ExpW w0 W gx g0 g1 g2 g3 g4 subs S) {f : Int → Int} (hg : W.grownBy W' (some g1)) (hm : IntMap W' g1 f) : ExpW w0 W' gx g0 g1 g2 g3 g4 subs (f, S.2.1, S.2.2) :=
  { h with below := below_row h.below hg h.ge1, exp := h.exp.kept hg (h.m1.ne_exp h.exp), sub := h.sub.kept hg (someNe h.n01), m1 := hm, m2 := h.m2.kept hg (someNe h.n12.symm), m3 := h.m3.kept hg (someNe h.n13.symm), m4 := h.m4.kept hg (someNe h.n14.symm) }
theorem ExpW.put2 (h : ExpW w0 W gx g0 g1 g2 g3 g4 subs S) {f : Int → Int} (hg : W.grownBy W' (some g2)) (hm : IntMap W' g2 f) : ExpW w0 W' gx g0 g1 g2 g3 g4 subs (S.1, f, S.2.2) :=
  { h with below := below_row h.below hg h.ge2, exp := h.exp.kept hg (h.m2.ne_exp h.exp), sub := h.sub.kept hg (someNe h.n02), m1 := h.m1.kept hg (someNe h.n12), m2 := hm, m3 := h.m3.kept hg (someNe h.n23.symm), m4 := h.m4.kept hg (someNe h.n24.symm) }
theorem ExpW.put3 (h : ExpW w0 W gx g0 g1 g2 g3 g4 subs S) {f : Int → Int} (hg : W.grownBy W' (some g3)) (hm : IntMap W' g3 f) : ExpW w0 W' gx g0 g1 g2 g3 g4 subs (S.1, S.2.1, f) :=
  { h with below := below_row h.below hg h.ge3, exp := h.exp.kept hg (h.m3.ne_exp h.exp), sub := h.sub.kept hg (someNe h.n03), m1 := h.m1.kept hg (someNe h.n13), m2 := h.m2.kept hg (someNe h.n23), m3 := hm, m4 := h.m4.kept hg (someNe h.n34.symm) }
end
def upd (f : Int → Int) (n v : Int) : Int → Int := fun y => if y = n then v else f y
theorem upd_get {F : Int → Option Value} {f : Int → Int} (h : ∀ y, (F y).getD (.int .i64 0) = .int .i64 (f y)) (n v : Int) : ∀ y, ((if y = n then some (Value.int .i64 v) else F y).getD (.int .i64 0)) = .int .i64 (upd f n v y) := by
  intro y
  unfold upd
  by_cases hy : y = n <;> simp [hy, h]
def measL (rec_ : Int → St3 → Option (Bool × St3)) (kc : Nat) : List S32 → St3 → Option (Bool × St3)
  | [], S => some (true, S)
  | b :: l, S => (callF kc b).bind fun r => if r.2.2.1 = true then (if IN r.1 then (rec_ r.1 S).bind fun m => if m.1 = true then measL rec_ kc l m.2 else some (false, m.2) else none) else measL rec_ kc l S
def measF (subs : Int → List S32) (kc : Nat) : Nat → Int → St3 → Option (Bool × St3)
  | 0, _, _ => none
  | k + 1, n, S => if S.1 n = 1 then some (false, S) else if S.1 n = 2 then some (true, S) else
    (measL (measF subs kc k) kc (subs n) (upd S.1 n 1, S.2.1, S.2.2)).bind fun m => if m.1 = true then (sumL kc m.2.2.1 m.2.2.2 (subs n) 0 0).bind fun s => some (true, (upd m.2.1 n 2, upd m.2.2.1 n s.1, upd m.2.2.2 n s.2)) else some (false, m.2)
theorem meas_step {rec_ : Int → St3 → Option (Bool × St3)} {kc : Nat} {l : List S32} {j : Nat} (h : j < l.length) {S : St3} {r : Bool × St3} (hr : measL rec_ kc (l.drop j) S = some r) :
    ∃ n t is e, callF kc l[j] = some (n, t, is, e) ∧ (is = true → IN n ∧ ∃ b S2, rec_ n S = some (b, S2) ∧ (b = true → measL rec_ kc (l.drop (j + 1)) S2 = some r) ∧ (b = false → r = (false, S2))) ∧ (is = false → measL rec_ kc (l.drop (j + 1)) S = some r) := by
  rw [List.drop_eq_getElem_cons h, measL] at hr
  obtain ⟨⟨n, t, is, e⟩, h1, h2⟩ := Option.bind_eq_some_iff.mp hr
  refine ⟨n, t, is, e, h1, fun hi => ?_, fun hi => ?_⟩
  · subst hi
    simp only [if_true] at h2
    by_cases hn : IN n
    · rw [if_pos hn] at h2
      obtain ⟨⟨b, S2⟩, h3, h4⟩ := Option.bind_eq_some_iff.mp h2
      refine ⟨hn, b, S2, h3, fun hb => ?_, fun hb => ?_⟩
      · subst hb; simpa using h4
      · subst hb; simpa using h4.symm
    · rw [if_neg hn] at h2; cases h2
  · subst hi
    simpa using h2
theorem zero_rows (w : World) : (zeroValue 35).run Try.prog w = .ok (.slice none 0 0) w := by kernel_rfl
set_option maxHeartbeats 8000000 in
set_option maxRecDepth 100000 in
theorem measure_calls (kc : Nat) (w0 : World) (gx g0 g1 g2 g3 g4 : Nat) (subs : Int → List S32) : ∀ (kf : Nat) (n : Int) (S S' : St3) (b : Bool) (W : World), IN n → ExpW w0 W gx g0 g1 g2 g3 g4 subs S → measF subs kc kf n S = some (b, S') →
    Calls Try.prog 111 #[.pointer (some ⟨gx, 0, none⟩), .int .i64 n] W fun e W' => e = .returned (.bool b) ∧ ExpW w0 W' gx g0 g1 g2 g3 g4 subs S' := by
  intro kf
  induction kf with
  | zero => intro n S S' b W hn hE h; simp [measF] at h
  | succ kf ih =>
    intro n S S' b W hn hE h
    have IH := Aside0.mk ih
    clear ih
    rw [measF] at h
    have hu139 := Try.underlying139
    have hu32 := Try.underlying32
    have hq1 : W.cell? ⟨gx, 1, none⟩ = some (.map (some g1)) := (blk_cell hE.exp 1).trans rfl
    have HE := Aside0.mk hE
    have HN := Aside0.mk hn
    obtain ⟨F1, fw1, f1⟩ := hE.m1
    have FW1 := Aside0.mk fw1
    obtain ⟨q1, m1, _⟩ := fw1
    have M1 := Aside0.mk m1
    have F1H := Aside0.mk f1
    clear m1 f1 hE hn
    by_cases c1 : S.1 n = 1
    · rw [if_pos c1] at h
      simp only [Option.some.injEq, Prod.mk.injEq] at h
      obtain ⟨rfl, rfl⟩ := h
      have t1 : (S.1 n == 1) = true := beq_iff_eq.mpr c1
      clear c1
      go_enter Try.func111, Try.ntmps111
      go_wp2_with ((with_reducible refine gate_dst (N := 16) rfl ?_); refine map_look 16 rfl rfl rfl Try.underlying2 Try.underlying136 zero_int3 M1.out rfl n rfl HN.out.wf _ (F1H.out n) ?_)
      go_ret
      exact ⟨rfl, HE.out⟩
    · rw [if_neg c1] at h
      have t1 : (S.1 n == 1) = false := beq_eq_false_iff_ne.mpr c1
      clear c1
      by_cases c2 : S.1 n = 2
      · rw [if_pos c2] at h
        simp only [Option.some.injEq, Prod.mk.injEq] at h
        obtain ⟨rfl, rfl⟩ := h
        have t2 : (S.1 n == 2) = true := beq_iff_eq.mpr c2
        clear c2
        go_enter Try.func111, Try.ntmps111
        go_wp2_with ((with_reducible refine gate_dst (N := 16) rfl ?_); refine map_look 16 rfl rfl rfl Try.underlying2 Try.underlying136 zero_int3 M1.out rfl n rfl HN.out.wf _ (F1H.out n) ?_)
        go_ret
        exact ⟨rfl, HE.out⟩
      · rw [if_neg c2] at h
        have t2 : (S.1 n == 2) = false := beq_eq_false_iff_ne.mpr c2
        clear c2
        obtain ⟨m, hm, h⟩ := Option.bind_eq_some_iff.mp h
        have HM := Aside0.mk hm
        have H := Aside0.mk h
        clear hm h
        go_enter Try.func111, Try.ntmps111
        go_wp2_with (first | ((with_reducible refine gate_dst (N := 16) rfl ?_); refine map_look 16 rfl rfl rfl Try.underlying2 Try.underlying136 zero_int3 M1.out rfl n rfl HN.out.wf _ (F1H.out n) ?_) | ((with_reducible refine gate_dst (N := 31) rfl ?_); refine map_look 31 rfl rfl rfl Try.underlying2 Try.underlying135 zero_rows M0.out rfl n rfl HN.out.wf (.slice A0 (subs n).length c0) E0.out ?_) | (refine few_put rfl rfl Try.underlying2 Try.underlying136 FW1.out rfl n rfl HN.out.wf (by have := HN.out; unfold IN at this; omega) (by have := HN.out; unfold IN at this; omega) (.int .i64 1) rfl ?_; intro w1 hm1 hg1; have HE1 := Aside0.mk (ExpW.put1 (f := upd S.1 n 1) HE.out hg1 ⟨_, hm1, upd_get F1H.out n 1⟩); clear hm1 hg1; have hq0_w1 : w1.cell? ⟨gx, 0, none⟩ = some (.map (some g0)) := (blk_cell HE1.out.exp 0).trans rfl; obtain ⟨F0, ⟨q0, m0, _⟩, f0⟩ := HE1.out.sub; obtain ⟨A0, c0, e0, hl0, hC0⟩ := f0 n; have M0 := Aside0.mk m0; have E0 := Aside0.mk e0; have HL0 := Aside0.mk hl0; have HC0 := Aside0.mk hC0; clear m0 f0 e0 hl0 hC0))
        have HMX := Aside0.mk (Kd.C_max HC0.out)
        go_loopw [33] (fun i w' => ∃ (j : Nat) (S2 : St3), i = .int .i64 j ∧ Aside0 (j ≤ (subs n).length) ∧ Aside0 (measL (measF subs kc kf) kc ((subs n).drop j) S2 = some m) ∧ Aside0 (ExpW w0 w' gx g0 g1 g2 g3 g4 subs S2)) (fun i _ => (subs n).length - (intOf i).toNat)
        case atStart => exact ⟨0, _, rfl, ⟨Nat.zero_le _⟩, ⟨HM.out⟩, ⟨HE1.out⟩⟩
        case round =>
          obtain ⟨j, S2, rfl, HJ, HI, HE2⟩ := hrel
          clear HM HE HE1 M0 M1 FW1 F1H E0 hq1 hq0_w1
          by_cases hlt : j < (subs n).length
          · obtain ⟨ad, A1, c1, e, hx0, hx1, hx2, hl1, hk1⟩ := at_T32 (Kd.C_below HC0.out HE2.out.below) (j : Int) (by omega) (by omega)
            cases e
            have hrd : rd_T32 (subs n) (j : Int) = (subs n)[j] := by simp [rd_T32, hlt]
            rw [hrd] at hx0 hx1 hx2 hl1 hk1
            obtain ⟨nn, t, is, e, hcl, hyes, hno⟩ := meas_step hlt HI.out
            have HCL := Aside0.mk (show subprogram_Call.f kc (subs n)[j].f0 (subs n)[j].f1 (subs n)[j].f2 = some (nn, t, is, e) from hcl)
            have HYES := Aside0.mk hyes
            have HNO := Aside0.mk hno
            have HL1 := Aside0.mk hl1
            have HK1 := Aside0.mk hk1
            clear hrd hcl hyes hno hl1 hk1
            generalize (subs n)[j] = x at *
            simp only [Int.toNat_natCast] at hx0 hx1 hx2
            have hlt' : decide ((j : Int) < ((subs n).length : Int)) = true := by simp; omega
            cases is with
            | true =>
              obtain ⟨hin, bb, S3, hr, hy, hnn⟩ := HYES.out rfl
              have HIN := Aside0.mk hin
              have HR := Aside0.mk hr
              have HY := Aside0.mk hy
              have HNN := Aside0.mk hnn
              clear hin hr hy hnn HNO HYES
              cases bb with
              | true =>
                have HY2 := Aside0.mk (HY.out rfl)
                go_wp2_with (first | (go_at_call 25; (with_reducible refine (subprogram_Call.calls kc x.f0 A1 c1 x.f1 x.f2 nn t true e _ (Kd.C_alloc HK1.out _) HL1.out HCL.out).mono ?_); rintro e2 w2 ⟨rfl, hb2⟩; have HE3 := Aside0.mk (HE2.out.step (below_then (below_alloc (Below.refl _ _) _) (below_alloc (Below.refl _ _) _).size hb2)); clear hb2) | (go_at_call 111; (with_reducible refine (IH.out nn S2 S3 true _ HIN.out HE3.out HR.out).mono ?_); rintro e3 w3 ⟨rfl, he4⟩; have HE4 := Aside0.mk he4; clear he4))
                go_roundw
                case rel => exact ⟨j + 1, S3, by rw [wrap_succ hlt HMX.out], ⟨by omega⟩, ⟨HY2.out⟩, ⟨HE4.out⟩⟩
                case measure => rw [wrap_succ hlt HMX.out]; simp only [intOf, Int.toNat_natCast]; omega
              | false =>
                have hmv := HNN.out rfl
                have HH := H.out
                rw [hmv] at HH
                simp only [Bool.false_eq_true, if_false, Option.some.injEq, Prod.mk.injEq] at HH
                obtain ⟨rfl, rfl⟩ := HH
                go_wp2_with (first | (go_at_call 25; (with_reducible refine (subprogram_Call.calls kc x.f0 A1 c1 x.f1 x.f2 nn t true e _ (Kd.C_alloc HK1.out _) HL1.out HCL.out).mono ?_); rintro e2 w2 ⟨rfl, hb2⟩; have HE3 := Aside0.mk (HE2.out.step (below_then (below_alloc (Below.refl _ _) _) (below_alloc (Below.refl _ _) _).size hb2)); clear hb2) | (go_at_call 111; (with_reducible refine (IH.out nn S2 S3 false _ HIN.out HE3.out HR.out).mono ?_); rintro e3 w3 ⟨rfl, he4⟩; have HE4 := Aside0.mk he4; clear he4))
                go_ret
                exact ⟨rfl, HE4.out⟩
            | false =>
              have HY2 := Aside0.mk (HNO.out rfl)
              clear HYES
              go_wp2_with (go_at_call 25; (with_reducible refine (subprogram_Call.calls kc x.f0 A1 c1 x.f1 x.f2 nn t false e _ (Kd.C_alloc HK1.out _) HL1.out HCL.out).mono ?_); rintro e2 w2 ⟨rfl, hb2⟩; have HE3 := Aside0.mk (HE2.out.step (below_then (below_alloc (Below.refl _ _) _) (below_alloc (Below.refl _ _) _).size hb2)); clear hb2)
              go_roundw
              case rel => exact ⟨j + 1, S2, by rw [wrap_succ hlt HMX.out], ⟨by omega⟩, ⟨HY2.out⟩, ⟨HE3.out⟩⟩
              case measure => rw [wrap_succ hlt HMX.out]; simp only [intOf, Int.toNat_natCast]; omega
          · have hlt' : decide ((j : Int) < ((subs n).length : Int)) = false := by simp; omega
            have hI := HI.out
            rw [List.drop_eq_nil_of_le (by omega)] at hI
            simp only [measL, Option.some.injEq] at hI
            subst hI
            have HH := H.out
            simp only [if_true] at HH
            obtain ⟨s, hs, HH⟩ := Option.bind_eq_some_iff.mp HH
            simp only [Option.some.injEq, Prod.mk.injEq] at HH
            obtain ⟨rfl, rfl⟩ := HH
            obtain ⟨F1, fw1, f1⟩ := HE2.out.m1
            have FW1 := Aside0.mk fw1
            have F1H := Aside0.mk f1
            clear fw1 f1
            have hq1 : wr.cell? ⟨gx, 1, none⟩ = some (.map (some g1)) := (blk_cell HE2.out.exp 1).trans rfl
            have HS := Aside0.mk hs
            clear hs
            go_wp2_with (refine few_put rfl rfl Try.underlying2 Try.underlying136 FW1.out rfl n rfl HN.out.wf (by have := HN.out; unfold IN at this; omega) (by have := HN.out; unfold IN at this; omega) (.int .i64 2) rfl ?_; intro w5 hm5 hg5; have HE5 := Aside0.mk (ExpW.put1 (f := upd S2.1 n 2) HE2.out hg5 ⟨_, hm5, upd_get F1H.out n 2⟩); clear hm5 hg5)
            clear FW1 F1H HE2 hq1
            obtain ⟨F0, ⟨q0, m0, _⟩, f0⟩ := HE5.out.sub
            obtain ⟨A2, c2_, e2_, hl2, hC2⟩ := f0 n
            have HL2 := Aside0.mk hl2
            have HC2 := Aside0.mk hC2
            have E2 := Aside0.mk e2_
            clear hl2 hC2 f0 e2_
            refine start_ (n := 23) (S := fun w' => w'.cell? ⟨gx, 0, none⟩ = some (.map (some g0)) ∧ w'.cell? ⟨gx, 2, none⟩ = some (.map (some g2)) ∧ w'.cell? ⟨gx, 3, none⟩ = some (.map (some g3)) ∧ MapIs Try.prog 2 .i64 w' g0 q0 F0) (ds := []) #[false, false, false, false, false, false, false, false, false, false, false, false, false, false, false, false, false, false, false, false, false, false, false] (by kernel_rfl) rfl rfl ⟨(blk_cell HE5.out.exp 0).trans rfl, (blk_cell HE5.out.exp 2).trans rfl, (blk_cell HE5.out.exp 3).trans rfl, m0.drew⟩ (fun hHeld => ?_)
            have HE6 := Aside0.mk (HE5.out.step (below_drew (Below.refl _ _)))
            clear HE5 m0
            generalize w5.drew = w6 at HE6 hHeld ⊢
            refine yp 0 58 ?_
            refine yp 1 59 ?_
            refine yp 2 60 ?_
            refine yp 4 62 ?_
            refine yp 5 63 ?_
            refine yp 6 64 ?_
            refine yp 7 65 ?_
            refine yp 9 67 ?_
            refine yp 10 68 ?_
            refine yp 11 69 ?_
            refine yp 12 70 ?_
            refine yp 13 71 ?_
            refine yp 15 73 ?_
            refine take_ (i := 3) (N := some 61) (v := ?_) (a' := ?_) #[true, true, true, true, true, true, true, true, false, true, true, true, true, true, false, true, false, false, false, false, false, false, false] rfl rfl (by kernel_rfl) (fun _ _ _ h => h) (Or.inl ⟨by rfl, ?_⟩) hHeld ?_ ?_
            rotate_left
            · rintro w' ⟨s0, s2, s3, sM⟩
              go_simp
              with_reducible rfl
            rotate_left
            · simp only [Act.put, List.setIfInBounds_toArray, List.set_cons_zero, List.set_cons_succ, i64_w, i32_w]
              rfl
            refine take_ (i := 8) (N := some 66) (v := ?_) (a' := ?_) #[true, true, true, true, true, true, true, true, true, true, true, true, true, true, false, true, false, false, false, false, false, false, false] rfl rfl (by kernel_rfl) (fun _ _ _ h => h) (Or.inl ⟨by rfl, ?_⟩) hHeld ?_ ?_
            rotate_left
            · rintro w' ⟨s0, s2, s3, sM⟩
              go_simp
              with_reducible rfl
            rotate_left
            · simp only [Act.put, List.setIfInBounds_toArray, List.set_cons_zero, List.set_cons_succ, i64_w, i32_w]
              rfl
            refine take_ (i := 14) (N := some 72) (v := ?_) (a' := ?_) #[true, true, true, true, true, true, true, true, true, true, true, true, true, true, true, true, false, false, false, false, false, false, false] rfl rfl (by kernel_rfl) (fun _ _ _ h => h) (Or.inl ⟨by rfl, ?_⟩) hHeld ?_ ?_
            rotate_left
            · rintro w' ⟨s0, s2, s3, sM⟩
              go_simp
              with_reducible rfl
            rotate_left
            · simp only [Act.put, List.setIfInBounds_toArray, List.set_cons_zero, List.set_cons_succ, i64_w, i32_w]
              rfl
            refine take_ (i := 16) (N := some 74) (v := ?_) (a' := ?_) #[true, true, true, true, true, true, true, true, true, true, true, true, true, true, true, true, true, false, false, false, false, false, false] rfl rfl (by kernel_rfl) (fun _ _ _ h => h) (Or.inl ⟨by rfl, ?_⟩) hHeld ?_ ?_
            rotate_left
            · rintro w' ⟨s0, s2, s3, sM⟩
              have hl := sM.look (t := 135) Try.underlying2 Try.underlying135 (zero_rows w') (a := n) HN.out.wf
              rw [E2.out] at hl
              go_simp
              with_reducible rfl
            rotate_left
            · simp only [Act.put, List.setIfInBounds_toArray, List.set_cons_zero, List.set_cons_succ, i64_w, i32_w]
              rfl
            refine one_ (i := 17) (N := some 75) #[true, true, true, true, true, true, true, true, true, true, true, true, true, true, true, true, true, true, false, false, false, false, false] rfl rfl (by kernel_rfl) (by decide) (fun K hK => ?_)
            refine goes_ Try.func95 (by kernel_rfl) rfl #[.pointer (some ⟨gx, 0, none⟩), .slice A2 (subs n).length c2_] (by rfl) rfl rfl (by (try simp only [List.map_toArray, List.map_cons, List.map_nil]); first | done | rfl) ?_
            refine (sum_calls kc gx g0 g1 g2 g3 g4 S2.2.1 S2.2.2 A2 c2_ (subs n) s.1 s.2 _ HE6.out.exp HE6.out.m2 HE6.out.m3 (Kd.C_below HC2.out HE6.out.below) HL2.out HS.out).mono ?_
            rintro e7 w7 ⟨rfl, hb7⟩
            refine ⟨_, rfl, ?_⟩
            have HE7 := Aside0.mk (HE6.out.step hb7)
            have mk7 := (hHeld.2.2.2).below hb7
            clear hb7 hHeld
            refine hK.out _ _ ⟨(blk_cell HE7.out.exp 0).trans rfl, (blk_cell HE7.out.exp 2).trans rfl, (blk_cell HE7.out.exp 3).trans rfl, mk7⟩ (fun hHeld => ?_)
            clear hK K mk7
            refine norm_ (a' := ?_) ?_ ?_
            rotate_left
            · show Act.put _ (some 75) _ = _
              simp only [Act.put, List.setIfInBounds_toArray, List.set_cons_zero, List.set_cons_succ, i64_w, i32_w]
              rfl
            refine yp 18 57 ?_
            refine yp 19 76 ?_
            refine yp 20 77 ?_
            obtain ⟨F2, fw2, f2⟩ := HE7.out.m2
            have FW2 := Aside0.mk fw2
            have F2H := Aside0.mk f2
            clear fw2 f2
            refine one_ (i := 21) (N := none) #[true, true, true, true, true, true, true, true, true, true, true, true, true, true, true, true, true, true, true, true, true, true, false] rfl rfl (by kernel_rfl) (by decide) (fun K hK => ?_)
            refine few_put_step (by rfl) rfl rfl Try.underlying2 Try.underlying136 FW2.out rfl n rfl HN.out.wf (by have := HN.out; unfold IN at this; omega) (by have := HN.out; unfold IN at this; omega) (.int .i64 s.1) rfl ?_
            intro w8 hm_ hg_
            have HE8 := Aside0.mk (ExpW.put2 (f := upd S2.2.1 n s.1) HE7.out hg_ ⟨_, hm_, upd_get F2H.out n s.1⟩)
            have mk8 := (hHeld.2.2.2).kept hg_ (someNe HE7.out.n02)
            clear hm_ hg_ hHeld
            refine hK.out _ _ ⟨(blk_cell HE8.out.exp 0).trans rfl, (blk_cell HE8.out.exp 2).trans rfl, (blk_cell HE8.out.exp 3).trans rfl, mk8⟩ (fun hHeld => ?_)
            clear hK K mk8
            refine norm_ (a' := ?_) ?_ ?_
            rotate_left
            · show Act.put _ none _ = _
              rfl
            obtain ⟨F3, fw3, f3⟩ := HE8.out.m3
            have FW3 := Aside0.mk fw3
            have F3H := Aside0.mk f3
            clear fw3 f3
            refine one_ (i := 22) (N := none) #[true, true, true, true, true, true, true, true, true, true, true, true, true, true, true, true, true, true, true, true, true, true, true] rfl rfl (by kernel_rfl) (by decide) (fun K hK => ?_)
            refine few_put_step (by rfl) rfl rfl Try.underlying2 Try.underlying137 FW3.out rfl n rfl HN.out.wf (by have := HN.out; unfold IN at this; omega) (by have := HN.out; unfold IN at this; omega) (.int .i64 s.2) rfl ?_
            intro w9 hm_ hg_
            have HE9 := Aside0.mk (ExpW.put3 (f := upd S2.2.2 n s.2) HE8.out hg_ ⟨_, hm_, upd_get F3H.out n s.2⟩)
            have mk9 := (hHeld.2.2.2).kept hg_ (someNe HE8.out.n03)
            clear hm_ hg_ hHeld
            refine hK.out _ _ ⟨(blk_cell HE9.out.exp 0).trans rfl, (blk_cell HE9.out.exp 2).trans rfl, (blk_cell HE9.out.exp 3).trans rfl, mk9⟩ (fun hHeld => ?_)
            clear hK K mk9
            refine norm_ (a' := ?_) ?_ ?_
            rotate_left
            · show Act.put _ none _ = _
              rfl
            refine done_ (by kernel_rfl) ?_
            go_wp2
            go_ret
            exact ⟨rfl, HE9.out⟩
end Go.Proofs.Ytehkhbnhmehobaa.P
namespace Go.Proofs.Ytehkhbnhmehobaa.P
open Go.RowKit Go.Proofs.YtehkhbnhmehobaaW.PrintWords Go.Proofs.YtehkhbnhmehobaaW.PrintLast Go.Proofs.YtehkhbnhmehobaaW.PrintMore
set_option linter.unusedVariables false
set_option linter.unusedSimpArgs false
def Grow_Block.f (n : Int) : Option (List (S32)) := if 0 ≤ n ∧ n < 2932031007402 then some [] else none
set_option maxHeartbeats 1000000 in
set_option maxRecDepth 100000 in
theorem Grow_Block.calls (n : Int) (r : List (S32)) (w : World) (h : Grow_Block.f n = some r) :
    Calls Try.prog 66 #[.slice none 0 0, .int .i64 n] w fun e w' => ∃ v0_ : Value, e = .returned (v0_) ∧ Kd.N k32 32 w' w.heap.size (fun k_ => w.heap.size ≤ k_) v0_ r ∧ Below w.heap.size w w' := by
  unfold Grow_Block.f at h
  by_cases hn : 0 ≤ n ∧ n < 2932031007402
  rotate_left
  · rw [if_neg hn] at h; cases h
  rw [if_pos hn] at h
  obtain rfl := Option.some.inj h
  obtain ⟨h0, h1⟩ := hn
  have H0 := Aside0.mk h0
  have H1 := Aside0.mk h1
  have hw : wrap64 n = n := by unfold wrap64; omega
  have hw0 : wrap64 0 = 0 := by unfold wrap64; omega
  have hng : decide (n < 0) = false := by simp; omega
  clear h h0 h1
  by_cases hp : 0 < n
  · have hgt : decide (n > 0) = true := by simpa using hp
    have hgt2 : decide (0 < n) = true := by simpa using hp
    clear hp
    go_enter Try.func66, Try.ntmps66
    go_wp2_with ((with_reducible refine gate_builtin (b := .append) (xs := #[.tmp 20, .tmp 21]) rfl ?_); at_builtin; refine Kd.N_append_zeros k32 (w0 := w) w.heap.size rfl (.tmp 20) (.tmp 21) 35 3 32 (.agg #[(.bool false), (.slice none 0 0), (.string ⟨#[]⟩)]) 48 rfl Try.underlying35 Try.underlying3 info32 rfl (by decide) (by omega) (.slice none 0 0) [] z32 n (fun k_ => w.heap.size ≤ k_) rfl (by first | rfl | exact congrArg (Value.int .i64) hw) (k32_mkF _ _ z32 (Nat.le_refl _) (fun W' _ => ⟨rfl, by simp [z32], fun hlt => by simp [z32] at hlt⟩)) (fun _ hk => hk) (Kd.N_nil _ _ _ _ _) H0.out (Below.refl _ _) (Nat.le_refl _) (by have := H1.out; have := H0.out; simp only [List.length_nil]; omega) ?_; intro v22 w1 ho hb hg hat; obtain ⟨A, c, rfl⟩ := Kd.N_slice ho; have HO := Aside0.mk ho; have HB := Aside0.mk hb; have HL := Aside0.mk (Kd.N_reads' ho).2.1; clear ho hb hg hat; have hq : (([] : List S32) ++ List.replicate n.toNat z32).length = n.toNat := by simp)
    go_ret
    exact ⟨_, rfl, by have := Kd.N_take (m := 0) HO.out (Nat.zero_le _); simpa using this, HB.out⟩
  · have hgt : decide (n > 0) = false := by simpa using hp
    have hgt2 : decide (0 < n) = false := by simpa using hp
    clear hp
    go_enter Try.func66, Try.ntmps66
    go_wp2
    go_ret
    exact ⟨_, rfl, Kd.N_nil _ _ _ _ _, Below.refl _ _⟩
end Go.Proofs.Ytehkhbnhmehobaa.P
namespace Go.Proofs.Ytehkhbnhmehobaa.P
open Go.RowKit Go.Proofs.YtehkhbnhmehobaaW.PrintWords Go.Proofs.YtehkhbnhmehobaaW.PrintLast Go.Proofs.YtehkhbnhmehobaaW.PrintMore
attribute [local go_sem] max2_int min2_int max_two min_two max_three min_three max_four min_four
set_option linter.unusedVariables false
set_option linter.unusedSimpArgs false
mutual
def Concat_Block.l0 : Nat → List (List (S32)) → Int → List (List (S32)) → Int → Int → Option ((List (S32)))
 | 0, _, _, _, _, _ => none
 | k + 1, x0, x3, x9, x10, x11 => if x11 < x10 then (if 0 ≤ x11 then (if x11 < (x9.length : Int) then (if (wrap64 (x3 + ((rd_L7 x9 x11).length : Int))) < 0 then (none) else (Concat_Block.l0 k x0 (wrap64 (x3 + ((rd_L7 x9 x11).length : Int))) x9 x10 (wrap64 (x11 + 1)))) else (none)) else (none)) else ((Grow_Block.f x3).bind fun t373 => (Concat_Block.l1 k t373 x0 (x0.length : Int) 0))
def Concat_Block.l1 : Nat → List (S32) → List (List (S32)) → Int → Int → Option ((List (S32)))
 | 0, _, _, _, _ => none
 | k + 1, x6, x25, x26, x27 => if x27 < x26 then (if 0 ≤ x27 then (if x27 < (x25.length : Int) then (if x6.length + (rd_L7 x25 x27).length < 2932031007402 then (Concat_Block.l1 k (x6 ++ (rd_L7 x25 x27)) x25 x26 (wrap64 (x27 + 1))) else (none)) else (none)) else (none)) else (some x6)
end
def Concat_Block.f (k : Nat) (l0 : List (List (S32))) : Option ((List (S32))) := Concat_Block.l0 k l0 0 l0 (l0.length : Int) 0
theorem Concat_Block.mono_l : ∀ k, (∀ y0 y1 y2 y3 y4, LeO (Concat_Block.l0 k y0 y1 y2 y3 y4) (Concat_Block.l0 (k + 1) y0 y1 y2 y3 y4)) ∧ (∀ y0 y1 y2 y3, LeO (Concat_Block.l1 k y0 y1 y2 y3) (Concat_Block.l1 (k + 1) y0 y1 y2 y3))
 | 0 => ⟨fun _ _ _ _ _ r h => by simp [Concat_Block.l0] at h, fun _ _ _ _ r h => by simp [Concat_Block.l1] at h⟩
 | k + 1 => by
  obtain ⟨ih0, ih1⟩ := Concat_Block.mono_l k
  refine ⟨?_, ?_⟩
  ·intro y0 y1 y2 y3 y4
   unfold Concat_Block.l0
   repeat' first
   | (with_reducible exact ih0 _ _ _ _ _)
   | (with_reducible exact ih1 _ _ _ _)
   | (with_reducible exact LeO.refl _)
   | (with_reducible exact LeO.none _)
   | (with_reducible refine LeO.ite ?_ ?_)
   | (with_reducible refine LeO.bind ?_ (fun _ => ?_))
   | exact ih0 _ _ _ _ _
   | exact ih1 _ _ _ _
   | exact LeO.none _
   | refine LeO.ite ?_ ?_
   | refine LeO.bind ?_ (fun _ => ?_)
  ·intro y0 y1 y2 y3
   unfold Concat_Block.l1
   repeat' first
   | (with_reducible exact ih0 _ _ _ _ _)
   | (with_reducible exact ih1 _ _ _ _)
   | (with_reducible exact LeO.refl _)
   | (with_reducible exact LeO.none _)
   | (with_reducible refine LeO.ite ?_ ?_)
   | (with_reducible refine LeO.bind ?_ (fun _ => ?_))
   | exact ih0 _ _ _ _ _
   | exact ih1 _ _ _ _
   | exact LeO.none _
   | refine LeO.ite ?_ ?_
   | refine LeO.bind ?_ (fun _ => ?_)
theorem Concat_Block.mono : ∀ a0 k, LeO (Concat_Block.f k a0) (Concat_Block.f (k + 1) a0) := by
 intro a0 k
 obtain ⟨ih0, ih1⟩ := Concat_Block.mono_l k
 unfold Concat_Block.f
 repeat' first
   | (with_reducible exact ih0 _ _ _ _ _)
   | (with_reducible exact ih1 _ _ _ _)
   | (with_reducible exact LeO.refl _)
   | (with_reducible exact LeO.none _)
   | (with_reducible refine LeO.ite ?_ ?_)
   | (with_reducible refine LeO.bind ?_ (fun _ => ?_))
   | exact ih0 _ _ _ _ _
   | exact ih1 _ _ _ _
   | exact LeO.none _
   | refine LeO.ite ?_ ?_
   | refine LeO.bind ?_ (fun _ => ?_)
set_option maxHeartbeats 8000000 in
set_option maxRecDepth 100000 in
theorem Concat_Block.calls (k : Nat) (P0_ : Nat → Prop) (A0 : Option Addr) (c0 : Nat) (l0 : List (List (S32))) (r : List (S32)) (w : World) (hs0 : Kd.V (Kd.slice 32 k32) 35 w w.heap.size (fun k_ => P0_ k_) (.slice A0 l0.length c0) l0) (h : Concat_Block.f k l0 = some r) :
  Calls Try.prog 31 #[.slice A0 l0.length c0] w fun e w' => ∃ v0_ : Value, e = .returned (v0_) ∧ Kd.N k32 32 w' w.heap.size (fun k_ => (P0_ k_ ∨ w.heap.size ≤ k_)) v0_ r ∧ Below w.heap.size w w' := by
 have HO0 := Aside0.mk (show Kd.V (Kd.slice 32 k32) 35 w w.heap.size (fun k_ => (P0_ k_ ∨ w.heap.size ≤ k_)) (.slice A0 l0.length c0) l0 from Kd.V_mono hs0 (fun k_ hk => .inl hk))
 have HB := Aside0.mk (Below.refl w.heap.size w)
 have H : (Concat_Block.l0 k l0 0 l0 (l0.length : Int) 0) = some r := h
 clear h
 have H' := Aside0.mk H
 clear H
 go_enter Try.func31, Try.ntmps31
 go_wp2
 go_loopg [3, 11] k (fun kq v3 v11 w' => ∃ (x3_1 : Int) (x11_1 : Int), v3 = .int .i64 x3_1 ∧ v11 = .int .i64 x11_1 ∧ Aside0 (Concat_Block.l0 kq l0 x3_1 l0 (l0.length : Int) x11_1 = some r) ∧ Aside0 (kq ≤ k) ∧ Aside0 (Kd.V (Kd.slice 32 k32) 35 w' w.heap.size (fun k_ => (P0_ k_ ∨ w.heap.size ≤ k_)) (.slice A0 l0.length c0) l0) ∧ Aside0 (Kd.V (Kd.slice 32 k32) 35 w' w.heap.size (fun k_ => (P0_ k_ ∨ w.heap.size ≤ k_)) (.slice A0 l0.length c0) l0) ∧ Aside0 (Below w.heap.size w w'))
 case atStart => exact ⟨(0), (0), yS, yS, H', ⟨Nat.le_refl _⟩, ⟨by (with_reducible repeat (first | apply Kd.V_alloc | apply Kd.V_drewN | apply Kd.V_drew)); exact HO0.out⟩, ⟨by (with_reducible repeat (first | apply Kd.V_alloc | apply Kd.V_drewN | apply Kd.V_drew)); exact HO0.out⟩, ⟨yB⟩⟩
 case round =>
  clear H'
  obtain ⟨x3_1, x11_1, rfl, rfl, HA, HK1, HO_0, HO_9, HB⟩ := hrel
  cases gk with
  | zero => exact absurd HA.out (by simp [Concat_Block.l0])
  | succ k1 =>
   have H := HA.out
   clear HA
   simp only [Concat_Block.l0] at H
   by_cases c2 : x11_1 < (l0.length : Int)
   ·rw [if_pos c2] at H
    have c2b0 : decide (x11_1 < (l0.length : Int)) = true := decide_eq_true c2
    clear c2
    by_cases c3 : 0 ≤ x11_1
    ·rw [if_pos c3] at H
     have c3b0 : decide (0 ≤ x11_1) = true := decide_eq_true c3
     clear c3
     by_cases c4 : x11_1 < (l0.length : Int)
     ·rw [if_pos c4] at H
      have c4b0 : decide (x11_1 < (l0.length : Int)) = true := decide_eq_true c4
      clear c4
      by_cases c5 : (wrap64 (x3_1 + ((rd_L7 l0 x11_1).length : Int))) < 0
      ·rw [if_pos c5] at H
       exact absurd H (by simp)
      ·rw [if_neg c5] at H
       have c5b0 : decide ((wrap64 (x3_1 + ((rd_L7 l0 x11_1).length : Int))) < 0) = false := decide_eq_false c5
       clear c5
       have H' := Aside0.mk H
       clear H
       have p372 : 0 ≤ (x11_1 : Int) := of_decide_eq_true yP
       have q372 : x11_1 < (l0.length : Int) := of_decide_eq_true yP
       obtain ⟨ad372, A372_0, c372_0, e372, hx372_0, hl372_0, hi372_0⟩ := at_L7 (Kd.V_reads' HO_9.out).2.2 x11_1 p372 q372
       cases e372
       obtain ⟨ce372, hce372, hMe372, hcc372⟩ := Kd.V_get HO_9.out [] x11_1 p372 (by first | exact q372 | exact of_decide_eq_true yP | (have e_ := (Kd.V_reads' HO_9.out).1; omega))
       obtain ⟨ua372_0, uc372_0, rfl, ul372_0, ge372_0⟩ := Kd.FK_slice_open hMe372
       have hv372_0 := hcc372 0 _ rfl
       rw [Nat.add_zero, show ((Kd.slice 32 k32)).sz = 1 from rfl, Nat.mul_one] at hv372_0
       replace hv372_0 := Option.some.inj (hv372_0.symm.trans hx372_0)
       injection hv372_0 with hva_ hvn_ hvc_
       rw [hva_] at ge372_0
       rw [hvc_] at ul372_0
       have HL372_0 := Aside0.mk (show Kd.V k32 32 _ w.heap.size _ _ (rd_L7 l0 x11_1) from Kd.V_mk ul372_0 ge372_0)
       clear hva_ hvn_ hvc_ ge372_0 ul372_0
       clear hcc372 hce372
       have HR372_0 := Aside0.mk hi372_0
       have HC372_0 := Aside0.mk hl372_0
       clear hi372_0 hl372_0
       replace p372 := eq_true p372
       replace q372 := eq_true q372
       go_wp2
       go_roundg k1
       case measure => have := HK1.out; omega
       case rel => exact ⟨(wrap64 (x3_1 + ((rd_L7 l0 x11_1).length : Int))), (wrap64 (x11_1 + 1)), yS, yS, H', ⟨by have := HK1.out; omega⟩, ⟨by (with_reducible repeat (first | apply Kd.V_alloc | apply Kd.V_drewN | apply Kd.V_drew)); exact HO_0.out⟩, ⟨by (with_reducible repeat (first | apply Kd.V_alloc | apply Kd.V_drewN | apply Kd.V_drew)); exact HO_9.out⟩, ⟨yB⟩⟩
     ·rw [if_neg c4] at H
      exact absurd H (by simp)
    ·rw [if_neg c3] at H
     exact absurd H (by simp)
   ·rw [if_neg c2] at H
    have c2b0 : decide (x11_1 < (l0.length : Int)) = false := decide_eq_false c2
    clear c2
    replace H := Option.bind_eq_some_iff.mp H
    obtain ⟨t373, A60, H⟩ := H
    replace H : (Concat_Block.l1 k1 t373 l0 (l0.length : Int) 0) = some r := H
    have A6 := Aside0.mk A60
    clear A60
    have H' := Aside0.mk H
    clear H
    go_wp2_with (first | ((with_reducible refine gate_callee (f := 66) rfl ?_); refine goesL_ (some 24) rfl rfl Try.func66 (by kernel_rfl) rfl #[.slice none 0 0, .int .i64 x3_1] rfl yQ ?_; (with_reducible refine (Grow_Block.calls x3_1 t373 _ A6.out).mono ?_); rintro e w7 ⟨v374, rfl, ho0, hb⟩; refine ⟨_, rfl, ?_⟩; have n0_ := Aside0.mk (Kd.V_elder' (by (with_reducible repeat (first | apply Kd.V_alloc | apply Kd.V_drewN | apply Kd.V_drew)); exact HO_0.out) (by first | exact Kd.N_base ho0 | exact Kd.S_base ho0) hb); have n1_ := Aside0.mk (Kd.V_elder' (by (with_reducible repeat (first | apply Kd.V_alloc | apply Kd.V_drewN | apply Kd.V_drew)); exact HO_9.out) (by first | exact Kd.N_base ho0 | exact Kd.S_base ho0) hb); have n2_ := Aside0.mk (Kd.N_lower (Kd.N_mono (ok' := fun k_ => (P0_ k_ ∨ w.heap.size ≤ k_)) ho0 (fun k_ hk_ => (.inr (Nat.le_trans (below_size yB) hk_)))) (below_size yB)); have n3_ := Aside0.mk (below_step yB hb); clear HO_0; clear HO_9; clear HB; have HO_0 := n0_; have HO_9 := n1_; have HO375 := n2_; have HB := n3_; clear n0_ n1_ n2_ n3_; (try clear hb); (try clear hb2); (try clear hk); (try clear hi); (try clear ho0)))
    go_loopg [6, 27] k1 (fun kq v6 v27 w' => ∃ (x6_2 : List (S32)) (x27_2 : Int), v27 = .int .i64 x27_2 ∧ Aside0 (Concat_Block.l1 kq x6_2 l0 (l0.length : Int) x27_2 = some r) ∧ Aside0 (kq ≤ k1) ∧ Aside0 (Kd.N k32 32 w' w.heap.size (fun k_ => (P0_ k_ ∨ w.heap.size ≤ k_)) v6 x6_2) ∧ Aside0 (Kd.V (Kd.slice 32 k32) 35 w' w.heap.size (fun k_ => (P0_ k_ ∨ w.heap.size ≤ k_) ∧ some k_ ≠ (v6 : Value).ownBlock) (.slice A0 l0.length c0) l0) ∧ Aside0 (Below w.heap.size w w'))
    case atStart => exact ⟨(t373), (0), yS, H', ⟨Nat.le_refl _⟩, ⟨by (with_reducible repeat (first | apply Kd.N_alloc | apply Kd.N_drewN | apply Kd.N_drew)); exact HO375.out⟩, ⟨by (with_reducible repeat (first | apply Kd.V_alloc | apply Kd.V_drewN | apply Kd.V_drew)); exact HO_0.out⟩, ⟨yB⟩⟩
    case round =>
     clear H'
     try clear c2
     try clear c2b0
     try clear p2
     try clear c3
     try clear c3b0
     try clear p3
     try clear q3
     try clear hx3
     try clear c4
     try clear c4b0
     try clear c5
     try clear c5b0
     try clear c6
     try clear p6
     try clear hx372_0
     try clear p372
     try clear q372
     obtain ⟨x6_2, x27_2, rfl, HA, HK2, HO_6, HO_25, HB⟩ := hrel
     cases gk with
     | zero => exact absurd HA.out (by simp [Concat_Block.l1])
     | succ k2 =>
      have H := HA.out
      clear HA
      simp only [Concat_Block.l1] at H
      by_cases c8 : x27_2 < (l0.length : Int)
      ·rw [if_pos c8] at H
       have c8b0 : decide (x27_2 < (l0.length : Int)) = true := decide_eq_true c8
       clear c8
       by_cases c9 : 0 ≤ x27_2
       ·rw [if_pos c9] at H
        have c9b0 : decide (0 ≤ x27_2) = true := decide_eq_true c9
        clear c9
        by_cases c10 : x27_2 < (l0.length : Int)
        ·rw [if_pos c10] at H
         have c10b0 : decide (x27_2 < (l0.length : Int)) = true := decide_eq_true c10
         clear c10
         by_cases c11 : x6_2.length + (rd_L7 l0 x27_2).length < 2932031007402
         ·rw [if_pos c11] at H
          have LMc11 := Aside0.mk c11
          clear c11
          obtain ⟨y377, hy377⟩ : ∃ y_ : List (S32), y_ = (x6_2 ++ (rd_L7 l0 x27_2)) := ⟨_, rfl⟩
          replace H : (Concat_Block.l1 k2 y377 l0 (l0.length : Int) (wrap64 (x27_2 + 1))) = some r := by first | (rw [hy377]; with_reducible exact H) | (have H2_ := (Option.bind_some _ _).symm.trans H; rw [hy377]; with_reducible exact H2_) | (have H2_ := (Option.bind_some _ _).symm.trans H; with_reducible exact H2_) | with_reducible exact H | (rw [hy377]; exact H) | exact H
          have Ny377 := Aside0.mk hy377
          clear hy377
          have H' := Aside0.mk H
          clear H
          have p376 : 0 ≤ (x27_2 : Int) := of_decide_eq_true yP
          have q376 : x27_2 < (l0.length : Int) := of_decide_eq_true yP
          obtain ⟨ad376, A376_0, c376_0, e376, hx376_0, hl376_0, hi376_0⟩ := at_L7 (Kd.V_reads' HO_25.out).2.2 x27_2 p376 q376
          cases e376
          obtain ⟨ce376, hce376, hMe376, hcc376⟩ := Kd.V_get HO_25.out [] x27_2 p376 (by first | exact q376 | exact of_decide_eq_true yP | (have e_ := (Kd.V_reads' HO_25.out).1; omega))
          obtain ⟨ua376_0, uc376_0, rfl, ul376_0, ge376_0⟩ := Kd.FK_slice_open hMe376
          have hv376_0 := hcc376 0 _ rfl
          rw [Nat.add_zero, show ((Kd.slice 32 k32)).sz = 1 from rfl, Nat.mul_one] at hv376_0
          replace hv376_0 := Option.some.inj (hv376_0.symm.trans hx376_0)
          injection hv376_0 with hva_ hvn_ hvc_
          rw [hva_] at ge376_0
          rw [hvc_] at ul376_0
          have HL376_0 := Aside0.mk (show Kd.V k32 32 _ w.heap.size _ _ (rd_L7 l0 x27_2) from Kd.V_mk ul376_0 ge376_0)
          clear hva_ hvn_ hvc_ ge376_0 ul376_0
          clear hcc376 hce376
          have HR376_0 := Aside0.mk hi376_0
          have HC376_0 := Aside0.mk hl376_0
          clear hi376_0 hl376_0
          replace p376 := eq_true p376
          replace q376 := eq_true q376
          go_wp2_with (first | ((with_reducible refine gate_builtin (b := .append) (xs := #[.tmp 31, .tmp 32]) rfl ?_); at_builtin; refine Kd.N_append_rows k32 (w0 := w) w.heap.size rfl (.tmp 31) (.tmp 32) 35 32 (.agg #[(.bool false), (.slice none 0 0), (.string ⟨#[]⟩)]) 48 rfl Try.underlying35 info32 rfl (by decide) (by omega) u6 x6_2 (rd_L7 l0 x27_2) _ _ _ (fun k_ => (P0_ k_ ∨ w.heap.size ≤ k_)) (fun k_ => ((fun k_ => (P0_ k_ ∨ w.heap.size ≤ k_))) k_ ∧ some k_ ≠ (u6 : Value).ownBlock) rfl rfl ?aO ?aR (fun _ hk => hk) ?aF ?aB ?aS ?aL ?_; (case aR => exact (by skip; exact Kd.V_F (Kd.V_mono (ok' := (fun k_ => ((fun k_ => (P0_ k_ ∨ w.heap.size ≤ k_))) k_ ∧ some k_ ≠ (u6 : Value).ownBlock)) (HL376_0.out) (fun k_ hk => ⟨hk.1, hk.2⟩)))); (case aB => exact yB); (case aF => exact (fun k_ hk => (.inr (Nat.le_trans (below_size yB) hk)))); (case aO => exact (by (with_reducible repeat (first | apply Kd.N_alloc | apply Kd.N_drewN | apply Kd.N_drew)); exact HO_6.out)); (case aS => exact (below_size yB)); (case aL => have := LMc11.out; omega); intro v378 w12 ho hb hg hat; rw [← Ny377.out] at ho; have n0_ := Aside0.mk (Kd.V_afterv (ok := (fun k_ => (P0_ k_ ∨ w.heap.size ≤ k_))) (by (with_reducible repeat (first | apply Kd.V_alloc | apply Kd.V_drewN | apply Kd.V_drew)); exact HO_25.out) hg hat); have n1_ := Aside0.mk (Kd.V_afterv (ok := (fun k_ => (P0_ k_ ∨ w.heap.size ≤ k_))) (by (with_reducible repeat (first | apply Kd.V_alloc | apply Kd.V_drewN | apply Kd.V_drew)); exact HL376_0.out) hg hat); have n2_ := Aside0.mk (hb); have n3_ := Aside0.mk (ho); clear HO_25; clear HL376_0; clear HB; clear HO_6; have HO_25 := n0_; have HL376_0 := n1_; have HB := n2_; have HO379 := n3_; clear n0_ n1_ n2_ n3_; clear ho hb hg hat))
          go_roundg k2
          case measure => have := HK1.out; have := HK2.out; omega
          case rel => exact ⟨(y377), (wrap64 (x27_2 + 1)), yS, H', ⟨by have := HK1.out; have := HK2.out; omega⟩, ⟨by (with_reducible repeat (first | apply Kd.N_alloc | apply Kd.N_drewN | apply Kd.N_drew)); exact HO379.out⟩, ⟨by (with_reducible repeat (first | apply Kd.V_alloc | apply Kd.V_drewN | apply Kd.V_drew)); exact HO_25.out⟩, ⟨yB⟩⟩
         ·rw [if_neg c11] at H
          exact absurd H (by simp)
        ·rw [if_neg c10] at H
         exact absurd H (by simp)
       ·rw [if_neg c9] at H
        exact absurd H (by simp)
      ·rw [if_neg c8] at H
       have c8b0 : decide (x27_2 < (l0.length : Int)) = false := decide_eq_false c8
       clear c8
       obtain rfl := Option.some.inj H
       go_wp2
       go_ret
       exact ⟨_, by first | rfl | (simp [errW_none, errW_some] <;> rfl) | (simp [*, errW_none, errW_some] <;> rfl), by (with_reducible repeat (first | apply Kd.N_alloc | apply Kd.N_drewN | apply Kd.N_drew)); exact HO_6.out, yB⟩
end Go.Proofs.Ytehkhbnhmehobaa.P
namespace Go.Proofs.Ytehkhbnhmehobaa.P
open Go.RowKit Go.Proofs.YtehkhbnhmehobaaW.PrintWords Go.Proofs.YtehkhbnhmehobaaW.PrintLast Go.Proofs.YtehkhbnhmehobaaW.PrintMore
attribute [local go_sem] max2_int min2_int max_two min_two max_three min_three max_four min_four
set_option linter.unusedVariables false
set_option linter.unusedSimpArgs false
def subprogram_Split_1.f (k : Nat) (a0_0 : Bool) (l0_1 : List (S78)) (a0_2 : ByteArray) : Option (Bool) := (subprogram_has.f k a0_0 l0_1 a0_2 77 30000).bind fun t990 => (some t990)
theorem subprogram_Split_1.mono : ∀ a0 a1 a2 k, LeO (subprogram_Split_1.f k a0 a1 a2) (subprogram_Split_1.f (k + 1) a0 a1 a2) := by
 intro a0 a1 a2 k
 unfold subprogram_Split_1.f
 repeat' first
   | (with_reducible exact subprogram_has.mono _ _ _ _ _ _)
   | (with_reducible exact LeO.refl _)
   | (with_reducible exact LeO.none _)
   | (with_reducible refine LeO.ite ?_ ?_)
   | (with_reducible refine LeO.bind ?_ (fun _ => ?_))
   | exact subprogram_has.mono _ _ _ _ _ _
   | exact LeO.none _
   | refine LeO.ite ?_ ?_
   | refine LeO.bind ?_ (fun _ => ?_)
set_option maxHeartbeats 8000000 in
set_option maxRecDepth 100000 in
theorem subprogram_Split_1.calls (k : Nat) (a0_0 : Bool) (A0_1 : Option Addr) (c0_1 : Nat) (l0_1 : List (S78)) (a0_2 : ByteArray) (r : Bool) (w : World) (hr0_1 : Kd.C k78 w A0_1 l0_1.length l0_1) (hc0_1 : l0_1.length ≤ c0_1) (h : subprogram_Split_1.f k a0_0 l0_1 a0_2 = some r) :
  Calls Try.prog 75 #[.agg #[.bool a0_0, .slice A0_1 l0_1.length c0_1, .string a0_2]] w fun e w' => e = .returned (.bool r) ∧ Below w.heap.size w w' := by
 have hu32 := Try.underlying32
 have HR0_1 := Aside0.mk hr0_1
 have HC0_1 := Aside0.mk hc0_1
 clear hr0_1 hc0_1
 have HB := Aside0.mk (Below.refl w.heap.size w)
 have H : ((subprogram_has.f k a0_0 l0_1 a0_2 77 30000).bind fun t990 => (some t990)) = some r := h
 clear h
 replace H := Option.bind_eq_some_iff.mp H
 obtain ⟨t990, A20, H⟩ := H
 replace H : (some t990) = some r := H
 have A2 := Aside0.mk A20
 clear A20
 obtain rfl := Option.some.inj H
 go_enter Try.func75, Try.ntmps75
 go_wp2_with (first | ((with_reducible refine gate_dst (N := 1) rfl ?_); refine box_event ?hg (N := 1) ?hd (cs := #[.bool a0_0, .slice A0_1 l0_1.length c0_1, .string a0_2]) (t := 32) ?hr ?_; (case hd => rfl); (case hg => rfl); (case hr => first | (go_simp; done) | (go_simp; rfl)); intro gb989 hg w3 hbox hb; have n0_ := Aside0.mk (below_step yB hb); have n1_ := Aside0.mk (hbox); have n2_ := Aside0.mk ((yG hg : w.heap.size ≤ gb989)); have n3_ := Aside0.mk ((yG hg : w.heap.size ≤ gb989)); clear HB; have HB := n0_; have BK989 := n1_; have GW989 := n2_; have GE989 := n3_; clear n0_ n1_ n2_ n3_; clear hb hbox hg; have hcz4_0 : w3.cell? ⟨gb989, 0, none⟩ = some (.bool a0_0) := (blk_cell BK989.out 0).trans rfl; have hcz4_1 : w3.cell? ⟨gb989, 1, none⟩ = some (.slice A0_1 l0_1.length c0_1) := (blk_cell BK989.out 1).trans rfl; have hcz4_2 : w3.cell? ⟨gb989, 2, none⟩ = some (.string a0_2) := (blk_cell BK989.out 2).trans rfl; have hfz4_0 := blk_frozen BK989.out 0; have hfz4_1 := blk_frozen BK989.out 1; have hfz4_2 := blk_frozen BK989.out 2) | ((with_reducible refine gate_callee (f := 58) rfl ?_); refine goesL_ (some 4) rfl rfl Try.func58 (by kernel_rfl) rfl #[.agg #[.bool a0_0, .slice A0_1 l0_1.length c0_1, .string a0_2], .int .u8 77, .int .i64 30000] rfl yQ ?_; (with_reducible refine (subprogram_has.calls k a0_0 _ _ l0_1 a0_2 77 30000 t990 _ ?side1 ?side2 A2.out).mono ?_); (case side1 => exact yC HR0_1.out); (case side2 => exact HC0_1.out); rintro e w5 ⟨rfl, hb⟩; refine ⟨_, rfl, ?_⟩; have n0_ := Aside0.mk (blk_below (g := gb989) (o := .cells #[.bool a0_0, .slice A0_1 l0_1.length c0_1, .string a0_2] 32 (0, 0)) yK hb); have n1_ := Aside0.mk (below_step yB hb); clear BK989; clear HB; have BK989 := n0_; have HB := n1_; clear n0_ n1_; (try clear hb); (try clear hb2); (try clear hk); (try clear hi)))
 go_ret
 exact ⟨by first | rfl | (simp [errW_none, errW_some] <;> rfl) | (simp [*, errW_none, errW_some] <;> rfl), yB⟩
end Go.Proofs.Ytehkhbnhmehobaa.P
namespace Go.Proofs.Ytehkhbnhmehobaa.P
open Go.RowKit Go.Proofs.YtehkhbnhmehobaaW.PrintWords Go.Proofs.YtehkhbnhmehobaaW.PrintLast Go.Proofs.YtehkhbnhmehobaaW.PrintMore
attribute [local go_sem] max2_int min2_int max_two min_two max_three min_three max_four min_four
set_option linter.unusedVariables false
set_option linter.unusedSimpArgs false
def subprogram_plain.f (a0_0 : Bool) (l0_1 : List (S78)) (a0_2 : ByteArray) : Option (Bool) := if (l0_1.length : Int) = 1 then (if a0_0 = true then (some false) else (some (a0_2.toList == ([] : List UInt8)))) else (some false)
set_option maxHeartbeats 8000000 in
set_option maxRecDepth 100000 in
theorem subprogram_plain.calls (a0_0 : Bool) (A0_1 : Option Addr) (c0_1 : Nat) (l0_1 : List (S78)) (a0_2 : ByteArray) (r : Bool) (w : World) (hr0_1 : Kd.C k78 w A0_1 l0_1.length l0_1) (hc0_1 : l0_1.length ≤ c0_1) (h : subprogram_plain.f a0_0 l0_1 a0_2 = some r) :
  Calls Try.prog 78 #[.agg #[.bool a0_0, .slice A0_1 l0_1.length c0_1, .string a0_2]] w fun e w' => e = .returned (.bool r) ∧ Below w.heap.size w w' := by
 have hu32 := Try.underlying32
 have HR0_1 := Aside0.mk hr0_1
 have HC0_1 := Aside0.mk hc0_1
 clear hr0_1 hc0_1
 have HB := Aside0.mk (Below.refl w.heap.size w)
 have H : (if (l0_1.length : Int) = 1 then (if a0_0 = true then (some false) else (some (a0_2.toList == ([] : List UInt8)))) else (some false)) = some r := h
 clear h
 by_cases c2 : (l0_1.length : Int) = 1
 ·rw [if_pos c2] at H
  have c2b0 : ((l0_1.length : Int) == 1) = true := beq_iff_eq.mpr c2
  have c2b1 : ((l0_1.length : Int) != 1) = false := bne_eq_false_iff_eq.mpr c2
  clear c2
  by_cases c3 : a0_0 = true
  ·subst c3
   have H1 : (some false) = some r := by rw [if_pos rfl] at H; exact H
   clear H
   have H := H1
   clear H1
   obtain rfl := Option.some.inj H
   go_enter Try.func78, Try.ntmps78
   go_wp2_with (first | ((with_reducible refine gate_dst (N := 1) rfl ?_); refine box_event ?hg (N := 1) ?hd (cs := #[.bool true, .slice A0_1 l0_1.length c0_1, .string a0_2]) (t := 32) ?hr ?_; (case hd => rfl); (case hg => rfl); (case hr => first | (go_simp; done) | (go_simp; rfl)); intro gb448 hg w4 hbox hb; have n0_ := Aside0.mk (below_step yB hb); have n1_ := Aside0.mk (hbox); have n2_ := Aside0.mk ((yG hg : w.heap.size ≤ gb448)); have n3_ := Aside0.mk ((yG hg : w.heap.size ≤ gb448)); clear HB; have HB := n0_; have BK448 := n1_; have GW448 := n2_; have GE448 := n3_; clear n0_ n1_ n2_ n3_; clear hb hbox hg; have hcz5_0 : w4.cell? ⟨gb448, 0, none⟩ = some (.bool true) := (blk_cell BK448.out 0).trans rfl; have hcz5_1 : w4.cell? ⟨gb448, 1, none⟩ = some (.slice A0_1 l0_1.length c0_1) := (blk_cell BK448.out 1).trans rfl; have hcz5_2 : w4.cell? ⟨gb448, 2, none⟩ = some (.string a0_2) := (blk_cell BK448.out 2).trans rfl; have hfz5_0 := blk_frozen BK448.out 0; have hfz5_1 := blk_frozen BK448.out 1; have hfz5_2 := blk_frozen BK448.out 2))
   go_ret
   exact ⟨by first | rfl | (simp [errW_none, errW_some] <;> rfl) | (simp [*, errW_none, errW_some] <;> rfl), yB⟩
  ·replace c3 := Bool.eq_false_iff.mpr c3
   subst c3
   have H1 : (some (a0_2.toList == ([] : List UInt8))) = some r := by rw [if_neg (show ¬ (false = true) by decide)] at H; exact H
   clear H
   have H := H1
   clear H1
   obtain rfl := Option.some.inj H
   go_enter Try.func78, Try.ntmps78
   go_wp2_with (first | ((with_reducible refine gate_dst (N := 1) rfl ?_); refine box_event ?hg (N := 1) ?hd (cs := #[.bool false, .slice A0_1 l0_1.length c0_1, .string a0_2]) (t := 32) ?hr ?_; (case hd => rfl); (case hg => rfl); (case hr => first | (go_simp; done) | (go_simp; rfl)); intro gb448 hg w6 hbox hb; have n0_ := Aside0.mk (below_step yB hb); have n1_ := Aside0.mk (hbox); have n2_ := Aside0.mk ((yG hg : w.heap.size ≤ gb448)); have n3_ := Aside0.mk ((yG hg : w.heap.size ≤ gb448)); clear HB; have HB := n0_; have BK448 := n1_; have GW448 := n2_; have GE448 := n3_; clear n0_ n1_ n2_ n3_; clear hb hbox hg; have hcz7_0 : w6.cell? ⟨gb448, 0, none⟩ = some (.bool false) := (blk_cell BK448.out 0).trans rfl; have hcz7_1 : w6.cell? ⟨gb448, 1, none⟩ = some (.slice A0_1 l0_1.length c0_1) := (blk_cell BK448.out 1).trans rfl; have hcz7_2 : w6.cell? ⟨gb448, 2, none⟩ = some (.string a0_2) := (blk_cell BK448.out 2).trans rfl; have hfz7_0 := blk_frozen BK448.out 0; have hfz7_1 := blk_frozen BK448.out 1; have hfz7_2 := blk_frozen BK448.out 2))
   go_ret
   exact ⟨by first | rfl | (simp [errW_none, errW_some] <;> rfl) | (simp [*, errW_none, errW_some] <;> rfl), yB⟩
 ·rw [if_neg c2] at H
  have c2b0 : ((l0_1.length : Int) == 1) = false := beq_eq_false_iff_ne.mpr c2
  have c2b1 : ((l0_1.length : Int) != 1) = true := bne_iff_ne.mpr c2
  obtain rfl := Option.some.inj H
  go_enter Try.func78, Try.ntmps78
  go_wp2_with (first | ((with_reducible refine gate_dst (N := 1) rfl ?_); refine box_event ?hg (N := 1) ?hd (cs := #[.bool a0_0, .slice A0_1 l0_1.length c0_1, .string a0_2]) (t := 32) ?hr ?_; (case hd => rfl); (case hg => rfl); (case hr => first | (go_simp; done) | (go_simp; rfl)); intro gb448 hg w8 hbox hb; have n0_ := Aside0.mk (below_step yB hb); have n1_ := Aside0.mk (hbox); have n2_ := Aside0.mk ((yG hg : w.heap.size ≤ gb448)); have n3_ := Aside0.mk ((yG hg : w.heap.size ≤ gb448)); clear HB; have HB := n0_; have BK448 := n1_; have GW448 := n2_; have GE448 := n3_; clear n0_ n1_ n2_ n3_; clear hb hbox hg; have hcz9_0 : w8.cell? ⟨gb448, 0, none⟩ = some (.bool a0_0) := (blk_cell BK448.out 0).trans rfl; have hcz9_1 : w8.cell? ⟨gb448, 1, none⟩ = some (.slice A0_1 l0_1.length c0_1) := (blk_cell BK448.out 1).trans rfl; have hcz9_2 : w8.cell? ⟨gb448, 2, none⟩ = some (.string a0_2) := (blk_cell BK448.out 2).trans rfl; have hfz9_0 := blk_frozen BK448.out 0; have hfz9_1 := blk_frozen BK448.out 1; have hfz9_2 := blk_frozen BK448.out 2))
  go_ret
  exact ⟨by first | rfl | (simp [errW_none, errW_some] <;> rfl) | (simp [*, errW_none, errW_some] <;> rfl), yB⟩
end Go.Proofs.Ytehkhbnhmehobaa.P
