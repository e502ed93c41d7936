/- A part of the proof of ModalLine. -/
import Derived.Lib.SliceRun
import Derived.Test.YtehkhbnhmehobaaCModalLine1
import Derived.Test.YtehkhbnhmehobaaCModalLine2
namespace Go.Proofs.Ytehkhbnhmehobaa.P
open Go.RowKit Go.Proofs.YtehkhbnhmehobaaW.PrintWords Go.Proofs.YtehkhbnhmehobaaW.PrintLast Go.Proofs.YtehkhbnhmehobaaW.PrintMore
attribute [local go_sem] max2_int min2_int max_two min_two max_three min_three max_four min_four
set_option linter.unusedVariables false
set_option linter.unusedSimpArgs false
mutual
def swarfref41_Parse.j0 : Nat → ByteArray → Int → Bool → Bool → ByteArray → Option (Bool × (List (S78)) × ByteArray × Int × Int)
 | 0, _, _, _, _, _ => none
 | k + 1, x0, x6, x24, x127000, x127002 => if x24 = true then (swarfref41_Parse.j1 k x0 1 true x127002) else (swarfref41_Parse.j1 k x0 x6 x127000 x127002)
def swarfref41_Parse.j1 : Nat → ByteArray → Int → Bool → ByteArray → Option (Bool × (List (S78)) × ByteArray × Int × Int)
 | 0, _, _, _, _ => none
 | k + 1, x0, x6, x127000, x127002 => swarfref41_Parse.l0 k x0 x6 true x127000 ([] : List (S78)) x127002
def swarfref41_Parse.l0 : Nat → ByteArray → Int → Bool → Bool → List (S78) → ByteArray → Option (Bool × (List (S78)) × ByteArray × Int × Int)
 | 0, _, _, _, _, _, _ => none
 | k + 1, x0, x6, x7, x127000, x127001, x127002 => if x6 < (x0.size : Int) then (swarfref41_Parse.j3 k x0 x6 true x127000 x127001 x127002) else (swarfref41_Parse.j3 k x0 x6 (!x7) x127000 x127001 x127002)
def swarfref41_Parse.j3 : Nat → ByteArray → Int → Bool → Bool → List (S78) → ByteArray → Option (Bool × (List (S78)) × ByteArray × Int × Int)
 | 0, _, _, _, _, _, _ => none
 | k + 1, x0, x6, x33, x127000, x127001, x127002 => if x33 = true then (if x6 = (x0.size : Int) then (none) else (if 0 ≤ x6 then (if x6 < (x0.size : Int) then (if (bt x0 x6) = 40 then (none) else (if (bt x0 x6) < 65 then (swarfref41_Parse.j4 k x0 x6 true x127000 x127001 x127002) else (swarfref41_Parse.j4 k x0 x6 (decide ((bt x0 x6) > 90)) x127000 x127001 x127002))) else (none)) else (none))) else (some (x127000, x127001, x127002, 0, 0))
def swarfref41_Parse.j4 : Nat → ByteArray → Int → Bool → Bool → List (S78) → ByteArray → Option (Bool × (List (S78)) × ByteArray × Int × Int)
 | 0, _, _, _, _, _, _ => none
 | k + 1, x0, x6, x68, x127000, x127001, x127002 => if x68 = true then (none) else (if (x127001.length : Int) = 16 then (none) else (swarfref41_Parse.l1 k x0 x6 (wrap64 (x6 + 1)) x127000 x127001 x127002))
def swarfref41_Parse.j6 : Nat → ByteArray → Int → Int → Bool → List (S78) → ByteArray → Option (Bool × (List (S78)) × ByteArray × Int × Int)
 | 0, _, _, _, _, _, _ => none
 | k + 1, x0, x6, x11, x127000, x127001, x127002 => if 0 ≤ (wrap64 (x6 + 1)) then (if (wrap64 (x6 + 1)) ≤ x11 then (if x11 ≤ (x0.size : Int) then ((swarfref41_Value.f k (x0.extract ((wrap64 (x6 + 1)) : Int).toNat (x11 : Int).toNat)).bind fun bt128 => (if bt128.2 = 0 then (if 0 ≤ x6 then (if x6 < (x0.size : Int) then (if x127001.length < 8796093022208 then ((some (x127001 ++ [(⟨bt x0 x6, bt128.1⟩ : S78)] : List (S78))).bind fun y130 => (if x11 = (x0.size : Int) then (some (x127000, y130, x127002, 0, 0)) else (if 0 ≤ x11 then (if x11 < (x0.size : Int) then (if (bt x0 x11) = 32 then (swarfref41_Parse.l0 k x0 (wrap64 (x11 + 1)) false x127000 y130 x127002) else (none)) else (none)) else (none)))) else (none)) else (none)) else (none)) else (none))) else (none)) else (none)) else (none)
def swarfref41_Parse.l1 : Nat → ByteArray → Int → Int → Bool → List (S78) → ByteArray → Option (Bool × (List (S78)) × ByteArray × Int × Int)
 | 0, _, _, _, _, _, _ => none
 | k + 1, x0, x6, x11, x127000, x127001, x127002 => if x11 < (x0.size : Int) then (if 0 ≤ x11 then ((swarfref41_number.f (bt x0 x11)).bind fun t127 => (if t127 = true then (swarfref41_Parse.l1 k x0 x6 (wrap64 (x11 + 1)) x127000 x127001 x127002) else (swarfref41_Parse.j6 k x0 x6 x11 x127000 x127001 x127002))) else (none)) else (swarfref41_Parse.j6 k x0 x6 x11 x127000 x127001 x127002)
end
def swarfref41_Parse.f (k : Nat) (a0 : ByteArray) : Option (Bool × (List (S78)) × ByteArray × Int × Int) := if (a0.size : Int) > 65536 then (none) else (if a0.toList = ([] : List UInt8) then (swarfref41_Parse.j0 k a0 0 false false (⟨#[]⟩ : ByteArray)) else (if 0 < (a0.size : Int) then (swarfref41_Parse.j0 k a0 0 ((bt a0 0) == 47) false (⟨#[]⟩ : ByteArray)) else (none)))
theorem swarfref41_Parse.mono_l : ∀ k, (∀ y0 y1 y2 y3 y4, LeO (swarfref41_Parse.j0 k y0 y1 y2 y3 y4) (swarfref41_Parse.j0 (k + 1) y0 y1 y2 y3 y4)) ∧ (∀ y0 y1 y2 y3, LeO (swarfref41_Parse.j1 k y0 y1 y2 y3) (swarfref41_Parse.j1 (k + 1) y0 y1 y2 y3)) ∧ (∀ y0 y1 y2 y3 y4 y5, LeO (swarfref41_Parse.l0 k y0 y1 y2 y3 y4 y5) (swarfref41_Parse.l0 (k + 1) y0 y1 y2 y3 y4 y5)) ∧ (∀ y0 y1 y2 y3 y4 y5, LeO (swarfref41_Parse.j3 k y0 y1 y2 y3 y4 y5) (swarfref41_Parse.j3 (k + 1) y0 y1 y2 y3 y4 y5)) ∧ (∀ y0 y1 y2 y3 y4 y5, LeO (swarfref41_Parse.j4 k y0 y1 y2 y3 y4 y5) (swarfref41_Parse.j4 (k + 1) y0 y1 y2 y3 y4 y5)) ∧ (∀ y0 y1 y2 y3 y4 y5, LeO (swarfref41_Parse.j6 k y0 y1 y2 y3 y4 y5) (swarfref41_Parse.j6 (k + 1) y0 y1 y2 y3 y4 y5)) ∧ (∀ y0 y1 y2 y3 y4 y5, LeO (swarfref41_Parse.l1 k y0 y1 y2 y3 y4 y5) (swarfref41_Parse.l1 (k + 1) y0 y1 y2 y3 y4 y5))
 | 0 => ⟨fun _ _ _ _ _ r h => by simp [swarfref41_Parse.j0] at h, fun _ _ _ _ r h => by simp [swarfref41_Parse.j1] at h, fun _ _ _ _ _ _ r h => by simp [swarfref41_Parse.l0] at h, fun _ _ _ _ _ _ r h => by simp [swarfref41_Parse.j3] at h, fun _ _ _ _ _ _ r h => by simp [swarfref41_Parse.j4] at h, fun _ _ _ _ _ _ r h => by simp [swarfref41_Parse.j6] at h, fun _ _ _ _ _ _ r h => by simp [swarfref41_Parse.l1] at h⟩
 | k + 1 => by
  obtain ⟨ih0, ih1, ih2, ih3, ih4, ih5, ih6⟩ := swarfref41_Parse.mono_l k
  refine ⟨?_, ?_, ?_, ?_, ?_, ?_, ?_⟩
  ·intro y0 y1 y2 y3 y4
   unfold swarfref41_Parse.j0
   repeat' first
   | (with_reducible exact ih0 _ _ _ _ _)
   | (with_reducible exact ih1 _ _ _ _)
   | (with_reducible exact ih2 _ _ _ _ _ _)
   | (with_reducible exact ih3 _ _ _ _ _ _)
   | (with_reducible exact ih4 _ _ _ _ _ _)
   | (with_reducible exact ih5 _ _ _ _ _ _)
   | (with_reducible exact ih6 _ _ _ _ _ _)
   | (with_reducible exact swarfref41_Value.mono _ _)
   | (with_reducible exact LeO.refl _)
   | (with_reducible exact LeO.none _)
   | (with_reducible refine LeO.ite ?_ ?_)
   | (with_reducible refine LeO.bind ?_ (fun _ => ?_))
   | exact ih0 _ _ _ _ _
   | exact ih1 _ _ _ _
   | exact ih2 _ _ _ _ _ _
   | exact ih3 _ _ _ _ _ _
   | exact ih4 _ _ _ _ _ _
   | exact ih5 _ _ _ _ _ _
   | exact ih6 _ _ _ _ _ _
   | exact swarfref41_Value.mono _ _
   | exact LeO.none _
   | refine LeO.ite ?_ ?_
   | refine LeO.bind ?_ (fun _ => ?_)
  ·intro y0 y1 y2 y3
   unfold swarfref41_Parse.j1
   repeat' first
   | (with_reducible exact ih0 _ _ _ _ _)
   | (with_reducible exact ih1 _ _ _ _)
   | (with_reducible exact ih2 _ _ _ _ _ _)
   | (with_reducible exact ih3 _ _ _ _ _ _)
   | (with_reducible exact ih4 _ _ _ _ _ _)
   | (with_reducible exact ih5 _ _ _ _ _ _)
   | (with_reducible exact ih6 _ _ _ _ _ _)
   | (with_reducible exact swarfref41_Value.mono _ _)
   | (with_reducible exact LeO.refl _)
   | (with_reducible exact LeO.none _)
   | (with_reducible refine LeO.ite ?_ ?_)
   | (with_reducible refine LeO.bind ?_ (fun _ => ?_))
   | exact ih0 _ _ _ _ _
   | exact ih1 _ _ _ _
   | exact ih2 _ _ _ _ _ _
   | exact ih3 _ _ _ _ _ _
   | exact ih4 _ _ _ _ _ _
   | exact ih5 _ _ _ _ _ _
   | exact ih6 _ _ _ _ _ _
   | exact swarfref41_Value.mono _ _
   | exact LeO.none _
   | refine LeO.ite ?_ ?_
   | refine LeO.bind ?_ (fun _ => ?_)
  ·intro y0 y1 y2 y3 y4 y5
   unfold swarfref41_Parse.l0
   repeat' first
   | (with_reducible exact ih0 _ _ _ _ _)
   | (with_reducible exact ih1 _ _ _ _)
   | (with_reducible exact ih2 _ _ _ _ _ _)
   | (with_reducible exact ih3 _ _ _ _ _ _)
   | (with_reducible exact ih4 _ _ _ _ _ _)
   | (with_reducible exact ih5 _ _ _ _ _ _)
   | (with_reducible exact ih6 _ _ _ _ _ _)
   | (with_reducible exact swarfref41_Value.mono _ _)
   | (with_reducible exact LeO.refl _)
   | (with_reducible exact LeO.none _)
   | (with_reducible refine LeO.ite ?_ ?_)
   | (with_reducible refine LeO.bind ?_ (fun _ => ?_))
   | exact ih0 _ _ _ _ _
   | exact ih1 _ _ _ _
   | exact ih2 _ _ _ _ _ _
   | exact ih3 _ _ _ _ _ _
   | exact ih4 _ _ _ _ _ _
   | exact ih5 _ _ _ _ _ _
   | exact ih6 _ _ _ _ _ _
   | exact swarfref41_Value.mono _ _
   | exact LeO.none _
   | refine LeO.ite ?_ ?_
   | refine LeO.bind ?_ (fun _ => ?_)
  ·intro y0 y1 y2 y3 y4 y5
   unfold swarfref41_Parse.j3
   repeat' first
   | (with_reducible exact ih0 _ _ _ _ _)
   | (with_reducible exact ih1 _ _ _ _)
   | (with_reducible exact ih2 _ _ _ _ _ _)
   | (with_reducible exact ih3 _ _ _ _ _ _)
   | (with_reducible exact ih4 _ _ _ _ _ _)
   | (with_reducible exact ih5 _ _ _ _ _ _)
   | (with_reducible exact ih6 _ _ _ _ _ _)
   | (with_reducible exact swarfref41_Value.mono _ _)
   | (with_reducible exact LeO.refl _)
   | (with_reducible exact LeO.none _)
   | (with_reducible refine LeO.ite ?_ ?_)
   | (with_reducible refine LeO.bind ?_ (fun _ => ?_))
   | exact ih0 _ _ _ _ _
   | exact ih1 _ _ _ _
   | exact ih2 _ _ _ _ _ _
   | exact ih3 _ _ _ _ _ _
   | exact ih4 _ _ _ _ _ _
   | exact ih5 _ _ _ _ _ _
   | exact ih6 _ _ _ _ _ _
   | exact swarfref41_Value.mono _ _
   | exact LeO.none _
   | refine LeO.ite ?_ ?_
   | refine LeO.bind ?_ (fun _ => ?_)
  ·intro y0 y1 y2 y3 y4 y5
   unfold swarfref41_Parse.j4
   repeat' first
   | (with_reducible exact ih0 _ _ _ _ _)
   | (with_reducible exact ih1 _ _ _ _)
   | (with_reducible exact ih2 _ _ _ _ _ _)
   | (with_reducible exact ih3 _ _ _ _ _ _)
   | (with_reducible exact ih4 _ _ _ _ _ _)
   | (with_reducible exact ih5 _ _ _ _ _ _)
   | (with_reducible exact ih6 _ _ _ _ _ _)
   | (with_reducible exact swarfref41_Value.mono _ _)
   | (with_reducible exact LeO.refl _)
   | (with_reducible exact LeO.none _)
   | (with_reducible refine LeO.ite ?_ ?_)
   | (with_reducible refine LeO.bind ?_ (fun _ => ?_))
   | exact ih0 _ _ _ _ _
   | exact ih1 _ _ _ _
   | exact ih2 _ _ _ _ _ _
   | exact ih3 _ _ _ _ _ _
   | exact ih4 _ _ _ _ _ _
   | exact ih5 _ _ _ _ _ _
   | exact ih6 _ _ _ _ _ _
   | exact swarfref41_Value.mono _ _
   | exact LeO.none _
   | refine LeO.ite ?_ ?_
   | refine LeO.bind ?_ (fun _ => ?_)
  ·intro y0 y1 y2 y3 y4 y5
   unfold swarfref41_Parse.j6
   repeat' first
   | (with_reducible exact ih0 _ _ _ _ _)
   | (with_reducible exact ih1 _ _ _ _)
   | (with_reducible exact ih2 _ _ _ _ _ _)
   | (with_reducible exact ih3 _ _ _ _ _ _)
   | (with_reducible exact ih4 _ _ _ _ _ _)
   | (with_reducible exact ih5 _ _ _ _ _ _)
   | (with_reducible exact ih6 _ _ _ _ _ _)
   | (with_reducible exact swarfref41_Value.mono _ _)
   | (with_reducible exact LeO.refl _)
   | (with_reducible exact LeO.none _)
   | (with_reducible refine LeO.ite ?_ ?_)
   | (with_reducible refine LeO.bind ?_ (fun _ => ?_))
   | exact ih0 _ _ _ _ _
   | exact ih1 _ _ _ _
   | exact ih2 _ _ _ _ _ _
   | exact ih3 _ _ _ _ _ _
   | exact ih4 _ _ _ _ _ _
   | exact ih5 _ _ _ _ _ _
   | exact ih6 _ _ _ _ _ _
   | exact swarfref41_Value.mono _ _
   | exact LeO.none _
   | refine LeO.ite ?_ ?_
   | refine LeO.bind ?_ (fun _ => ?_)
  ·intro y0 y1 y2 y3 y4 y5
   unfold swarfref41_Parse.l1
   repeat' first
   | (with_reducible exact ih0 _ _ _ _ _)
   | (with_reducible exact ih1 _ _ _ _)
   | (with_reducible exact ih2 _ _ _ _ _ _)
   | (with_reducible exact ih3 _ _ _ _ _ _)
   | (with_reducible exact ih4 _ _ _ _ _ _)
   | (with_reducible exact ih5 _ _ _ _ _ _)
   | (with_reducible exact ih6 _ _ _ _ _ _)
   | (with_reducible exact swarfref41_Value.mono _ _)
   | (with_reducible exact LeO.refl _)
   | (with_reducible exact LeO.none _)
   | (with_reducible refine LeO.ite ?_ ?_)
   | (with_reducible refine LeO.bind ?_ (fun _ => ?_))
   | exact ih0 _ _ _ _ _
   | exact ih1 _ _ _ _
   | exact ih2 _ _ _ _ _ _
   | exact ih3 _ _ _ _ _ _
   | exact ih4 _ _ _ _ _ _
   | exact ih5 _ _ _ _ _ _
   | exact ih6 _ _ _ _ _ _
   | exact swarfref41_Value.mono _ _
   | exact LeO.none _
   | refine LeO.ite ?_ ?_
   | refine LeO.bind ?_ (fun _ => ?_)
theorem swarfref41_Parse.mono : ∀ a0 k, LeO (swarfref41_Parse.f k a0) (swarfref41_Parse.f (k + 1) a0) := by
 intro a0 k
 obtain ⟨ih0, ih1, ih2, ih3, ih4, ih5, ih6⟩ := swarfref41_Parse.mono_l k
 unfold swarfref41_Parse.f
 repeat' first
   | (with_reducible exact ih0 _ _ _ _ _)
   | (with_reducible exact ih1 _ _ _ _)
   | (with_reducible exact ih2 _ _ _ _ _ _)
   | (with_reducible exact ih3 _ _ _ _ _ _)
   | (with_reducible exact ih4 _ _ _ _ _ _)
   | (with_reducible exact ih5 _ _ _ _ _ _)
   | (with_reducible exact ih6 _ _ _ _ _ _)
   | (with_reducible exact swarfref41_Value.mono _ _)
   | (with_reducible exact LeO.refl _)
   | (with_reducible exact LeO.none _)
   | (with_reducible refine LeO.ite ?_ ?_)
   | (with_reducible refine LeO.bind ?_ (fun _ => ?_))
   | exact ih0 _ _ _ _ _
   | exact ih1 _ _ _ _
   | exact ih2 _ _ _ _ _ _
   | exact ih3 _ _ _ _ _ _
   | exact ih4 _ _ _ _ _ _
   | exact ih5 _ _ _ _ _ _
   | exact ih6 _ _ _ _ _ _
   | exact swarfref41_Value.mono _ _
   | exact LeO.none _
   | refine LeO.ite ?_ ?_
   | refine LeO.bind ?_ (fun _ => ?_)
def swarfref41_Parse.T28 : Bool × List (List Nat × List Nat) := (true, [([], []), ([0], [0]), ([], []), ([], []), ([2, 3], [2, 3]), ([], []), ([4, 5], [4, 5]), ([6], [6]), ([1, 7], [1, 7]), ([0, 1, 2, 3, 4, 5, 6, 7, 8], []), ([9, 8, 8, 0, 1, 2, 3, 4, 5, 6, 7, 8], [8, 9])])
def swarfref41_Parse.B28 : List Nat := [0, 1, 0, 0, 12, 0, 60, 124, 255, 511, 1023]
theorem swarfref41_Parse.tab28 : rtab .any (opsOf Try.f85 28) = swarfref41_Parse.T28 := by kernel_rfl
theorem swarfref41_Parse.bits28 : waitsOk swarfref41_Parse.T28.2 swarfref41_Parse.B28 = true := by kernel_rfl
set_option maxHeartbeats 8000000 in
set_option maxRecDepth 100000 in
theorem swarfref41_Parse.calls (k : Nat) (a0 : ByteArray) (r1 : Bool) (r2 : List (S78)) (r3 : ByteArray) (r4 : Int) (r5 : Int) (w : World) (h : swarfref41_Parse.f k a0 = some (r1, r2, r3, r4, r5)) :
  Calls Try.prog 85 #[.string a0] w fun e w' => ∃ v1_ : Value, e = .returned (.tuple #[.agg #[.bool r1, v1_, .string r3], .int .i64 r4, .int .i64 r5]) ∧ Kd.R k78 78 w' w.heap.size (fun _ => True) v1_ r2 ∧ Below w.heap.size w w' := by
 have hu32 := Try.underlying32
 have hu78 := Try.underlying78
 have HB := Aside0.mk (Below.refl w.heap.size w)
 have H : (if (a0.size : Int) > 65536 then (none) else (if a0.toList = ([] : List UInt8) then (swarfref41_Parse.j0 k a0 0 false false (⟨#[]⟩ : ByteArray)) else (if 0 < (a0.size : Int) then (swarfref41_Parse.j0 k a0 0 ((bt a0 0) == 47) false (⟨#[]⟩ : ByteArray)) else (none)))) = some (r1, r2, r3, r4, r5) := h
 clear h
 by_cases c2 : (a0.size : Int) > 65536
 ·rw [if_pos c2] at H
  have c2b0 : decide (65536 < (a0.size : Int)) = true := decide_eq_true c2
  have c2b1 : decide (65536 < a0.size) = true := decide_eq_true (by omega)
  clear c2
  exact absurd H (by simp)
 ·rw [if_neg c2] at H
  have c2b0 : decide (65536 < (a0.size : Int)) = false := decide_eq_false c2
  have c2b1 : decide (65536 < a0.size) = false := decide_eq_false (by omega)
  clear c2
  have HC3 := Aside0.mk H
  clear H
  go_enter Try.func85, Try.ntmps85
  go_upto_region 5 with (first | ((with_reducible refine gate_dst (N := 2) rfl ?_); refine box_event ?hg (N := 2) ?hd (cs := #[.bool false, .slice none 0 0, .string (⟨#[]⟩ : ByteArray)]) (t := 32) ?hr ?_; (case hd => rfl); (case hg => rfl); (case hr => first | (go_simp; done) | (go_simp; rfl)); intro gb125 hg w4 hbox hb; have n0_ := Aside0.mk (below_step (by repeat (first | (with_reducible first | exact HB.out | apply below_alloc | apply pw_below_drewN | apply below_drew1) | exact HB.out)) hb); have n1_ := Aside0.mk (hbox); have n2_ := Aside0.mk ((by rw [hg]; exact (below_size (by repeat (first | (with_reducible first | exact HB.out | apply below_alloc | apply pw_below_drewN | apply below_drew1) | exact HB.out))) : w.heap.size ≤ gb125)); have n3_ := Aside0.mk ((by rw [hg]; exact (below_size (by repeat (first | (with_reducible first | exact HB.out | apply below_alloc | apply pw_below_drewN | apply below_drew1) | exact HB.out))) : w.heap.size ≤ gb125)); clear HB; have HB := n0_; have BK125 := n1_; have GW125 := n2_; have GE125 := n3_; clear n0_ n1_ n2_ n3_; clear hb hbox hg) | ((with_reducible refine gate_dst (N := 5) rfl ?_); refine box_event ?hg (N := 5) ?hd (cs := #[.bool false, .slice none 0 0, .string (⟨#[]⟩ : ByteArray)]) (t := 32) ?hr ?_; (case hd => rfl); (case hg => rfl); (case hr => first | (go_simp; done) | (go_simp; rfl)); intro gb126 hg w5 hbox hb; have n0_ := Aside0.mk (blk_below (g := gb125) (o := .cells #[.bool false, .slice none 0 0, .string (⟨#[]⟩ : ByteArray)] 32 (0, 0)) (by (with_reducible repeat (first | refine blk_drewN ?_ _ | refine blk_drew ?_ | refine blk_alloc ?_ _)); exact BK125.out) hb); have n1_ := Aside0.mk (below_step (by repeat (first | (with_reducible first | exact HB.out | apply below_alloc | apply pw_below_drewN | apply below_drew1 | refine below_set ?_ GE125.out) | exact HB.out)) hb); have n2_ := Aside0.mk (hbox); have n3_ := Aside0.mk ((by rw [hg]; exact (below_size (by repeat (first | (with_reducible first | exact HB.out | apply below_alloc | apply pw_below_drewN | apply below_drew1 | refine below_set ?_ GE125.out) | exact HB.out))) : w.heap.size ≤ gb126)); have n4_ := Aside0.mk ((by rw [hg]; exact (below_size (by repeat (first | (with_reducible first | exact HB.out | apply below_alloc | apply pw_below_drewN | apply below_drew1 | refine below_set ?_ GE125.out) | exact HB.out))) : w.heap.size ≤ gb126)); have n5_ := Aside0.mk ((by rw [hg]; exact Nat.ne_of_lt (blk_lt (g := gb125) (o := .cells #[.bool false, .slice none 0 0, .string (⟨#[]⟩ : ByteArray)] 32 (0, 0)) (by (with_reducible repeat (first | refine blk_drewN ?_ _ | refine blk_drew ?_ | refine blk_alloc ?_ _)); exact BK125.out)) : gb125 ≠ gb126)); have n6_ := Aside0.mk ((by rw [hg]; exact Nat.ne_of_gt (blk_lt (g := gb125) (o := .cells #[.bool false, .slice none 0 0, .string (⟨#[]⟩ : ByteArray)] 32 (0, 0)) (by (with_reducible repeat (first | refine blk_drewN ?_ _ | refine blk_drew ?_ | refine blk_alloc ?_ _)); exact BK125.out)) : gb126 ≠ gb125)); clear BK125; clear HB; have BK125 := n0_; have HB := n1_; have BK126 := n2_; have GW126 := n3_; have GE126 := n4_; have NB125_126 := n5_; have NB126_125 := n6_; clear n0_ n1_ n2_ n3_ n4_ n5_ n6_; clear hb hbox hg))
  (try simp only [Act.put, List.setIfInBounds_toArray, List.set_cons_zero, List.set_cons_succ])
  go_cut [24] (fun v24 wc => ∃ (kq : Nat) (x24_2 : Bool), v24 = .bool x24_2 ∧ Aside0 (swarfref41_Parse.j0 kq a0 0 x24_2 false (⟨#[]⟩ : ByteArray) = some (r1, r2, r3, r4, r5)) ∧ Aside0 (kq ≤ k) ∧ Aside0 (wc.heap[gb125]? = some (.cells #[.bool false, (.slice none 0 0), .string (⟨#[]⟩ : ByteArray)] 32 (0, 0))) ∧ Aside0 (wc.heap[gb126]? = some (.cells #[.bool false, (.slice none 0 0), .string (⟨#[]⟩ : ByteArray)] 32 (0, 0))) ∧ Aside0 (Below w.heap.size w wc))
  case first =>
   have H := HC3.out
   clear HC3
   by_cases c6 : a0.toList = ([] : List UInt8)
   ·rw [if_pos c6] at H
    have c6b0 : (a0.toList == ([] : List UInt8)) = true := beq_iff_eq.mpr c6
    have c6b1 : (a0.toList != ([] : List UInt8)) = false := bne_eq_false_iff_eq.mpr c6
    clear c6
    (first | rw [c6b0] | (simp only [i64_w, i32_w]; rw [c6b0]) | skip)
    have H' := Aside0.mk H
    clear H
    go_wp2
    go_meet
    case rel => exact ⟨_, (false), (by first | rfl | (simp; done) | (simp [*]; done)), H', ⟨by first | omega | exact Nat.le_refl _⟩, ⟨by (with_reducible repeat (first | refine blk_drewN ?_ _ | refine blk_drew ?_ | refine blk_alloc ?_ _)); exact BK125.out⟩, ⟨by (with_reducible repeat (first | refine blk_drewN ?_ _ | refine blk_drew ?_ | refine blk_alloc ?_ _)); exact BK126.out⟩, ⟨by repeat (first | (with_reducible first | exact HB.out | apply below_alloc | apply pw_below_drewN | apply below_drew1 | refine below_set ?_ GE125.out | refine below_set ?_ GE126.out) | exact HB.out)⟩⟩
   ·rw [if_neg c6] at H
    have c6b0 : (a0.toList == ([] : List UInt8)) = false := beq_eq_false_iff_ne.mpr c6
    have c6b1 : (a0.toList != ([] : List UInt8)) = true := bne_iff_ne.mpr c6
    (first | rw [c6b0] | (simp only [i64_w, i32_w]; rw [c6b0]) | skip)
    by_cases c7 : 0 < (a0.size : Int)
    ·rw [if_pos c7] at H
     have c7b0 : decide (0 < (a0.size : Int)) = true := decide_eq_true c7
     have c7b1 : decide (0 < a0.size) = true := decide_eq_true (by omega)
     clear c7
     have H' := Aside0.mk H
     clear H
     have p8 : 0 ≤ (0 : Int) := (by omega)
     have q8 : 0 < a0.size := (by have : (0 : Int) < (a0.size : Int) := of_decide_eq_true (by first | (with_reducible assumption) | assumption); omega)
     have hx8 : ∀ h : 0 < a0.size, ((a0[0]'h).toNat : Int) = bt a0 0 := bt_at a0 0
     clear p8
     have qi8 : (0 < (a0.size : Int)) = True := eq_true (of_decide_eq_true (by first | (with_reducible assumption) | assumption))
     replace q8 := eq_true q8
     go_wp2
     go_meet
     case rel => exact ⟨_, (((bt a0 0) == 47)), (by first | rfl | (simp; done) | (simp [*]; done)), H', ⟨by first | omega | exact Nat.le_refl _⟩, ⟨by (with_reducible repeat (first | refine blk_drewN ?_ _ | refine blk_drew ?_ | refine blk_alloc ?_ _)); exact BK125.out⟩, ⟨by (with_reducible repeat (first | refine blk_drewN ?_ _ | refine blk_drew ?_ | refine blk_alloc ?_ _)); exact BK126.out⟩, ⟨by repeat (first | (with_reducible first | exact HB.out | apply below_alloc | apply pw_below_drewN | apply below_drew1 | refine below_set ?_ GE125.out | refine below_set ?_ GE126.out) | exact HB.out)⟩⟩
    ·rw [if_neg c7] at H
     exact absurd H (by simp)
  case rest =>
   clear HC3
   try clear c2
   try clear c2b0
   try clear c2b1
   try clear p2
   try clear c6
   try clear c6b0
   try clear c6b1
   try clear c7
   try clear c7b0
   try clear c7b1
   try clear c8
   try clear p8
   try clear q8
   try clear hx8
   try clear qi8
   try clear p8
   try clear q8
   obtain ⟨kq, x24_2, rfl, HA, HJ2, BK125, BK126, HB⟩ := hcut
   cases kq with
   | zero => exact absurd HA.out (by simp [swarfref41_Parse.j0])
   | succ kj2 =>
    have H := HA.out
    clear HA
    simp only [swarfref41_Parse.j0] at H
    have HC9 := Aside0.mk H
    clear H
    go_upto_if 24 with (fail)
    go_cut [6] (fun v6 wc => ∃ (kq : Nat) (x6_8 : Int) (x127000_8 : Bool), v6 = .int .i64 x6_8 ∧ Aside0 (swarfref41_Parse.j1 kq a0 x6_8 x127000_8 (⟨#[]⟩ : ByteArray) = some (r1, r2, r3, r4, r5)) ∧ Aside0 (kq ≤ kj2) ∧ Aside0 (wc.heap[gb125]? = some (.cells #[.bool false, (.slice none 0 0), .string (⟨#[]⟩ : ByteArray)] 32 (0, 0))) ∧ Aside0 (wc.heap[gb126]? = some (.cells #[.bool x127000_8, (.slice none 0 0), .string (⟨#[]⟩ : ByteArray)] 32 (0, 0))) ∧ Aside0 (Below w.heap.size w wc))
    case first =>
     have H := HC9.out
     clear HC9
     by_cases c10 : x24_2 = true
     ·subst c10
      have H1 : (swarfref41_Parse.j1 kj2 a0 1 true (⟨#[]⟩ : ByteArray)) = some (r1, r2, r3, r4, r5) := by rw [if_pos rfl] at H; exact H
      clear H
      have H := H1
      clear H1
      have H' := Aside0.mk H
      clear H
      have hnb11 := NB126_125.out
      have hnc11 := NB125_126.out
      have hcz12_0 : wc.cell? ⟨gb126, 0, none⟩ = some (.bool false) := (blk_cell BK126.out 0).trans rfl
      have hcz12_1 : wc.cell? ⟨gb126, 1, none⟩ = some (.slice none 0 0) := (blk_cell BK126.out 1).trans rfl
      have hcz12_2 : wc.cell? ⟨gb126, 2, none⟩ = some (.string (⟨#[]⟩ : ByteArray)) := (blk_cell BK126.out 2).trans rfl
      have hfz12_0 := blk_frozen BK126.out 0
      have hfz12_1 := blk_frozen BK126.out 1
      have hfz12_2 := blk_frozen BK126.out 2
      go_wp2
      go_meet
      case rel => exact ⟨_, (1), (true), (by first | rfl | (simp; done) | (simp [*]; done)), H', ⟨by have := HJ2.out; first | omega | exact Nat.le_refl _⟩, ⟨by (with_reducible repeat (first | refine blk_drewN ?_ _ | refine blk_drew ?_ | refine blk_alloc ?_ _)); refine blk_far ?_ NB125_126.out _; (with_reducible repeat (first | refine blk_drewN ?_ _ | refine blk_drew ?_ | refine blk_alloc ?_ _)); exact BK125.out⟩, ⟨by (with_reducible repeat (first | refine blk_drewN ?_ _ | refine blk_drew ?_ | refine blk_alloc ?_ _)); refine blk_put (cs := #[.bool false, .slice none 0 0, .string (⟨#[]⟩ : ByteArray)]) ?_ 0 _ rfl; (with_reducible repeat (first | refine blk_drewN ?_ _ | refine blk_drew ?_ | refine blk_alloc ?_ _)); exact BK126.out⟩, ⟨by repeat (first | (with_reducible first | exact HB.out | apply below_alloc | apply pw_below_drewN | apply below_drew1 | refine below_set ?_ GE125.out | refine below_set ?_ GE126.out) | exact HB.out)⟩⟩
     ·replace c10 := Bool.eq_false_iff.mpr c10
      subst c10
      have H1 : (swarfref41_Parse.j1 kj2 a0 0 false (⟨#[]⟩ : ByteArray)) = some (r1, r2, r3, r4, r5) := by rw [if_neg (show ¬ (false = true) by decide)] at H; exact H
      clear H
      have H := H1
      clear H1
      have H' := Aside0.mk H
      clear H
      go_wp2
      go_meet
      case rel => exact ⟨_, (0), (false), (by first | rfl | (simp; done) | (simp [*]; done)), H', ⟨by have := HJ2.out; first | omega | exact Nat.le_refl _⟩, ⟨by (with_reducible repeat (first | refine blk_drewN ?_ _ | refine blk_drew ?_ | refine blk_alloc ?_ _)); exact BK125.out⟩, ⟨by (with_reducible repeat (first | refine blk_drewN ?_ _ | refine blk_drew ?_ | refine blk_alloc ?_ _)); exact BK126.out⟩, ⟨by repeat (first | (with_reducible first | exact HB.out | apply below_alloc | apply pw_below_drewN | apply below_drew1 | refine below_set ?_ GE125.out | refine below_set ?_ GE126.out) | exact HB.out)⟩⟩
    case rest =>
     clear HC9
     try clear c1
     try clear c2
     try clear c2b0
     try clear c2b1
     try clear p2
     try clear c6
     try clear c6b0
     try clear c6b1
     try clear c7
     try clear c7b0
     try clear c7b1
     try clear c8
     try clear p8
     try clear q8
     try clear hx8
     try clear qi8
     try clear c10
     try clear c11
     try clear hcz12_0
     try clear hcz12_1
     try clear hcz12_2
     try clear hfz12_0
     try clear hfz12_1
     try clear hfz12_2
     try clear p2
     try clear p8
     try clear q8
     obtain ⟨kq, x6_8, x127000_8, rfl, HA, HJ8, BK125, BK126, HB⟩ := hcut
     cases kq with
     | zero => exact absurd HA.out (by simp [swarfref41_Parse.j1])
     | succ kj8 =>
      have H := HA.out
      clear HA
      simp only [swarfref41_Parse.j1] at H
      have H' := Aside0.mk H
      clear H
      go_wp2
      go_loopg [6, 7] kj8 (fun kq v6 v7 w' => ∃ (x6_3 : Int) (x7_3 : Bool) (x126000_3 : Bool) (x126002_3 : ByteArray) (x127001_3 : List (S78)) (x127002_3 : ByteArray) (u127001 : Value), v6 = .int .i64 x6_3 ∧ v7 = .bool x7_3 ∧ Aside0 (swarfref41_Parse.l0 kq a0 x6_3 x7_3 x127000_8 x127001_3 x127002_3 = some (r1, r2, r3, r4, r5)) ∧ Aside0 (kq ≤ kj8) ∧ Aside0 (Kd.R k78 78 w' w.heap.size (fun _ => True) u127001 x127001_3) ∧ Aside0 (w'.heap[gb125]? = some (.cells #[.bool x126000_3, (.slice none 0 0), .string x126002_3] 32 (0, 0))) ∧ Aside0 (w'.heap[gb126]? = some (.cells #[.bool x127000_8, u127001, .string x127002_3] 32 (0, 0))) ∧ Aside0 (Below w.heap.size w w'))
      case atStart => exact ⟨(x6_8), (true), (false), ((⟨#[]⟩ : ByteArray)), (([] : List (S78))), ((⟨#[]⟩ : ByteArray)), (.slice none 0 0), (by first | rfl | (simp; done) | (simp [*]; done)), (by first | rfl | (simp; done) | (simp [*]; done)), H', ⟨Nat.le_refl _⟩, ⟨by first | exact Kd.R_nil _ _ _ _ _ | exact Kd.N_nil _ _ _ _ _ | exact Kd.V_nil _ _ _ _ _ | exact Kd.Q_nil _ _ _ _ _ | exact Kd.S_nil _ _ _ _ _⟩, ⟨by (with_reducible repeat (first | refine blk_drewN ?_ _ | refine blk_drew ?_ | refine blk_alloc ?_ _)); exact BK125.out⟩, ⟨by (with_reducible repeat (first | refine blk_drewN ?_ _ | refine blk_drew ?_ | refine blk_alloc ?_ _)); exact BK126.out⟩, ⟨by repeat (first | (with_reducible first | exact HB.out | apply below_alloc | apply pw_below_drewN | apply below_drew1 | refine below_set ?_ GE125.out | refine below_set ?_ GE126.out) | exact HB.out)⟩⟩
      case round =>
       clear H'
       try clear c1
       try clear c2
       try clear c2b0
       try clear c2b1
       try clear p2
       try clear c6
       try clear c6b0
       try clear c6b1
       try clear c7
       try clear c7b0
       try clear c7b1
       try clear c8
       try clear p8
       try clear q8
       try clear hx8
       try clear qi8
       try clear c10
       try clear c11
       try clear hcz12_0
       try clear hcz12_1
       try clear hcz12_2
       try clear hfz12_0
       try clear hfz12_1
       try clear hfz12_2
       try clear p2
       try clear p8
       try clear q8
       obtain ⟨x6_3, x7_3, x126000_3, x126002_3, x127001_3, x127002_3, u127001, rfl, rfl, HA, HK3, HO_127001, BK125, BK126, HB⟩ := hrel
       cases gk with
       | zero => exact absurd HA.out (by simp [swarfref41_Parse.l0])
       | succ k3 =>
        have H := HA.out
        clear HA
        simp only [swarfref41_Parse.l0] at H
        have HC13 := Aside0.mk H
        clear H
        go_upto_region 8 with (fail)
        go_cut [33] (fun v33 wc => ∃ (kq : Nat) (x33_12 : Bool), v33 = .bool x33_12 ∧ Aside0 (swarfref41_Parse.j3 kq a0 x6_3 x33_12 x127000_8 x127001_3 x127002_3 = some (r1, r2, r3, r4, r5)) ∧ Aside0 (kq ≤ k3) ∧ Aside0 (Kd.R k78 78 wc w.heap.size (fun _ => True) u127001 x127001_3) ∧ Aside0 (wc.heap[gb125]? = some (.cells #[.bool x126000_3, (.slice none 0 0), .string x126002_3] 32 (0, 0))) ∧ Aside0 (wc.heap[gb126]? = some (.cells #[.bool x127000_8, u127001, .string x127002_3] 32 (0, 0))) ∧ Aside0 (Below w.heap.size w wc))
        case first =>
         have H := HC13.out
         clear HC13
         by_cases c14 : x6_3 < (a0.size : Int)
         ·rw [if_pos c14] at H
          have c14b0 : decide (x6_3 < (a0.size : Int)) = true := decide_eq_true c14
          clear c14
          (first | rw [c14b0] | (simp only [i64_w, i32_w]; rw [c14b0]) | skip)
          have H' := Aside0.mk H
          clear H
          go_wp2
          go_meet
          case rel => exact ⟨_, (true), (by first | rfl | (simp; done) | (simp [*]; done)), H', ⟨by have := HJ2.out; have := HJ8.out; have := HK3.out; first | omega | exact Nat.le_refl _⟩, ⟨by (with_reducible repeat (first | apply Kd.R_alloc | apply Kd.R_drewN | apply Kd.R_drew)); exact HO_127001.out⟩, ⟨by (with_reducible repeat (first | refine blk_drewN ?_ _ | refine blk_drew ?_ | refine blk_alloc ?_ _)); exact BK125.out⟩, ⟨by (with_reducible repeat (first | refine blk_drewN ?_ _ | refine blk_drew ?_ | refine blk_alloc ?_ _)); exact BK126.out⟩, ⟨by repeat (first | (with_reducible first | exact HB.out | apply below_alloc | apply pw_below_drewN | apply below_drew1 | refine below_set ?_ GE125.out | refine below_set ?_ GE126.out) | exact HB.out)⟩⟩
         ·rw [if_neg c14] at H
          have c14b0 : decide (x6_3 < (a0.size : Int)) = false := decide_eq_false c14
          clear c14
          (first | rw [c14b0] | (simp only [i64_w, i32_w]; rw [c14b0]) | skip)
          have H' := Aside0.mk H
          clear H
          go_wp2
          go_meet
          case rel => exact ⟨_, (!x7_3), (by first | rfl | (simp; done) | (simp [*]; done)), H', ⟨by have := HJ2.out; have := HJ8.out; have := HK3.out; first | omega | exact Nat.le_refl _⟩, ⟨by (with_reducible repeat (first | apply Kd.R_alloc | apply Kd.R_drewN | apply Kd.R_drew)); exact HO_127001.out⟩, ⟨by (with_reducible repeat (first | refine blk_drewN ?_ _ | refine blk_drew ?_ | refine blk_alloc ?_ _)); exact BK125.out⟩, ⟨by (with_reducible repeat (first | refine blk_drewN ?_ _ | refine blk_drew ?_ | refine blk_alloc ?_ _)); exact BK126.out⟩, ⟨by repeat (first | (with_reducible first | exact HB.out | apply below_alloc | apply pw_below_drewN | apply below_drew1 | refine below_set ?_ GE125.out | refine below_set ?_ GE126.out) | exact HB.out)⟩⟩
        case rest =>
         clear HC13
         try clear c1
         try clear c2
         try clear c2b0
         try clear c2b1
         try clear p2
         try clear c6
         try clear c6b0
         try clear c6b1
         try clear c7
         try clear c7b0
         try clear c7b1
         try clear c8
         try clear p8
         try clear q8
         try clear hx8
         try clear qi8
         try clear c10
         try clear c11
         try clear c14
         try clear c14b0
         try clear hcz12_0
         try clear hcz12_1
         try clear hcz12_2
         try clear hfz12_0
         try clear hfz12_1
         try clear hfz12_2
         try clear p2
         try clear p8
         try clear q8
         obtain ⟨kq, x33_12, rfl, HA, HJ12, HO_127001, BK125, BK126, HB⟩ := hcut
         cases kq with
         | zero => exact absurd HA.out (by simp [swarfref41_Parse.j3])
         | succ kj12 =>
          have H := HA.out
          clear HA
          simp only [swarfref41_Parse.j3] at H
          by_cases c15 : x33_12 = true
          ·subst c15
           have H1 : (if x6_3 = (a0.size : Int) then (none) else (if 0 ≤ x6_3 then (if x6_3 < (a0.size : Int) then (if (bt a0 x6_3) = 40 then (none) else (if (bt a0 x6_3) < 65 then (swarfref41_Parse.j4 kj12 a0 x6_3 true x127000_8 x127001_3 x127002_3) else (swarfref41_Parse.j4 kj12 a0 x6_3 (decide ((bt a0 x6_3) > 90)) x127000_8 x127001_3 x127002_3))) else (none)) else (none))) = some (r1, r2, r3, r4, r5) := by rw [if_pos rfl] at H; exact H
           clear H
           have H := H1
           clear H1
           by_cases c16 : x6_3 = (a0.size : Int)
           ·rw [if_pos c16] at H
            have c16b0 : (x6_3 == (a0.size : Int)) = true := beq_iff_eq.mpr c16
            have c16b1 : (x6_3 != (a0.size : Int)) = false := bne_eq_false_iff_eq.mpr c16
            clear c16
            exact absurd H (by simp)
           ·rw [if_neg c16] at H
            have c16b0 : (x6_3 == (a0.size : Int)) = false := beq_eq_false_iff_ne.mpr c16
            have c16b1 : (x6_3 != (a0.size : Int)) = true := bne_iff_ne.mpr c16
            by_cases c17 : 0 ≤ x6_3
            ·rw [if_pos c17] at H
             have c17b0 : decide (0 ≤ x6_3) = true := decide_eq_true c17
             clear c17
             by_cases c18 : x6_3 < (a0.size : Int)
             ·rw [if_pos c18] at H
              have c18b0 : decide (x6_3 < (a0.size : Int)) = true := decide_eq_true c18
              clear c18
              by_cases c20 : (bt a0 x6_3) = 40
              ·rw [if_pos c20] at H
               exact absurd H (by simp)
              ·rw [if_neg c20] at H
               have c20b0 : ((bt a0 x6_3) == 40) = false := beq_eq_false_iff_ne.mpr c20
               have c20b1 : ((bt a0 x6_3) != 40) = true := bne_iff_ne.mpr c20
               have HC21 := Aside0.mk H
               clear H
               have p19 : 0 ≤ (x6_3 : Int) := of_decide_eq_true (by first | (with_reducible assumption) | assumption)
               have q19 : x6_3 < (a0.size : Int) := of_decide_eq_true (by first | (with_reducible assumption) | assumption)
               have hx19 := bt_at a0 x6_3
               replace p19 := eq_true p19
               replace q19 := eq_true q19
               go_upto_region 18 with (fail)
               go_cut [68] (fun v68 wc => ∃ (kq : Nat) (x68_20 : Bool), v68 = .bool x68_20 ∧ Aside0 (swarfref41_Parse.j4 kq a0 x6_3 x68_20 x127000_8 x127001_3 x127002_3 = some (r1, r2, r3, r4, r5)) ∧ Aside0 (kq ≤ kj12) ∧ Aside0 (Kd.R k78 78 wc w.heap.size (fun _ => True) u127001 x127001_3) ∧ Aside0 (wc.heap[gb125]? = some (.cells #[.bool x126000_3, (.slice none 0 0), .string x126002_3] 32 (0, 0))) ∧ Aside0 (wc.heap[gb126]? = some (.cells #[.bool x127000_8, u127001, .string x127002_3] 32 (0, 0))) ∧ Aside0 (Below w.heap.size w wc))
               case first =>
                have H := HC21.out
                clear HC21
                by_cases c23 : (bt a0 x6_3) < 65
                ·rw [if_pos c23] at H
                 have c23b0 : decide ((bt a0 x6_3) < 65) = true := decide_eq_true c23
                 clear c23
                 (first | rw [c23b0] | (simp only [i64_w, i32_w]; rw [c23b0]) | skip)
                 have H' := Aside0.mk H
                 clear H
                 have p22 : 0 ≤ (x6_3 : Int) := of_decide_eq_true (by first | (with_reducible assumption) | assumption)
                 have q22 : x6_3 < (a0.size : Int) := of_decide_eq_true (by first | (with_reducible assumption) | assumption)
                 have hx22 := bt_at a0 x6_3
                 replace p22 := eq_true p22
                 replace q22 := eq_true q22
                 go_wp2
                 go_meet
                 case rel => exact ⟨_, (true), (by first | rfl | (simp; done) | (simp [*]; done)), H', ⟨by have := HJ2.out; have := HJ8.out; have := HK3.out; have := HJ12.out; first | omega | exact Nat.le_refl _⟩, ⟨by (with_reducible repeat (first | apply Kd.R_alloc | apply Kd.R_drewN | apply Kd.R_drew)); exact HO_127001.out⟩, ⟨by (with_reducible repeat (first | refine blk_drewN ?_ _ | refine blk_drew ?_ | refine blk_alloc ?_ _)); exact BK125.out⟩, ⟨by (with_reducible repeat (first | refine blk_drewN ?_ _ | refine blk_drew ?_ | refine blk_alloc ?_ _)); exact BK126.out⟩, ⟨by repeat (first | (with_reducible first | exact HB.out | apply below_alloc | apply pw_below_drewN | apply below_drew1 | refine below_set ?_ GE125.out | refine below_set ?_ GE126.out) | exact HB.out)⟩⟩
                ·rw [if_neg c23] at H
                 have c23b0 : decide ((bt a0 x6_3) < 65) = false := decide_eq_false c23
                 clear c23
                 (first | rw [c23b0] | (simp only [i64_w, i32_w]; rw [c23b0]) | skip)
                 have H' := Aside0.mk H
                 clear H
                 have p22 : 0 ≤ (x6_3 : Int) := of_decide_eq_true (by first | (with_reducible assumption) | assumption)
                 have q22 : x6_3 < (a0.size : Int) := of_decide_eq_true (by first | (with_reducible assumption) | assumption)
                 have hx22 := bt_at a0 x6_3
                 replace p22 := eq_true p22
                 replace q22 := eq_true q22
                 have p24 : 0 ≤ (x6_3 : Int) := of_decide_eq_true (by first | (with_reducible assumption) | assumption)
                 have q24 : x6_3 < (a0.size : Int) := of_decide_eq_true (by first | (with_reducible assumption) | assumption)
                 have hx24 := bt_at a0 x6_3
                 replace p24 := eq_true p24
                 replace q24 := eq_true q24
                 go_wp2
                 go_meet
                 case rel => exact ⟨_, (decide ((bt a0 x6_3) > 90)), (by first | rfl | (simp; done) | (simp [*]; done)), H', ⟨by have := HJ2.out; have := HJ8.out; have := HK3.out; have := HJ12.out; first | omega | exact Nat.le_refl _⟩, ⟨by (with_reducible repeat (first | apply Kd.R_alloc | apply Kd.R_drewN | apply Kd.R_drew)); exact HO_127001.out⟩, ⟨by (with_reducible repeat (first | refine blk_drewN ?_ _ | refine blk_drew ?_ | refine blk_alloc ?_ _)); exact BK125.out⟩, ⟨by (with_reducible repeat (first | refine blk_drewN ?_ _ | refine blk_drew ?_ | refine blk_alloc ?_ _)); exact BK126.out⟩, ⟨by repeat (first | (with_reducible first | exact HB.out | apply below_alloc | apply pw_below_drewN | apply below_drew1 | refine below_set ?_ GE125.out | refine below_set ?_ GE126.out) | exact HB.out)⟩⟩
               case rest =>
                clear HC21
                try clear c1
                try clear p1
                try clear q1
                try clear hx1
                try clear c2
                try clear c2b0
                try clear c2b1
                try clear p2
                try clear q2
                try clear hx2
                try clear c6
                try clear c6b0
                try clear c6b1
                try clear c7
                try clear c7b0
                try clear c7b1
                try clear c8
                try clear p8
                try clear q8
                try clear hx8
                try clear qi8
                try clear c10
                try clear c11
                try clear c14
                try clear c14b0
                try clear c15
                try clear c16
                try clear c16b0
                try clear c16b1
                try clear c17
                try clear c17b0
                try clear c18
                try clear c18b0
                try clear p19
                try clear q19
                try clear hx19
                try clear c20
                try clear c20b0
                try clear c20b1
                try clear p22
                try clear q22
                try clear hx22
                try clear c23
                try clear c23b0
                try clear p24
                try clear q24
                try clear hx24
                try clear hcz12_0
                try clear hcz12_1
                try clear hcz12_2
                try clear hfz12_0
                try clear hfz12_1
                try clear hfz12_2
                try clear p19
                try clear p2
                try clear p22
                try clear p24
                try clear p8
                try clear q19
                try clear q22
                try clear q24
                try clear q8
                obtain ⟨kq, x68_20, rfl, HA, HJ20, HO_127001, BK125, BK126, HB⟩ := hcut
                cases kq with
                | zero => exact absurd HA.out (by simp [swarfref41_Parse.j4])
                | succ kj20 =>
                 have H := HA.out
                 clear HA
                 simp only [swarfref41_Parse.j4] at H
                 by_cases c25 : x68_20 = true
                 ·subst c25
                  have H1 : (none) = some (r1, r2, r3, r4, r5) := by rw [if_pos rfl] at H; exact H
                  clear H
                  have H := H1
                  clear H1
                  exact absurd H (by simp)
                 ·replace c25 := Bool.eq_false_iff.mpr c25
                  subst c25
                  have H1 : (if (x127001_3.length : Int) = 16 then (none) else (swarfref41_Parse.l1 kj20 a0 x6_3 (wrap64 (x6_3 + 1)) x127000_8 x127001_3 x127002_3)) = some (r1, r2, r3, r4, r5) := by rw [if_neg (show ¬ (false = true) by decide)] at H; exact H
                  clear H
                  have H := H1
                  clear H1
                  by_cases c26 : (x127001_3.length : Int) = 16
                  ·rw [if_pos c26] at H
                   have c26b0 : ((x127001_3.length : Int) == 16) = true := beq_iff_eq.mpr c26
                   have c26b1 : ((x127001_3.length : Int) != 16) = false := bne_eq_false_iff_eq.mpr c26
                   clear c26
                   exact absurd H (by simp)
                  ·rw [if_neg c26] at H
                   have c26b0 : ((x127001_3.length : Int) == 16) = false := beq_eq_false_iff_ne.mpr c26
                   have c26b1 : ((x127001_3.length : Int) != 16) = true := bne_iff_ne.mpr c26
                   have HC27 := Aside0.mk H
                   clear H
                   have hnb28 := NB126_125.out
                   have hnc28 := NB125_126.out
                   have hcz29_0 : wc.cell? ⟨gb126, 0, none⟩ = some (.bool x127000_8) := (blk_cell BK126.out 0).trans rfl
                   have hcz29_1 : wc.cell? ⟨gb126, 1, none⟩ = some (u127001) := (blk_cell BK126.out 1).trans rfl
                   have hcz29_2 : wc.cell? ⟨gb126, 2, none⟩ = some (.string x127002_3) := (blk_cell BK126.out 2).trans rfl
                   have hfz29_0 := blk_frozen BK126.out 0
                   have hfz29_1 := blk_frozen BK126.out 1
                   have hfz29_2 := blk_frozen BK126.out 2
                   obtain ⟨Ao30, co30, eo30⟩ := Kd.R_slice HO_127001.out
                   subst eo30
                   go_upto_block 2 with (fail)
                   go_cut [11] (fun v11 wc => ∃ (kq : Nat) (x11_26 : Int), v11 = .int .i64 x11_26 ∧ Aside0 (swarfref41_Parse.j6 kq a0 x6_3 x11_26 x127000_8 x127001_3 x127002_3 = some (r1, r2, r3, r4, r5)) ∧ Aside0 (kq ≤ kj20) ∧ Aside0 (Kd.R k78 78 wc w.heap.size (fun _ => True) (.slice Ao30 x127001_3.length co30) x127001_3) ∧ Aside0 (wc.heap[gb125]? = some (.cells #[.bool x126000_3, (.slice none 0 0), .string x126002_3] 32 (0, 0))) ∧ Aside0 (wc.heap[gb126]? = some (.cells #[.bool x127000_8, (.slice Ao30 x127001_3.length co30), .string x127002_3] 32 (0, 0))) ∧ Aside0 (Below w.heap.size w wc))
                   case first =>
                    have H := HC27.out
                    clear HC27
                    have H' := Aside0.mk H
                    clear H
                    go_wp2
                    go_loopg [11] kj20 (fun kq v11 w' => ∃ (x11_6 : Int), v11 = .int .i64 x11_6 ∧ Aside0 (swarfref41_Parse.l1 kq a0 x6_3 x11_6 x127000_8 x127001_3 x127002_3 = some (r1, r2, r3, r4, r5)) ∧ Aside0 (kq ≤ kj20) ∧ Aside0 (Kd.R k78 78 w' w.heap.size (fun _ => True) (.slice Ao30 x127001_3.length co30) x127001_3) ∧ Aside0 (w'.heap[gb125]? = some (.cells #[.bool x126000_3, (.slice none 0 0), .string x126002_3] 32 (0, 0))) ∧ Aside0 (w'.heap[gb126]? = some (.cells #[.bool x127000_8, (.slice Ao30 x127001_3.length co30), .string x127002_3] 32 (0, 0))) ∧ Aside0 (Below w.heap.size w w'))
                    case atStart => exact ⟨(wrap64 (x6_3 + 1)), (by first | rfl | (simp; done) | (simp [*]; done)), H', ⟨Nat.le_refl _⟩, ⟨by (with_reducible repeat (first | apply Kd.R_alloc | apply Kd.R_drewN | apply Kd.R_drew)); exact HO_127001.out⟩, ⟨by (with_reducible repeat (first | refine blk_drewN ?_ _ | refine blk_drew ?_ | refine blk_alloc ?_ _)); exact BK125.out⟩, ⟨by (with_reducible repeat (first | refine blk_drewN ?_ _ | refine blk_drew ?_ | refine blk_alloc ?_ _)); exact BK126.out⟩, ⟨by repeat (first | (with_reducible first | exact HB.out | apply below_alloc | apply pw_below_drewN | apply below_drew1 | refine below_set ?_ GE125.out | refine below_set ?_ GE126.out) | exact HB.out)⟩⟩
                    case round =>
                     clear H'
                     try clear c1
                     try clear p1
                     try clear q1
                     try clear hx1
                     try clear c2
                     try clear c2b0
                     try clear c2b1
                     try clear p2
                     try clear q2
                     try clear hx2
                     try clear c6
                     try clear c6b0
                     try clear c6b1
                     try clear p6
                     try clear c7
                     try clear c7b0
                     try clear c7b1
                     try clear c8
                     try clear p8
                     try clear q8
                     try clear hx8
                     try clear qi8
                     try clear c10
                     try clear c11
                     try clear c14
                     try clear c14b0
                     try clear c15
                     try clear c16
                     try clear c16b0
                     try clear c16b1
                     try clear c17
                     try clear c17b0
                     try clear c18
                     try clear c18b0
                     try clear p19
                     try clear q19
                     try clear hx19
                     try clear c20
                     try clear c20b0
                     try clear c20b1
                     try clear p22
                     try clear q22
                     try clear hx22
                     try clear c23
                     try clear c23b0
                     try clear p24
                     try clear q24
                     try clear hx24
                     try clear c25
                     try clear c26
                     try clear c26b0
                     try clear c26b1
                     try clear c28
                     try clear hcz12_0
                     try clear hcz12_1
                     try clear hcz12_2
                     try clear hcz29_0
                     try clear hcz29_1
                     try clear hcz29_2
                     try clear hfz12_0
                     try clear hfz12_1
                     try clear hfz12_2
                     try clear hfz29_0
                     try clear hfz29_1
                     try clear hfz29_2
                     try clear p1
                     try clear p19
                     try clear p2
                     try clear p22
                     try clear p24
                     try clear p8
                     try clear q1
                     try clear q19
                     try clear q2
                     try clear q22
                     try clear q24
                     try clear q8
                     obtain ⟨x11_6, rfl, HA, HK6, HO_127001, BK125, BK126, HB⟩ := hrel
                     cases gk with
                     | zero => exact absurd HA.out (by simp [swarfref41_Parse.l1])
                     | succ k6 =>
                      have H := HA.out
                      clear HA
                      simp only [swarfref41_Parse.l1] at H
                      by_cases c31 : x11_6 < (a0.size : Int)
                      ·rw [if_pos c31] at H
                       have c31b0 : decide (x11_6 < (a0.size : Int)) = true := decide_eq_true c31
                       clear c31
                       (first | rw [c31b0] | (simp only [i64_w, i32_w]; rw [c31b0]) | skip)
                       by_cases c32 : 0 ≤ x11_6
                       ·rw [if_pos c32] at H
                        have c32b0 : decide (0 ≤ x11_6) = true := decide_eq_true c32
                        clear c32
                        replace H := Option.bind_eq_some_iff.mp H
                        obtain ⟨t127, A340, H⟩ := H
                        replace H : (if t127 = true then (swarfref41_Parse.l1 k6 a0 x6_3 (wrap64 (x11_6 + 1)) x127000_8 x127001_3 x127002_3) else (swarfref41_Parse.j6 k6 a0 x6_3 x11_6 x127000_8 x127001_3 x127002_3)) = some (r1, r2, r3, r4, r5) := H
                        have A34 := Aside0.mk A340
                        clear A340
                        by_cases c35 : t127 = true
                        ·subst c35
                         have H1 : (swarfref41_Parse.l1 k6 a0 x6_3 (wrap64 (x11_6 + 1)) x127000_8 x127001_3 x127002_3) = some (r1, r2, r3, r4, r5) := by rw [if_pos rfl] at H; exact H
                         clear H
                         have H := H1
                         clear H1
                         have H' := Aside0.mk H
                         clear H
                         have p33 : 0 ≤ (x11_6 : Int) := of_decide_eq_true (by first | (with_reducible assumption) | assumption)
                         have q33 : x11_6 < (a0.size : Int) := of_decide_eq_true (by first | (with_reducible assumption) | assumption)
                         have hx33 := bt_at a0 x11_6
                         replace p33 := eq_true p33
                         replace q33 := eq_true q33
                         go_wp2_with (first | (go_at_call 106; (with_reducible refine (swarfref41_number.calls (bt a0 x11_6) true _ A34.out).mono ?_); rintro e w' ⟨rfl, ⟨nd, rfl⟩⟩))
                         go_roundg k6
                         case measure => have := HJ2.out; have := HJ8.out; have := HK3.out; have := HJ12.out; have := HJ20.out; have := HK6.out; omega
                         case rel => exact ⟨(wrap64 (x11_6 + 1)), (by first | rfl | (simp; done) | (simp [*]; done)), H', ⟨by have := HJ2.out; have := HJ8.out; have := HK3.out; have := HJ12.out; have := HJ20.out; have := HK6.out; omega⟩, ⟨by (with_reducible repeat (first | apply Kd.R_alloc | apply Kd.R_drewN | apply Kd.R_drew)); exact HO_127001.out⟩, ⟨by (with_reducible repeat (first | refine blk_drewN ?_ _ | refine blk_drew ?_ | refine blk_alloc ?_ _)); exact BK125.out⟩, ⟨by (with_reducible repeat (first | refine blk_drewN ?_ _ | refine blk_drew ?_ | refine blk_alloc ?_ _)); exact BK126.out⟩, ⟨by repeat (first | (with_reducible first | exact HB.out | apply below_alloc | apply pw_below_drewN | apply below_drew1 | refine below_set ?_ GE125.out | refine below_set ?_ GE126.out) | exact HB.out)⟩⟩
                        ·replace c35 := Bool.eq_false_iff.mpr c35
                         subst c35
                         have H1 : (swarfref41_Parse.j6 k6 a0 x6_3 x11_6 x127000_8 x127001_3 x127002_3) = some (r1, r2, r3, r4, r5) := by rw [if_neg (show ¬ (false = true) by decide)] at H; exact H
                         clear H
                         have H := H1
                         clear H1
                         have H' := Aside0.mk H
                         clear H
                         have p33 : 0 ≤ (x11_6 : Int) := of_decide_eq_true (by first | (with_reducible assumption) | assumption)
                         have q33 : x11_6 < (a0.size : Int) := of_decide_eq_true (by first | (with_reducible assumption) | assumption)
                         have hx33 := bt_at a0 x11_6
                         replace p33 := eq_true p33
                         replace q33 := eq_true q33
                         go_wp2_with (first | (go_at_call 106; (with_reducible refine (swarfref41_number.calls (bt a0 x11_6) false _ A34.out).mono ?_); rintro e w' ⟨rfl, ⟨nd, rfl⟩⟩))
                         go_meet
                         case rel => exact ⟨_, (x11_6), (by first | rfl | (simp; done) | (simp [*]; done)), H', ⟨by have := HJ2.out; have := HJ8.out; have := HK3.out; have := HJ12.out; have := HJ20.out; have := HK6.out; first | omega | exact Nat.le_refl _⟩, ⟨by (with_reducible repeat (first | apply Kd.R_alloc | apply Kd.R_drewN | apply Kd.R_drew)); exact HO_127001.out⟩, ⟨by (with_reducible repeat (first | refine blk_drewN ?_ _ | refine blk_drew ?_ | refine blk_alloc ?_ _)); exact BK125.out⟩, ⟨by (with_reducible repeat (first | refine blk_drewN ?_ _ | refine blk_drew ?_ | refine blk_alloc ?_ _)); exact BK126.out⟩, ⟨by repeat (first | (with_reducible first | exact HB.out | apply below_alloc | apply pw_below_drewN | apply below_drew1 | refine below_set ?_ GE125.out | refine below_set ?_ GE126.out) | exact HB.out)⟩⟩
                       ·rw [if_neg c32] at H
                        exact absurd H (by simp)
                      ·rw [if_neg c31] at H
                       have c31b0 : decide (x11_6 < (a0.size : Int)) = false := decide_eq_false c31
                       clear c31
                       (first | rw [c31b0] | (simp only [i64_w, i32_w]; rw [c31b0]) | skip)
                       have H' := Aside0.mk H
                       clear H
                       go_wp2
                       go_meet
                       case rel => exact ⟨_, (x11_6), (by first | rfl | (simp; done) | (simp [*]; done)), H', ⟨by have := HJ2.out; have := HJ8.out; have := HK3.out; have := HJ12.out; have := HJ20.out; have := HK6.out; first | omega | exact Nat.le_refl _⟩, ⟨by (with_reducible repeat (first | apply Kd.R_alloc | apply Kd.R_drewN | apply Kd.R_drew)); exact HO_127001.out⟩, ⟨by (with_reducible repeat (first | refine blk_drewN ?_ _ | refine blk_drew ?_ | refine blk_alloc ?_ _)); exact BK125.out⟩, ⟨by (with_reducible repeat (first | refine blk_drewN ?_ _ | refine blk_drew ?_ | refine blk_alloc ?_ _)); exact BK126.out⟩, ⟨by repeat (first | (with_reducible first | exact HB.out | apply below_alloc | apply pw_below_drewN | apply below_drew1 | refine below_set ?_ GE125.out | refine below_set ?_ GE126.out) | exact HB.out)⟩⟩
                   case rest =>
                    clear HC27
                    try clear c1
                    try clear p1
                    try clear q1
                    try clear hx1
                    try clear c2
                    try clear c2b0
                    try clear c2b1
                    try clear p2
                    try clear q2
                    try clear hx2
                    try clear c3
                    try clear p3
                    try clear q3
                    try clear hx3
                    try clear c6
                    try clear c6b0
                    try clear c6b1
                    try clear p6
                    try clear c7
                    try clear c7b0
                    try clear c7b1
                    try clear c8
                    try clear p8
                    try clear q8
                    try clear hx8
                    try clear qi8
                    try clear c10
                    try clear c11
                    try clear c14
                    try clear c14b0
                    try clear c15
                    try clear c16
                    try clear c16b0
                    try clear c16b1
                    try clear c17
                    try clear c17b0
                    try clear c18
                    try clear c18b0
                    try clear p19
                    try clear q19
                    try clear hx19
                    try clear c20
                    try clear c20b0
                    try clear c20b1
                    try clear p22
                    try clear q22
                    try clear hx22
                    try clear c23
                    try clear c23b0
                    try clear p24
                    try clear q24
                    try clear hx24
                    try clear c25
                    try clear c26
                    try clear c26b0
                    try clear c26b1
                    try clear c28
                    try clear c31
                    try clear c31b0
                    try clear c32
                    try clear c32b0
                    try clear p33
                    try clear q33
                    try clear hx33
                    try clear c35
                    try clear hcz12_0
                    try clear hcz12_1
                    try clear hcz12_2
                    try clear hcz29_0
                    try clear hcz29_1
                    try clear hcz29_2
                    try clear hfz12_0
                    try clear hfz12_1
                    try clear hfz12_2
                    try clear hfz29_0
                    try clear hfz29_1
                    try clear hfz29_2
                    try clear p1
                    try clear p19
                    try clear p2
                    try clear p22
                    try clear p24
                    try clear p33
                    try clear p6
                    try clear p8
                    try clear q1
                    try clear q19
                    try clear q2
                    try clear q22
                    try clear q24
                    try clear q33
                    try clear q8
                    obtain ⟨kq, x11_26, rfl, HA, HJ26, HO_127001, BK125, BK126, HB⟩ := hcut
                    cases kq with
                    | zero => exact absurd HA.out (by simp [swarfref41_Parse.j6])
                    | succ kj26 =>
                     have H := HA.out
                     clear HA
                     simp only [swarfref41_Parse.j6] at H
                     obtain ⟨ji36, hji36⟩ : ∃ j_ : Int, (wrap64 (x6_3 + 1)) = j_ := ⟨_, rfl⟩
                     replace H : (if 0 ≤ (ji36) then (if (ji36) ≤ x11_26 then (if x11_26 ≤ (a0.size : Int) then ((swarfref41_Value.f kj26 (a0.extract ((ji36) : Int).toNat (x11_26 : Int).toNat)).bind fun bt128 => (if bt128.2 = 0 then (if 0 ≤ x6_3 then (if x6_3 < (a0.size : Int) then (if x127001_3.length < 8796093022208 then ((some (x127001_3 ++ [(⟨bt a0 x6_3, bt128.1⟩ : S78)] : List (S78))).bind fun y130 => (if x11_26 = (a0.size : Int) then (some (x127000_8, y130, x127002_3, 0, 0)) else (if 0 ≤ x11_26 then (if x11_26 < (a0.size : Int) then (if (bt a0 x11_26) = 32 then (swarfref41_Parse.l0 kj26 a0 (wrap64 (x11_26 + 1)) false x127000_8 y130 x127002_3) else (none)) else (none)) else (none)))) else (none)) else (none)) else (none)) else (none))) else (none)) else (none)) else (none)) = some (r1, r2, r3, r4, r5) := by first | (rw [hji36] at H; exact H) | (simp only [hji36] at H ⊢; exact H)
                     have hji36w : (IntKind.i64.wrap (x6_3 + 1)) = ji36 := (i64_w _).trans hji36
                     by_cases c37 : 0 ≤ (ji36)
                     ·rw [if_pos c37] at H
                      have c37b0 := eq_true c37
                      have c37b1 : decide (0 ≤ (ji36)) = true := decide_eq_true c37
                      clear c37
                      by_cases c38 : (ji36) ≤ x11_26
                      ·rw [if_pos c38] at H
                       have c38b0 := eq_true c38
                       have c38b1 : decide ((ji36) ≤ x11_26) = true := decide_eq_true c38
                       clear c38
                       by_cases c39 : x11_26 ≤ (a0.size : Int)
                       ·rw [if_pos c39] at H
                        have c39b0 := eq_true c39
                        have c39b1 : decide (x11_26 ≤ (a0.size : Int)) = true := decide_eq_true c39
                        clear c39
                        replace H := Option.bind_eq_some_iff.mp H
                        obtain ⟨⟨t128, t129⟩, A400, H⟩ := H
                        replace H : (if t129 = 0 then (if 0 ≤ x6_3 then (if x6_3 < (a0.size : Int) then (if x127001_3.length < 8796093022208 then ((some (x127001_3 ++ [(⟨bt a0 x6_3, t128⟩ : S78)] : List (S78))).bind fun y130 => (if x11_26 = (a0.size : Int) then (some (x127000_8, y130, x127002_3, 0, 0)) else (if 0 ≤ x11_26 then (if x11_26 < (a0.size : Int) then (if (bt a0 x11_26) = 32 then (swarfref41_Parse.l0 kj26 a0 (wrap64 (x11_26 + 1)) false x127000_8 y130 x127002_3) else (none)) else (none)) else (none)))) else (none)) else (none)) else (none)) else (none)) = some (r1, r2, r3, r4, r5) := H
                        have A40 := Aside0.mk A400
                        clear A400
                        by_cases c41 : t129 = 0
                        ·rw [if_pos c41] at H
                         have c41b0 : (t129 == 0) = true := beq_iff_eq.mpr c41
                         have c41b1 : (t129 != 0) = false := bne_eq_false_iff_eq.mpr c41
                         clear c41
                         by_cases c42 : 0 ≤ x6_3
                         ·rw [if_pos c42] at H
                          have c42b0 : decide (0 ≤ x6_3) = true := decide_eq_true c42
                          clear c42
                          by_cases c43 : x6_3 < (a0.size : Int)
                          ·rw [if_pos c43] at H
                           have c43b0 : decide (x6_3 < (a0.size : Int)) = true := decide_eq_true c43
                           clear c43
                           by_cases c45 : x127001_3.length < 8796093022208
                           ·rw [if_pos c45] at H
                            have LMc45 := Aside0.mk c45
                            clear c45
                            obtain ⟨y130, hy130⟩ : ∃ y_ : List (S78), y_ = (x127001_3 ++ [(⟨bt a0 x6_3, t128⟩ : S78)]) := ⟨_, rfl⟩
                            replace H : (if x11_26 = (a0.size : Int) then (some (x127000_8, y130, x127002_3, 0, 0)) else (if 0 ≤ x11_26 then (if x11_26 < (a0.size : Int) then (if (bt a0 x11_26) = 32 then (swarfref41_Parse.l0 kj26 a0 (wrap64 (x11_26 + 1)) false x127000_8 y130 x127002_3) else (none)) else (none)) else (none))) = some (r1, r2, r3, r4, r5) := by first | (rw [hy130]; with_reducible exact H) | (have H2_ := (Option.bind_some _ _).symm.trans H; rw [hy130]; with_reducible exact H2_) | (have H2_ := (Option.bind_some _ _).symm.trans H; with_reducible exact H2_) | with_reducible exact H | (rw [hy130]; exact H) | exact H
                            have Ny130 := Aside0.mk hy130
                            clear hy130
                            by_cases c46 : x11_26 = (a0.size : Int)
                            ·rw [if_pos c46] at H
                             have c46b0 : (x11_26 == (a0.size : Int)) = true := beq_iff_eq.mpr c46
                             have c46b1 : (x11_26 != (a0.size : Int)) = false := bne_eq_false_iff_eq.mpr c46
                             clear c46
                             simp only [Option.some.injEq, Prod.mk.injEq] at H
                             obtain ⟨rfl, rfl, rfl, rfl, rfl⟩ := H
                             try go_wp2_with (first | ((with_reducible refine gate_callee (f := 107) rfl ?_); refine goesL_ (some 97) rfl rfl Try.func107 (by kernel_rfl) rfl #[.string (a0.extract ((ji36) : Int).toNat (x11_26 : Int).toNat)] rfl (by (try simp only [List.map_toArray, List.map_cons, List.map_nil]); first | done | (simp only [hji36]; rfl) | rfl | (simp only [List.length_drop, List.length_take]; rfl)) ?_; (with_reducible refine (swarfref41_Value.calls kj26 (a0.extract ((ji36) : Int).toNat (x11_26 : Int).toNat) t128 t129 _ A40.out).mono ?_); rintro e w' ⟨rfl, ⟨nd, rfl⟩⟩; refine ⟨_, rfl, ?_⟩; (try (rw [drewN_self wc]; generalize hq_ : World.drewN wc _ = wc; have n0_ : Aside0 (Kd.R k78 78 wc w.heap.size (fun _ => True) (.slice Ao30 x127001_3.length co30) x127001_3) := ⟨by rw [← hq_]; exact (by (with_reducible repeat (first | apply Kd.R_alloc | apply Kd.R_drewN | apply Kd.R_drew)); exact HO_127001.out)⟩; have n1_ : Aside0 (wc.heap[gb125]? = some (.cells #[.bool x126000_3, .slice none 0 0, .string x126002_3] 32 (0, 0))) := ⟨by rw [← hq_]; exact (by (with_reducible repeat (first | refine blk_drewN ?_ _ | refine blk_drew ?_ | refine blk_alloc ?_ _)); exact BK125.out)⟩; have n2_ : Aside0 (wc.heap[gb126]? = some (.cells #[.bool x127000_8, .slice Ao30 x127001_3.length co30, .string x127002_3] 32 (0, 0))) := ⟨by rw [← hq_]; exact (by (with_reducible repeat (first | refine blk_drewN ?_ _ | refine blk_drew ?_ | refine blk_alloc ?_ _)); exact BK126.out)⟩; have n3_ : Aside0 (Below w.heap.size w wc) := ⟨by rw [← hq_]; exact (by repeat (first | (with_reducible first | exact HB.out | apply below_alloc | apply pw_below_drewN | apply below_drew1 | refine below_set ?_ GE125.out | refine below_set ?_ GE126.out) | exact HB.out))⟩; clear HO_127001 BK125 BK126 HB hq_; have HO_127001 := n0_; have BK125 := n1_; have BK126 := n2_; have HB := n3_; clear n0_ n1_ n2_ n3_))))
                             have n0_ := Aside0.mk (Kd.R_drew HO_127001.out)
                             have n1_ := Aside0.mk (blk_drew BK125.out)
                             have n2_ := Aside0.mk (blk_drew BK126.out)
                             have n3_ := Aside0.mk (below_drew1 HB.out)
                             clear HO_127001
                             clear BK125
                             clear BK126
                             clear HB
                             have HO_127001 := n0_
                             have BK125 := n1_
                             have BK126 := n2_
                             have HB := n3_
                             clear n0_ n1_ n2_ n3_
                             have p44 : 0 ≤ (x6_3 : Int) := of_decide_eq_true (by first | (with_reducible assumption) | assumption)
                             have q44 : x6_3 < (a0.size : Int) := of_decide_eq_true (by first | (with_reducible assumption) | assumption)
                             have hx44 := bt_at a0 x6_3
                             replace p44 := eq_true p44
                             replace q44 := eq_true q44
                             refine start_ (n := 11) (S := fun w' => w'.cell? ⟨gb126, 0, none⟩ = some (.bool x127000_8) ∧ w'.cell? ⟨gb126, 1, none⟩ = some (.slice Ao30 x127001_3.length co30) ∧ w'.cell? ⟨gb126, 2, none⟩ = some (.string x127002_3)) (ds := [10]) #[false, false, false, false, false, false, false, false, false, false, false] (by kernel_rfl) rfl rfl ⟨(blk_cell BK126.out 0).trans rfl, (blk_cell BK126.out 1).trans rfl, (blk_cell BK126.out 2).trans rfl⟩ (fun hHeld => ?_); refine with_tabW swarfref41_Parse.tab28 swarfref41_Parse.bits28 (fun HT_ HW_ => ?_)
                             generalize wc.drew = w47 at HO_127001 BK125 BK126 HB hHeld ⊢
                             refine pure_ (i := 0) (N := some 105) (v := ?_) (a' := ?_) #[true, false, false, false, false, false, false, false, false, false, false] rfl rfl (any_of HT_.out (by kernel_rfl)) (fun _ _ _ h => h) (Or.inl ⟨by rfl, ?_⟩) ?_ ?_
                             rotate_left
                             ·intro w'
                              go_simp
                              with_reducible rfl
                             rotate_left
                             ·simp only [Act.put, List.setIfInBounds_toArray, List.set_cons_zero, List.set_cons_succ, i64_w, i32_w]
                              rfl
                             refine pure_ (i := 2) (N := some 107) (v := ?_) (a' := ?_) #[true, false, true, false, false, false, false, false, false, false, false] rfl rfl (any_of HT_.out (by kernel_rfl)) (fun _ _ _ h => h) (Or.inl ⟨by rfl, ?_⟩) ?_ ?_
                             rotate_left
                             ·intro w'
                              go_simp
                              with_reducible rfl
                             rotate_left
                             ·simp only [Act.put, List.setIfInBounds_toArray, List.set_cons_zero, List.set_cons_succ, i64_w, i32_w]
                              rfl
                             refine pure_ (i := 3) (N := some 108) (v := ?_) (a' := ?_) #[true, false, true, true, false, false, false, false, false, false, false] rfl rfl (any_of HT_.out (by kernel_rfl)) (fun _ _ _ h => h) (Or.inl ⟨by rfl, ?_⟩) ?_ ?_
                             rotate_left
                             ·intro w'
                              go_simp
                              with_reducible rfl
                             rotate_left
                             ·simp only [Act.put, List.setIfInBounds_toArray, List.set_cons_zero, List.set_cons_succ, i64_w, i32_w]
                              rfl
                             refine pure_ (i := 5) (N := some 110) (v := ?_) (a' := ?_) #[true, false, true, true, false, true, false, false, false, false, false] rfl rfl (any_of HT_.out (by kernel_rfl)) (fun _ _ _ h => h) (Or.inl ⟨by rfl, ?_⟩) ?_ ?_
                             rotate_left
                             ·intro w'
                              go_simp
                              with_reducible rfl
                             rotate_left
                             ·simp only [Act.put, List.setIfInBounds_toArray, List.set_cons_zero, List.set_cons_succ, i64_w, i32_w]
                              rfl
                             refine take_ (i := 1) (N := some 106) (v := ?_) (a' := ?_) #[true, true, true, true, false, true, false, false, false, false, false] rfl rfl (take_ofW HT_.out HW_.out (by kernel_rfl)) (fun _ _ _ h => h) (Or.inl ⟨by rfl, ?_⟩) hHeld ?_ ?_
                             rotate_left
                             ·rintro w' ⟨s0, s1, s2⟩
                              go_simp
                              with_reducible rfl
                             rotate_left
                             ·simp only [Act.put, List.setIfInBounds_toArray, List.set_cons_zero, List.set_cons_succ, i64_w, i32_w]
                              rfl
                             refine take_ (i := 4) (N := some 109) (v := ?_) (a' := ?_) #[true, true, true, true, true, true, false, false, false, false, false] rfl rfl (take_ofW HT_.out HW_.out (by kernel_rfl)) (fun _ _ _ h => h) (Or.inl ⟨by rfl, ?_⟩) hHeld ?_ ?_
                             rotate_left
                             ·rintro w' ⟨s0, s1, s2⟩
                              go_simp
                              with_reducible rfl
                             rotate_left
                             ·simp only [Act.put, List.setIfInBounds_toArray, List.set_cons_zero, List.set_cons_succ, i64_w, i32_w]
                              rfl
                             refine pure_ (i := 6) (N := some 111) (v := ?_) (a' := ?_) #[true, true, true, true, true, true, true, false, false, false, false] rfl rfl (any_of HT_.out (by kernel_rfl)) (fun _ _ _ h => h) (Or.inl ⟨by rfl, ?_⟩) ?_ ?_
                             rotate_left
                             ·intro w'
                              go_simp
                              with_reducible rfl
                             rotate_left
                             ·simp only [Act.put, List.setIfInBounds_toArray, List.set_cons_zero, List.set_cons_succ, i64_w, i32_w]
                              rfl
                             refine one_ (i := 7) (N := some 112) #[true, true, true, true, true, true, true, true, false, false, false] rfl rfl (one_of HT_.out (by kernel_rfl)) (by decide) (fun K hK => ?_)
                             refine value_ (w1 := ?_) (v := ?_) (by rfl) rfl ?_ ?_
                             rotate_left 2
                             ·go_simp
                              constructor
                              ·rfl
                              ·rfl
                             refine hK.out _ _ ⟨(blk_cell (blk_alloc BK126.out _) 0).trans rfl, (blk_cell (blk_alloc BK126.out _) 1).trans rfl, (blk_cell (blk_alloc BK126.out _) 2).trans rfl⟩ (fun hHeld => ?_)
                             clear hK K
                             refine norm_ (a' := ?_) ?_ ?_
                             rotate_left
                             ·show Act.put _ (some 112) _ = _
                              simp only [Act.put, List.setIfInBounds_toArray, List.set_cons_zero, List.set_cons_succ, i64_w, i32_w]
                              rfl
                             refine one_ (i := 8) (N := some 113) #[true, true, true, true, true, true, true, true, true, false, false] rfl rfl (one_of HT_.out (by kernel_rfl)) (by decide) (fun K hK => ?_)
                             refine Kd.R_append_step k78 (w0 := w) w.heap.size (by rfl) (.tmp 106) (.tmp 112) 30 78 (.agg #[(.int .u8 0), (.int .i64 0)]) 16 rfl Try.underlying30 info78 rfl (by decide) (by omega) (.slice Ao30 x127001_3.length co30) x127001_3 (⟨bt a0 x6_3, t128⟩ : S78) [.int .u8 (bt a0 x6_3), .int .i64 t128] (fun _ => True) (fun _ => False) rfl rfl ?aP (fun _ hk => hk.elim) ?aF ?aO ?aB ?aS ?aL ?_
                             (case aP => exact k78_mkM _ _ _ (⟨bt a0 x6_3, t128⟩ : S78))
                             (case aB => exact (by repeat (first | (with_reducible first | exact HB.out | apply below_alloc | apply pw_below_drewN | apply below_drew1 | refine below_set ?_ GE125.out | refine below_set ?_ GE126.out) | exact HB.out)))
                             (case aF => exact (fun _ _ => trivial))
                             (case aO => exact (by (with_reducible repeat (first | apply Kd.R_alloc | apply Kd.R_drewN | apply Kd.R_drew)); exact HO_127001.out))
                             (case aS => exact (below_size (by repeat (first | (with_reducible first | exact HB.out | apply below_alloc | apply pw_below_drewN | apply below_drew1 | refine below_set ?_ GE125.out | refine below_set ?_ GE126.out) | exact HB.out))))
                             (case aL => have := LMc45.out; omega)
                             intro v131 w48 ho hb hg hat
                             rw [← Ny130.out] at ho
                             have n0_ := Aside0.mk (blk_grown (g := gb125) (o := .cells #[.bool x126000_3, .slice none 0 0, .string x126002_3] 32 (0, 0)) (by (with_reducible repeat (first | refine blk_drewN ?_ _ | refine blk_drew ?_ | refine blk_alloc ?_ _)); exact BK125.out) hg (Kd.R_ne HO_127001.out BK125.out (by decide)))
                             have n1_ := Aside0.mk (blk_grown (g := gb126) (o := .cells #[.bool x127000_8, .slice Ao30 x127001_3.length co30, .string x127002_3] 32 (0, 0)) (by (with_reducible repeat (first | refine blk_drewN ?_ _ | refine blk_drew ?_ | refine blk_alloc ?_ _)); exact BK126.out) hg (Kd.R_ne HO_127001.out BK126.out (by decide)))
                             have n2_ := Aside0.mk (hb)
                             have n3_ := Aside0.mk (ho)
                             clear BK125
                             clear BK126
                             clear HB
                             clear HO_127001
                             have BK125 := n0_
                             have BK126 := n1_
                             have HB := n2_
                             have HO132 := n3_
                             clear n0_ n1_ n2_ n3_
                             clear ho hb hg hat
                             obtain ⟨Ao49, co49, eo49⟩ := Kd.R_slice HO132.out
                             (first | subst eo49 | (injection eo49 with f1_ f2_ f3_; have f4_ := f1_.symm; have f5_ := f3_.symm; clear f1_ f2_ f3_; subst f4_; subst f5_))
                             refine hK.out _ _ ⟨(blk_cell BK126.out 0).trans rfl, (blk_cell BK126.out 1).trans rfl, (blk_cell BK126.out 2).trans rfl⟩ (fun hHeld => ?_)
                             clear hK K
                             refine norm_ (a' := ?_) ?_ ?_
                             rotate_left
                             ·show Act.put _ (some 113) _ = _
                              simp only [Act.put, List.setIfInBounds_toArray, List.set_cons_zero, List.set_cons_succ, i64_w, i32_w]
                              rfl
                             refine pure_ (i := 9) (N := some 114) (v := ?_) (a' := ?_) #[true, true, true, true, true, true, true, true, true, true, false] rfl rfl (any_of HT_.out (by kernel_rfl)) (fun _ _ _ h => h) (Or.inl ⟨by rfl, ?_⟩) ?_ ?_
                             rotate_left
                             ·intro w'
                              go_simp
                              with_reducible rfl
                             rotate_left
                             ·simp only [Act.put, List.setIfInBounds_toArray, List.set_cons_zero, List.set_cons_succ, i64_w, i32_w]
                              rfl
                             refine last_ (i := 10) (N := none) #[true, true, true, true, true, true, true, true, true, true, true] rfl rfl (one_of HT_.out (by kernel_rfl)) (by decide) (fun K hK => ?_)
                             have hs50 : w48.cell? ⟨gb126, 1, none⟩ = some (.slice Ao30 x127001_3.length co30) := (blk_cell BK126.out 1).trans rfl
                             have hfs50 := blk_frozen BK126.out 1
                             have hns50_0 := NB125_126.out
                             have hms50_0 := NB126_125.out
                             refine skip_ (w1 := ?_) (by rfl) rfl ?_ ?_
                             rotate_left
                             ·go_simp
                              rfl
                             refine hK.out _ _ ?_
                             clear hK K
                             refine done_ (done_of HT_.out (by kernel_rfl)) ?_
                             have hnb51 := NB126_125.out
                             have hnc51 := NB125_126.out
                             have hcz52_0 : w48.cell? ⟨gb126, 0, none⟩ = some (.bool x127000_8) := (blk_cell BK126.out 0).trans rfl
                             have hcz52_1 : w48.cell? ⟨gb126, 1, none⟩ = some (.slice Ao30 x127001_3.length co30) := (blk_cell BK126.out 1).trans rfl
                             have hcz52_2 : w48.cell? ⟨gb126, 2, none⟩ = some (.string x127002_3) := (blk_cell BK126.out 2).trans rfl
                             have hfz52_0 := blk_frozen BK126.out 0
                             have hfz52_1 := blk_frozen BK126.out 1
                             have hfz52_2 := blk_frozen BK126.out 2
                             have hcz53_0 : w48.cell? ⟨gb125, 0, none⟩ = some (.bool x126000_3) := (blk_cell BK125.out 0).trans rfl
                             have hcz53_1 : w48.cell? ⟨gb125, 1, none⟩ = some (.slice none 0 0) := (blk_cell BK125.out 1).trans rfl
                             have hcz53_2 : w48.cell? ⟨gb125, 2, none⟩ = some (.string x126002_3) := (blk_cell BK125.out 2).trans rfl
                             have hfz53_0 := blk_frozen BK125.out 0
                             have hfz53_1 := blk_frozen BK125.out 1
                             have hfz53_2 := blk_frozen BK125.out 2
                             try go_wp2
                             refine bodyPost_ret (results_ctt rfl _ _ gb125 32 #[.bool x127000_8, .slice Ao49 y130.length co49, .string x127002_3] (0, 0) _ rfl (by (with_reducible repeat (first | refine blk_drewN ?_ _ | refine blk_drew ?_ | refine blk_alloc ?_ _)); refine blk_put (cs := #[.bool x127000_8, .slice Ao49 y130.length co49, .string x126002_3]) ?_ 2 _ rfl; (with_reducible repeat (first | refine blk_drewN ?_ _ | refine blk_drew ?_ | refine blk_alloc ?_ _)); refine blk_put (cs := #[.bool x127000_8, .slice none 0 0, .string x126002_3]) ?_ 1 _ rfl; (with_reducible repeat (first | refine blk_drewN ?_ _ | refine blk_drew ?_ | refine blk_alloc ?_ _)); refine blk_put (cs := #[.bool x126000_3, .slice none 0 0, .string x126002_3]) ?_ 0 _ rfl; (with_reducible repeat (first | refine blk_drewN ?_ _ | refine blk_drew ?_ | refine blk_alloc ?_ _)); refine blk_far ?_ NB125_126.out _; (with_reducible repeat (first | refine blk_drewN ?_ _ | refine blk_drew ?_ | refine blk_alloc ?_ _)); exact BK125.out) Try.underlying32 rfl (by kernel_rfl)) rfl ?_
                             exact ⟨_, by first | rfl | (simp [errW_none, errW_some] <;> rfl) | (simp only [← hji36]; first | rfl | (simp [errW_none, errW_some] <;> rfl)) | (simp [*, errW_none, errW_some] <;> rfl), by (with_reducible repeat (first | apply Kd.R_alloc | apply Kd.R_drewN | apply Kd.R_drew)); exact Kd.R_mono (Kd.R_far (p := ⟨gb125, 2, none⟩) (Kd.R_far (p := ⟨gb125, 1, none⟩) (Kd.R_far (p := ⟨gb125, 0, none⟩) (Kd.R_far (p := ⟨gb126, 1, none⟩) (Kd.R_types (Kd.R_types HO132.out BK126.out (by decide)) BK125.out (by decide)) (fun _ hk => hk.1.2) (.slice Ao49 y130.length co49)) (fun _ hk => hk.2) (.bool x127000_8)) (fun _ hk => hk.2) (.slice Ao49 y130.length co49)) (fun _ hk => hk.2) (.string x127002_3)) (fun _ hk => trivial), by repeat (first | (with_reducible first | exact HB.out | apply below_alloc | apply pw_below_drewN | apply below_drew1 | refine below_set ?_ GE125.out | refine below_set ?_ GE126.out) | exact HB.out)⟩
                            ·rw [if_neg c46] at H
                             have c46b0 : (x11_26 == (a0.size : Int)) = false := beq_eq_false_iff_ne.mpr c46
                             have c46b1 : (x11_26 != (a0.size : Int)) = true := bne_iff_ne.mpr c46
                             by_cases c54 : 0 ≤ x11_26
                             ·rw [if_pos c54] at H
                              have c54b0 : decide (0 ≤ x11_26) = true := decide_eq_true c54
                              clear c54
                              by_cases c55 : x11_26 < (a0.size : Int)
                              ·rw [if_pos c55] at H
                               have c55b0 : decide (x11_26 < (a0.size : Int)) = true := decide_eq_true c55
                               clear c55
                               by_cases c57 : (bt a0 x11_26) = 32
                               ·rw [if_pos c57] at H
                                have c57b0 : ((bt a0 x11_26) == 32) = true := beq_iff_eq.mpr c57
                                have c57b1 : ((bt a0 x11_26) != 32) = false := bne_eq_false_iff_eq.mpr c57
                                clear c57
                                have H' := Aside0.mk H
                                clear H
                                try go_wp2_with (first | ((with_reducible refine gate_callee (f := 107) rfl ?_); refine goesL_ (some 97) rfl rfl Try.func107 (by kernel_rfl) rfl #[.string (a0.extract ((ji36) : Int).toNat (x11_26 : Int).toNat)] rfl (by (try simp only [List.map_toArray, List.map_cons, List.map_nil]); first | done | (simp only [hji36]; rfl) | rfl | (simp only [List.length_drop, List.length_take]; rfl)) ?_; (with_reducible refine (swarfref41_Value.calls kj26 (a0.extract ((ji36) : Int).toNat (x11_26 : Int).toNat) t128 t129 _ A40.out).mono ?_); rintro e w' ⟨rfl, ⟨nd, rfl⟩⟩; refine ⟨_, rfl, ?_⟩; (try (rw [drewN_self wc]; generalize hq_ : World.drewN wc _ = wc; have n0_ : Aside0 (Kd.R k78 78 wc w.heap.size (fun _ => True) (.slice Ao30 x127001_3.length co30) x127001_3) := ⟨by rw [← hq_]; exact (by (with_reducible repeat (first | apply Kd.R_alloc | apply Kd.R_drewN | apply Kd.R_drew)); exact HO_127001.out)⟩; have n1_ : Aside0 (wc.heap[gb125]? = some (.cells #[.bool x126000_3, .slice none 0 0, .string x126002_3] 32 (0, 0))) := ⟨by rw [← hq_]; exact (by (with_reducible repeat (first | refine blk_drewN ?_ _ | refine blk_drew ?_ | refine blk_alloc ?_ _)); exact BK125.out)⟩; have n2_ : Aside0 (wc.heap[gb126]? = some (.cells #[.bool x127000_8, .slice Ao30 x127001_3.length co30, .string x127002_3] 32 (0, 0))) := ⟨by rw [← hq_]; exact (by (with_reducible repeat (first | refine blk_drewN ?_ _ | refine blk_drew ?_ | refine blk_alloc ?_ _)); exact BK126.out)⟩; have n3_ : Aside0 (Below w.heap.size w wc) := ⟨by rw [← hq_]; exact (by repeat (first | (with_reducible first | exact HB.out | apply below_alloc | apply pw_below_drewN | apply below_drew1 | refine below_set ?_ GE125.out | refine below_set ?_ GE126.out) | exact HB.out))⟩; clear HO_127001 BK125 BK126 HB hq_; have HO_127001 := n0_; have BK125 := n1_; have BK126 := n2_; have HB := n3_; clear n0_ n1_ n2_ n3_))))
                                have n0_ := Aside0.mk (Kd.R_drew HO_127001.out)
                                have n1_ := Aside0.mk (blk_drew BK125.out)
                                have n2_ := Aside0.mk (blk_drew BK126.out)
                                have n3_ := Aside0.mk (below_drew1 HB.out)
                                clear HO_127001
                                clear BK125
                                clear BK126
                                clear HB
                                have HO_127001 := n0_
                                have BK125 := n1_
                                have BK126 := n2_
                                have HB := n3_
                                clear n0_ n1_ n2_ n3_
                                have p44 : 0 ≤ (x6_3 : Int) := of_decide_eq_true (by first | (with_reducible assumption) | assumption)
                                have q44 : x6_3 < (a0.size : Int) := of_decide_eq_true (by first | (with_reducible assumption) | assumption)
                                have hx44 := bt_at a0 x6_3
                                replace p44 := eq_true p44
                                replace q44 := eq_true q44
                                refine start_ (n := 11) (S := fun w' => w'.cell? ⟨gb126, 0, none⟩ = some (.bool x127000_8) ∧ w'.cell? ⟨gb126, 1, none⟩ = some (.slice Ao30 x127001_3.length co30) ∧ w'.cell? ⟨gb126, 2, none⟩ = some (.string x127002_3)) (ds := [10]) #[false, false, false, false, false, false, false, false, false, false, false] (by kernel_rfl) rfl rfl ⟨(blk_cell BK126.out 0).trans rfl, (blk_cell BK126.out 1).trans rfl, (blk_cell BK126.out 2).trans rfl⟩ (fun hHeld => ?_); refine with_tabW swarfref41_Parse.tab28 swarfref41_Parse.bits28 (fun HT_ HW_ => ?_)
                                generalize wc.drew = w58 at HO_127001 BK125 BK126 HB hHeld ⊢
                                refine pure_ (i := 0) (N := some 105) (v := ?_) (a' := ?_) #[true, false, false, false, false, false, false, false, false, false, false] rfl rfl (any_of HT_.out (by kernel_rfl)) (fun _ _ _ h => h) (Or.inl ⟨by rfl, ?_⟩) ?_ ?_
                                rotate_left
                                ·intro w'
                                 go_simp
                                 with_reducible rfl
                                rotate_left
                                ·simp only [Act.put, List.setIfInBounds_toArray, List.set_cons_zero, List.set_cons_succ, i64_w, i32_w]
                                 rfl
                                refine pure_ (i := 2) (N := some 107) (v := ?_) (a' := ?_) #[true, false, true, false, false, false, false, false, false, false, false] rfl rfl (any_of HT_.out (by kernel_rfl)) (fun _ _ _ h => h) (Or.inl ⟨by rfl, ?_⟩) ?_ ?_
                                rotate_left
                                ·intro w'
                                 go_simp
                                 with_reducible rfl
                                rotate_left
                                ·simp only [Act.put, List.setIfInBounds_toArray, List.set_cons_zero, List.set_cons_succ, i64_w, i32_w]
                                 rfl
                                refine pure_ (i := 3) (N := some 108) (v := ?_) (a' := ?_) #[true, false, true, true, false, false, false, false, false, false, false] rfl rfl (any_of HT_.out (by kernel_rfl)) (fun _ _ _ h => h) (Or.inl ⟨by rfl, ?_⟩) ?_ ?_
                                rotate_left
                                ·intro w'
                                 go_simp
                                 with_reducible rfl
                                rotate_left
                                ·simp only [Act.put, List.setIfInBounds_toArray, List.set_cons_zero, List.set_cons_succ, i64_w, i32_w]
                                 rfl
                                refine pure_ (i := 5) (N := some 110) (v := ?_) (a' := ?_) #[true, false, true, true, false, true, false, false, false, false, false] rfl rfl (any_of HT_.out (by kernel_rfl)) (fun _ _ _ h => h) (Or.inl ⟨by rfl, ?_⟩) ?_ ?_
                                rotate_left
                                ·intro w'
                                 go_simp
                                 with_reducible rfl
                                rotate_left
                                ·simp only [Act.put, List.setIfInBounds_toArray, List.set_cons_zero, List.set_cons_succ, i64_w, i32_w]
                                 rfl
                                refine take_ (i := 1) (N := some 106) (v := ?_) (a' := ?_) #[true, true, true, true, false, true, false, false, false, false, false] rfl rfl (take_ofW HT_.out HW_.out (by kernel_rfl)) (fun _ _ _ h => h) (Or.inl ⟨by rfl, ?_⟩) hHeld ?_ ?_
                                rotate_left
                                ·rintro w' ⟨s0, s1, s2⟩
                                 go_simp
                                 with_reducible rfl
                                rotate_left
                                ·simp only [Act.put, List.setIfInBounds_toArray, List.set_cons_zero, List.set_cons_succ, i64_w, i32_w]
                                 rfl
                                refine take_ (i := 4) (N := some 109) (v := ?_) (a' := ?_) #[true, true, true, true, true, true, false, false, false, false, false] rfl rfl (take_ofW HT_.out HW_.out (by kernel_rfl)) (fun _ _ _ h => h) (Or.inl ⟨by rfl, ?_⟩) hHeld ?_ ?_
                                rotate_left
                                ·rintro w' ⟨s0, s1, s2⟩
                                 go_simp
                                 with_reducible rfl
                                rotate_left
                                ·simp only [Act.put, List.setIfInBounds_toArray, List.set_cons_zero, List.set_cons_succ, i64_w, i32_w]
                                 rfl
                                refine pure_ (i := 6) (N := some 111) (v := ?_) (a' := ?_) #[true, true, true, true, true, true, true, false, false, false, false] rfl rfl (any_of HT_.out (by kernel_rfl)) (fun _ _ _ h => h) (Or.inl ⟨by rfl, ?_⟩) ?_ ?_
                                rotate_left
                                ·intro w'
                                 go_simp
                                 with_reducible rfl
                                rotate_left
                                ·simp only [Act.put, List.setIfInBounds_toArray, List.set_cons_zero, List.set_cons_succ, i64_w, i32_w]
                                 rfl
                                refine one_ (i := 7) (N := some 112) #[true, true, true, true, true, true, true, true, false, false, false] rfl rfl (one_of HT_.out (by kernel_rfl)) (by decide) (fun K hK => ?_)
                                refine value_ (w1 := ?_) (v := ?_) (by rfl) rfl ?_ ?_
                                rotate_left 2
                                ·go_simp
                                 constructor
                                 ·rfl
                                 ·rfl
                                refine hK.out _ _ ⟨(blk_cell (blk_alloc BK126.out _) 0).trans rfl, (blk_cell (blk_alloc BK126.out _) 1).trans rfl, (blk_cell (blk_alloc BK126.out _) 2).trans rfl⟩ (fun hHeld => ?_)
                                clear hK K
                                refine norm_ (a' := ?_) ?_ ?_
                                rotate_left
                                ·show Act.put _ (some 112) _ = _
                                 simp only [Act.put, List.setIfInBounds_toArray, List.set_cons_zero, List.set_cons_succ, i64_w, i32_w]
                                 rfl
                                refine one_ (i := 8) (N := some 113) #[true, true, true, true, true, true, true, true, true, false, false] rfl rfl (one_of HT_.out (by kernel_rfl)) (by decide) (fun K hK => ?_)
                                refine Kd.R_append_step k78 (w0 := w) w.heap.size (by rfl) (.tmp 106) (.tmp 112) 30 78 (.agg #[(.int .u8 0), (.int .i64 0)]) 16 rfl Try.underlying30 info78 rfl (by decide) (by omega) (.slice Ao30 x127001_3.length co30) x127001_3 (⟨bt a0 x6_3, t128⟩ : S78) [.int .u8 (bt a0 x6_3), .int .i64 t128] (fun _ => True) (fun _ => False) rfl rfl ?aP (fun _ hk => hk.elim) ?aF ?aO ?aB ?aS ?aL ?_
                                (case aP => exact k78_mkM _ _ _ (⟨bt a0 x6_3, t128⟩ : S78))
                                (case aB => exact (by repeat (first | (with_reducible first | exact HB.out | apply below_alloc | apply pw_below_drewN | apply below_drew1 | refine below_set ?_ GE125.out | refine below_set ?_ GE126.out) | exact HB.out)))
                                (case aF => exact (fun _ _ => trivial))
                                (case aO => exact (by (with_reducible repeat (first | apply Kd.R_alloc | apply Kd.R_drewN | apply Kd.R_drew)); exact HO_127001.out))
                                (case aS => exact (below_size (by repeat (first | (with_reducible first | exact HB.out | apply below_alloc | apply pw_below_drewN | apply below_drew1 | refine below_set ?_ GE125.out | refine below_set ?_ GE126.out) | exact HB.out))))
                                (case aL => have := LMc45.out; omega)
                                intro v131 w59 ho hb hg hat
                                rw [← Ny130.out] at ho
                                have n0_ := Aside0.mk (blk_grown (g := gb125) (o := .cells #[.bool x126000_3, .slice none 0 0, .string x126002_3] 32 (0, 0)) (by (with_reducible repeat (first | refine blk_drewN ?_ _ | refine blk_drew ?_ | refine blk_alloc ?_ _)); exact BK125.out) hg (Kd.R_ne HO_127001.out BK125.out (by decide)))
                                have n1_ := Aside0.mk (blk_grown (g := gb126) (o := .cells #[.bool x127000_8, .slice Ao30 x127001_3.length co30, .string x127002_3] 32 (0, 0)) (by (with_reducible repeat (first | refine blk_drewN ?_ _ | refine blk_drew ?_ | refine blk_alloc ?_ _)); exact BK126.out) hg (Kd.R_ne HO_127001.out BK126.out (by decide)))
                                have n2_ := Aside0.mk (hb)
                                have n3_ := Aside0.mk (ho)
                                clear BK125
                                clear BK126
                                clear HB
                                clear HO_127001
                                have BK125 := n0_
                                have BK126 := n1_
                                have HB := n2_
                                have HO132 := n3_
                                clear n0_ n1_ n2_ n3_
                                clear ho hb hg hat
                                obtain ⟨Ao60, co60, eo60⟩ := Kd.R_slice HO132.out
                                (first | subst eo60 | (injection eo60 with f1_ f2_ f3_; have f4_ := f1_.symm; have f5_ := f3_.symm; clear f1_ f2_ f3_; subst f4_; subst f5_))
                                refine hK.out _ _ ⟨(blk_cell BK126.out 0).trans rfl, (blk_cell BK126.out 1).trans rfl, (blk_cell BK126.out 2).trans rfl⟩ (fun hHeld => ?_)
                                clear hK K
                                refine norm_ (a' := ?_) ?_ ?_
                                rotate_left
                                ·show Act.put _ (some 113) _ = _
                                 simp only [Act.put, List.setIfInBounds_toArray, List.set_cons_zero, List.set_cons_succ, i64_w, i32_w]
                                 rfl
                                refine pure_ (i := 9) (N := some 114) (v := ?_) (a' := ?_) #[true, true, true, true, true, true, true, true, true, true, false] rfl rfl (any_of HT_.out (by kernel_rfl)) (fun _ _ _ h => h) (Or.inl ⟨by rfl, ?_⟩) ?_ ?_
                                rotate_left
                                ·intro w'
                                 go_simp
                                 with_reducible rfl
                                rotate_left
                                ·simp only [Act.put, List.setIfInBounds_toArray, List.set_cons_zero, List.set_cons_succ, i64_w, i32_w]
                                 rfl
                                refine last_ (i := 10) (N := none) #[true, true, true, true, true, true, true, true, true, true, true] rfl rfl (one_of HT_.out (by kernel_rfl)) (by decide) (fun K hK => ?_)
                                have hs61 : w59.cell? ⟨gb126, 1, none⟩ = some (.slice Ao30 x127001_3.length co30) := (blk_cell BK126.out 1).trans rfl
                                have hfs61 := blk_frozen BK126.out 1
                                have hns61_0 := NB125_126.out
                                have hms61_0 := NB126_125.out
                                refine skip_ (w1 := ?_) (by rfl) rfl ?_ ?_
                                rotate_left
                                ·go_simp
                                 rfl
                                refine hK.out _ _ ?_
                                clear hK K
                                refine done_ (done_of HT_.out (by kernel_rfl)) ?_
                                have p56 : 0 ≤ (x11_26 : Int) := of_decide_eq_true (by first | (with_reducible assumption) | assumption)
                                have q56 : x11_26 < (a0.size : Int) := of_decide_eq_true (by first | (with_reducible assumption) | assumption)
                                have hx56 := bt_at a0 x11_26
                                replace p56 := eq_true p56
                                replace q56 := eq_true q56
                                try go_wp2
                                go_roundg kj26
                                case measure => have := HJ2.out; have := HJ8.out; have := HK3.out; have := HJ12.out; have := HJ20.out; have := HJ26.out; omega
                                case rel => exact ⟨(wrap64 (x11_26 + 1)), (false), (x126000_3), (x126002_3), (y130), (x127002_3), (.slice Ao60 y130.length co60), (by first | rfl | (simp; done) | (simp [*]; done)), (by first | rfl | (simp; done) | (simp [*]; done)), H', ⟨by have := HJ2.out; have := HJ8.out; have := HK3.out; have := HJ12.out; have := HJ20.out; have := HJ26.out; omega⟩, ⟨by (with_reducible repeat (first | apply Kd.R_alloc | apply Kd.R_drewN | apply Kd.R_drew)); exact Kd.R_mono (Kd.R_far (p := ⟨gb126, 1, none⟩) (Kd.R_types HO132.out BK126.out (by decide)) (fun _ hk => hk.2) (.slice Ao60 y130.length co60)) (fun _ hk => trivial)⟩, ⟨by (with_reducible repeat (first | refine blk_drewN ?_ _ | refine blk_drew ?_ | refine blk_alloc ?_ _)); refine blk_far ?_ NB125_126.out _; (with_reducible repeat (first | refine blk_drewN ?_ _ | refine blk_drew ?_ | refine blk_alloc ?_ _)); exact BK125.out⟩, ⟨by (with_reducible repeat (first | refine blk_drewN ?_ _ | refine blk_drew ?_ | refine blk_alloc ?_ _)); refine blk_put (cs := #[.bool x127000_8, .slice Ao30 x127001_3.length co30, .string x127002_3]) ?_ 1 _ rfl; (with_reducible repeat (first | refine blk_drewN ?_ _ | refine blk_drew ?_ | refine blk_alloc ?_ _)); exact BK126.out⟩, ⟨by repeat (first | (with_reducible first | exact HB.out | apply below_alloc | apply pw_below_drewN | apply below_drew1 | refine below_set ?_ GE125.out | refine below_set ?_ GE126.out) | exact HB.out)⟩⟩
                               ·rw [if_neg c57] at H
                                have c57b0 : ((bt a0 x11_26) == 32) = false := beq_eq_false_iff_ne.mpr c57
                                have c57b1 : ((bt a0 x11_26) != 32) = true := bne_iff_ne.mpr c57
                                exact absurd H (by simp)
                              ·rw [if_neg c55] at H
                               exact absurd H (by simp)
                             ·rw [if_neg c54] at H
                              exact absurd H (by simp)
                           ·rw [if_neg c45] at H
                            exact absurd H (by simp)
                          ·rw [if_neg c43] at H
                           exact absurd H (by simp)
                         ·rw [if_neg c42] at H
                          exact absurd H (by simp)
                        ·rw [if_neg c41] at H
                         have c41b0 : (t129 == 0) = false := beq_eq_false_iff_ne.mpr c41
                         have c41b1 : (t129 != 0) = true := bne_iff_ne.mpr c41
                         exact absurd H (by simp)
                       ·rw [if_neg c39] at H
                        exact absurd H (by simp)
                      ·rw [if_neg c38] at H
                       exact absurd H (by simp)
                     ·rw [if_neg c37] at H
                      exact absurd H (by simp)
             ·rw [if_neg c18] at H
              exact absurd H (by simp)
            ·rw [if_neg c17] at H
             exact absurd H (by simp)
          ·replace c15 := Bool.eq_false_iff.mpr c15
           subst c15
           have H1 : (some (x127000_8, x127001_3, x127002_3, 0, 0)) = some (r1, r2, r3, r4, r5) := by rw [if_neg (show ¬ (false = true) by decide)] at H; exact H
           clear H
           have H := H1
           clear H1
           simp only [Option.some.injEq, Prod.mk.injEq] at H
           obtain ⟨rfl, rfl, rfl, rfl, rfl⟩ := H
           have hnb62 := NB126_125.out
           have hnc62 := NB125_126.out
           have hcz63_0 : wc.cell? ⟨gb126, 0, none⟩ = some (.bool x127000_8) := (blk_cell BK126.out 0).trans rfl
           have hcz63_1 : wc.cell? ⟨gb126, 1, none⟩ = some (u127001) := (blk_cell BK126.out 1).trans rfl
           have hcz63_2 : wc.cell? ⟨gb126, 2, none⟩ = some (.string x127002_3) := (blk_cell BK126.out 2).trans rfl
           have hfz63_0 := blk_frozen BK126.out 0
           have hfz63_1 := blk_frozen BK126.out 1
           have hfz63_2 := blk_frozen BK126.out 2
           have hcz64_0 : wc.cell? ⟨gb125, 0, none⟩ = some (.bool x126000_3) := (blk_cell BK125.out 0).trans rfl
           have hcz64_1 : wc.cell? ⟨gb125, 1, none⟩ = some (.slice none 0 0) := (blk_cell BK125.out 1).trans rfl
           have hcz64_2 : wc.cell? ⟨gb125, 2, none⟩ = some (.string x126002_3) := (blk_cell BK125.out 2).trans rfl
           have hfz64_0 := blk_frozen BK125.out 0
           have hfz64_1 := blk_frozen BK125.out 1
           have hfz64_2 := blk_frozen BK125.out 2
           obtain ⟨Ao65, co65, eo65⟩ := Kd.R_slice HO_127001.out
           subst eo65
           go_wp2
           refine bodyPost_ret (results_ctt rfl _ _ gb125 32 #[.bool x127000_8, .slice Ao65 x127001_3.length co65, .string x127002_3] (0, 0) _ rfl (by (with_reducible repeat (first | refine blk_drewN ?_ _ | refine blk_drew ?_ | refine blk_alloc ?_ _)); refine blk_put (cs := #[.bool x127000_8, .slice Ao65 x127001_3.length co65, .string x126002_3]) ?_ 2 _ rfl; (with_reducible repeat (first | refine blk_drewN ?_ _ | refine blk_drew ?_ | refine blk_alloc ?_ _)); refine blk_put (cs := #[.bool x127000_8, .slice none 0 0, .string x126002_3]) ?_ 1 _ rfl; (with_reducible repeat (first | refine blk_drewN ?_ _ | refine blk_drew ?_ | refine blk_alloc ?_ _)); refine blk_put (cs := #[.bool x126000_3, .slice none 0 0, .string x126002_3]) ?_ 0 _ rfl; (with_reducible repeat (first | refine blk_drewN ?_ _ | refine blk_drew ?_ | refine blk_alloc ?_ _)); exact BK125.out) Try.underlying32 rfl (by kernel_rfl)) rfl ?_
           exact ⟨_, by first | rfl | (simp [errW_none, errW_some] <;> rfl) | (simp [*, errW_none, errW_some] <;> rfl), by (with_reducible repeat (first | apply Kd.R_alloc | apply Kd.R_drewN | apply Kd.R_drew)); exact Kd.R_mono (Kd.R_far (p := ⟨gb125, 2, none⟩) (Kd.R_far (p := ⟨gb125, 1, none⟩) (Kd.R_far (p := ⟨gb125, 0, none⟩) (Kd.R_types HO_127001.out BK125.out (by decide)) (fun _ hk => hk.2) (.bool x127000_8)) (fun _ hk => hk.2) (.slice Ao65 x127001_3.length co65)) (fun _ hk => hk.2) (.string x127002_3)) (fun _ hk => trivial), by repeat (first | (with_reducible first | exact HB.out | apply below_alloc | apply pw_below_drewN | apply below_drew1 | refine below_set ?_ GE125.out | refine below_set ?_ GE126.out) | exact HB.out)⟩
end Go.Proofs.Ytehkhbnhmehobaa.P
namespace Go.Proofs.Ytehkhbnhmehobaa.P
open Go.RowKit Go.Proofs.YtehkhbnhmehobaaW.PrintWords Go.Proofs.YtehkhbnhmehobaaW.PrintLast Go.Proofs.YtehkhbnhmehobaaW.PrintMore
attribute [local go_sem] max2_int min2_int max_two min_two max_three min_three max_four min_four
set_option linter.unusedVariables false
set_option linter.unusedSimpArgs false
def swarflaw42_parse.f (k : Nat) (a0 : ByteArray) : Option (Bool × (List (S78)) × ByteArray) := (swarfref41_Parse.f k a0).bind fun bt134 => (some (bt134.1, bt134.2.1, bt134.2.2.1))
theorem swarflaw42_parse.mono : ∀ a0 k, LeO (swarflaw42_parse.f k a0) (swarflaw42_parse.f (k + 1) a0) := by
 intro a0 k
 unfold swarflaw42_parse.f
 repeat' first
   | (with_reducible exact swarfref41_Parse.mono _ _)
   | (with_reducible exact LeO.refl _)
   | (with_reducible exact LeO.none _)
   | (with_reducible refine LeO.ite ?_ ?_)
   | (with_reducible refine LeO.bind ?_ (fun _ => ?_))
   | exact swarfref41_Parse.mono _ _
   | exact LeO.none _
   | refine LeO.ite ?_ ?_
   | refine LeO.bind ?_ (fun _ => ?_)
set_option maxHeartbeats 8000000 in
set_option maxRecDepth 100000 in
theorem swarflaw42_parse.calls (k : Nat) (a0 : ByteArray) (r1 : Bool) (r2 : List (S78)) (r3 : ByteArray) (w : World) (h : swarflaw42_parse.f k a0 = some (r1, r2, r3)) :
  Calls Try.prog 49 #[.string a0] w fun e w' => ∃ v1_ : Value, e = .returned (.agg #[.bool r1, v1_, .string r3]) ∧ Kd.R k78 78 w' w.heap.size (fun _ => True) v1_ r2 ∧ Below w.heap.size w w' := by
 have hu32 := Try.underlying32
 have HB := Aside0.mk (Below.refl w.heap.size w)
 have H : ((swarfref41_Parse.f k a0).bind fun bt134 => (some (bt134.1, bt134.2.1, bt134.2.2.1))) = some (r1, r2, r3) := h
 clear h
 replace H := Option.bind_eq_some_iff.mp H
 obtain ⟨⟨t134, t135, t138, t139, t140⟩, A20, H⟩ := H
 replace H : (some (t134, t135, t138)) = some (r1, r2, r3) := H
 have A2 := Aside0.mk A20
 clear A20
 simp only [Option.some.injEq, Prod.mk.injEq] at H
 obtain ⟨rfl, rfl, rfl⟩ := H
 go_enter Try.func49, Try.ntmps49
 go_wp2_with (first | ((with_reducible refine gate_dst (N := 2) rfl ?_); refine box_event ?hg (N := 2) ?hd (cs := #[.bool false, .slice none 0 0, .string (⟨#[]⟩ : ByteArray)]) (t := 32) ?hr ?_; (case hd => rfl); (case hg => rfl); (case hr => first | (go_simp; done) | (go_simp; rfl)); intro gb133 hg w3 hbox hb; have n0_ := Aside0.mk (below_step (by repeat (first | (with_reducible first | exact HB.out | apply below_alloc | apply pw_below_drewN | apply below_drew1) | exact HB.out)) hb); have n1_ := Aside0.mk (hbox); have n2_ := Aside0.mk ((by rw [hg]; exact (below_size (by repeat (first | (with_reducible first | exact HB.out | apply below_alloc | apply pw_below_drewN | apply below_drew1) | exact HB.out))) : w.heap.size ≤ gb133)); have n3_ := Aside0.mk ((by rw [hg]; exact (below_size (by repeat (first | (with_reducible first | exact HB.out | apply below_alloc | apply pw_below_drewN | apply below_drew1) | exact HB.out))) : w.heap.size ≤ gb133)); clear HB; have HB := n0_; have BK133 := n1_; have GW133 := n2_; have GE133 := n3_; clear n0_ n1_ n2_ n3_; clear hb hbox hg) | ((with_reducible refine gate_callee (f := 85) rfl ?_); refine goesL_ (some 8) rfl rfl Try.func85 (by kernel_rfl) rfl #[.string a0] rfl (by (try simp only [List.map_toArray, List.map_cons, List.map_nil]); first | done | rfl | (simp only [List.length_drop, List.length_take]; rfl)) ?_; (with_reducible refine (swarfref41_Parse.calls k a0 t134 t135 t138 t139 t140 _ A2.out).mono ?_); rintro e w4 ⟨v136, rfl, ho0, hb⟩; refine ⟨_, rfl, ?_⟩; have n0_ := Aside0.mk (Kd.R_lower ho0 (below_size (by repeat (first | (with_reducible first | exact HB.out | apply below_alloc | apply pw_below_drewN | apply below_drew1 | refine below_set ?_ GE133.out) | exact HB.out)))); have n1_ := Aside0.mk (blk_below (g := gb133) (o := .cells #[.bool false, .slice none 0 0, .string (⟨#[]⟩ : ByteArray)] 32 (0, 0)) (by (with_reducible repeat (first | refine blk_drewN ?_ _ | refine blk_drew ?_ | refine blk_alloc ?_ _)); exact BK133.out) hb); have n2_ := Aside0.mk (below_step (by repeat (first | (with_reducible first | exact HB.out | apply below_alloc | apply pw_below_drewN | apply below_drew1 | refine below_set ?_ GE133.out) | exact HB.out)) hb); clear BK133; clear HB; have HO137 := n0_; have BK133 := n1_; have HB := n2_; clear n0_ n1_ n2_; (try clear hb); (try clear hb2); (try clear hk); (try clear hi); (try clear ho0)) | ((with_reducible refine gate_dst (N := 3) rfl ?_); refine box_event ?hg (N := 3) ?hd (cs := #[.bool false, .slice none 0 0, .string (⟨#[]⟩ : ByteArray)]) (t := 32) ?hr ?_; (case hd => rfl); (case hg => rfl); (case hr => first | (go_simp; done) | (go_simp; rfl)); intro gb141 hg w5 hbox hb; have n0_ := Aside0.mk (Kd.R_below (by (with_reducible repeat (first | apply Kd.R_alloc | apply Kd.R_drewN | apply Kd.R_drew)); exact HO137.out) hb); have n1_ := Aside0.mk (blk_below (g := gb133) (o := .cells #[.bool false, .slice none 0 0, .string (⟨#[]⟩ : ByteArray)] 32 (0, 0)) (by (with_reducible repeat (first | refine blk_drewN ?_ _ | refine blk_drew ?_ | refine blk_alloc ?_ _)); exact BK133.out) hb); have n2_ := Aside0.mk (below_step (by repeat (first | (with_reducible first | exact HB.out | apply below_alloc | apply pw_below_drewN | apply below_drew1 | refine below_set ?_ GE133.out) | exact HB.out)) hb); have n3_ := Aside0.mk (hbox); have n4_ := Aside0.mk ((by rw [hg]; exact (below_size (by repeat (first | (with_reducible first | exact HB.out | apply below_alloc | apply pw_below_drewN | apply below_drew1 | refine below_set ?_ GE133.out) | exact HB.out))) : w.heap.size ≤ gb141)); have n5_ := Aside0.mk ((by rw [hg]; exact (below_size (by repeat (first | (with_reducible first | exact HB.out | apply below_alloc | apply pw_below_drewN | apply below_drew1 | refine below_set ?_ GE133.out) | exact HB.out))) : w.heap.size ≤ gb141)); have n6_ := Aside0.mk ((by rw [hg]; exact Nat.ne_of_lt (blk_lt (g := gb133) (o := .cells #[.bool false, .slice none 0 0, .string (⟨#[]⟩ : ByteArray)] 32 (0, 0)) (by (with_reducible repeat (first | refine blk_drewN ?_ _ | refine blk_drew ?_ | refine blk_alloc ?_ _)); exact BK133.out)) : gb133 ≠ gb141)); have n7_ := Aside0.mk ((by rw [hg]; exact Nat.ne_of_gt (blk_lt (g := gb133) (o := .cells #[.bool false, .slice none 0 0, .string (⟨#[]⟩ : ByteArray)] 32 (0, 0)) (by (with_reducible repeat (first | refine blk_drewN ?_ _ | refine blk_drew ?_ | refine blk_alloc ?_ _)); exact BK133.out)) : gb141 ≠ gb133)); clear HO137; clear BK133; clear HB; have HO137 := n0_; have BK133 := n1_; have HB := n2_; have BK141 := n3_; have GW141 := n4_; have GE141 := n5_; have NB133_141 := n6_; have NB141_133 := n7_; clear n0_ n1_ n2_ n3_ n4_ n5_ n6_ n7_; clear hb hbox hg; have hnb6 := NB141_133.out; have hnc6 := NB133_141.out; have hcz7_0 : w5.cell? ⟨gb141, 0, none⟩ = some (.bool false) := (blk_cell BK141.out 0).trans rfl; have hcz7_1 : w5.cell? ⟨gb141, 1, none⟩ = some (.slice none 0 0) := (blk_cell BK141.out 1).trans rfl; have hcz7_2 : w5.cell? ⟨gb141, 2, none⟩ = some (.string (⟨#[]⟩ : ByteArray)) := (blk_cell BK141.out 2).trans rfl; have hfz7_0 := blk_frozen BK141.out 0; have hfz7_1 := blk_frozen BK141.out 1; have hfz7_2 := blk_frozen BK141.out 2; obtain ⟨Ao8, co8, eo8⟩ := Kd.R_slice HO137.out; subst eo8; have hcz9_0 : w5.cell? ⟨gb133, 0, none⟩ = some (.bool false) := (blk_cell BK133.out 0).trans rfl; have hcz9_1 : w5.cell? ⟨gb133, 1, none⟩ = some (.slice none 0 0) := (blk_cell BK133.out 1).trans rfl; have hcz9_2 : w5.cell? ⟨gb133, 2, none⟩ = some (.string (⟨#[]⟩ : ByteArray)) := (blk_cell BK133.out 2).trans rfl; have hfz9_0 := blk_frozen BK133.out 0; have hfz9_1 := blk_frozen BK133.out 1; have hfz9_2 := blk_frozen BK133.out 2))
 refine bodyPost_ret (results_cell_row rfl _ _ gb133 32 #[.bool t134, .slice Ao8 t135.length co8, .string t138] (0, 0) _ rfl (by (with_reducible repeat (first | refine blk_drewN ?_ _ | refine blk_drew ?_ | refine blk_alloc ?_ _)); refine blk_put (cs := #[.bool t134, .slice Ao8 t135.length co8, .string (⟨#[]⟩ : ByteArray)]) ?_ 2 _ rfl; (with_reducible repeat (first | refine blk_drewN ?_ _ | refine blk_drew ?_ | refine blk_alloc ?_ _)); refine blk_put (cs := #[.bool t134, .slice none 0 0, .string (⟨#[]⟩ : ByteArray)]) ?_ 1 _ rfl; (with_reducible repeat (first | refine blk_drewN ?_ _ | refine blk_drew ?_ | refine blk_alloc ?_ _)); refine blk_put (cs := #[.bool false, .slice none 0 0, .string (⟨#[]⟩ : ByteArray)]) ?_ 0 _ rfl; (with_reducible repeat (first | refine blk_drewN ?_ _ | refine blk_drew ?_ | refine blk_alloc ?_ _)); refine blk_far ?_ NB133_141.out _; (with_reducible repeat (first | refine blk_drewN ?_ _ | refine blk_drew ?_ | refine blk_alloc ?_ _)); refine blk_far ?_ NB133_141.out _; (with_reducible repeat (first | refine blk_drewN ?_ _ | refine blk_drew ?_ | refine blk_alloc ?_ _)); refine blk_far ?_ NB133_141.out _; (with_reducible repeat (first | refine blk_drewN ?_ _ | refine blk_drew ?_ | refine blk_alloc ?_ _)); exact BK133.out) Try.underlying32 rfl (by kernel_rfl)) rfl ?_
 exact ⟨_, by first | rfl | (simp [errW_none, errW_some] <;> rfl) | (simp [*, errW_none, errW_some] <;> rfl), by (with_reducible repeat (first | apply Kd.R_alloc | apply Kd.R_drewN | apply Kd.R_drew)); exact Kd.R_mono (Kd.R_far (p := ⟨gb133, 2, none⟩) (Kd.R_far (p := ⟨gb133, 1, none⟩) (Kd.R_far (p := ⟨gb133, 0, none⟩) (Kd.R_far (p := ⟨gb141, 2, none⟩) (Kd.R_far (p := ⟨gb141, 1, none⟩) (Kd.R_far (p := ⟨gb141, 0, none⟩) (Kd.R_types (Kd.R_types HO137.out BK141.out (by decide)) BK133.out (by decide)) (fun _ hk => hk.1.2) (.bool t134)) (fun _ hk => hk.1.2) (.slice Ao8 t135.length co8)) (fun _ hk => hk.1.2) (.string t138)) (fun _ hk => hk.2) (.bool t134)) (fun _ hk => hk.2) (.slice Ao8 t135.length co8)) (fun _ hk => hk.2) (.string t138)) (fun _ hk => trivial), by repeat (first | (with_reducible first | exact HB.out | apply below_alloc | apply pw_below_drewN | apply below_drew1 | refine below_set ?_ GE133.out | refine below_set ?_ GE141.out) | exact HB.out)⟩
end Go.Proofs.Ytehkhbnhmehobaa.P
namespace Go.Proofs.Ytehkhbnhmehobaa.P
open Go.RowKit Go.Proofs.YtehkhbnhmehobaaW.PrintWords Go.Proofs.YtehkhbnhmehobaaW.PrintLast Go.Proofs.YtehkhbnhmehobaaW.PrintMore
attribute [local go_sem] max2_int min2_int max_two min_two max_three min_three max_four min_four
set_option linter.unusedVariables false
set_option linter.unusedSimpArgs false
def slices_Index_int64_int64.l0 : Nat → List Int → Int → Int → Int → Option (Int)
 | 0, _, _, _, _ => none
 | k + 1, x0, x1, x7, x8 => if x8 < x7 then (if 0 ≤ x8 then (if x8 < (x0.length : Int) then (if x1 = (rd x0 x8) then (some x8) else (slices_Index_int64_int64.l0 k x0 x1 x7 (wrap64 (x8 + 1)))) else (none)) else (none)) else (some (-1))
def slices_Index_int64_int64.f (k : Nat) (l0 : List Int) (a1 : Int) : Option (Int) := slices_Index_int64_int64.l0 k l0 a1 (l0.length : Int) 0
theorem slices_Index_int64_int64.mono_l : ∀ k, (∀ y0 y1 y2 y3, LeO (slices_Index_int64_int64.l0 k y0 y1 y2 y3) (slices_Index_int64_int64.l0 (k + 1) y0 y1 y2 y3))
 | 0 => fun _ _ _ _ r h => by simp [slices_Index_int64_int64.l0] at h
 | k + 1 => by
  have ih0 := slices_Index_int64_int64.mono_l k
  ·intro y0 y1 y2 y3
   unfold slices_Index_int64_int64.l0
   repeat' first
   | (with_reducible exact ih0 _ _ _ _)
   | (with_reducible exact LeO.refl _)
   | (with_reducible exact LeO.none _)
   | (with_reducible refine LeO.ite ?_ ?_)
   | (with_reducible refine LeO.bind ?_ (fun _ => ?_))
   | exact ih0 _ _ _ _
   | exact LeO.none _
   | refine LeO.ite ?_ ?_
   | refine LeO.bind ?_ (fun _ => ?_)
theorem slices_Index_int64_int64.mono : ∀ a0 a1 k, LeO (slices_Index_int64_int64.f k a0 a1) (slices_Index_int64_int64.f (k + 1) a0 a1) := by
 intro a0 a1 k
 have ih0 := slices_Index_int64_int64.mono_l k
 unfold slices_Index_int64_int64.f
 repeat' first
   | (with_reducible exact ih0 _ _ _ _)
   | (with_reducible exact LeO.refl _)
   | (with_reducible exact LeO.none _)
   | (with_reducible refine LeO.ite ?_ ?_)
   | (with_reducible refine LeO.bind ?_ (fun _ => ?_))
   | exact ih0 _ _ _ _
   | exact LeO.none _
   | refine LeO.ite ?_ ?_
   | refine LeO.bind ?_ (fun _ => ?_)
set_option maxHeartbeats 8000000 in
set_option maxRecDepth 100000 in
theorem slices_Index_int64_int64.calls (k : Nat) (A0 : Option Addr) (c0 : Nat) (l0 : List Int) (a1 : Int) (r : Int) (w : World) (hr0 : Kd.C (Kd.int .i64) w A0 l0.length l0) (hc0 : l0.length ≤ c0) (h : slices_Index_int64_int64.f k l0 a1 = some r) :
  Calls Try.prog 109 #[.slice A0 l0.length c0, .int .i64 a1] w fun e w' => e = .returned (.int .i64 r) ∧ Drawn0 w w' := by
 have HR0 := Aside0.mk hr0
 have HC0 := Aside0.mk hc0
 clear hr0 hc0
 have H : (slices_Index_int64_int64.l0 k l0 a1 (l0.length : Int) 0) = some r := h
 clear h
 have H' := Aside0.mk H
 clear H
 go_enter Try.func109, Try.ntmps109
 go_wp2
 go_loopg [8] k (fun kq v8 w' => ∃ (x8_1 : Int), v8 = .int .i64 x8_1 ∧ Aside0 (slices_Index_int64_int64.l0 kq l0 a1 (l0.length : Int) x8_1 = some r) ∧ Aside0 (kq ≤ k) ∧ Drawn0 w w')
 case atStart => exact ⟨(0), (by first | rfl | (simp; done) | (simp [*]; done)), H', ⟨Nat.le_refl _⟩, by repeat (first | exact Drawn0.refl _ | apply Drawn0.step)⟩
 case round =>
  clear H'
  try clear c1
  try clear p2
  obtain ⟨x8_1, rfl, HA, HK1, ⟨m1, rfl⟩⟩ := hrel
  cases gk with
  | zero => exact absurd HA.out (by simp [slices_Index_int64_int64.l0])
  | succ k1 =>
   have H := HA.out
   clear HA
   simp only [slices_Index_int64_int64.l0] at H
   by_cases c3 : x8_1 < (l0.length : Int)
   ·rw [if_pos c3] at H
    have c3b0 : decide (x8_1 < (l0.length : Int)) = true := decide_eq_true c3
    clear c3
    by_cases c4 : 0 ≤ x8_1
    ·rw [if_pos c4] at H
     have c4b0 : decide (0 ≤ x8_1) = true := decide_eq_true c4
     clear c4
     by_cases c5 : x8_1 < (l0.length : Int)
     ·rw [if_pos c5] at H
      have c5b0 : decide (x8_1 < (l0.length : Int)) = true := decide_eq_true c5
      clear c5
      by_cases c6 : a1 = (rd l0 x8_1)
      ·rw [if_pos c6] at H
       have c6b0 : (a1 == (rd l0 x8_1)) = true := beq_iff_eq.mpr c6
       have c6b1 : (a1 != (rd l0 x8_1)) = false := bne_eq_false_iff_eq.mpr c6
       clear c6
       obtain rfl := Option.some.inj H
       have p359 : 0 ≤ (x8_1 : Int) := of_decide_eq_true (by first | (with_reducible assumption) | assumption)
       have q359 : x8_1 < (l0.length : Int) := of_decide_eq_true (by first | (with_reducible assumption) | assumption)
       obtain ⟨ad359, e359, hx359_0⟩ := Kd.at_int HR0.out x8_1 p359 q359
       cases e359
       replace p359 := eq_true p359
       replace q359 := eq_true q359
       go_wp2
       go_ret
       exact ⟨by first | rfl | (simp; done) | (simp [*]; done), by repeat (first | exact Drawn0.refl _ | apply Drawn0.step)⟩
      ·rw [if_neg c6] at H
       have c6b0 : (a1 == (rd l0 x8_1)) = false := beq_eq_false_iff_ne.mpr c6
       have c6b1 : (a1 != (rd l0 x8_1)) = true := bne_iff_ne.mpr c6
       have H' := Aside0.mk H
       clear H
       have p359 : 0 ≤ (x8_1 : Int) := of_decide_eq_true (by first | (with_reducible assumption) | assumption)
       have q359 : x8_1 < (l0.length : Int) := of_decide_eq_true (by first | (with_reducible assumption) | assumption)
       obtain ⟨ad359, e359, hx359_0⟩ := Kd.at_int HR0.out x8_1 p359 q359
       cases e359
       replace p359 := eq_true p359
       replace q359 := eq_true q359
       go_wp2
       go_roundg k1
       case measure => have := HK1.out; omega
       case rel => exact ⟨(wrap64 (x8_1 + 1)), (by first | rfl | (simp; done) | (simp [*]; done)), H', ⟨by have := HK1.out; omega⟩, by repeat (first | exact Drawn0.refl _ | apply Drawn0.step)⟩
     ·rw [if_neg c5] at H
      exact absurd H (by simp)
    ·rw [if_neg c4] at H
     exact absurd H (by simp)
   ·rw [if_neg c3] at H
    have c3b0 : decide (x8_1 < (l0.length : Int)) = false := decide_eq_false c3
    clear c3
    obtain rfl := Option.some.inj H
    go_wp2
    go_ret
    exact ⟨by first | rfl | (simp; done) | (simp [*]; done), by repeat (first | exact Drawn0.refl _ | apply Drawn0.step)⟩
end Go.Proofs.Ytehkhbnhmehobaa.P
namespace Go.Proofs.Ytehkhbnhmehobaa.P
open Go.RowKit Go.Proofs.YtehkhbnhmehobaaW.PrintWords Go.Proofs.YtehkhbnhmehobaaW.PrintLast Go.Proofs.YtehkhbnhmehobaaW.PrintMore
attribute [local go_sem] max2_int min2_int max_two min_two max_three min_three max_four min_four
set_option linter.unusedVariables false
set_option linter.unusedSimpArgs false
def slices_Contains_int64_int64.f (k : Nat) (l0 : List Int) (a1 : Int) : Option (Bool) := (slices_Index_int64_int64.f k l0 a1).bind fun t360 => (some (decide (t360 ≥ 0)))
theorem slices_Contains_int64_int64.mono : ∀ a0 a1 k, LeO (slices_Contains_int64_int64.f k a0 a1) (slices_Contains_int64_int64.f (k + 1) a0 a1) := by
 intro a0 a1 k
 unfold slices_Contains_int64_int64.f
 repeat' first
   | (with_reducible exact slices_Index_int64_int64.mono _ _ _)
   | (with_reducible exact LeO.refl _)
   | (with_reducible exact LeO.none _)
   | (with_reducible refine LeO.ite ?_ ?_)
   | (with_reducible refine LeO.bind ?_ (fun _ => ?_))
   | exact slices_Index_int64_int64.mono _ _ _
   | exact LeO.none _
   | refine LeO.ite ?_ ?_
   | refine LeO.bind ?_ (fun _ => ?_)
set_option maxHeartbeats 8000000 in
set_option maxRecDepth 100000 in
theorem slices_Contains_int64_int64.calls (k : Nat) (A0 : Option Addr) (c0 : Nat) (l0 : List Int) (a1 : Int) (r : Bool) (w : World) (hr0 : Kd.C (Kd.int .i64) w A0 l0.length l0) (hc0 : l0.length ≤ c0) (h : slices_Contains_int64_int64.f k l0 a1 = some r) :
  Calls Try.prog 92 #[.slice A0 l0.length c0, .int .i64 a1] w fun e w' => e = .returned (.bool r) ∧ Drawn0 w w' := by
 have HR0 := Aside0.mk hr0
 have HC0 := Aside0.mk hc0
 clear hr0 hc0
 have H : ((slices_Index_int64_int64.f k l0 a1).bind fun t360 => (some (decide (t360 ≥ 0)))) = some r := h
 clear h
 replace H := Option.bind_eq_some_iff.mp H
 obtain ⟨t360, A30, H⟩ := H
 replace H : (some (decide (t360 ≥ 0))) = some r := H
 have A3 := Aside0.mk A30
 clear A30
 obtain rfl := Option.some.inj H
 go_enter Try.func92, Try.ntmps92
 go_wp2_with (first | ((with_reducible refine gate_callee (f := 109) rfl ?_); refine goesL_ (some 7) rfl rfl Try.func109 (by kernel_rfl) rfl #[.slice A0 l0.length c0, .int .i64 a1] rfl (by (try simp only [List.map_toArray, List.map_cons, List.map_nil]); first | done | rfl | (simp only [List.length_drop, List.length_take]; rfl)) ?_; (with_reducible refine (slices_Index_int64_int64.calls k _ _ l0 a1 t360 _ ?side1 ?side2 A3.out).mono ?_); (case side1 => repeat (first | exact HR0.out | (with_reducible refine Kd.C_alloc ?_ _) | (with_reducible refine Kd.C_drewN ?_ _) | (with_reducible refine Kd.C_drew ?_))); (case side2 => exact HC0.out); rintro e w' ⟨rfl, ⟨nd, rfl⟩⟩; refine ⟨_, rfl, ?_⟩))
 go_ret
 exact ⟨by first | rfl | (simp; done) | (simp [*]; done), by repeat (first | exact Drawn0.refl _ | apply Drawn0.step)⟩
end Go.Proofs.Ytehkhbnhmehobaa.P
namespace Go.Proofs.Ytehkhbnhmehobaa.P
open Go.RowKit Go.Proofs.YtehkhbnhmehobaaW.PrintWords Go.Proofs.YtehkhbnhmehobaaW.PrintLast Go.Proofs.YtehkhbnhmehobaaW.PrintMore
attribute [local go_sem] max2_int min2_int max_two min_two max_three min_three max_four min_four
set_option linter.unusedVariables false
set_option linter.unusedSimpArgs false
def block_Codes.l0 : Nat → Int → List Int → List (S78) → Int → Int → Option (List Int)
 | 0, _, _, _, _, _ => none
 | k + 1, x1, x5, x9, x10, x11 => if x11 < x10 then (if 0 ≤ x11 then (if x11 < (x9.length : Int) then (if ((rd_T78 x9 x11).f0) = x1 then (if x5.length < 17592186044416 then (block_Codes.l0 k x1 (x5 ++ [(rd_T78 x9 x11).f1]) x9 x10 (wrap64 (x11 + 1))) else (none)) else (block_Codes.l0 k x1 x5 x9 x10 (wrap64 (x11 + 1)))) else (none)) else (none)) else (some x5)
def block_Codes.f (k : Nat) (a0_0 : Bool) (l0_1 : List (S78)) (a0_2 : ByteArray) (a1 : Int) : Option (List Int) := block_Codes.l0 k a1 ([] : List Int) l0_1 (l0_1.length : Int) 0
theorem block_Codes.mono_l : ∀ k, (∀ y0 y1 y2 y3 y4, LeO (block_Codes.l0 k y0 y1 y2 y3 y4) (block_Codes.l0 (k + 1) y0 y1 y2 y3 y4))
 | 0 => fun _ _ _ _ _ r h => by simp [block_Codes.l0] at h
 | k + 1 => by
  have ih0 := block_Codes.mono_l k
  ·intro y0 y1 y2 y3 y4
   unfold block_Codes.l0
   repeat' first
   | (with_reducible exact ih0 _ _ _ _ _)
   | (with_reducible exact LeO.refl _)
   | (with_reducible exact LeO.none _)
   | (with_reducible refine LeO.ite ?_ ?_)
   | (with_reducible refine LeO.bind ?_ (fun _ => ?_))
   | exact ih0 _ _ _ _ _
   | exact LeO.none _
   | refine LeO.ite ?_ ?_
   | refine LeO.bind ?_ (fun _ => ?_)
theorem block_Codes.mono : ∀ a0 a1 a2 a3 k, LeO (block_Codes.f k a0 a1 a2 a3) (block_Codes.f (k + 1) a0 a1 a2 a3) := by
 intro a0 a1 a2 a3 k
 have ih0 := block_Codes.mono_l k
 unfold block_Codes.f
 repeat' first
   | (with_reducible exact ih0 _ _ _ _ _)
   | (with_reducible exact LeO.refl _)
   | (with_reducible exact LeO.none _)
   | (with_reducible refine LeO.ite ?_ ?_)
   | (with_reducible refine LeO.bind ?_ (fun _ => ?_))
   | exact ih0 _ _ _ _ _
   | exact LeO.none _
   | refine LeO.ite ?_ ?_
   | refine LeO.bind ?_ (fun _ => ?_)
set_option maxHeartbeats 8000000 in
set_option maxRecDepth 100000 in
theorem block_Codes.calls (k : Nat) (a0_0 : Bool) (A0_1 : Option Addr) (c0_1 : Nat) (l0_1 : List (S78)) (a0_2 : ByteArray) (a1 : Int) (r : List Int) (w : World) (hr0_1 : Kd.C k78 w A0_1 l0_1.length l0_1) (hc0_1 : l0_1.length ≤ c0_1) (h : block_Codes.f k a0_0 l0_1 a0_2 a1 = some r) :
  Calls Try.prog 93 #[.agg #[.bool a0_0, .slice A0_1 l0_1.length c0_1, .string a0_2], .int .u8 a1] w fun e w' => ∃ v0_ : Value, e = .returned (v0_) ∧ Kd.R (Kd.int .i64) 2 w' w.heap.size (fun _ => True) v0_ r ∧ Below w.heap.size w w' := by
 have hu32 := Try.underlying32
 have hu78 := Try.underlying78
 have HR0_1 := Aside0.mk hr0_1
 have HC0_1 := Aside0.mk hc0_1
 clear hr0_1 hc0_1
 have HB := Aside0.mk (Below.refl w.heap.size w)
 have H : (block_Codes.l0 k a1 ([] : List Int) l0_1 (l0_1.length : Int) 0) = some r := h
 clear h
 have H' := Aside0.mk H
 clear H
 go_enter Try.func93, Try.ntmps93
 go_wp2_with (first | ((with_reducible refine gate_dst (N := 2) rfl ?_); refine box_event ?hg (N := 2) ?hd (cs := #[.bool a0_0, .slice A0_1 l0_1.length c0_1, .string a0_2]) (t := 32) ?hr ?_; (case hd => rfl); (case hg => rfl); (case hr => first | (go_simp; done) | (go_simp; rfl)); intro gb361 hg w3 hbox hb; have n0_ := Aside0.mk (below_step (by repeat (first | (with_reducible first | exact HB.out | apply below_alloc | apply pw_below_drewN | apply below_drew1) | exact HB.out)) hb); have n1_ := Aside0.mk (hbox); have n2_ := Aside0.mk ((by rw [hg]; exact (below_size (by repeat (first | (with_reducible first | exact HB.out | apply below_alloc | apply pw_below_drewN | apply below_drew1) | exact HB.out))) : w.heap.size ≤ gb361)); have n3_ := Aside0.mk ((by rw [hg]; exact (below_size (by repeat (first | (with_reducible first | exact HB.out | apply below_alloc | apply pw_below_drewN | apply below_drew1) | exact HB.out))) : w.heap.size ≤ gb361)); clear HB; have HB := n0_; have BK361 := n1_; have GW361 := n2_; have GE361 := n3_; clear n0_ n1_ n2_ n3_; clear hb hbox hg; have hcz4_0 : w3.cell? ⟨gb361, 0, none⟩ = some (.bool a0_0) := (blk_cell BK361.out 0).trans rfl; have hcz4_1 : w3.cell? ⟨gb361, 1, none⟩ = some (.slice A0_1 l0_1.length c0_1) := (blk_cell BK361.out 1).trans rfl; have hcz4_2 : w3.cell? ⟨gb361, 2, none⟩ = some (.string a0_2) := (blk_cell BK361.out 2).trans rfl; have hfz4_0 := blk_frozen BK361.out 0; have hfz4_1 := blk_frozen BK361.out 1; have hfz4_2 := blk_frozen BK361.out 2))
 go_loopg [5, 11] k (fun kq v5 v11 w' => ∃ (x5_1 : List Int) (x11_1 : Int), v11 = .int .i64 x11_1 ∧ Aside0 (block_Codes.l0 kq a1 x5_1 l0_1 (l0_1.length : Int) x11_1 = some r) ∧ Aside0 (kq ≤ k) ∧ Aside0 (Kd.R (Kd.int .i64) 2 w' w.heap.size (fun _ => True) v5 x5_1) ∧ Aside0 (w'.heap[gb361]? = some (.cells #[.bool a0_0, (.slice A0_1 l0_1.length c0_1), .string a0_2] 32 (0, 0))) ∧ Aside0 (Below w.heap.size w w'))
 case atStart => exact ⟨(([] : List Int)), (0), (by first | rfl | (simp; done) | (simp [*]; done)), H', ⟨Nat.le_refl _⟩, ⟨by first | exact Kd.R_nil _ _ _ _ _ | exact Kd.N_nil _ _ _ _ _ | exact Kd.V_nil _ _ _ _ _ | exact Kd.Q_nil _ _ _ _ _ | exact Kd.S_nil _ _ _ _ _⟩, ⟨by (with_reducible repeat (first | refine blk_drewN ?_ _ | refine blk_drew ?_ | refine blk_alloc ?_ _)); exact BK361.out⟩, ⟨by repeat (first | (with_reducible first | exact HB.out | apply below_alloc | apply pw_below_drewN | apply below_drew1 | refine below_set ?_ GE361.out) | exact HB.out)⟩⟩
 case round =>
  clear H'
  try clear p2
  try clear hcz4_0
  try clear hcz4_1
  try clear hcz4_2
  try clear hfz4_0
  try clear hfz4_1
  try clear hfz4_2
  obtain ⟨x5_1, x11_1, rfl, HA, HK1, HO_5, BK361, HB⟩ := hrel
  cases gk with
  | zero => exact absurd HA.out (by simp [block_Codes.l0])
  | succ k1 =>
   have H := HA.out
   clear HA
   simp only [block_Codes.l0] at H
   by_cases c5 : x11_1 < (l0_1.length : Int)
   ·rw [if_pos c5] at H
    have c5b0 : decide (x11_1 < (l0_1.length : Int)) = true := decide_eq_true c5
    clear c5
    by_cases c6 : 0 ≤ x11_1
    ·rw [if_pos c6] at H
     have c6b0 : decide (0 ≤ x11_1) = true := decide_eq_true c6
     clear c6
     by_cases c7 : x11_1 < (l0_1.length : Int)
     ·rw [if_pos c7] at H
      have c7b0 : decide (x11_1 < (l0_1.length : Int)) = true := decide_eq_true c7
      clear c7
      by_cases c8 : ((rd_T78 l0_1 x11_1).f0) = a1
      ·rw [if_pos c8] at H
       have c8b0 : (((rd_T78 l0_1 x11_1).f0) == a1) = true := beq_iff_eq.mpr c8
       have c8b1 : (((rd_T78 l0_1 x11_1).f0) != a1) = false := bne_eq_false_iff_eq.mpr c8
       clear c8
       by_cases c9 : x5_1.length < 17592186044416
       ·rw [if_pos c9] at H
        have LMc9 := Aside0.mk c9
        clear c9
        obtain ⟨y364, hy364⟩ : ∃ y_ : List Int, y_ = (x5_1 ++ [(rd_T78 l0_1 x11_1).f1]) := ⟨_, rfl⟩
        replace H : (block_Codes.l0 k1 a1 y364 l0_1 (l0_1.length : Int) (wrap64 (x11_1 + 1))) = some r := by first | (rw [hy364]; with_reducible exact H) | (have H2_ := (Option.bind_some _ _).symm.trans H; rw [hy364]; with_reducible exact H2_) | (have H2_ := (Option.bind_some _ _).symm.trans H; with_reducible exact H2_) | with_reducible exact H | (rw [hy364]; exact H) | exact H
        have Ny364 := Aside0.mk hy364
        clear hy364
        have H' := Aside0.mk H
        clear H
        have p362 : 0 ≤ (x11_1 : Int) := of_decide_eq_true (by first | (with_reducible assumption) | assumption)
        have q362 : x11_1 < (l0_1.length : Int) := of_decide_eq_true (by first | (with_reducible assumption) | assumption)
        obtain ⟨ad362, e362, hx362_0, hx362_1⟩ := at_T78 HR0_1.out x11_1 p362 q362
        cases e362
        replace hx362_0 := (HB.out.cell (World.block_lt_of_cell? w _ hx362_0)).trans hx362_0
        replace hx362_1 := (HB.out.cell (World.block_lt_of_cell? w _ hx362_1)).trans hx362_1
        replace p362 := eq_true p362
        replace q362 := eq_true q362
        go_wp2_with (first | ((with_reducible refine gate_dst (N := 7) rfl ?_); refine box_event ?hg (N := 7) ?hd (cs := #[.int .u8 0, .int .i64 0]) (t := 78) ?hr ?_; (case hd => rfl); (case hg => rfl); (case hr => first | (go_simp; done) | (go_simp; rfl)); intro gb363 hg w10 hbox hb; have n0_ := Aside0.mk (Kd.R_below (by (with_reducible repeat (first | apply Kd.R_alloc | apply Kd.R_drewN | apply Kd.R_drew)); exact HO_5.out) hb); have n1_ := Aside0.mk (blk_below (g := gb361) (o := .cells #[.bool a0_0, .slice (some ad362) l0_1.length c0_1, .string a0_2] 32 (0, 0)) (by (with_reducible repeat (first | refine blk_drewN ?_ _ | refine blk_drew ?_ | refine blk_alloc ?_ _)); exact BK361.out) hb); have n2_ := Aside0.mk (below_step (by repeat (first | (with_reducible first | exact HB.out | apply below_alloc | apply pw_below_drewN | apply below_drew1 | refine below_set ?_ GE361.out) | exact HB.out)) hb); have n3_ := Aside0.mk (hbox); have n4_ := Aside0.mk ((by rw [hg]; exact (below_size (by repeat (first | (with_reducible first | exact HB.out | apply below_alloc | apply pw_below_drewN | apply below_drew1 | refine below_set ?_ GE361.out) | exact HB.out))) : w.heap.size ≤ gb363)); have n5_ := Aside0.mk ((by rw [hg]; exact (below_size (by repeat (first | (with_reducible first | exact HB.out | apply below_alloc | apply pw_below_drewN | apply below_drew1 | refine below_set ?_ GE361.out) | exact HB.out))) : w.heap.size ≤ gb363)); have n6_ := Aside0.mk ((by rw [hg]; exact Nat.ne_of_lt (blk_lt (g := gb361) (o := .cells #[.bool a0_0, .slice (some ad362) l0_1.length c0_1, .string a0_2] 32 (0, 0)) (by (with_reducible repeat (first | refine blk_drewN ?_ _ | refine blk_drew ?_ | refine blk_alloc ?_ _)); exact BK361.out)) : gb361 ≠ gb363)); have n7_ := Aside0.mk ((by rw [hg]; exact Nat.ne_of_gt (blk_lt (g := gb361) (o := .cells #[.bool a0_0, .slice (some ad362) l0_1.length c0_1, .string a0_2] 32 (0, 0)) (by (with_reducible repeat (first | refine blk_drewN ?_ _ | refine blk_drew ?_ | refine blk_alloc ?_ _)); exact BK361.out)) : gb363 ≠ gb361)); clear HO_5; clear BK361; clear HB; have HO_5 := n0_; have BK361 := n1_; have HB := n2_; have BK363 := n3_; have GW363 := n4_; have GE363 := n5_; have NB361_363 := n6_; have NB363_361 := n7_; clear n0_ n1_ n2_ n3_ n4_ n5_ n6_ n7_; clear hb hbox hg; have hnb11 := NB363_361.out; have hnc11 := NB361_363.out; have hcz12_0 : w10.cell? ⟨gb363, 0, none⟩ = some (.int .u8 0) := (blk_cell BK363.out 0).trans rfl; have hcz12_1 : w10.cell? ⟨gb363, 1, none⟩ = some (.int .i64 0) := (blk_cell BK363.out 1).trans rfl; have hfz12_0 := blk_frozen BK363.out 0; have hfz12_1 := blk_frozen BK363.out 1) | ((with_reducible refine gate_builtin (b := .append) (xs := #[.tmp 19, .tmp 22]) rfl ?_); at_builtin; refine Kd.R_append (Kd.int .i64) (w0 := w) w.heap.size rfl (.tmp 19) (.tmp 22) 91 2 (.int .i64 0) 8 rfl Try.underlying91 info2 rfl (by decide) (by omega) u5 x5_1 ((rd_T78 l0_1 x11_1).f1) [.int .i64 ((rd_T78 l0_1 x11_1).f1)] (fun _ => True) (fun _ => False) rfl (by first | (go_simp; done) | (go_simp; rfl)) ?aP (fun _ hk => hk.elim) ?aF ?aO ?aB ?aS ?aL ?_; (case aP => exact rfl); (case aB => exact (by repeat (first | (with_reducible first | exact HB.out | apply below_alloc | apply pw_below_drewN | apply below_drew1 | refine below_set ?_ GE361.out | refine below_set ?_ GE363.out) | exact HB.out))); (case aF => exact (fun _ _ => trivial)); (case aO => exact (by (with_reducible repeat (first | apply Kd.R_alloc | apply Kd.R_drewN | apply Kd.R_drew)); exact Kd.R_mono (Kd.R_far (p := ⟨gb363, 1, none⟩) (Kd.R_far (p := ⟨gb363, 0, none⟩) (Kd.R_types HO_5.out BK363.out (by decide)) (fun _ hk => hk.2) (.int .u8 ((rd_T78 l0_1 x11_1).f0))) (fun _ hk => hk.2) (.int .i64 ((rd_T78 l0_1 x11_1).f1))) (fun _ hk => trivial))); (case aS => exact (below_size (by repeat (first | (with_reducible first | exact HB.out | apply below_alloc | apply pw_below_drewN | apply below_drew1 | refine below_set ?_ GE361.out | refine below_set ?_ GE363.out) | exact HB.out)))); (case aL => have := LMc9.out; omega); intro v365 w13 ho hb hg hat; rw [← Ny364.out] at ho; have n0_ := Aside0.mk (blk_grown (g := gb361) (o := .cells #[.bool a0_0, .slice (some ad362) l0_1.length c0_1, .string a0_2] 32 (0, 0)) (by (with_reducible repeat (first | refine blk_drewN ?_ _ | refine blk_drew ?_ | refine blk_alloc ?_ _)); refine blk_far ?_ NB361_363.out _; (with_reducible repeat (first | refine blk_drewN ?_ _ | refine blk_drew ?_ | refine blk_alloc ?_ _)); refine blk_far ?_ NB361_363.out _; (with_reducible repeat (first | refine blk_drewN ?_ _ | refine blk_drew ?_ | refine blk_alloc ?_ _)); exact BK361.out) hg (Kd.R_ne HO_5.out BK361.out (by decide))); have n1_ := Aside0.mk (blk_grown (g := gb363) (o := .cells #[.int .u8 ((rd_T78 l0_1 x11_1).f0), .int .i64 ((rd_T78 l0_1 x11_1).f1)] 78 (0, 0)) (by (with_reducible repeat (first | refine blk_drewN ?_ _ | refine blk_drew ?_ | refine blk_alloc ?_ _)); refine blk_put (cs := #[.int .u8 ((rd_T78 l0_1 x11_1).f0), .int .i64 0]) ?_ 1 _ rfl; (with_reducible repeat (first | refine blk_drewN ?_ _ | refine blk_drew ?_ | refine blk_alloc ?_ _)); refine blk_put (cs := #[.int .u8 0, .int .i64 0]) ?_ 0 _ rfl; (with_reducible repeat (first | refine blk_drewN ?_ _ | refine blk_drew ?_ | refine blk_alloc ?_ _)); exact BK363.out) hg (Kd.R_ne HO_5.out BK363.out (by decide))); have n2_ := Aside0.mk (hb); have n3_ := Aside0.mk (ho); clear BK361; clear BK363; clear HB; clear HO_5; have BK361 := n0_; have BK363 := n1_; have HB := n2_; have HO366 := n3_; clear n0_ n1_ n2_ n3_; clear ho hb hg hat))
        go_roundg k1
        case measure => have := HK1.out; omega
        case rel => exact ⟨(y364), (wrap64 (x11_1 + 1)), (by first | rfl | (simp; done) | (simp [*]; done)), H', ⟨by have := HK1.out; omega⟩, ⟨by (with_reducible repeat (first | apply Kd.R_alloc | apply Kd.R_drewN | apply Kd.R_drew)); exact HO366.out⟩, ⟨by (with_reducible repeat (first | refine blk_drewN ?_ _ | refine blk_drew ?_ | refine blk_alloc ?_ _)); exact BK361.out⟩, ⟨by repeat (first | (with_reducible first | exact HB.out | apply below_alloc | apply pw_below_drewN | apply below_drew1 | refine below_set ?_ GE361.out | refine below_set ?_ GE363.out) | exact HB.out)⟩⟩
       ·rw [if_neg c9] at H
        exact absurd H (by simp)
      ·rw [if_neg c8] at H
       have c8b0 : (((rd_T78 l0_1 x11_1).f0) == a1) = false := beq_eq_false_iff_ne.mpr c8
       have c8b1 : (((rd_T78 l0_1 x11_1).f0) != a1) = true := bne_iff_ne.mpr c8
       have H' := Aside0.mk H
       clear H
       have p362 : 0 ≤ (x11_1 : Int) := of_decide_eq_true (by first | (with_reducible assumption) | assumption)
       have q362 : x11_1 < (l0_1.length : Int) := of_decide_eq_true (by first | (with_reducible assumption) | assumption)
       obtain ⟨ad362, e362, hx362_0, hx362_1⟩ := at_T78 HR0_1.out x11_1 p362 q362
       cases e362
       replace hx362_0 := (HB.out.cell (World.block_lt_of_cell? w _ hx362_0)).trans hx362_0
       replace hx362_1 := (HB.out.cell (World.block_lt_of_cell? w _ hx362_1)).trans hx362_1
       replace p362 := eq_true p362
       replace q362 := eq_true q362
       go_wp2_with (first | ((with_reducible refine gate_dst (N := 7) rfl ?_); refine box_event ?hg (N := 7) ?hd (cs := #[.int .u8 0, .int .i64 0]) (t := 78) ?hr ?_; (case hd => rfl); (case hg => rfl); (case hr => first | (go_simp; done) | (go_simp; rfl)); intro gb363 hg w14 hbox hb; have n0_ := Aside0.mk (Kd.R_below (by (with_reducible repeat (first | apply Kd.R_alloc | apply Kd.R_drewN | apply Kd.R_drew)); exact HO_5.out) hb); have n1_ := Aside0.mk (blk_below (g := gb361) (o := .cells #[.bool a0_0, .slice (some ad362) l0_1.length c0_1, .string a0_2] 32 (0, 0)) (by (with_reducible repeat (first | refine blk_drewN ?_ _ | refine blk_drew ?_ | refine blk_alloc ?_ _)); exact BK361.out) hb); have n2_ := Aside0.mk (below_step (by repeat (first | (with_reducible first | exact HB.out | apply below_alloc | apply pw_below_drewN | apply below_drew1 | refine below_set ?_ GE361.out) | exact HB.out)) hb); have n3_ := Aside0.mk (hbox); have n4_ := Aside0.mk ((by rw [hg]; exact (below_size (by repeat (first | (with_reducible first | exact HB.out | apply below_alloc | apply pw_below_drewN | apply below_drew1 | refine below_set ?_ GE361.out) | exact HB.out))) : w.heap.size ≤ gb363)); have n5_ := Aside0.mk ((by rw [hg]; exact (below_size (by repeat (first | (with_reducible first | exact HB.out | apply below_alloc | apply pw_below_drewN | apply below_drew1 | refine below_set ?_ GE361.out) | exact HB.out))) : w.heap.size ≤ gb363)); have n6_ := Aside0.mk ((by rw [hg]; exact Nat.ne_of_lt (blk_lt (g := gb361) (o := .cells #[.bool a0_0, .slice (some ad362) l0_1.length c0_1, .string a0_2] 32 (0, 0)) (by (with_reducible repeat (first | refine blk_drewN ?_ _ | refine blk_drew ?_ | refine blk_alloc ?_ _)); exact BK361.out)) : gb361 ≠ gb363)); have n7_ := Aside0.mk ((by rw [hg]; exact Nat.ne_of_gt (blk_lt (g := gb361) (o := .cells #[.bool a0_0, .slice (some ad362) l0_1.length c0_1, .string a0_2] 32 (0, 0)) (by (with_reducible repeat (first | refine blk_drewN ?_ _ | refine blk_drew ?_ | refine blk_alloc ?_ _)); exact BK361.out)) : gb363 ≠ gb361)); clear HO_5; clear BK361; clear HB; have HO_5 := n0_; have BK361 := n1_; have HB := n2_; have BK363 := n3_; have GW363 := n4_; have GE363 := n5_; have NB361_363 := n6_; have NB363_361 := n7_; clear n0_ n1_ n2_ n3_ n4_ n5_ n6_ n7_; clear hb hbox hg; have hnb15 := NB363_361.out; have hnc15 := NB361_363.out; have hcz16_0 : w14.cell? ⟨gb363, 0, none⟩ = some (.int .u8 0) := (blk_cell BK363.out 0).trans rfl; have hcz16_1 : w14.cell? ⟨gb363, 1, none⟩ = some (.int .i64 0) := (blk_cell BK363.out 1).trans rfl; have hfz16_0 := blk_frozen BK363.out 0; have hfz16_1 := blk_frozen BK363.out 1))
       go_roundg k1
       case measure => have := HK1.out; omega
       case rel => exact ⟨(x5_1), (wrap64 (x11_1 + 1)), (by first | rfl | (simp; done) | (simp [*]; done)), H', ⟨by have := HK1.out; omega⟩, ⟨by (with_reducible repeat (first | apply Kd.R_alloc | apply Kd.R_drewN | apply Kd.R_drew)); exact Kd.R_mono (Kd.R_far (p := ⟨gb363, 1, none⟩) (Kd.R_far (p := ⟨gb363, 0, none⟩) (Kd.R_types HO_5.out BK363.out (by decide)) (fun _ hk => hk.2) (.int .u8 ((rd_T78 l0_1 x11_1).f0))) (fun _ hk => hk.2) (.int .i64 ((rd_T78 l0_1 x11_1).f1))) (fun _ hk => trivial)⟩, ⟨by (with_reducible repeat (first | refine blk_drewN ?_ _ | refine blk_drew ?_ | refine blk_alloc ?_ _)); refine blk_far ?_ NB361_363.out _; (with_reducible repeat (first | refine blk_drewN ?_ _ | refine blk_drew ?_ | refine blk_alloc ?_ _)); refine blk_far ?_ NB361_363.out _; (with_reducible repeat (first | refine blk_drewN ?_ _ | refine blk_drew ?_ | refine blk_alloc ?_ _)); exact BK361.out⟩, ⟨by repeat (first | (with_reducible first | exact HB.out | apply below_alloc | apply pw_below_drewN | apply below_drew1 | refine below_set ?_ GE361.out | refine below_set ?_ GE363.out) | exact HB.out)⟩⟩
     ·rw [if_neg c7] at H
      exact absurd H (by simp)
    ·rw [if_neg c6] at H
     exact absurd H (by simp)
   ·rw [if_neg c5] at H
    have c5b0 : decide (x11_1 < (l0_1.length : Int)) = false := decide_eq_false c5
    clear c5
    obtain rfl := Option.some.inj H
    go_wp2
    go_ret
    exact ⟨_, by first | rfl | (simp [errW_none, errW_some] <;> rfl) | (simp [*, errW_none, errW_some] <;> rfl), by (with_reducible repeat (first | apply Kd.R_alloc | apply Kd.R_drewN | apply Kd.R_drew)); exact HO_5.out, by repeat (first | (with_reducible first | exact HB.out | apply below_alloc | apply pw_below_drewN | apply below_drew1 | refine below_set ?_ GE361.out) | exact HB.out)⟩
end Go.Proofs.Ytehkhbnhmehobaa.P
namespace Go.Proofs.Ytehkhbnhmehobaa.P
open Go.RowKit Go.Proofs.YtehkhbnhmehobaaW.PrintWords Go.Proofs.YtehkhbnhmehobaaW.PrintLast Go.Proofs.YtehkhbnhmehobaaW.PrintMore
attribute [local go_sem] max2_int min2_int max_two min_two max_three min_three max_four min_four
set_option linter.unusedVariables false
set_option linter.unusedSimpArgs false
def subprogram_has.f (k : Nat) (a0_0 : Bool) (l0_1 : List (S78)) (a0_2 : ByteArray) (a1 : Int) (a2 : Int) : Option (Bool) := (block_Codes.f k a0_0 l0_1 a0_2 a1).bind fun t368 => ((slices_Contains_int64_int64.f k t368 a2).bind fun t371 => (some t371))
theorem subprogram_has.mono : ∀ a0 a1 a2 a3 a4 k, LeO (subprogram_has.f k a0 a1 a2 a3 a4) (subprogram_has.f (k + 1) a0 a1 a2 a3 a4) := by
 intro a0 a1 a2 a3 a4 k
 unfold subprogram_has.f
 repeat' first
   | (with_reducible exact block_Codes.mono _ _ _ _ _)
   | (with_reducible exact slices_Contains_int64_int64.mono _ _ _)
   | (with_reducible exact LeO.refl _)
   | (with_reducible exact LeO.none _)
   | (with_reducible refine LeO.ite ?_ ?_)
   | (with_reducible refine LeO.bind ?_ (fun _ => ?_))
   | exact block_Codes.mono _ _ _ _ _
   | exact slices_Contains_int64_int64.mono _ _ _
   | exact LeO.none _
   | refine LeO.ite ?_ ?_
   | refine LeO.bind ?_ (fun _ => ?_)
set_option maxHeartbeats 8000000 in
set_option maxRecDepth 100000 in
theorem subprogram_has.calls (k : Nat) (a0_0 : Bool) (A0_1 : Option Addr) (c0_1 : Nat) (l0_1 : List (S78)) (a0_2 : ByteArray) (a1 : Int) (a2 : Int) (r : Bool) (w : World) (hr0_1 : Kd.C k78 w A0_1 l0_1.length l0_1) (hc0_1 : l0_1.length ≤ c0_1) (h : subprogram_has.f k a0_0 l0_1 a0_2 a1 a2 = some r) :
  Calls Try.prog 58 #[.agg #[.bool a0_0, .slice A0_1 l0_1.length c0_1, .string a0_2], .int .u8 a1, .int .i64 a2] w fun e w' => e = .returned (.bool r) ∧ Below w.heap.size w w' := by
 have hu32 := Try.underlying32
 have HR0_1 := Aside0.mk hr0_1
 have HC0_1 := Aside0.mk hc0_1
 clear hr0_1 hc0_1
 have HB := Aside0.mk (Below.refl w.heap.size w)
 have H : ((block_Codes.f k a0_0 l0_1 a0_2 a1).bind fun t368 => ((slices_Contains_int64_int64.f k t368 a2).bind fun t371 => (some t371))) = some r := h
 clear h
 replace H := Option.bind_eq_some_iff.mp H
 obtain ⟨t368, A40, H⟩ := H
 replace H : ((slices_Contains_int64_int64.f k t368 a2).bind fun t371 => (some t371)) = some r := H
 have A4 := Aside0.mk A40
 clear A40
 replace H := Option.bind_eq_some_iff.mp H
 obtain ⟨t371, A50, H⟩ := H
 replace H : (some t371) = some r := H
 have A5 := Aside0.mk A50
 clear A50
 obtain rfl := Option.some.inj H
 go_enter Try.func58, Try.ntmps58
 go_wp2_with (first | ((with_reducible refine gate_dst (N := 3) rfl ?_); refine box_event ?hg (N := 3) ?hd (cs := #[.bool a0_0, .slice A0_1 l0_1.length c0_1, .string a0_2]) (t := 32) ?hr ?_; (case hd => rfl); (case hg => rfl); (case hr => first | (go_simp; done) | (go_simp; rfl)); intro gb367 hg w6 hbox hb; have n0_ := Aside0.mk (below_step (by repeat (first | (with_reducible first | exact HB.out | apply below_alloc | apply pw_below_drewN | apply below_drew1) | exact HB.out)) hb); have n1_ := Aside0.mk (hbox); have n2_ := Aside0.mk ((by rw [hg]; exact (below_size (by repeat (first | (with_reducible first | exact HB.out | apply below_alloc | apply pw_below_drewN | apply below_drew1) | exact HB.out))) : w.heap.size ≤ gb367)); have n3_ := Aside0.mk ((by rw [hg]; exact (below_size (by repeat (first | (with_reducible first | exact HB.out | apply below_alloc | apply pw_below_drewN | apply below_drew1) | exact HB.out))) : w.heap.size ≤ gb367)); clear HB; have HB := n0_; have BK367 := n1_; have GW367 := n2_; have GE367 := n3_; clear n0_ n1_ n2_ n3_; clear hb hbox hg; have hcz7_0 : w6.cell? ⟨gb367, 0, none⟩ = some (.bool a0_0) := (blk_cell BK367.out 0).trans rfl; have hcz7_1 : w6.cell? ⟨gb367, 1, none⟩ = some (.slice A0_1 l0_1.length c0_1) := (blk_cell BK367.out 1).trans rfl; have hcz7_2 : w6.cell? ⟨gb367, 2, none⟩ = some (.string a0_2) := (blk_cell BK367.out 2).trans rfl; have hfz7_0 := blk_frozen BK367.out 0; have hfz7_1 := blk_frozen BK367.out 1; have hfz7_2 := blk_frozen BK367.out 2) | ((with_reducible refine gate_callee (f := 93) rfl ?_); refine goesL_ (some 9) rfl rfl Try.func93 (by kernel_rfl) rfl #[.agg #[.bool a0_0, .slice A0_1 l0_1.length c0_1, .string a0_2], .int .u8 a1] rfl (by (try simp only [List.map_toArray, List.map_cons, List.map_nil]); first | done | rfl | (simp only [List.length_drop, List.length_take]; rfl)) ?_; (with_reducible refine (block_Codes.calls k a0_0 _ _ l0_1 a0_2 a1 t368 _ ?side1 ?side2 A4.out).mono ?_); (case side1 => repeat (first | exact (Kd.C_below HR0_1.out HB.out) | (with_reducible refine Kd.C_alloc ?_ _) | (with_reducible refine Kd.C_drewN ?_ _) | (with_reducible refine Kd.C_drew ?_))); (case side2 => exact HC0_1.out); rintro e w8 ⟨v369, rfl, ho0, hb⟩; refine ⟨_, rfl, ?_⟩; have n0_ := Aside0.mk (Kd.R_lower ho0 (below_size (by repeat (first | (with_reducible first | exact HB.out | apply below_alloc | apply pw_below_drewN | apply below_drew1 | refine below_set ?_ GE367.out) | exact HB.out)))); have n1_ := Aside0.mk (blk_below (g := gb367) (o := .cells #[.bool a0_0, .slice A0_1 l0_1.length c0_1, .string a0_2] 32 (0, 0)) (by (with_reducible repeat (first | refine blk_drewN ?_ _ | refine blk_drew ?_ | refine blk_alloc ?_ _)); exact BK367.out) hb); have n2_ := Aside0.mk (below_step (by repeat (first | (with_reducible first | exact HB.out | apply below_alloc | apply pw_below_drewN | apply below_drew1 | refine below_set ?_ GE367.out) | exact HB.out)) hb); clear BK367; clear HB; have HO370 := n0_; have BK367 := n1_; have HB := n2_; clear n0_ n1_ n2_; (try clear hb); (try clear hb2); (try clear hk); (try clear hi); (try clear ho0); obtain ⟨Ao9, co9, eo9⟩ := Kd.R_slice HO370.out; subst eo9) | ((with_reducible refine gate_callee (f := 92) rfl ?_); refine goesL_ (some 11) rfl rfl Try.func92 (by kernel_rfl) rfl #[.slice Ao9 t368.length co9, .int .i64 a2] rfl (by (try simp only [List.map_toArray, List.map_cons, List.map_nil]); first | done | rfl | (simp only [List.length_drop, List.length_take]; rfl)) ?_; (with_reducible refine (slices_Contains_int64_int64.calls k _ _ t368 a2 t371 _ ?side1 ?side2 A5.out).mono ?_); (case side1 => repeat (first | exact (Kd.R_reads' HO370.out).2.2 | (with_reducible refine Kd.C_alloc ?_ _) | (with_reducible refine Kd.C_drewN ?_ _) | (with_reducible refine Kd.C_drew ?_))); (case side2 => exact (Kd.R_reads' HO370.out).2.1); rintro e w' ⟨rfl, ⟨nd, rfl⟩⟩; refine ⟨_, rfl, ?_⟩))
 go_ret
 exact ⟨by first | rfl | (simp [errW_none, errW_some] <;> rfl) | (simp [*, errW_none, errW_some] <;> rfl), by repeat (first | (with_reducible first | exact HB.out | apply below_alloc | apply pw_below_drewN | apply below_drew1 | refine below_set ?_ GE367.out) | exact HB.out)⟩
end Go.Proofs.Ytehkhbnhmehobaa.P
namespace Go.Proofs.Ytehkhbnhmehobaa.P
open Go.RowKit Go.Proofs.YtehkhbnhmehobaaW.PrintWords Go.Proofs.YtehkhbnhmehobaaW.PrintLast Go.Proofs.YtehkhbnhmehobaaW.PrintMore
attribute [local go_sem] max2_int min2_int max_two min_two max_three min_three max_four min_four
set_option linter.unusedVariables false
set_option linter.unusedSimpArgs false
def subprogram_Split_1.f (k : Nat) (a0_0 : Bool) (l0_1 : List (S78)) (a0_2 : ByteArray) : Option (Bool) := (subprogram_has.f k a0_0 l0_1 a0_2 77 30000).bind fun t940 => (some t940)
theorem subprogram_Split_1.mono : ∀ a0 a1 a2 k, LeO (subprogram_Split_1.f k a0 a1 a2) (subprogram_Split_1.f (k + 1) a0 a1 a2) := by
 intro a0 a1 a2 k
 unfold subprogram_Split_1.f
 repeat' first
   | (with_reducible exact subprogram_has.mono _ _ _ _ _ _)
   | (with_reducible exact LeO.refl _)
   | (with_reducible exact LeO.none _)
   | (with_reducible refine LeO.ite ?_ ?_)
   | (with_reducible refine LeO.bind ?_ (fun _ => ?_))
   | exact subprogram_has.mono _ _ _ _ _ _
   | exact LeO.none _
   | refine LeO.ite ?_ ?_
   | refine LeO.bind ?_ (fun _ => ?_)
set_option maxHeartbeats 8000000 in
set_option maxRecDepth 100000 in
theorem subprogram_Split_1.calls (k : Nat) (a0_0 : Bool) (A0_1 : Option Addr) (c0_1 : Nat) (l0_1 : List (S78)) (a0_2 : ByteArray) (r : Bool) (w : World) (hr0_1 : Kd.C k78 w A0_1 l0_1.length l0_1) (hc0_1 : l0_1.length ≤ c0_1) (h : subprogram_Split_1.f k a0_0 l0_1 a0_2 = some r) :
  Calls Try.prog 75 #[.agg #[.bool a0_0, .slice A0_1 l0_1.length c0_1, .string a0_2]] w fun e w' => e = .returned (.bool r) ∧ Below w.heap.size w w' := by
 have hu32 := Try.underlying32
 have HR0_1 := Aside0.mk hr0_1
 have HC0_1 := Aside0.mk hc0_1
 clear hr0_1 hc0_1
 have HB := Aside0.mk (Below.refl w.heap.size w)
 have H : ((subprogram_has.f k a0_0 l0_1 a0_2 77 30000).bind fun t940 => (some t940)) = some r := h
 clear h
 replace H := Option.bind_eq_some_iff.mp H
 obtain ⟨t940, A20, H⟩ := H
 replace H : (some t940) = some r := H
 have A2 := Aside0.mk A20
 clear A20
 obtain rfl := Option.some.inj H
 go_enter Try.func75, Try.ntmps75
 go_wp2_with (first | ((with_reducible refine gate_dst (N := 1) rfl ?_); refine box_event ?hg (N := 1) ?hd (cs := #[.bool a0_0, .slice A0_1 l0_1.length c0_1, .string a0_2]) (t := 32) ?hr ?_; (case hd => rfl); (case hg => rfl); (case hr => first | (go_simp; done) | (go_simp; rfl)); intro gb939 hg w3 hbox hb; have n0_ := Aside0.mk (below_step (by repeat (first | (with_reducible first | exact HB.out | apply below_alloc | apply pw_below_drewN | apply below_drew1) | exact HB.out)) hb); have n1_ := Aside0.mk (hbox); have n2_ := Aside0.mk ((by rw [hg]; exact (below_size (by repeat (first | (with_reducible first | exact HB.out | apply below_alloc | apply pw_below_drewN | apply below_drew1) | exact HB.out))) : w.heap.size ≤ gb939)); have n3_ := Aside0.mk ((by rw [hg]; exact (below_size (by repeat (first | (with_reducible first | exact HB.out | apply below_alloc | apply pw_below_drewN | apply below_drew1) | exact HB.out))) : w.heap.size ≤ gb939)); clear HB; have HB := n0_; have BK939 := n1_; have GW939 := n2_; have GE939 := n3_; clear n0_ n1_ n2_ n3_; clear hb hbox hg; have hcz4_0 : w3.cell? ⟨gb939, 0, none⟩ = some (.bool a0_0) := (blk_cell BK939.out 0).trans rfl; have hcz4_1 : w3.cell? ⟨gb939, 1, none⟩ = some (.slice A0_1 l0_1.length c0_1) := (blk_cell BK939.out 1).trans rfl; have hcz4_2 : w3.cell? ⟨gb939, 2, none⟩ = some (.string a0_2) := (blk_cell BK939.out 2).trans rfl; have hfz4_0 := blk_frozen BK939.out 0; have hfz4_1 := blk_frozen BK939.out 1; have hfz4_2 := blk_frozen BK939.out 2) | ((with_reducible refine gate_callee (f := 58) rfl ?_); refine goesL_ (some 4) rfl rfl Try.func58 (by kernel_rfl) rfl #[.agg #[.bool a0_0, .slice A0_1 l0_1.length c0_1, .string a0_2], .int .u8 77, .int .i64 30000] rfl (by (try simp only [List.map_toArray, List.map_cons, List.map_nil]); first | done | rfl | (simp only [List.length_drop, List.length_take]; rfl)) ?_; (with_reducible refine (subprogram_has.calls k a0_0 _ _ l0_1 a0_2 77 30000 t940 _ ?side1 ?side2 A2.out).mono ?_); (case side1 => repeat (first | exact (Kd.C_below HR0_1.out HB.out) | (with_reducible refine Kd.C_alloc ?_ _) | (with_reducible refine Kd.C_drewN ?_ _) | (with_reducible refine Kd.C_drew ?_))); (case side2 => exact HC0_1.out); rintro e w5 ⟨rfl, hb⟩; refine ⟨_, rfl, ?_⟩; have n0_ := Aside0.mk (blk_below (g := gb939) (o := .cells #[.bool a0_0, .slice A0_1 l0_1.length c0_1, .string a0_2] 32 (0, 0)) (by (with_reducible repeat (first | refine blk_drewN ?_ _ | refine blk_drew ?_ | refine blk_alloc ?_ _)); exact BK939.out) hb); have n1_ := Aside0.mk (below_step (by repeat (first | (with_reducible first | exact HB.out | apply below_alloc | apply pw_below_drewN | apply below_drew1 | refine below_set ?_ GE939.out) | exact HB.out)) hb); clear BK939; clear HB; have BK939 := n0_; have HB := n1_; clear n0_ n1_; (try clear hb); (try clear hb2); (try clear hk); (try clear hi)))
 go_ret
 exact ⟨by first | rfl | (simp [errW_none, errW_some] <;> rfl) | (simp [*, errW_none, errW_some] <;> rfl), by repeat (first | (with_reducible first | exact HB.out | apply below_alloc | apply pw_below_drewN | apply below_drew1 | refine below_set ?_ GE939.out) | exact HB.out)⟩
end Go.Proofs.Ytehkhbnhmehobaa.P
namespace Go.Proofs.Ytehkhbnhmehobaa.P
open Go.RowKit Go.Proofs.YtehkhbnhmehobaaW.PrintWords Go.Proofs.YtehkhbnhmehobaaW.PrintLast Go.Proofs.YtehkhbnhmehobaaW.PrintMore
attribute [local go_sem] max2_int min2_int max_two min_two max_three min_three max_four min_four
set_option linter.unusedVariables false
set_option linter.unusedSimpArgs false
def subprogram_plain.f (a0_0 : Bool) (l0_1 : List (S78)) (a0_2 : ByteArray) : Option (Bool) := if (l0_1.length : Int) = 1 then (if a0_0 = true then (some false) else (some (a0_2.toList == ([] : List UInt8)))) else (some false)
set_option maxHeartbeats 8000000 in
set_option maxRecDepth 100000 in
theorem subprogram_plain.calls (a0_0 : Bool) (A0_1 : Option Addr) (c0_1 : Nat) (l0_1 : List (S78)) (a0_2 : ByteArray) (r : Bool) (w : World) (hr0_1 : Kd.C k78 w A0_1 l0_1.length l0_1) (hc0_1 : l0_1.length ≤ c0_1) (h : subprogram_plain.f a0_0 l0_1 a0_2 = some r) :
  Calls Try.prog 78 #[.agg #[.bool a0_0, .slice A0_1 l0_1.length c0_1, .string a0_2]] w fun e w' => e = .returned (.bool r) ∧ Below w.heap.size w w' := by
 have hu32 := Try.underlying32
 have HR0_1 := Aside0.mk hr0_1
 have HC0_1 := Aside0.mk hc0_1
 clear hr0_1 hc0_1
 have HB := Aside0.mk (Below.refl w.heap.size w)
 have H : (if (l0_1.length : Int) = 1 then (if a0_0 = true then (some false) else (some (a0_2.toList == ([] : List UInt8)))) else (some false)) = some r := h
 clear h
 by_cases c2 : (l0_1.length : Int) = 1
 ·rw [if_pos c2] at H
  have c2b0 : ((l0_1.length : Int) == 1) = true := beq_iff_eq.mpr c2
  have c2b1 : ((l0_1.length : Int) != 1) = false := bne_eq_false_iff_eq.mpr c2
  clear c2
  by_cases c3 : a0_0 = true
  ·subst c3
   have H1 : (some false) = some r := by rw [if_pos rfl] at H; exact H
   clear H
   have H := H1
   clear H1
   obtain rfl := Option.some.inj H
   go_enter Try.func78, Try.ntmps78
   go_wp2_with (first | ((with_reducible refine gate_dst (N := 1) rfl ?_); refine box_event ?hg (N := 1) ?hd (cs := #[.bool true, .slice A0_1 l0_1.length c0_1, .string a0_2]) (t := 32) ?hr ?_; (case hd => rfl); (case hg => rfl); (case hr => first | (go_simp; done) | (go_simp; rfl)); intro gb448 hg w4 hbox hb; have n0_ := Aside0.mk (below_step (by repeat (first | (with_reducible first | exact HB.out | apply below_alloc | apply pw_below_drewN | apply below_drew1) | exact HB.out)) hb); have n1_ := Aside0.mk (hbox); have n2_ := Aside0.mk ((by rw [hg]; exact (below_size (by repeat (first | (with_reducible first | exact HB.out | apply below_alloc | apply pw_below_drewN | apply below_drew1) | exact HB.out))) : w.heap.size ≤ gb448)); have n3_ := Aside0.mk ((by rw [hg]; exact (below_size (by repeat (first | (with_reducible first | exact HB.out | apply below_alloc | apply pw_below_drewN | apply below_drew1) | exact HB.out))) : w.heap.size ≤ gb448)); clear HB; have HB := n0_; have BK448 := n1_; have GW448 := n2_; have GE448 := n3_; clear n0_ n1_ n2_ n3_; clear hb hbox hg; have hcz5_0 : w4.cell? ⟨gb448, 0, none⟩ = some (.bool true) := (blk_cell BK448.out 0).trans rfl; have hcz5_1 : w4.cell? ⟨gb448, 1, none⟩ = some (.slice A0_1 l0_1.length c0_1) := (blk_cell BK448.out 1).trans rfl; have hcz5_2 : w4.cell? ⟨gb448, 2, none⟩ = some (.string a0_2) := (blk_cell BK448.out 2).trans rfl; have hfz5_0 := blk_frozen BK448.out 0; have hfz5_1 := blk_frozen BK448.out 1; have hfz5_2 := blk_frozen BK448.out 2))
   go_ret
   exact ⟨by first | rfl | (simp [errW_none, errW_some] <;> rfl) | (simp [*, errW_none, errW_some] <;> rfl), by repeat (first | (with_reducible first | exact HB.out | apply below_alloc | apply pw_below_drewN | apply below_drew1 | refine below_set ?_ GE448.out) | exact HB.out)⟩
  ·replace c3 := Bool.eq_false_iff.mpr c3
   subst c3
   have H1 : (some (a0_2.toList == ([] : List UInt8))) = some r := by rw [if_neg (show ¬ (false = true) by decide)] at H; exact H
   clear H
   have H := H1
   clear H1
   obtain rfl := Option.some.inj H
   go_enter Try.func78, Try.ntmps78
   go_wp2_with (first | ((with_reducible refine gate_dst (N := 1) rfl ?_); refine box_event ?hg (N := 1) ?hd (cs := #[.bool false, .slice A0_1 l0_1.length c0_1, .string a0_2]) (t := 32) ?hr ?_; (case hd => rfl); (case hg => rfl); (case hr => first | (go_simp; done) | (go_simp; rfl)); intro gb448 hg w6 hbox hb; have n0_ := Aside0.mk (below_step (by repeat (first | (with_reducible first | exact HB.out | apply below_alloc | apply pw_below_drewN | apply below_drew1) | exact HB.out)) hb); have n1_ := Aside0.mk (hbox); have n2_ := Aside0.mk ((by rw [hg]; exact (below_size (by repeat (first | (with_reducible first | exact HB.out | apply below_alloc | apply pw_below_drewN | apply below_drew1) | exact HB.out))) : w.heap.size ≤ gb448)); have n3_ := Aside0.mk ((by rw [hg]; exact (below_size (by repeat (first | (with_reducible first | exact HB.out | apply below_alloc | apply pw_below_drewN | apply below_drew1) | exact HB.out))) : w.heap.size ≤ gb448)); clear HB; have HB := n0_; have BK448 := n1_; have GW448 := n2_; have GE448 := n3_; clear n0_ n1_ n2_ n3_; clear hb hbox hg; have hcz7_0 : w6.cell? ⟨gb448, 0, none⟩ = some (.bool false) := (blk_cell BK448.out 0).trans rfl; have hcz7_1 : w6.cell? ⟨gb448, 1, none⟩ = some (.slice A0_1 l0_1.length c0_1) := (blk_cell BK448.out 1).trans rfl; have hcz7_2 : w6.cell? ⟨gb448, 2, none⟩ = some (.string a0_2) := (blk_cell BK448.out 2).trans rfl; have hfz7_0 := blk_frozen BK448.out 0; have hfz7_1 := blk_frozen BK448.out 1; have hfz7_2 := blk_frozen BK448.out 2))
   go_ret
   exact ⟨by first | rfl | (simp [errW_none, errW_some] <;> rfl) | (simp [*, errW_none, errW_some] <;> rfl), by repeat (first | (with_reducible first | exact HB.out | apply below_alloc | apply pw_below_drewN | apply below_drew1 | refine below_set ?_ GE448.out) | exact HB.out)⟩
 ·rw [if_neg c2] at H
  have c2b0 : ((l0_1.length : Int) == 1) = false := beq_eq_false_iff_ne.mpr c2
  have c2b1 : ((l0_1.length : Int) != 1) = true := bne_iff_ne.mpr c2
  obtain rfl := Option.some.inj H
  go_enter Try.func78, Try.ntmps78
  go_wp2_with (first | ((with_reducible refine gate_dst (N := 1) rfl ?_); refine box_event ?hg (N := 1) ?hd (cs := #[.bool a0_0, .slice A0_1 l0_1.length c0_1, .string a0_2]) (t := 32) ?hr ?_; (case hd => rfl); (case hg => rfl); (case hr => first | (go_simp; done) | (go_simp; rfl)); intro gb448 hg w8 hbox hb; have n0_ := Aside0.mk (below_step (by repeat (first | (with_reducible first | exact HB.out | apply below_alloc | apply pw_below_drewN | apply below_drew1) | exact HB.out)) hb); have n1_ := Aside0.mk (hbox); have n2_ := Aside0.mk ((by rw [hg]; exact (below_size (by repeat (first | (with_reducible first | exact HB.out | apply below_alloc | apply pw_below_drewN | apply below_drew1) | exact HB.out))) : w.heap.size ≤ gb448)); have n3_ := Aside0.mk ((by rw [hg]; exact (below_size (by repeat (first | (with_reducible first | exact HB.out | apply below_alloc | apply pw_below_drewN | apply below_drew1) | exact HB.out))) : w.heap.size ≤ gb448)); clear HB; have HB := n0_; have BK448 := n1_; have GW448 := n2_; have GE448 := n3_; clear n0_ n1_ n2_ n3_; clear hb hbox hg; have hcz9_0 : w8.cell? ⟨gb448, 0, none⟩ = some (.bool a0_0) := (blk_cell BK448.out 0).trans rfl; have hcz9_1 : w8.cell? ⟨gb448, 1, none⟩ = some (.slice A0_1 l0_1.length c0_1) := (blk_cell BK448.out 1).trans rfl; have hcz9_2 : w8.cell? ⟨gb448, 2, none⟩ = some (.string a0_2) := (blk_cell BK448.out 2).trans rfl; have hfz9_0 := blk_frozen BK448.out 0; have hfz9_1 := blk_frozen BK448.out 1; have hfz9_2 := blk_frozen BK448.out 2))
  go_ret
  exact ⟨by first | rfl | (simp [errW_none, errW_some] <;> rfl) | (simp [*, errW_none, errW_some] <;> rfl), by repeat (first | (with_reducible first | exact HB.out | apply below_alloc | apply pw_below_drewN | apply below_drew1 | refine below_set ?_ GE448.out) | exact HB.out)⟩
end Go.Proofs.Ytehkhbnhmehobaa.P
namespace Go.Proofs.Ytehkhbnhmehobaa.P
open Go.RowKit Go.Proofs.YtehkhbnhmehobaaW.PrintWords Go.Proofs.YtehkhbnhmehobaaW.PrintLast Go.Proofs.YtehkhbnhmehobaaW.PrintMore
attribute [local go_sem] max2_int min2_int max_two min_two max_three min_three max_four min_four
set_option linter.unusedVariables false
set_option linter.unusedSimpArgs false
def subprogram_Split_2.f (k : Nat) (a0_0 : Bool) (l0_1 : List (S78)) (a0_2 : ByteArray) : Option (Bool) := (subprogram_plain.f a0_0 l0_1 a0_2).bind fun t942 => (if t942 = true then ((subprogram_has.f k a0_0 l0_1 a0_2 77 99000).bind fun t943 => (some t943)) else (some false))
theorem subprogram_Split_2.mono : ∀ a0 a1 a2 k, LeO (subprogram_Split_2.f k a0 a1 a2) (subprogram_Split_2.f (k + 1) a0 a1 a2) := by
 intro a0 a1 a2 k
 unfold subprogram_Split_2.f
 repeat' first
   | (with_reducible exact subprogram_has.mono _ _ _ _ _ _)
   | (with_reducible exact LeO.refl _)
   | (with_reducible exact LeO.none _)
   | (with_reducible refine LeO.ite ?_ ?_)
   | (with_reducible refine LeO.bind ?_ (fun _ => ?_))
   | exact subprogram_has.mono _ _ _ _ _ _
   | exact LeO.none _
   | refine LeO.ite ?_ ?_
   | refine LeO.bind ?_ (fun _ => ?_)
set_option maxHeartbeats 8000000 in
set_option maxRecDepth 100000 in
theorem subprogram_Split_2.calls (k : Nat) (a0_0 : Bool) (A0_1 : Option Addr) (c0_1 : Nat) (l0_1 : List (S78)) (a0_2 : ByteArray) (r : Bool) (w : World) (hr0_1 : Kd.C k78 w A0_1 l0_1.length l0_1) (hc0_1 : l0_1.length ≤ c0_1) (h : subprogram_Split_2.f k a0_0 l0_1 a0_2 = some r) :
  Calls Try.prog 77 #[.agg #[.bool a0_0, .slice A0_1 l0_1.length c0_1, .string a0_2]] w fun e w' => e = .returned (.bool r) ∧ Below w.heap.size w w' := by
 have hu32 := Try.underlying32
 have HR0_1 := Aside0.mk hr0_1
 have HC0_1 := Aside0.mk hc0_1
 clear hr0_1 hc0_1
 have HB := Aside0.mk (Below.refl w.heap.size w)
 have H : ((subprogram_plain.f a0_0 l0_1 a0_2).bind fun t942 => (if t942 = true then ((subprogram_has.f k a0_0 l0_1 a0_2 77 99000).bind fun t943 => (some t943)) else (some false))) = some r := h
 clear h
 replace H := Option.bind_eq_some_iff.mp H
 obtain ⟨t942, A20, H⟩ := H
 replace H : (if t942 = true then ((subprogram_has.f k a0_0 l0_1 a0_2 77 99000).bind fun t943 => (some t943)) else (some false)) = some r := H
 have A2 := Aside0.mk A20
 clear A20
 by_cases c3 : t942 = true
 ·subst c3
  have H1 : ((subprogram_has.f k a0_0 l0_1 a0_2 77 99000).bind fun t943 => (some t943)) = some r := by rw [if_pos rfl] at H; exact H
  clear H
  have H := H1
  clear H1
  replace H := Option.bind_eq_some_iff.mp H
  obtain ⟨t943, A40, H⟩ := H
  replace H : (some t943) = some r := H
  have A4 := Aside0.mk A40
  clear A40
  obtain rfl := Option.some.inj H
  go_enter Try.func77, Try.ntmps77
  go_wp2_with (first | ((with_reducible refine gate_dst (N := 1) rfl ?_); refine box_event ?hg (N := 1) ?hd (cs := #[.bool a0_0, .slice A0_1 l0_1.length c0_1, .string a0_2]) (t := 32) ?hr ?_; (case hd => rfl); (case hg => rfl); (case hr => first | (go_simp; done) | (go_simp; rfl)); intro gb941 hg w5 hbox hb; have n0_ := Aside0.mk (below_step (by repeat (first | (with_reducible first | exact HB.out | apply below_alloc | apply pw_below_drewN | apply below_drew1) | exact HB.out)) hb); have n1_ := Aside0.mk (hbox); have n2_ := Aside0.mk ((by rw [hg]; exact (below_size (by repeat (first | (with_reducible first | exact HB.out | apply below_alloc | apply pw_below_drewN | apply below_drew1) | exact HB.out))) : w.heap.size ≤ gb941)); have n3_ := Aside0.mk ((by rw [hg]; exact (below_size (by repeat (first | (with_reducible first | exact HB.out | apply below_alloc | apply pw_below_drewN | apply below_drew1) | exact HB.out))) : w.heap.size ≤ gb941)); clear HB; have HB := n0_; have BK941 := n1_; have GW941 := n2_; have GE941 := n3_; clear n0_ n1_ n2_ n3_; clear hb hbox hg; have hcz6_0 : w5.cell? ⟨gb941, 0, none⟩ = some (.bool a0_0) := (blk_cell BK941.out 0).trans rfl; have hcz6_1 : w5.cell? ⟨gb941, 1, none⟩ = some (.slice A0_1 l0_1.length c0_1) := (blk_cell BK941.out 1).trans rfl; have hcz6_2 : w5.cell? ⟨gb941, 2, none⟩ = some (.string a0_2) := (blk_cell BK941.out 2).trans rfl; have hfz6_0 := blk_frozen BK941.out 0; have hfz6_1 := blk_frozen BK941.out 1; have hfz6_2 := blk_frozen BK941.out 2) | ((with_reducible refine gate_callee (f := 78) rfl ?_); refine goesL_ (some 4) rfl rfl Try.func78 (by kernel_rfl) rfl #[.agg #[.bool a0_0, .slice A0_1 l0_1.length c0_1, .string a0_2]] rfl (by (try simp only [List.map_toArray, List.map_cons, List.map_nil]); first | done | rfl | (simp only [List.length_drop, List.length_take]; rfl)) ?_; (with_reducible refine (subprogram_plain.calls a0_0 _ _ l0_1 a0_2 true _ ?side1 ?side2 A2.out).mono ?_); (case side1 => repeat (first | exact (Kd.C_below HR0_1.out HB.out) | (with_reducible refine Kd.C_alloc ?_ _) | (with_reducible refine Kd.C_drewN ?_ _) | (with_reducible refine Kd.C_drew ?_))); (case side2 => exact HC0_1.out); rintro e w7 ⟨rfl, hb⟩; refine ⟨_, rfl, ?_⟩; have n0_ := Aside0.mk (blk_below (g := gb941) (o := .cells #[.bool a0_0, .slice A0_1 l0_1.length c0_1, .string a0_2] 32 (0, 0)) (by (with_reducible repeat (first | refine blk_drewN ?_ _ | refine blk_drew ?_ | refine blk_alloc ?_ _)); exact BK941.out) hb); have n1_ := Aside0.mk (below_step (by repeat (first | (with_reducible first | exact HB.out | apply below_alloc | apply pw_below_drewN | apply below_drew1 | refine below_set ?_ GE941.out) | exact HB.out)) hb); clear BK941; clear HB; have BK941 := n0_; have HB := n1_; clear n0_ n1_; (try clear hb); (try clear hb2); (try clear hk); (try clear hi); have hcz8_0 : w7.cell? ⟨gb941, 0, none⟩ = some (.bool a0_0) := (blk_cell BK941.out 0).trans rfl; have hcz8_1 : w7.cell? ⟨gb941, 1, none⟩ = some (.slice A0_1 l0_1.length c0_1) := (blk_cell BK941.out 1).trans rfl; have hcz8_2 : w7.cell? ⟨gb941, 2, none⟩ = some (.string a0_2) := (blk_cell BK941.out 2).trans rfl; have hfz8_0 := blk_frozen BK941.out 0; have hfz8_1 := blk_frozen BK941.out 1; have hfz8_2 := blk_frozen BK941.out 2) | (go_at_call 58; (with_reducible refine (subprogram_has.calls k a0_0 _ _ l0_1 a0_2 77 99000 t943 _ ?side1 ?side2 A4.out).mono ?_); (case side1 => repeat (first | exact (Kd.C_below HR0_1.out HB.out) | (with_reducible refine Kd.C_alloc ?_ _) | (with_reducible refine Kd.C_drewN ?_ _) | (with_reducible refine Kd.C_drew ?_))); (case side2 => exact HC0_1.out); rintro e w9 ⟨rfl, hb⟩; have n0_ := Aside0.mk (blk_below (g := gb941) (o := .cells #[.bool a0_0, .slice A0_1 l0_1.length c0_1, .string a0_2] 32 (0, 0)) (by (with_reducible repeat (first | refine blk_drewN ?_ _ | refine blk_drew ?_ | refine blk_alloc ?_ _)); exact BK941.out) hb); have n1_ := Aside0.mk (below_step (by repeat (first | (with_reducible first | exact HB.out | apply below_alloc | apply pw_below_drewN | apply below_drew1 | refine below_set ?_ GE941.out) | exact HB.out)) hb); clear BK941; clear HB; have BK941 := n0_; have HB := n1_; clear n0_ n1_; (try clear hb); (try clear hb2); (try clear hk); (try clear hi)))
  go_ret
  exact ⟨by first | rfl | (simp [errW_none, errW_some] <;> rfl) | (simp [*, errW_none, errW_some] <;> rfl), by repeat (first | (with_reducible first | exact HB.out | apply below_alloc | apply pw_below_drewN | apply below_drew1 | refine below_set ?_ GE941.out) | exact HB.out)⟩
 ·replace c3 := Bool.eq_false_iff.mpr c3
  subst c3
  have H1 : (some false) = some r := by rw [if_neg (show ¬ (false = true) by decide)] at H; exact H
  clear H
  have H := H1
  clear H1
  obtain rfl := Option.some.inj H
  go_enter Try.func77, Try.ntmps77
  go_wp2_with (first | ((with_reducible refine gate_dst (N := 1) rfl ?_); refine box_event ?hg (N := 1) ?hd (cs := #[.bool a0_0, .slice A0_1 l0_1.length c0_1, .string a0_2]) (t := 32) ?hr ?_; (case hd => rfl); (case hg => rfl); (case hr => first | (go_simp; done) | (go_simp; rfl)); intro gb941 hg w10 hbox hb; have n0_ := Aside0.mk (below_step (by repeat (first | (with_reducible first | exact HB.out | apply below_alloc | apply pw_below_drewN | apply below_drew1) | exact HB.out)) hb); have n1_ := Aside0.mk (hbox); have n2_ := Aside0.mk ((by rw [hg]; exact (below_size (by repeat (first | (with_reducible first | exact HB.out | apply below_alloc | apply pw_below_drewN | apply below_drew1) | exact HB.out))) : w.heap.size ≤ gb941)); have n3_ := Aside0.mk ((by rw [hg]; exact (below_size (by repeat (first | (with_reducible first | exact HB.out | apply below_alloc | apply pw_below_drewN | apply below_drew1) | exact HB.out))) : w.heap.size ≤ gb941)); clear HB; have HB := n0_; have BK941 := n1_; have GW941 := n2_; have GE941 := n3_; clear n0_ n1_ n2_ n3_; clear hb hbox hg; have hcz11_0 : w10.cell? ⟨gb941, 0, none⟩ = some (.bool a0_0) := (blk_cell BK941.out 0).trans rfl; have hcz11_1 : w10.cell? ⟨gb941, 1, none⟩ = some (.slice A0_1 l0_1.length c0_1) := (blk_cell BK941.out 1).trans rfl; have hcz11_2 : w10.cell? ⟨gb941, 2, none⟩ = some (.string a0_2) := (blk_cell BK941.out 2).trans rfl; have hfz11_0 := blk_frozen BK941.out 0; have hfz11_1 := blk_frozen BK941.out 1; have hfz11_2 := blk_frozen BK941.out 2) | ((with_reducible refine gate_callee (f := 78) rfl ?_); refine goesL_ (some 4) rfl rfl Try.func78 (by kernel_rfl) rfl #[.agg #[.bool a0_0, .slice A0_1 l0_1.length c0_1, .string a0_2]] rfl (by (try simp only [List.map_toArray, List.map_cons, List.map_nil]); first | done | rfl | (simp only [List.length_drop, List.length_take]; rfl)) ?_; (with_reducible refine (subprogram_plain.calls a0_0 _ _ l0_1 a0_2 false _ ?side1 ?side2 A2.out).mono ?_); (case side1 => repeat (first | exact (Kd.C_below HR0_1.out HB.out) | (with_reducible refine Kd.C_alloc ?_ _) | (with_reducible refine Kd.C_drewN ?_ _) | (with_reducible refine Kd.C_drew ?_))); (case side2 => exact HC0_1.out); rintro e w12 ⟨rfl, hb⟩; refine ⟨_, rfl, ?_⟩; have n0_ := Aside0.mk (blk_below (g := gb941) (o := .cells #[.bool a0_0, .slice A0_1 l0_1.length c0_1, .string a0_2] 32 (0, 0)) (by (with_reducible repeat (first | refine blk_drewN ?_ _ | refine blk_drew ?_ | refine blk_alloc ?_ _)); exact BK941.out) hb); have n1_ := Aside0.mk (below_step (by repeat (first | (with_reducible first | exact HB.out | apply below_alloc | apply pw_below_drewN | apply below_drew1 | refine below_set ?_ GE941.out) | exact HB.out)) hb); clear BK941; clear HB; have BK941 := n0_; have HB := n1_; clear n0_ n1_; (try clear hb); (try clear hb2); (try clear hk); (try clear hi)))
  go_ret
  exact ⟨by first | rfl | (simp [errW_none, errW_some] <;> rfl) | (simp [*, errW_none, errW_some] <;> rfl), by repeat (first | (with_reducible first | exact HB.out | apply below_alloc | apply pw_below_drewN | apply below_drew1 | refine below_set ?_ GE941.out) | exact HB.out)⟩
end Go.Proofs.Ytehkhbnhmehobaa.P
namespace Go.Proofs.Ytehkhbnhmehobaa.P
open Go.RowKit Go.Proofs.YtehkhbnhmehobaaW.PrintWords Go.Proofs.YtehkhbnhmehobaaW.PrintLast Go.Proofs.YtehkhbnhmehobaaW.PrintMore
attribute [local go_sem] max2_int min2_int max_two min_two max_three min_three max_four min_four
set_option linter.unusedVariables false
set_option linter.unusedSimpArgs false
def subprogram_marked.f (k : Nat) (a0_0 : Bool) (l0_1 : List (S78)) (a0_2 : ByteArray) : Option (Bool) := (block_Codes.f k a0_0 l0_1 a0_2 79).bind fun t373 => (if (t373.length : Int) > 0 then (some true) else ((subprogram_has.f k a0_0 l0_1 a0_2 77 30000).bind fun t376 => (if t376 = true then (some true) else ((subprogram_has.f k a0_0 l0_1 a0_2 77 99000).bind fun t377 => (some t377)))))
theorem subprogram_marked.mono : ∀ a0 a1 a2 k, LeO (subprogram_marked.f k a0 a1 a2) (subprogram_marked.f (k + 1) a0 a1 a2) := by
 intro a0 a1 a2 k
 unfold subprogram_marked.f
 repeat' first
   | (with_reducible exact block_Codes.mono _ _ _ _ _)
   | (with_reducible exact subprogram_has.mono _ _ _ _ _ _)
   | (with_reducible exact LeO.refl _)
   | (with_reducible exact LeO.none _)
   | (with_reducible refine LeO.ite ?_ ?_)
   | (with_reducible refine LeO.bind ?_ (fun _ => ?_))
   | exact block_Codes.mono _ _ _ _ _
   | exact subprogram_has.mono _ _ _ _ _ _
   | exact LeO.none _
   | refine LeO.ite ?_ ?_
   | refine LeO.bind ?_ (fun _ => ?_)
set_option maxHeartbeats 8000000 in
set_option maxRecDepth 100000 in
theorem subprogram_marked.calls (k : Nat) (a0_0 : Bool) (A0_1 : Option Addr) (c0_1 : Nat) (l0_1 : List (S78)) (a0_2 : ByteArray) (r : Bool) (w : World) (hr0_1 : Kd.C k78 w A0_1 l0_1.length l0_1) (hc0_1 : l0_1.length ≤ c0_1) (h : subprogram_marked.f k a0_0 l0_1 a0_2 = some r) :
  Calls Try.prog 100 #[.agg #[.bool a0_0, .slice A0_1 l0_1.length c0_1, .string a0_2]] w fun e w' => e = .returned (.bool r) ∧ Below w.heap.size w w' := by
 have hu32 := Try.underlying32
 have HR0_1 := Aside0.mk hr0_1
 have HC0_1 := Aside0.mk hc0_1
 clear hr0_1 hc0_1
 have HB := Aside0.mk (Below.refl w.heap.size w)
 have H : ((block_Codes.f k a0_0 l0_1 a0_2 79).bind fun t373 => (if (t373.length : Int) > 0 then (some true) else ((subprogram_has.f k a0_0 l0_1 a0_2 77 30000).bind fun t376 => (if t376 = true then (some true) else ((subprogram_has.f k a0_0 l0_1 a0_2 77 99000).bind fun t377 => (some t377)))))) = some r := h
 clear h
 replace H := Option.bind_eq_some_iff.mp H
 obtain ⟨t373, A20, H⟩ := H
 replace H : (if (t373.length : Int) > 0 then (some true) else ((subprogram_has.f k a0_0 l0_1 a0_2 77 30000).bind fun t376 => (if t376 = true then (some true) else ((subprogram_has.f k a0_0 l0_1 a0_2 77 99000).bind fun t377 => (some t377))))) = some r := H
 have A2 := Aside0.mk A20
 clear A20
 by_cases c3 : (t373.length : Int) > 0
 ·rw [if_pos c3] at H
  have c3b0 : decide (0 < (t373.length : Int)) = true := decide_eq_true c3
  have c3b1 : decide (0 < t373.length) = true := decide_eq_true (by omega)
  clear c3
  obtain rfl := Option.some.inj H
  go_enter Try.func100, Try.ntmps100
  go_wp2_with (first | ((with_reducible refine gate_dst (N := 1) rfl ?_); refine box_event ?hg (N := 1) ?hd (cs := #[.bool a0_0, .slice A0_1 l0_1.length c0_1, .string a0_2]) (t := 32) ?hr ?_; (case hd => rfl); (case hg => rfl); (case hr => first | (go_simp; done) | (go_simp; rfl)); intro gb372 hg w4 hbox hb; have n0_ := Aside0.mk (below_step (by repeat (first | (with_reducible first | exact HB.out | apply below_alloc | apply pw_below_drewN | apply below_drew1) | exact HB.out)) hb); have n1_ := Aside0.mk (hbox); have n2_ := Aside0.mk ((by rw [hg]; exact (below_size (by repeat (first | (with_reducible first | exact HB.out | apply below_alloc | apply pw_below_drewN | apply below_drew1) | exact HB.out))) : w.heap.size ≤ gb372)); have n3_ := Aside0.mk ((by rw [hg]; exact (below_size (by repeat (first | (with_reducible first | exact HB.out | apply below_alloc | apply pw_below_drewN | apply below_drew1) | exact HB.out))) : w.heap.size ≤ gb372)); clear HB; have HB := n0_; have BK372 := n1_; have GW372 := n2_; have GE372 := n3_; clear n0_ n1_ n2_ n3_; clear hb hbox hg; have hcz5_0 : w4.cell? ⟨gb372, 0, none⟩ = some (.bool a0_0) := (blk_cell BK372.out 0).trans rfl; have hcz5_1 : w4.cell? ⟨gb372, 1, none⟩ = some (.slice A0_1 l0_1.length c0_1) := (blk_cell BK372.out 1).trans rfl; have hcz5_2 : w4.cell? ⟨gb372, 2, none⟩ = some (.string a0_2) := (blk_cell BK372.out 2).trans rfl; have hfz5_0 := blk_frozen BK372.out 0; have hfz5_1 := blk_frozen BK372.out 1; have hfz5_2 := blk_frozen BK372.out 2) | ((with_reducible refine gate_callee (f := 93) rfl ?_); refine goesL_ (some 4) rfl rfl Try.func93 (by kernel_rfl) rfl #[.agg #[.bool a0_0, .slice A0_1 l0_1.length c0_1, .string a0_2], .int .u8 79] rfl (by (try simp only [List.map_toArray, List.map_cons, List.map_nil]); first | done | rfl | (simp only [List.length_drop, List.length_take]; rfl)) ?_; (with_reducible refine (block_Codes.calls k a0_0 _ _ l0_1 a0_2 79 t373 _ ?side1 ?side2 A2.out).mono ?_); (case side1 => repeat (first | exact (Kd.C_below HR0_1.out HB.out) | (with_reducible refine Kd.C_alloc ?_ _) | (with_reducible refine Kd.C_drewN ?_ _) | (with_reducible refine Kd.C_drew ?_))); (case side2 => exact HC0_1.out); rintro e w6 ⟨v374, rfl, ho0, hb⟩; refine ⟨_, rfl, ?_⟩; have n0_ := Aside0.mk (Kd.R_lower ho0 (below_size (by repeat (first | (with_reducible first | exact HB.out | apply below_alloc | apply pw_below_drewN | apply below_drew1 | refine below_set ?_ GE372.out) | exact HB.out)))); have n1_ := Aside0.mk (blk_below (g := gb372) (o := .cells #[.bool a0_0, .slice A0_1 l0_1.length c0_1, .string a0_2] 32 (0, 0)) (by (with_reducible repeat (first | refine blk_drewN ?_ _ | refine blk_drew ?_ | refine blk_alloc ?_ _)); exact BK372.out) hb); have n2_ := Aside0.mk (below_step (by repeat (first | (with_reducible first | exact HB.out | apply below_alloc | apply pw_below_drewN | apply below_drew1 | refine below_set ?_ GE372.out) | exact HB.out)) hb); clear BK372; clear HB; have HO375 := n0_; have BK372 := n1_; have HB := n2_; clear n0_ n1_ n2_; (try clear hb); (try clear hb2); (try clear hk); (try clear hi); (try clear ho0); obtain ⟨Ao7, co7, eo7⟩ := Kd.R_slice HO375.out; subst eo7))
  go_ret
  exact ⟨by first | rfl | (simp [errW_none, errW_some] <;> rfl) | (simp [*, errW_none, errW_some] <;> rfl), by repeat (first | (with_reducible first | exact HB.out | apply below_alloc | apply pw_below_drewN | apply below_drew1 | refine below_set ?_ GE372.out) | exact HB.out)⟩
 ·rw [if_neg c3] at H
  have c3b0 : decide (0 < (t373.length : Int)) = false := decide_eq_false c3
  have c3b1 : decide (0 < t373.length) = false := decide_eq_false (by omega)
  clear c3
  replace H := Option.bind_eq_some_iff.mp H
  obtain ⟨t376, A80, H⟩ := H
  replace H : (if t376 = true then (some true) else ((subprogram_has.f k a0_0 l0_1 a0_2 77 99000).bind fun t377 => (some t377))) = some r := H
  have A8 := Aside0.mk A80
  clear A80
  by_cases c9 : t376 = true
  ·subst c9
   have H1 : (some true) = some r := by rw [if_pos rfl] at H; exact H
   clear H
   have H := H1
   clear H1
   obtain rfl := Option.some.inj H
   go_enter Try.func100, Try.ntmps100
   go_wp2_with (first | ((with_reducible refine gate_dst (N := 1) rfl ?_); refine box_event ?hg (N := 1) ?hd (cs := #[.bool a0_0, .slice A0_1 l0_1.length c0_1, .string a0_2]) (t := 32) ?hr ?_; (case hd => rfl); (case hg => rfl); (case hr => first | (go_simp; done) | (go_simp; rfl)); intro gb372 hg w10 hbox hb; have n0_ := Aside0.mk (below_step (by repeat (first | (with_reducible first | exact HB.out | apply below_alloc | apply pw_below_drewN | apply below_drew1) | exact HB.out)) hb); have n1_ := Aside0.mk (hbox); have n2_ := Aside0.mk ((by rw [hg]; exact (below_size (by repeat (first | (with_reducible first | exact HB.out | apply below_alloc | apply pw_below_drewN | apply below_drew1) | exact HB.out))) : w.heap.size ≤ gb372)); have n3_ := Aside0.mk ((by rw [hg]; exact (below_size (by repeat (first | (with_reducible first | exact HB.out | apply below_alloc | apply pw_below_drewN | apply below_drew1) | exact HB.out))) : w.heap.size ≤ gb372)); clear HB; have HB := n0_; have BK372 := n1_; have GW372 := n2_; have GE372 := n3_; clear n0_ n1_ n2_ n3_; clear hb hbox hg; have hcz11_0 : w10.cell? ⟨gb372, 0, none⟩ = some (.bool a0_0) := (blk_cell BK372.out 0).trans rfl; have hcz11_1 : w10.cell? ⟨gb372, 1, none⟩ = some (.slice A0_1 l0_1.length c0_1) := (blk_cell BK372.out 1).trans rfl; have hcz11_2 : w10.cell? ⟨gb372, 2, none⟩ = some (.string a0_2) := (blk_cell BK372.out 2).trans rfl; have hfz11_0 := blk_frozen BK372.out 0; have hfz11_1 := blk_frozen BK372.out 1; have hfz11_2 := blk_frozen BK372.out 2) | ((with_reducible refine gate_callee (f := 93) rfl ?_); refine goesL_ (some 4) rfl rfl Try.func93 (by kernel_rfl) rfl #[.agg #[.bool a0_0, .slice A0_1 l0_1.length c0_1, .string a0_2], .int .u8 79] rfl (by (try simp only [List.map_toArray, List.map_cons, List.map_nil]); first | done | rfl | (simp only [List.length_drop, List.length_take]; rfl)) ?_; (with_reducible refine (block_Codes.calls k a0_0 _ _ l0_1 a0_2 79 t373 _ ?side1 ?side2 A2.out).mono ?_); (case side1 => repeat (first | exact (Kd.C_below HR0_1.out HB.out) | (with_reducible refine Kd.C_alloc ?_ _) | (with_reducible refine Kd.C_drewN ?_ _) | (with_reducible refine Kd.C_drew ?_))); (case side2 => exact HC0_1.out); rintro e w12 ⟨v374, rfl, ho0, hb⟩; refine ⟨_, rfl, ?_⟩; have n0_ := Aside0.mk (Kd.R_lower ho0 (below_size (by repeat (first | (with_reducible first | exact HB.out | apply below_alloc | apply pw_below_drewN | apply below_drew1 | refine below_set ?_ GE372.out) | exact HB.out)))); have n1_ := Aside0.mk (blk_below (g := gb372) (o := .cells #[.bool a0_0, .slice A0_1 l0_1.length c0_1, .string a0_2] 32 (0, 0)) (by (with_reducible repeat (first | refine blk_drewN ?_ _ | refine blk_drew ?_ | refine blk_alloc ?_ _)); exact BK372.out) hb); have n2_ := Aside0.mk (below_step (by repeat (first | (with_reducible first | exact HB.out | apply below_alloc | apply pw_below_drewN | apply below_drew1 | refine below_set ?_ GE372.out) | exact HB.out)) hb); clear BK372; clear HB; have HO375 := n0_; have BK372 := n1_; have HB := n2_; clear n0_ n1_ n2_; (try clear hb); (try clear hb2); (try clear hk); (try clear hi); (try clear ho0); obtain ⟨Ao13, co13, eo13⟩ := Kd.R_slice HO375.out; subst eo13; have hcz14_0 : w12.cell? ⟨gb372, 0, none⟩ = some (.bool a0_0) := (blk_cell BK372.out 0).trans rfl; have hcz14_1 : w12.cell? ⟨gb372, 1, none⟩ = some (.slice A0_1 l0_1.length c0_1) := (blk_cell BK372.out 1).trans rfl; have hcz14_2 : w12.cell? ⟨gb372, 2, none⟩ = some (.string a0_2) := (blk_cell BK372.out 2).trans rfl; have hfz14_0 := blk_frozen BK372.out 0; have hfz14_1 := blk_frozen BK372.out 1; have hfz14_2 := blk_frozen BK372.out 2) | (go_at_call 58; (with_reducible refine (subprogram_has.calls k a0_0 _ _ l0_1 a0_2 77 30000 true _ ?side1 ?side2 A8.out).mono ?_); (case side1 => repeat (first | exact (Kd.C_below HR0_1.out HB.out) | (with_reducible refine Kd.C_alloc ?_ _) | (with_reducible refine Kd.C_drewN ?_ _) | (with_reducible refine Kd.C_drew ?_))); (case side2 => exact HC0_1.out); rintro e w15 ⟨rfl, hb⟩; have n0_ := Aside0.mk (Kd.R_below (by (with_reducible repeat (first | apply Kd.R_alloc | apply Kd.R_drewN | apply Kd.R_drew)); exact HO375.out) hb); have n1_ := Aside0.mk (blk_below (g := gb372) (o := .cells #[.bool a0_0, .slice A0_1 l0_1.length c0_1, .string a0_2] 32 (0, 0)) (by (with_reducible repeat (first | refine blk_drewN ?_ _ | refine blk_drew ?_ | refine blk_alloc ?_ _)); exact BK372.out) hb); have n2_ := Aside0.mk (below_step (by repeat (first | (with_reducible first | exact HB.out | apply below_alloc | apply pw_below_drewN | apply below_drew1 | refine below_set ?_ GE372.out) | exact HB.out)) hb); clear HO375; clear BK372; clear HB; have HO375 := n0_; have BK372 := n1_; have HB := n2_; clear n0_ n1_ n2_; (try clear hb); (try clear hb2); (try clear hk); (try clear hi)))
   go_ret
   exact ⟨by first | rfl | (simp [errW_none, errW_some] <;> rfl) | (simp [*, errW_none, errW_some] <;> rfl), by repeat (first | (with_reducible first | exact HB.out | apply below_alloc | apply pw_below_drewN | apply below_drew1 | refine below_set ?_ GE372.out) | exact HB.out)⟩
  ·replace c9 := Bool.eq_false_iff.mpr c9
   subst c9
   have H1 : ((subprogram_has.f k a0_0 l0_1 a0_2 77 99000).bind fun t377 => (some t377)) = some r := by rw [if_neg (show ¬ (false = true) by decide)] at H; exact H
   clear H
   have H := H1
   clear H1
   replace H := Option.bind_eq_some_iff.mp H
   obtain ⟨t377, A160, H⟩ := H
   replace H : (some t377) = some r := H
   have A16 := Aside0.mk A160
   clear A160
   obtain rfl := Option.some.inj H
   go_enter Try.func100, Try.ntmps100
   go_wp2_with (first | ((with_reducible refine gate_dst (N := 1) rfl ?_); refine box_event ?hg (N := 1) ?hd (cs := #[.bool a0_0, .slice A0_1 l0_1.length c0_1, .string a0_2]) (t := 32) ?hr ?_; (case hd => rfl); (case hg => rfl); (case hr => first | (go_simp; done) | (go_simp; rfl)); intro gb372 hg w17 hbox hb; have n0_ := Aside0.mk (below_step (by repeat (first | (with_reducible first | exact HB.out | apply below_alloc | apply pw_below_drewN | apply below_drew1) | exact HB.out)) hb); have n1_ := Aside0.mk (hbox); have n2_ := Aside0.mk ((by rw [hg]; exact (below_size (by repeat (first | (with_reducible first | exact HB.out | apply below_alloc | apply pw_below_drewN | apply below_drew1) | exact HB.out))) : w.heap.size ≤ gb372)); have n3_ := Aside0.mk ((by rw [hg]; exact (below_size (by repeat (first | (with_reducible first | exact HB.out | apply below_alloc | apply pw_below_drewN | apply below_drew1) | exact HB.out))) : w.heap.size ≤ gb372)); clear HB; have HB := n0_; have BK372 := n1_; have GW372 := n2_; have GE372 := n3_; clear n0_ n1_ n2_ n3_; clear hb hbox hg; have hcz18_0 : w17.cell? ⟨gb372, 0, none⟩ = some (.bool a0_0) := (blk_cell BK372.out 0).trans rfl; have hcz18_1 : w17.cell? ⟨gb372, 1, none⟩ = some (.slice A0_1 l0_1.length c0_1) := (blk_cell BK372.out 1).trans rfl; have hcz18_2 : w17.cell? ⟨gb372, 2, none⟩ = some (.string a0_2) := (blk_cell BK372.out 2).trans rfl; have hfz18_0 := blk_frozen BK372.out 0; have hfz18_1 := blk_frozen BK372.out 1; have hfz18_2 := blk_frozen BK372.out 2) | ((with_reducible refine gate_callee (f := 93) rfl ?_); refine goesL_ (some 4) rfl rfl Try.func93 (by kernel_rfl) rfl #[.agg #[.bool a0_0, .slice A0_1 l0_1.length c0_1, .string a0_2], .int .u8 79] rfl (by (try simp only [List.map_toArray, List.map_cons, List.map_nil]); first | done | rfl | (simp only [List.length_drop, List.length_take]; rfl)) ?_; (with_reducible refine (block_Codes.calls k a0_0 _ _ l0_1 a0_2 79 t373 _ ?side1 ?side2 A2.out).mono ?_); (case side1 => repeat (first | exact (Kd.C_below HR0_1.out HB.out) | (with_reducible refine Kd.C_alloc ?_ _) | (with_reducible refine Kd.C_drewN ?_ _) | (with_reducible refine Kd.C_drew ?_))); (case side2 => exact HC0_1.out); rintro e w19 ⟨v374, rfl, ho0, hb⟩; refine ⟨_, rfl, ?_⟩; have n0_ := Aside0.mk (Kd.R_lower ho0 (below_size (by repeat (first | (with_reducible first | exact HB.out | apply below_alloc | apply pw_below_drewN | apply below_drew1 | refine below_set ?_ GE372.out) | exact HB.out)))); have n1_ := Aside0.mk (blk_below (g := gb372) (o := .cells #[.bool a0_0, .slice A0_1 l0_1.length c0_1, .string a0_2] 32 (0, 0)) (by (with_reducible repeat (first | refine blk_drewN ?_ _ | refine blk_drew ?_ | refine blk_alloc ?_ _)); exact BK372.out) hb); have n2_ := Aside0.mk (below_step (by repeat (first | (with_reducible first | exact HB.out | apply below_alloc | apply pw_below_drewN | apply below_drew1 | refine below_set ?_ GE372.out) | exact HB.out)) hb); clear BK372; clear HB; have HO375 := n0_; have BK372 := n1_; have HB := n2_; clear n0_ n1_ n2_; (try clear hb); (try clear hb2); (try clear hk); (try clear hi); (try clear ho0); obtain ⟨Ao20, co20, eo20⟩ := Kd.R_slice HO375.out; subst eo20; have hcz21_0 : w19.cell? ⟨gb372, 0, none⟩ = some (.bool a0_0) := (blk_cell BK372.out 0).trans rfl; have hcz21_1 : w19.cell? ⟨gb372, 1, none⟩ = some (.slice A0_1 l0_1.length c0_1) := (blk_cell BK372.out 1).trans rfl; have hcz21_2 : w19.cell? ⟨gb372, 2, none⟩ = some (.string a0_2) := (blk_cell BK372.out 2).trans rfl; have hfz21_0 := blk_frozen BK372.out 0; have hfz21_1 := blk_frozen BK372.out 1; have hfz21_2 := blk_frozen BK372.out 2) | (go_at_call 58; (with_reducible refine (subprogram_has.calls k a0_0 _ _ l0_1 a0_2 77 30000 false _ ?side1 ?side2 A8.out).mono ?_); (case side1 => repeat (first | exact (Kd.C_below HR0_1.out HB.out) | (with_reducible refine Kd.C_alloc ?_ _) | (with_reducible refine Kd.C_drewN ?_ _) | (with_reducible refine Kd.C_drew ?_))); (case side2 => exact HC0_1.out); rintro e w22 ⟨rfl, hb⟩; have n0_ := Aside0.mk (Kd.R_below (by (with_reducible repeat (first | apply Kd.R_alloc | apply Kd.R_drewN | apply Kd.R_drew)); exact HO375.out) hb); have n1_ := Aside0.mk (blk_below (g := gb372) (o := .cells #[.bool a0_0, .slice A0_1 l0_1.length c0_1, .string a0_2] 32 (0, 0)) (by (with_reducible repeat (first | refine blk_drewN ?_ _ | refine blk_drew ?_ | refine blk_alloc ?_ _)); exact BK372.out) hb); have n2_ := Aside0.mk (below_step (by repeat (first | (with_reducible first | exact HB.out | apply below_alloc | apply pw_below_drewN | apply below_drew1 | refine below_set ?_ GE372.out) | exact HB.out)) hb); clear HO375; clear BK372; clear HB; have HO375 := n0_; have BK372 := n1_; have HB := n2_; clear n0_ n1_ n2_; (try clear hb); (try clear hb2); (try clear hk); (try clear hi); have hcz23_0 : w22.cell? ⟨gb372, 0, none⟩ = some (.bool a0_0) := (blk_cell BK372.out 0).trans rfl; have hcz23_1 : w22.cell? ⟨gb372, 1, none⟩ = some (.slice A0_1 l0_1.length c0_1) := (blk_cell BK372.out 1).trans rfl; have hcz23_2 : w22.cell? ⟨gb372, 2, none⟩ = some (.string a0_2) := (blk_cell BK372.out 2).trans rfl; have hfz23_0 := blk_frozen BK372.out 0; have hfz23_1 := blk_frozen BK372.out 1; have hfz23_2 := blk_frozen BK372.out 2) | (go_at_call 58; (with_reducible refine (subprogram_has.calls k a0_0 _ _ l0_1 a0_2 77 99000 t377 _ ?side1 ?side2 A16.out).mono ?_); (case side1 => repeat (first | exact (Kd.C_below HR0_1.out HB.out) | (with_reducible refine Kd.C_alloc ?_ _) | (with_reducible refine Kd.C_drewN ?_ _) | (with_reducible refine Kd.C_drew ?_))); (case side2 => exact HC0_1.out); rintro e w24 ⟨rfl, hb⟩; have n0_ := Aside0.mk (Kd.R_below (by (with_reducible repeat (first | apply Kd.R_alloc | apply Kd.R_drewN | apply Kd.R_drew)); exact HO375.out) hb); have n1_ := Aside0.mk (blk_below (g := gb372) (o := .cells #[.bool a0_0, .slice A0_1 l0_1.length c0_1, .string a0_2] 32 (0, 0)) (by (with_reducible repeat (first | refine blk_drewN ?_ _ | refine blk_drew ?_ | refine blk_alloc ?_ _)); exact BK372.out) hb); have n2_ := Aside0.mk (below_step (by repeat (first | (with_reducible first | exact HB.out | apply below_alloc | apply pw_below_drewN | apply below_drew1 | refine below_set ?_ GE372.out) | exact HB.out)) hb); clear HO375; clear BK372; clear HB; have HO375 := n0_; have BK372 := n1_; have HB := n2_; clear n0_ n1_ n2_; (try clear hb); (try clear hb2); (try clear hk); (try clear hi)))
   go_ret
   exact ⟨by first | rfl | (simp [errW_none, errW_some] <;> rfl) | (simp [*, errW_none, errW_some] <;> rfl), by repeat (first | (with_reducible first | exact HB.out | apply below_alloc | apply pw_below_drewN | apply below_drew1 | refine below_set ?_ GE372.out) | exact HB.out)⟩
end Go.Proofs.Ytehkhbnhmehobaa.P
namespace Go.Proofs.Ytehkhbnhmehobaa.P
open Go.RowKit Go.Proofs.YtehkhbnhmehobaaW.PrintWords Go.Proofs.YtehkhbnhmehobaaW.PrintLast Go.Proofs.YtehkhbnhmehobaaW.PrintMore
set_option linter.unusedVariables false
def idxF {α : Type} (p : α → Option Bool) : List α → Int → Option Int
  | [], _ => some (-1)
  | x :: l, i => (p x).bind fun b => if b = true then some i else idxF p l (i + 1)
theorem idxF_step {α : Type} {p : α → Option Bool} {l : List α} {j : Nat} {r : Int} (hj : j < l.length) (h : idxF p (l.drop j) (j : Int) = some r) :
    ∃ b, p (l[j]) = some b ∧ (if b = true then r = (j : Int) else idxF p (l.drop (j + 1)) ((j + 1 : Nat) : Int) = some r) := by
  rw [List.drop_eq_getElem_cons hj] at h
  simp only [idxF] at h
  obtain ⟨b, hb, h⟩ := Option.bind_eq_some_iff.mp h
  refine ⟨b, hb, ?_⟩
  cases b with
  | true => simp at h; simp [← h]
  | false =>
    simp at h ⊢
    exact h
theorem idxF_mono {α : Type} {p q : α → Option Bool} (h : ∀ x, LeO (p x) (q x)) : ∀ (l : List α) (i : Int), LeO (idxF p l i) (idxF q l i)
  | [], _ => LeO.refl _
  | x :: l, i => by
    simp only [idxF]
    exact LeO.bind (h x) (fun b => LeO.ite (LeO.refl _) (idxF_mono h l (i + 1)))
set_option maxHeartbeats 1000000 in
set_option maxRecDepth 100000 in
theorem IndexFunc_any (g : Nat) (fn : Func) (hf : Try.prog.funcs[g]? = some fn) (hname : (fn.name == "runtime.NumGoroutine") = false) (hbody : fn.body.isSome = true) (caps : Array Value) (p : S32 → Option Bool) (w : World)
    (hp : Aside0 (∀ (x : S32) (A1 : Option Addr) (c1 : Nat) (b : Bool) (W : World), Below w.heap.size w W → Kd.C k78 W A1 x.f1.length x.f1 → x.f1.length ≤ c1 → p x = some b →
      Calls Try.prog g (#[.agg #[.bool x.f0, .slice A1 x.f1.length c1, .string x.f2]] ++ caps) W fun e W' => e = .returned (.bool b) ∧ Below W.heap.size W W'))
    (A0 : Option Addr) (c0 : Nat) (l0 : List S32) (r : Int) (hr0 : Kd.C k32 w A0 l0.length l0) (hc0 : l0.length ≤ c0) (h : idxF p l0 0 = some r) :
    Calls Try.prog 73 #[.slice A0 l0.length c0, .func (.func g) #[] caps] w fun e w' => e = .returned (.int .i64 r) ∧ Below w.heap.size w w' := by
  have hu := Try.underlying32
  have HR0 := Aside0.mk hr0
  have HM := Aside0.mk (Kd.C_max hr0)
  have H := Aside0.mk h
  clear hr0 h
  go_enter Try.func73, Try.ntmps73
  go_wp2
  go_loopw [8] (fun i w' => ∃ j : Nat, i = .int .i64 j ∧ Aside0 (j ≤ l0.length) ∧ Aside0 (idxF p (l0.drop j) (j : Int) = some r) ∧ Aside0 (Below w.heap.size w w')) (fun i _ => l0.length - (intOf i).toNat)
  case atStart => exact ⟨0, rfl, ⟨Nat.zero_le _⟩, ⟨H.out⟩, ⟨Below.refl _ _⟩⟩
  case round =>
    obtain ⟨j, rfl, HJ, HI, HB⟩ := hrel
    by_cases hlt : j < l0.length
    · obtain ⟨b, hb, hI⟩ := idxF_step hlt HI.out
      obtain ⟨ad, A1, c1, e, hx0, hx1, hx2, hl1, hi1⟩ := at_T32 (Kd.C_below HR0.out HB.out) (j : Int) (by omega) (by omega)
      cases e
      have hrd : rd_T32 l0 (j : Int) = l0[j] := by simp [rd_T32, hlt]
      rw [hrd] at hx0 hx1 hx2 hl1 hi1
      generalize l0[j] = x at *
      clear hrd
      simp only [Int.toNat_natCast] at hx0 hx1 hx2
      have hlt' : decide ((j : Int) < (l0.length : Int)) = true := by simp; omega
      have HI2 := Aside0.mk hI
      have HL1 := Aside0.mk hl1
      have HI1 := Aside0.mk hi1
      have HP := Aside0.mk hb
      clear hI hl1 hi1 hb
      go_wp2_with ((with_reducible refine gate_dst (N := 16) rfl ?_); refine goesV_ (some 16) rfl rfl (caps := caps) rfl hf hname hbody (#[.agg #[.bool x.f0, .slice A1 x.f1.length c1, .string x.f2]] ++ caps) rfl (congrArg (fun z => z ++ caps) (by (try simp only [List.map_toArray, List.map_cons, List.map_nil]); rfl)) ?_; (with_reducible refine (hp.out x A1 c1 b _ HB.out HI1.out HL1.out HP.out).mono ?_); rintro e w2 ⟨rfl, hb2⟩; refine ⟨_, rfl, ?_⟩; have HB2 := Aside0.mk (below_then HB.out HB.out.size hb2); clear hb2)
      · have hbt : b = true := by assumption
        have hI3 := HI2.out
        rw [if_pos hbt] at hI3
        subst hI3
        go_ret
        exact ⟨rfl, HB2.out⟩
      · have hbf : ¬ b = true := by simpa using (show b = false by assumption)
        have hI3 := HI2.out
        rw [if_neg hbf] at hI3
        have HI3 := Aside0.mk hI3
        clear hI3
        go_roundw
        case rel => exact ⟨j + 1, by rw [wrap_succ hlt HM.out], ⟨by omega⟩, ⟨HI3.out⟩, ⟨HB2.out⟩⟩
        case measure => rw [wrap_succ hlt HM.out]; simp only [intOf, Int.toNat_natCast]; omega
    · have hlt' : decide ((j : Int) < (l0.length : Int)) = false := by simp; omega
      have hI := HI.out
      rw [List.drop_eq_nil_of_le (by omega)] at hI
      simp only [idxF, Option.some.injEq] at hI
      subst hI
      go_wp2
      go_ret
      exact ⟨rfl, HB.out⟩
set_option maxRecDepth 100000 in
theorem ContainsFunc_any (g : Nat) (fn : Func) (hf : Try.prog.funcs[g]? = some fn) (hname : (fn.name == "runtime.NumGoroutine") = false) (hbody : fn.body.isSome = true) (caps : Array Value) (p : S32 → Option Bool) (w : World)
    (hp : Aside0 (∀ (x : S32) (A1 : Option Addr) (c1 : Nat) (b : Bool) (W : World), Below w.heap.size w W → Kd.C k78 W A1 x.f1.length x.f1 → x.f1.length ≤ c1 → p x = some b →
      Calls Try.prog g (#[.agg #[.bool x.f0, .slice A1 x.f1.length c1, .string x.f2]] ++ caps) W fun e W' => e = .returned (.bool b) ∧ Below W.heap.size W W'))
    (A0 : Option Addr) (c0 : Nat) (l0 : List S32) (r : Bool) (hr0 : Kd.C k32 w A0 l0.length l0) (hc0 : l0.length ≤ c0) (h : (idxF p l0 0).map (fun i => decide (i ≥ 0)) = some r) :
    Calls Try.prog 38 #[.slice A0 l0.length c0, .func (.func g) #[] caps] w fun e w' => e = .returned (.bool r) ∧ Below w.heap.size w w' := by
  obtain ⟨i, hi, hr⟩ := Option.map_eq_some_iff.mp h
  have HR0 := Aside0.mk hr0
  have HC0 := Aside0.mk hc0
  have H := Aside0.mk hi
  have HE := Aside0.mk hr
  clear hr0 h hi hc0 hr
  go_enter Try.func38, Try.ntmps38
  go_wp2_with (go_at_call 73; (with_reducible refine (IndexFunc_any g fn hf hname hbody caps p _ hp A0 c0 l0 i HR0.out HC0.out H.out).mono ?_); rintro e w2 ⟨rfl, hb2⟩; have HB2 := Aside0.mk hb2; clear hb2)
  go_ret
  exact ⟨by rw [← HE.out]; rfl, HB2.out⟩
def IndexFunc_end.f (k : Nat) (l0 : List S32) : Option Int := idxF (fun x => subprogram_Split_1.f k x.f0 x.f1 x.f2) l0 0
theorem IndexFunc_end.mono : ∀ l0 k, LeO (IndexFunc_end.f k l0) (IndexFunc_end.f (k + 1) l0) := by
  intro l0 k
  unfold IndexFunc_end.f
  exact idxF_mono (fun x => subprogram_Split_1.mono _ _ _ _) l0 0
theorem IndexFunc_end.calls (k : Nat) (A0 : Option Addr) (c0 : Nat) (l0 : List S32) (r : Int) (w : World) (hr0 : Kd.C k32 w A0 l0.length l0) (hc0 : l0.length ≤ c0) (h : IndexFunc_end.f k l0 = some r) :
    Calls Try.prog 73 #[.slice A0 l0.length c0, .func (.func 75) #[] #[]] w fun e w' => e = .returned (.int .i64 r) ∧ Below w.heap.size w w' :=
  IndexFunc_any 75 _ Try.func75 (by kernel_rfl) rfl #[] (fun x => subprogram_Split_1.f k x.f0 x.f1 x.f2) w ⟨fun x A1 c1 b W _ hk hc hb => subprogram_Split_1.calls k x.f0 A1 c1 x.f1 x.f2 b W hk hc hb⟩ A0 c0 l0 r hr0 hc0 h
def IndexFunc_back.f (k : Nat) (l0 : List S32) : Option Int := idxF (fun x => subprogram_Split_2.f k x.f0 x.f1 x.f2) l0 0
theorem IndexFunc_back.mono : ∀ l0 k, LeO (IndexFunc_back.f k l0) (IndexFunc_back.f (k + 1) l0) := by
  intro l0 k
  unfold IndexFunc_back.f
  exact idxF_mono (fun x => subprogram_Split_2.mono _ _ _ _) l0 0
theorem IndexFunc_back.calls (k : Nat) (A0 : Option Addr) (c0 : Nat) (l0 : List S32) (r : Int) (w : World) (hr0 : Kd.C k32 w A0 l0.length l0) (hc0 : l0.length ≤ c0) (h : IndexFunc_back.f k l0 = some r) :
    Calls Try.prog 73 #[.slice A0 l0.length c0, .func (.func 77) #[] #[]] w fun e w' => e = .returned (.int .i64 r) ∧ Below w.heap.size w w' :=
  IndexFunc_any 77 _ Try.func77 (by kernel_rfl) rfl #[] (fun x => subprogram_Split_2.f k x.f0 x.f1 x.f2) w ⟨fun x A1 c1 b W _ hk hc hb => subprogram_Split_2.calls k x.f0 A1 c1 x.f1 x.f2 b W hk hc hb⟩ A0 c0 l0 r hr0 hc0 h
def ContainsFunc_marked.f (k : Nat) (l0 : List S32) : Option Bool := (idxF (fun x => subprogram_marked.f k x.f0 x.f1 x.f2) l0 0).map (fun i => decide (i ≥ 0))
theorem ContainsFunc_marked.mono : ∀ l0 k, LeO (ContainsFunc_marked.f k l0) (ContainsFunc_marked.f (k + 1) l0) := by
  intro l0 k
  unfold ContainsFunc_marked.f
  exact LeO.map _ (idxF_mono (fun x => subprogram_marked.mono _ _ _ _) l0 0)
theorem ContainsFunc_marked.calls (k : Nat) (A0 : Option Addr) (c0 : Nat) (l0 : List S32) (r : Bool) (w : World) (hr0 : Kd.C k32 w A0 l0.length l0) (hc0 : l0.length ≤ c0) (h : ContainsFunc_marked.f k l0 = some r) :
    Calls Try.prog 38 #[.slice A0 l0.length c0, .func (.func 100) #[] #[]] w fun e w' => e = .returned (.bool r) ∧ Below w.heap.size w w' :=
  ContainsFunc_any 100 _ Try.func100 (by kernel_rfl) rfl #[] (fun x => subprogram_marked.f k x.f0 x.f1 x.f2) w ⟨fun x A1 c1 b W _ hk hc hb => subprogram_marked.calls k x.f0 A1 c1 x.f1 x.f2 b W hk hc hb⟩ A0 c0 l0 r hr0 hc0 h
end Go.Proofs.Ytehkhbnhmehobaa.P
namespace Go.Proofs.Ytehkhbnhmehobaa.P
open Go.RowKit Go.Proofs.YtehkhbnhmehobaaW.PrintWords Go.Proofs.YtehkhbnhmehobaaW.PrintLast Go.Proofs.YtehkhbnhmehobaaW.PrintMore
set_option linter.unusedVariables false
set_option linter.unusedSimpArgs false
def Clone_Block.f (l0 : List (S32)) : Option ((List (S32))) := if l0.length < 2932031007402 then some l0 else none
set_option maxHeartbeats 1000000 in
set_option maxRecDepth 100000 in
theorem Clone_Block.calls (P0_ : Nat → Prop) (A0 : Option Addr) (c0 : Nat) (l0 : List (S32)) (r : List (S32)) (w : World) (hs0 : Kd.V k32 32 w w.heap.size (fun k_ => P0_ k_) (.slice A0 l0.length c0) l0) (h : Clone_Block.f l0 = some r) :
    Calls Try.prog 33 #[.slice A0 l0.length c0] w fun e w' => ∃ v0_ : Value, e = .returned (v0_) ∧ Kd.N k32 32 w' w.heap.size (fun k_ => (P0_ k_ ∨ w.heap.size ≤ k_)) v0_ r ∧ Below w.heap.size w w' := by
  unfold Clone_Block.f at h
  by_cases hl : l0.length < 2932031007402
  rotate_left
  · rw [if_neg hl] at h; cases h
  rw [if_pos hl] at h
  obtain rfl := Option.some.inj h
  have HL := Aside0.mk hl
  have HS := Aside0.mk hs0
  clear hs0 hl h
  have qT : ∀ (w : World) (a : Option Addr) (n c n' c' : Nat), (binOp .eql 35 (.slice a n c) (.slice none n' c')).run Try.prog w = .ok (.bool a.isNone) w := fun w a n c n' c' => Lib.run_eql_slice_nil w _ _ a n c n' c' Try.underlying35
  cases A0 with
  | none =>
    have h0 : l0 = [] := by
      have hc := (Kd.V_reads' HS.out).2.2
      obtain ⟨_, _, hn⟩ := hc
      cases l0 with
      | nil => rfl
      | cons x l => obtain ⟨ad, he, _⟩ := hn (by simp); cases he
    subst h0
    go_enter Try.func33, Try.ntmps33
    go_wp2
    go_ret
    exact ⟨_, rfl, Kd.N_nil _ _ _ _ _, Below.refl _ _⟩
  | some ad =>
    go_enter Try.func33, Try.ntmps33
    go_wp2_with (first | ((with_reducible refine gate_dst (N := 5) rfl ?_); refine Kd.N_lit k32 w.heap.size 32 ?hg (N' := 5) ?hd (xs := ([] : List (S32))) (inner := []) (ok := (fun k_ => (P0_ k_ ∨ w.heap.size ≤ k_))) (okp := (fun k_ => (P0_ k_ ∨ w.heap.size ≤ k_))) ?hr ?hp (fun _ hk => hk) (.inr (Nat.le_refl _)) (Below.refl _ _) (Nat.le_refl _) (by simp) ?_; (case hd => rfl); (case hg => rfl); (case hr => first | (go_simp; done) | (go_simp; rfl)); (case hp => exact (Reps.none _ _)); intro v5 w4 ho5 hb hg_ hnew_; have HO5 := Aside0.mk ho5; have HB4 := Aside0.mk hb; have HN5 := Aside0.mk (show ∃ b, v5.ownBlock = some b ∧ w.heap.size ≤ b from hnew_); have HS4 := Aside0.mk (Kd.V_elder' HS.out (Kd.N_base ho5) hb); clear hg_ hnew_ hb ho5) | ((with_reducible refine gate_builtin (b := .append) (xs := #[.tmp 5, .tmp 6]) rfl ?_); at_builtin; refine Kd.N_append_rows k32 (w0 := w) w.heap.size rfl (.tmp 5) (.tmp 6) 35 32 (.agg #[(.bool false), (.slice none 0 0), (.string ⟨#[]⟩)]) 48 rfl Try.underlying35 info32 rfl (by decide) (by omega) v5 [] l0 _ _ _ (fun k_ => (P0_ k_ ∨ w.heap.size ≤ k_)) (fun k_ => (fun k_ => (P0_ k_ ∨ w.heap.size ≤ k_)) k_ ∧ some k_ ≠ (v5 : Value).ownBlock) rfl rfl ?aO ?aR (fun _ hk => hk) ?aF ?aB ?aS ?aL ?_; (case aO => exact HO5.out); (case aR => exact Kd.V_F (Kd.V_mono HS4.out (fun k_ hk => ⟨.inl hk.1, hk.2⟩))); (case aF => exact fun k_ hk => .inr (Nat.le_trans HB4.out.size hk)); (case aB => exact HB4.out); (case aS => exact HB4.out.size); (case aL => have := HL.out; simp only [List.length_nil]; omega); intro v7 w5 ho7 hb hg_ hat_; have HO7 := Aside0.mk ho7; have HB5 := Aside0.mk hb; clear hg_ hat_ hb ho7))
    go_ret
    exact ⟨_, rfl, HO7.out, HB5.out⟩
def Clone_Word.f (l0 : List (S78)) : Option ((List (S78))) := if l0.length < 8796093022208 then some l0 else none
set_option maxHeartbeats 1000000 in
set_option maxRecDepth 100000 in
theorem Clone_Word.calls (A0 : Option Addr) (c0 : Nat) (l0 : List (S78)) (r : List (S78)) (w : World) (hr0 : Kd.C k78 w A0 l0.length l0) (hc0 : l0.length ≤ c0) (h : Clone_Word.f l0 = some r) :
    Calls Try.prog 65 #[.slice A0 l0.length c0] w fun e w' => ∃ v0_ : Value, e = .returned (v0_) ∧ Kd.R k78 78 w' w.heap.size (fun _ => True) v0_ r ∧ Below w.heap.size w w' := by
  unfold Clone_Word.f at h
  by_cases hl : l0.length < 8796093022208
  rotate_left
  · rw [if_neg hl] at h; cases h
  rw [if_pos hl] at h
  obtain rfl := Option.some.inj h
  have HL := Aside0.mk hl
  have HR := Aside0.mk hr0
  clear hr0 hl h
  have qT : ∀ (w : World) (a : Option Addr) (n c n' c' : Nat), (binOp .eql 30 (.slice a n c) (.slice none n' c')).run Try.prog w = .ok (.bool a.isNone) w := fun w a n c n' c' => Lib.run_eql_slice_nil w _ _ a n c n' c' Try.underlying30
  cases A0 with
  | none =>
    have h0 : l0 = [] := by
      obtain ⟨_, _, hn⟩ := HR.out
      cases l0 with
      | nil => rfl
      | cons x l => obtain ⟨ad, he, _⟩ := hn (by simp); cases he
    subst h0
    go_enter Try.func65, Try.ntmps65
    go_wp2
    go_ret
    exact ⟨_, rfl, Kd.R_nil _ _ _ _ _, Below.refl _ _⟩
  | some ad =>
    go_enter Try.func65, Try.ntmps65
    go_wp2_with (first | ((with_reducible refine gate_dst (N := 5) rfl ?_); refine Kd.R_lit k78 w.heap.size 78 ?hg (N := 5) ?hd (xs := ([] : List (S78))) (inner := []) (ok := (fun _ => True)) (okp := (fun _ => False)) ?hr ?hp (fun _ hk => hk.elim) trivial (Below.refl _ _) (Nat.le_refl _) (by simp) ?_; (case hd => rfl); (case hg => rfl); (case hr => first | (go_simp; done) | (go_simp; rfl)); (case hp => exact (Reps.none _ _)); intro v5 w4 ho5 hb hg_ hnew_; have HO5 := Aside0.mk ho5; have HB4 := Aside0.mk hb; have HR4 := Aside0.mk (Kd.C_below HR.out hb); clear hg_ hnew_ hb ho5) | ((with_reducible refine gate_builtin (b := .append) (xs := #[.tmp 5, .tmp 6]) rfl ?_); at_builtin; refine Kd.R_append_rows k78 (Rr := fun x c => k78.K w4 x c) (w0 := w) w.heap.size rfl (.tmp 5) (.tmp 6) 30 78 (.agg #[(.int .u8 0), (.int .i64 0)]) 16 rfl Try.underlying30 info78 rfl (by decide) (by omega) v5 [] l0 _ _ _ (fun _ => True) (fun _ => False) rfl rfl ?aO ?aR ?aK (fun _ hk => hk.elim) (fun _ _ => trivial) ?aB ?aS ?aL ?_; (case aO => exact HO5.out); (case aR => exact HR4.out); (case aK => exact fun x cs hk => by rw [k78_open hk]; exact k78_mkM _ _ _ _); (case aB => exact HB4.out); (case aS => exact HB4.out.size); (case aL => have := HL.out; simp only [List.length_nil]; omega); intro v7 w5 ho7 hb hg_ hat_; have HO7 := Aside0.mk ho7; have HB5 := Aside0.mk hb; clear hg_ hat_ hb ho7))
    go_ret
    exact ⟨_, rfl, HO7.out, HB5.out⟩
end Go.Proofs.Ytehkhbnhmehobaa.P
namespace Go.Proofs.Ytehkhbnhmehobaa.P
open Go.RowKit Go.Proofs.YtehkhbnhmehobaaW.PrintWords Go.Proofs.YtehkhbnhmehobaaW.PrintLast Go.Proofs.YtehkhbnhmehobaaW.PrintMore
set_option linter.unusedVariables false
set_option linter.unusedSimpArgs false
set_option maxHeartbeats 1000000 in
set_option maxRecDepth 100000 in
theorem IndexFuncWord_any (g : Nat) (fn : Func) (hf : Try.prog.funcs[g]? = some fn) (hname : (fn.name == "runtime.NumGoroutine") = false) (hbody : fn.body.isSome = true) (caps : Array Value) (p : S78 → Option Bool) (w : World) (I : World → Prop) (hI0 : I w) (hIB : ∀ W W', I W → Below W.heap.size W W' → I W')
    (hp : Aside0 (∀ (x : S78) (b : Bool) (W : World), I W → p x = some b →
      Calls Try.prog g (#[.agg #[.int .u8 x.f0, .int .i64 x.f1]] ++ caps) W fun e W' => e = .returned (.bool b) ∧ Below W.heap.size W W'))
    (A0 : Option Addr) (c0 : Nat) (l0 : List S78) (r : Int) (hr0 : Kd.C k78 w A0 l0.length l0) (hc0 : l0.length ≤ c0) (h : idxF p l0 0 = some r) :
    Calls Try.prog 108 #[.slice A0 l0.length c0, .func (.func g) #[] caps] w fun e w' => e = .returned (.int .i64 r) ∧ Below w.heap.size w w' := by
  have hu := Try.underlying78
  have HR0 := Aside0.mk hr0
  have HI0 := Aside0.mk hI0
  clear hI0
  have HM := Aside0.mk (Kd.C_max hr0)
  have H := Aside0.mk h
  clear hr0 h
  go_enter Try.func108, Try.ntmps108
  go_wp2
  go_loopw [8] (fun i w' => ∃ j : Nat, i = .int .i64 j ∧ Aside0 (j ≤ l0.length) ∧ Aside0 (idxF p (l0.drop j) (j : Int) = some r) ∧ Aside0 (Below w.heap.size w w')) (fun i _ => l0.length - (intOf i).toNat)
  case atStart => exact ⟨0, rfl, ⟨Nat.zero_le _⟩, ⟨H.out⟩, ⟨Below.refl _ _⟩⟩
  case round =>
    obtain ⟨j, rfl, HJ, HI, HB⟩ := hrel
    by_cases hlt : j < l0.length
    · obtain ⟨b, hb, hI⟩ := idxF_step hlt HI.out
      obtain ⟨ad, e, hx0, hx1⟩ := at_T78 (Kd.C_below HR0.out HB.out) (j : Int) (by omega) (by omega)
      cases e
      have hrd : rd_T78 l0 (j : Int) = l0[j] := by simp [rd_T78, hlt]
      rw [hrd] at hx0 hx1
      generalize l0[j] = x at *
      clear hrd
      simp only [Int.toNat_natCast] at hx0 hx1
      have hlt' : decide ((j : Int) < (l0.length : Int)) = true := by simp; omega
      have HI2 := Aside0.mk hI
      have HP := Aside0.mk hb
      clear hI hb
      go_wp2_with ((with_reducible refine gate_dst (N := 16) rfl ?_); refine goesV_ (some 16) rfl rfl (caps := caps) rfl hf hname hbody (#[.agg #[.int .u8 x.f0, .int .i64 x.f1]] ++ caps) rfl (congrArg (fun z => z ++ caps) (by (try simp only [List.map_toArray, List.map_cons, List.map_nil]); rfl)) ?_; (with_reducible refine (hp.out x b _ (hIB _ _ HI0.out HB.out) HP.out).mono ?_); rintro e w2 ⟨rfl, hb2⟩; refine ⟨_, rfl, ?_⟩; have HB2 := Aside0.mk (below_then HB.out HB.out.size hb2); clear hb2)
      · have hbt : b = true := by assumption
        have hI3 := HI2.out
        rw [if_pos hbt] at hI3
        subst hI3
        go_ret
        exact ⟨rfl, HB2.out⟩
      · have hbf : ¬ b = true := by simpa using (show b = false by assumption)
        have hI3 := HI2.out
        rw [if_neg hbf] at hI3
        have HI3 := Aside0.mk hI3
        clear hI3
        go_roundw
        case rel => exact ⟨j + 1, by rw [wrap_succ hlt HM.out], ⟨by omega⟩, ⟨HI3.out⟩, ⟨HB2.out⟩⟩
        case measure => rw [wrap_succ hlt HM.out]; simp only [intOf, Int.toNat_natCast]; omega
    · have hlt' : decide ((j : Int) < (l0.length : Int)) = false := by simp; omega
      have hI := HI.out
      rw [List.drop_eq_nil_of_le (by omega)] at hI
      simp only [idxF, Option.some.injEq] at hI
      subst hI
      go_wp2
      go_ret
      exact ⟨rfl, HB.out⟩
def delF {α : Type} (p : α → Option Bool) : List α → Option (List α)
  | [] => some []
  | x :: l => (p x).bind fun b => (delF p l).map fun r => if b = true then r else x :: r
theorem delF_spec {α : Type} {p : α → Option Bool} : ∀ {l r : List α}, delF p l = some r → (∀ x ∈ l, p x = some ((p x).getD false)) ∧ r = l.filter (fun x => !(p x).getD false)
  | [], r, h => by
    simp [delF] at h
    exact ⟨fun x hx => by simp at hx, by simp [h]⟩
  | x :: l, r, h => by
    simp only [delF] at h
    obtain ⟨b, hb, h⟩ := Option.bind_eq_some_iff.mp h
    obtain ⟨r', hr', h⟩ := Option.map_eq_some_iff.mp h
    obtain ⟨h1, h2⟩ := delF_spec hr'
    refine ⟨fun y hy => ?_, ?_⟩
    · rcases List.mem_cons.mp hy with rfl | hy
      · simp [hb]
      · exact h1 y hy
    · rw [List.filter_cons, hb]
      cases b <;> simp at h ⊢ <;> rw [← h, h2]
theorem idxF_total {α : Type} {p : α → Option Bool} {q : α → Bool} : ∀ (l : List α) (i : Int), (∀ x ∈ l, p x = some (q x)) → 0 ≤ i →
    (idxF p l i = some (-1) ∧ ∀ x ∈ l, q x = false) ∨ (∃ j, ∃ hj : j < l.length, idxF p l i = some (i + (j : Int)) ∧ q l[j] = true ∧ ∀ k (hk : k < l.length), k < j → q l[k] = false)
  | [], i, _, _ => .inl ⟨rfl, fun x hx => by simp at hx⟩
  | x :: l, i, h, hi => by
    simp only [idxF, h x List.mem_cons_self, Option.bind_some]
    cases hq : q x with
    | true => exact .inr ⟨0, by simp, by simp, hq, fun k _ hk => by omega⟩
    | false =>
      rcases idxF_total l (i + 1) (fun y hy => h y (List.mem_cons_of_mem _ hy)) (by omega) with ⟨h1, h2⟩ | ⟨j, hj, h1, hq2, h2⟩
      · exact .inl ⟨by simpa using h1, fun y hy => (List.mem_cons.mp hy).elim (fun e => e ▸ hq) (h2 y)⟩
      · refine .inr ⟨j + 1, by simpa using hj, ?_, by simpa using hq2, fun k hk hkj => ?_⟩
        · simp only [Bool.false_eq_true, if_false, h1]
          congr 1
          omega
        · cases k with
          | zero => exact hq
          | succ k => exact h2 k (by simpa using hk) (by omega)
theorem head_kept {W : World} {base g n cap i : Nat} {ok : Nat → Prop} {xs : List S78} (h : Kd.R k78 78 W base ok (.slice (some ⟨g, 0, none⟩) n cap) xs) (hi : i ≤ n) (vs : List Value) (hl : i * 2 + vs.length ≤ cap * 2) :
    Kd.R k78 78 (W.setCells g (i * 2) vs) base ok (.slice (some ⟨g, 0, none⟩) i cap) (xs.take i) ∧ W.grownBy (W.setCells g (i * 2) vs) (some g) := by
  have hn := (Kd.R_reads' h).1
  have hd := Kd.R_take (m := i) h (by omega)
  have hs := setCells_same g vs (i * 2) W
  refine ⟨?_, ⟨hs.1, hs.2.1, hs.2.2.1, Nat.le_of_eq hs.2.2.2.symm, fun k hk hne => setCells_far vs _ k (fun e => hne (by rw [e]))⟩⟩
  obtain ⟨h0, inner, ho, hr⟩ := hd
  have hlx : (xs.take i).length = i := by rw [List.length_take]; omega
  refine ⟨h0, inner, ?_, hr⟩
  rw [hlx] at ho ⊢
  obtain ⟨hl1, ho⟩ := ho
  refine ⟨hl1, ?_⟩
  rcases ho with ⟨he, _⟩ | ⟨g', cap', cur, he, hb, hh, hnc, hcm, hcs, ht⟩
  · cases he
  · injection he with ha _ hc
    injection ha with ha
    injection ha with hg
    subst hg; subst hc
    obtain ⟨cur', h1, h2, h3⟩ := setCells_row vs (i * 2) W cur hh (by rw [hcs]; exact hl)
    refine .inr ⟨g, cap, cur', rfl, hb, h1, hnc, hcm, by rw [h2, hcs], ?_⟩
    rw [← ht, h3]
    have hlen : (cur.toList.take (i * 2)).length = i * 2 := by
      rw [List.length_take, Array.length_toList, hcs]
      exact Nat.min_eq_left (Nat.mul_le_mul_right 2 hnc)
    rw [show i * k78.sz = i * 2 from rfl, List.append_assoc, List.take_append_of_le_length (by omega)]
    rw [List.take_take, Nat.min_self]
theorem zeroCells_len (n : Nat) : (Builtin.zeroCells #[.int .u8 0, .int .i64 0] n).toList.length = n * 2 ∧ ∀ q ∈ (Builtin.zeroCells #[.int .u8 0, .int .i64 0] n).toList, q.oneCell' = true := by
  unfold Builtin.zeroCells
  refine ⟨by simp, fun q hq => ?_⟩
  simp at hq
  obtain ⟨j, _, rfl⟩ := hq
  rcases Nat.mod_two_eq_zero_or_one j with h | h <;> rw [h] <;> rfl
theorem zero_word (w : World) : (zeroValue 78).run Try.prog w = .ok (.agg #[.int .u8 0, .int .i64 0]) w := by kernel_rfl
set_option maxRecDepth 100000 in
theorem clear_tail {ops : Array Oper} {rest : List Oper} {o : Oper} {a : Act} {Q : Exit → Act → World → Prop} {W : World} {base g n cap i : Nat} {ok : Nat → Prop} {xs : List S78} {c : Nat}
    (hN : o.dst = none) (hgd : o.guard = none) (x : Operand) (ho : o.op = .call { callee := .builtin .clear, args := #[x], argTypes := #[30] })
    (h : Kd.R k78 78 W base ok (.slice (some ⟨g, 0, none⟩) n cap) xs) (hi : i ≤ n) (hx : a.eval x = .slice (some ⟨g, i * 2, none⟩) (n - i) c)
    (hK : ∀ w1, Kd.R k78 78 w1 base ok (.slice (some ⟨g, 0, none⟩) i cap) (xs.take i) → W.grownBy w1 (some g) → wpList Try.prog ops Q rest a w1) : wpList Try.prog ops Q (o :: rest) a W := by
  have hn := (Kd.R_reads' h).1
  have hnc := (Kd.R_reads' h).2.1
  have hz := zeroCells_len (n - i)
  have hfit : i * 2 + (Builtin.zeroCells #[.int .u8 0, .int .i64 0] (n - i)).toList.length ≤ cap * 2 := by rw [hz.1]; omega
  have hh := head_kept h hi (Builtin.zeroCells #[.int .u8 0, .int .i64 0] (n - i)).toList hfit
  refine wpList_plain hgd fun K hKK => ?_
  have hrun : (Builtin.clear_ #[30] o.type #[.slice (some ⟨g, i * 2, none⟩) (n - i) c]).run Try.prog W = .ok (.tuple #[]) (W.setCells g (i * 2) (Builtin.zeroCells #[.int .u8 0, .int .i64 0] (n - i)).toList) := by
    cases hm : n - i with
    | zero =>
      have : (Builtin.zeroCells #[.int .u8 0, .int .i64 0] 0).toList = [] := by simp [Builtin.zeroCells]
      rw [this]
      simp [Builtin.clear_, run_underlying Try.underlying30, World.setCells]
    | succ m =>
      have h2 : 0 < n := by omega
      obtain ⟨inner, hown⟩ := Kd.R_own h
      rcases hown.2 with ⟨he, _⟩ | ⟨g', cap', cur, he, hb, hc, _, _, hcs, _⟩
      · cases he
      · injection he with ha _ hcap
        injection ha with ha
        injection ha with hg
        subst hg; subst hcap
        rw [← hm]
        have hcell : ∀ j, j < (Builtin.zeroCells #[.int .u8 0, .int .i64 0] (n - i)).toList.length → (W.cell? ⟨g, i * 2 + j, none⟩).isSome = true := by
          intro j hj
          have hj2 : i * 2 + j < cur.size := by
            rw [hz.1] at hj
            rw [hcs]
            show _ < cap * 2
            omega
          rw [cell_of_row W g _ cur _ (0, 0) hc, Array.getElem?_eq_getElem hj2]
          rfl
        have hst := run_storeCells_cells (P := Try.prog) g (i * 2) (Builtin.zeroCells #[.int .u8 0, .int .i64 0] (n - i)).toList 0 W hcell (fun j _ => blk_frozen hc _) hz.2
        simp only [Nat.add_zero] at hst
        rw [hm] at hst ⊢
        simp [Builtin.clear_, run_underlying Try.underlying30, zero_word, Value.cells, hst]
  unfold Oper.wp
  simp [execOp, ho, hx, hrun, resolve, invoke, builtin, Result.andThen, Deferred.ofValue]
  show K (a.put o.dst _) _
  rw [hN]
  exact hKK _ _ (hK _ hh.1 hh.2)
theorem del_keep {q : S78 → Bool} {l xs : List S78} {i j : Nat} (hij : i < j) (hj : j < l.length) (hl : xs.length = l.length) (ht : xs.take i = (l.take j).filter (fun x => !q x)) (hd : xs.drop j = l.drop j) (hq : q l[j] = false) :
    (xs.set i l[j]).length = l.length ∧ (xs.set i l[j]).take (i + 1) = (l.take (j + 1)).filter (fun x => !q x) ∧ (xs.set i l[j]).drop (j + 1) = l.drop (j + 1) := by
  refine ⟨by simp [hl], ?_, ?_⟩
  · rw [List.take_set, List.take_succ_eq_append_getElem (by omega), List.take_succ_eq_append_getElem hj, List.filter_append, ← ht]
    rw [List.set_append_right _ _ (by simp; omega)]
    simp [hq, Nat.min_eq_left (show i ≤ xs.length by omega)]
  · rw [List.drop_set_of_lt (by omega), ← List.drop_drop, hd, List.drop_drop]
theorem del_drop {q : S78 → Bool} {l xs : List S78} {i j : Nat} (hj : j < l.length) (ht : xs.take i = (l.take j).filter (fun x => !q x)) (hd : xs.drop j = l.drop j) (hq : q l[j] = true) :
    xs.take i = (l.take (j + 1)).filter (fun x => !q x) ∧ xs.drop (j + 1) = l.drop (j + 1) := by
  refine ⟨?_, by rw [← List.drop_drop, hd, List.drop_drop]⟩
  rw [List.take_succ_eq_append_getElem hj, List.filter_append, ← ht]
  simp [hq]
theorem del_start {q : S78 → Bool} {l : List S78} {j : Nat} (hj : j < l.length) (h : ∀ k (hk : k < l.length), k < j → q l[k] = false) (hq : q l[j] = true) : l.take j = (l.take (j + 1)).filter (fun x => !q x) := by
  rw [List.take_succ_eq_append_getElem hj, List.filter_append]
  have : (l.take j).filter (fun x => !q x) = l.take j := by
    rw [List.filter_eq_self]
    intro x hx
    obtain ⟨k, hk, rfl⟩ := List.mem_iff_getElem.mp hx
    rw [List.getElem_take]
    simp at hk
    simp [h k (by omega) (by omega)]
  rw [this]
  simp [hq]
theorem same_at {l xs : List S78} {j : Nat} (hj : j < l.length) (hl : xs.length = l.length) (hd : xs.drop j = l.drop j) : xs.getD j z78 = l[j] := by
  have h1 : (xs.drop j)[0]? = (l.drop j)[0]? := by rw [hd]
  simp [hj] at h1
  rw [List.getD_eq_getElem?_getD, h1]
  rfl
set_option maxHeartbeats 2000000 in
set_option maxRecDepth 100000 in
theorem DeleteFunc_any (g : Nat) (fn : Func) (hf : Try.prog.funcs[g]? = some fn) (hname : (fn.name == "runtime.NumGoroutine") = false) (hbody : fn.body.isSome = true) (caps : Array Value) (p : S78 → Option Bool) (q : S78 → Bool) (w : World) (I : World → Prop) (hI0 : I w) (base : Nat) (ok : Nat → Prop) (v : Value) (l : List S78)
    (hIG : Aside0 (∀ W W', I W → W.grownBy W' v.ownBlock → I W')) (hp : Aside0 (∀ (x : S78) (b : Bool) (W : World), I W → p x = some b →
      Calls Try.prog g (#[.agg #[.int .u8 x.f0, .int .i64 x.f1]] ++ caps) W fun e W' => e = .returned (.bool b) ∧ Below W.heap.size W W'))
    (hR : Kd.R k78 78 w base ok v l) (h : ∀ x ∈ l, p x = some (q x)) :
    Calls Try.prog 86 #[v, .func (.func g) #[] caps] w fun e w' => ∃ v', e = .returned v' ∧ Kd.R k78 78 w' base ok v' (l.filter (fun x => !q x)) ∧ w.grownBy w' v.ownBlock ∧ v'.ownBlock = v.ownBlock := by
  have hu := Try.underlying78
  obtain ⟨A, c, rfl, hlc, hC⟩ := Kd.R_reads hR
  have HI0 := Aside0.mk hI0
  have HR := Aside0.mk hR
  have HC := Aside0.mk hC
  have HLC := Aside0.mk hlc
  have HQ := Aside0.mk h
  have HM := Aside0.mk (Kd.C_max hC)
  have HIB := Aside0.mk (show ∀ W W', I W → Below W.heap.size W W' → I W' from fun W W' hi hb => hIG.out W W' hi (grown_of_below hb _))
  clear hI0 hR hC hlc h
  rcases idxF_total l 0 HQ.out (Int.le_refl 0) with ⟨h1, h2⟩ | ⟨j0, hj0, h1, hq0, h2⟩
  · have H1 := Aside0.mk h1
    have H2 := Aside0.mk (show l.filter (fun x => !q x) = l from by rw [List.filter_eq_self]; intro x hx; simp [h2 x hx])
    clear h1 h2
    go_enter Try.func86, Try.ntmps86
    go_wp2_with (go_at_call 108; (with_reducible refine (IndexFuncWord_any g fn hf hname hbody caps p _ I HI0.out HIB.out hp A c l (-1) HC.out HLC.out H1.out).mono ?_); rintro e w2 ⟨rfl, hb2⟩; have HB2 := Aside0.mk hb2; clear hb2)
    go_ret
    exact ⟨_, rfl, by rw [H2.out]; exact Kd.R_below HR.out HB2.out, grown_of_below HB2.out _, rfl⟩
  · obtain ⟨gv, cap, he, hbg, hgl, cells, hcells⟩ := Kd.R_form HR.out (by omega)
    injection he with heA _ hec
    subst heA; subst hec
    have H1 := Aside0.mk (show idxF p l 0 = some (j0 : Int) from by rw [h1]; simp)
    have H2 := Aside0.mk (del_start hj0 h2 hq0)
    have HJ0 := Aside0.mk hj0
    clear h1 h2 hcells hq0 hbg hgl
    have HM0 := Aside0.mk (wrap_succ hj0 HM.out)
    go_enter Try.func86, Try.ntmps86
    have hneg : ((j0 : Int) == -1) = false := beq_eq_false_iff_ne.mpr (by omega)
    go_wp2_with (go_at_call 108; (with_reducible refine (IndexFuncWord_any g fn hf hname hbody caps p _ I HI0.out HIB.out hp _ c l (j0 : Int) HC.out HLC.out H1.out).mono ?_); rintro e w2 ⟨rfl, hb2⟩; have HB2 := Aside0.mk hb2; clear hb2)
    generalize wrap64 ((j0 : Int) + 1) = m0 at *
    go_loopw [5, 6] (fun vi vj w' => ∃ (i j : Nat) (xs : List S78), vi = .int .i64 i ∧ vj = .int .i64 j ∧ Aside0 (i < j ∧ j ≤ l.length ∧ xs.length = l.length) ∧ Aside0 (xs.take i = (l.take j).filter (fun x => !q x)) ∧ Aside0 (xs.drop j = l.drop j) ∧ Aside0 (Kd.R k78 78 w' base ok (.slice (some ⟨gv, 0, none⟩) l.length c) xs) ∧ Aside0 (w.grownBy w' (some gv))) (fun _ j _ => l.length - (intOf j).toNat)
    case atStart => exact ⟨j0, j0 + 1, l, rfl, by rw [HM0.out], ⟨by omega, HJ0.out, rfl⟩, ⟨H2.out⟩, ⟨rfl⟩, ⟨Kd.R_below HR.out HB2.out⟩, ⟨grown_of_below HB2.out _⟩⟩
    case round =>
      obtain ⟨i, j, xs, rfl, rfl, HIJ, HT, HD, HRr, HG⟩ := hrel
      obtain ⟨hij, hjl, hxl⟩ := HIJ.out
      clear HM0 HB2
      by_cases hlt : j < l.length
      · have hC := (Kd.R_reads' HRr.out).2.2
        rw [hxl] at hC
        obtain ⟨ad, e, hx0, hx1⟩ := at_T78 hC (j : Int) (by omega) (by omega)
        cases e
        have hrd : rd_T78 xs (j : Int) = l[j] := by simpa [rd_T78] using same_at hlt hxl HD.out
        rw [hrd] at hx0 hx1
        have HX := Aside0.mk (HQ.out l[j] (List.getElem_mem hlt))
        have HKK := Aside0.mk (del_keep (q := q) hij hlt hxl HT.out HD.out)
        have HKD := Aside0.mk (del_drop (q := q) hlt HT.out HD.out)
        clear hrd hC
        generalize l[j] = x at *
        simp only [Int.toNat_natCast, add_plain] at hx0 hx1
        have hlt' : decide ((j : Int) < (l.length : Int)) = true := by simp; omega
        have hp1 : (0 : Int) ≤ (i : Int) := by omega
        have hp2 : (i : Int) < (l.length : Int) := by omega
        have HXL := Aside0.mk hxl
        clear hxl
        cases cq : q x with
        | true =>
          have HX2 := Aside0.mk (HX.out.trans (congrArg some cq))
          obtain ⟨k1, k2⟩ := HKD.out cq
          have K1 := Aside0.mk k1
          have K2 := Aside0.mk k2
          clear k1 k2 HKK HKD cq
          go_wp2_with (first | ((with_reducible refine gate_dst (N := 28) rfl ?_); refine goesV_ (some 28) rfl rfl (caps := caps) rfl hf hname hbody (#[.agg #[.int .u8 x.f0, .int .i64 x.f1]] ++ caps) rfl (congrArg (fun z => z ++ caps) (by (try simp only [List.map_toArray, List.map_cons, List.map_nil]); rfl)) ?_; (with_reducible refine (hp.out x true _ (hIG.out _ _ HI0.out (grown_trans HG.out (World.grownBy_alloc wr _ _))) HX2.out).mono ?_); rintro e w3 ⟨rfl, hb2⟩; refine ⟨_, rfl, ?_⟩; have HB2 := Aside0.mk hb2; have HR3 := Aside0.mk (Kd.R_below (Kd.R_alloc HRr.out _) hb2); have HG3 := Aside0.mk (grown_trans HG.out (grown_trans (World.grownBy_alloc wr _ _) (grown_of_below hb2 _))); clear hb2))
          go_roundw
          case rel => exact ⟨i, j + 1, xs, rfl, by rw [wrap_succ hlt HM.out], ⟨by omega, by omega, HXL.out⟩, ⟨K1.out⟩, ⟨K2.out⟩, ⟨HR3.out⟩, ⟨HG3.out⟩⟩
          case measure => rw [wrap_succ hlt HM.out]; simp only [intOf, Int.toNat_natCast]; omega
        | false =>
          have HX2 := Aside0.mk (HX.out.trans (congrArg some cq))
          obtain ⟨k0, k1, k2⟩ := HKK.out cq
          have K0 := Aside0.mk k0
          have K1 := Aside0.mk k1
          have K2 := Aside0.mk k2
          have HP2 := Aside0.mk hp2
          clear k0 k1 k2 HKK HKD cq
          go_wp2_with (first | ((with_reducible refine gate_dst (N := 28) rfl ?_); refine goesV_ (some 28) rfl rfl (caps := caps) rfl hf hname hbody (#[.agg #[.int .u8 x.f0, .int .i64 x.f1]] ++ caps) rfl (congrArg (fun z => z ++ caps) (by (try simp only [List.map_toArray, List.map_cons, List.map_nil]); rfl)) ?_; (with_reducible refine (hp.out x false _ (hIG.out _ _ HI0.out (grown_trans HG.out (World.grownBy_alloc wr _ _))) HX2.out).mono ?_); rintro e w3 ⟨rfl, hb2⟩; refine ⟨_, rfl, ?_⟩; have HB2 := Aside0.mk hb2; have HR3 := Aside0.mk (Kd.R_below (Kd.R_alloc HRr.out _) hb2); have HG3 := Aside0.mk (grown_trans HG.out (grown_trans (World.grownBy_alloc wr _ _) (grown_of_below hb2 _))); have hy0 : w3.cell? ⟨wr.heap.size, 0, none⟩ = some (.int .u8 x.f0) := (blk_cell (blk_below (blk_new wr _) hb2) 0).trans rfl; have hy1 : w3.cell? ⟨wr.heap.size, 1, none⟩ = some (.int .i64 x.f1) := (blk_cell (blk_below (blk_new wr _) hb2) 1).trans rfl; obtain ⟨ce, hcl_, hcm_, hcc_, _⟩ := Kd.R_elem HR3.out z78 (i : Int) (by omega) (by have := HP2.out; omega); have HCL := Aside0.mk hcl_; have HCC := Aside0.mk hcc_; have HCN := Aside0.mk (show ce.take 0 ++ [.int .u8 x.f0, .int .i64 x.f1] ++ ce.drop (0 + 2) = [.int .u8 x.f0, .int .i64 x.f1] from by rw [List.drop_eq_nil_of_le (by rw [hcl_]; show 2 ≤ 0 + 2; omega)]; simp); clear hcl_ hcm_ hcc_; clear hb2) | ((with_reducible refine gate_store (p := 33) rfl ?_); refine Kd.R_store k78 (w0 := w3) base rfl rfl 78 (.tmp 33) (.tmp 32) rfl 78 (i : Int) 0 xs x (.agg #[.int .u8 x.f0, .int .i64 x.f1]) [.int .u8 x.f0, .int .i64 x.f1] ce ok (fun _ => False) rfl (by simp; rfl) rfl rfl (by kernel_rfl) (by intro u_ hu_; simp at hu_; rcases hu_ with rfl | rfl <;> rfl) HR3.out (by omega) (by have := HP2.out; omega) HCL.out HCC.out (by show 0 + 2 ≤ 2; omega) ?hM (fun _ h_ => h_.elim) ⟨rfl, rfl, rfl, Nat.le_refl _, fun _ _ => rfl⟩ ?_; (case hM => exact Eq.mpr (congrArg (k78.M w3 base (fun _ => False) x) HCN.out) (k78_mkM _ _ _ _)); intro w4 hr4 _ hg4; have HR4 := Aside0.mk hr4; have HG4 := Aside0.mk (grown_trans HG3.out hg4); clear hr4 hg4))
          go_roundw
          case rel => exact ⟨i + 1, j + 1, xs.set i x, by rw [wrap_succ (show i < l.length by omega) HM.out], by rw [wrap_succ hlt HM.out], ⟨by omega, by omega, K0.out⟩, ⟨K1.out⟩, ⟨K2.out⟩, ⟨by simpa using HR4.out⟩, ⟨HG4.out⟩⟩
          case measure => rw [wrap_succ hlt HM.out]; simp only [intOf, Int.toNat_natCast]; omega
      · have hlt' : decide ((j : Int) < (l.length : Int)) = false := by simp; omega
        have hci : ¬ c = i := by have := HLC.out; omega
        have hi0 : (0 : Int) ≤ (i : Int) := by omega
        have hi1 : (i : Int) ≤ (l.length : Int) := by omega
        have hle : i ≤ l.length := by omega
        have hi2 : i ≤ c := by have := HLC.out; omega
        have HE := Aside0.mk (show xs.take i = l.filter (fun x => !q x) from by rw [HT.out, List.take_of_length_le (by omega)])
        go_wp2_with ((with_reducible refine gate_builtin (b := .clear) (xs := #[.tmp 38]) rfl ?_); refine clear_tail (base := base) (ok := ok) (xs := xs) rfl rfl (.tmp 38) rfl HRr.out hle rfl ?_; intro w4 hr4 hg4; have HR4 := Aside0.mk hr4; have HG4 := Aside0.mk (grown_trans HG.out hg4); clear hr4 hg4)
        go_ret
        exact ⟨_, rfl, by rw [← HE.out]; exact HR4.out, HG4.out, rfl⟩
end Go.Proofs.Ytehkhbnhmehobaa.P
namespace Go.Proofs.Ytehkhbnhmehobaa.P
open Go.RowKit Go.Proofs.YtehkhbnhmehobaaW.PrintWords Go.Proofs.YtehkhbnhmehobaaW.PrintLast Go.Proofs.YtehkhbnhmehobaaW.PrintMore
attribute [local go_sem] max2_int min2_int max_two min_two max_three min_three max_four min_four
set_option linter.unusedVariables false
set_option linter.unusedSimpArgs false
theorem eqA26 (d : Nat) (w : World) (x0 y0 : Int) (x1 y1 : Int) (x2 y2 : Int) (x3 y3 : Int) (x4 y4 : Int) (x5 y5 : Int) (x6 y6 : Int) (x7 y7 : Int) :
    (Op.equalIn (d + 2) 26 (.agg #[.int .i64 x0, .int .i64 x1, .int .i64 x2, .int .i64 x3, .int .i64 x4, .int .i64 x5, .int .i64 x6, .int .i64 x7]) (.agg #[.int .i64 y0, .int .i64 y1, .int .i64 y2, .int .i64 y3, .int .i64 y4, .int .i64 y5, .int .i64 y6, .int .i64 y7])).run Try.prog w = .ok (x0 == y0 && (x1 == y1 && (x2 == y2 && (x3 == y3 && (x4 == y4 && (x5 == y5 && (x6 == y6 && (x7 == y7)))))))) w := by
  refine eqA_of Try.underlying26 (by kernel_rfl) ?_
  refine eqf_cons (by rfl) (by go_simp; rfl) (by go_simp; rfl) (by go_simp) ?_
  refine eqf_cons (by rfl) (by go_simp; rfl) (by go_simp; rfl) (by go_simp) ?_
  refine eqf_cons (by rfl) (by go_simp; rfl) (by go_simp; rfl) (by go_simp) ?_
  refine eqf_cons (by rfl) (by go_simp; rfl) (by go_simp; rfl) (by go_simp) ?_
  refine eqf_cons (by rfl) (by go_simp; rfl) (by go_simp; rfl) (by go_simp) ?_
  refine eqf_cons (by rfl) (by go_simp; rfl) (by go_simp; rfl) (by go_simp) ?_
  refine eqf_cons (by rfl) (by go_simp; rfl) (by go_simp; rfl) (by go_simp) ?_
  exact eqf_last (by rfl) (by go_simp; rfl) (by go_simp; rfl) (by go_simp)
end Go.Proofs.Ytehkhbnhmehobaa.P
