/- A part of the proof of ModalGroup. -/
import Derived.Lib.SliceRun
import Derived.Test.YtehkhbnhmehobaaCModalGroup1
import Derived.Test.YtehkhbnhmehobaaCModalGroup2
import Derived.Test.YtehkhbnhmehobaaCModalGroup3
namespace Go.Proofs.Ytehkhbnhmehobaa.P
open Go.RowKit Go.Proofs.YtehkhbnhmehobaaW.PrintWords Go.Proofs.YtehkhbnhmehobaaW.PrintLast Go.Proofs.YtehkhbnhmehobaaW.PrintMore
attribute [local go_sem] max2_int min2_int max_two min_two max_three min_three max_four min_four   -- for this text's walks alone
set_option linter.unusedVariables false
set_option linter.unusedSimpArgs false
/-! ### subprogram_Split_2: function 77 -/
def subprogram_Split_2.f (k : Nat) (a0_0 : Bool) (l0_1 : List (S78)) (a0_2 : ByteArray) : Option (Bool) := (subprogram_plain.f a0_0 l0_1 a0_2).bind fun t945 => (if t945 = true then ((subprogram_has.f k a0_0 l0_1 a0_2 77 99000).bind fun t946 => (some t946)) else (some false))
theorem subprogram_Split_2.mono : ∀ a0 a1 a2 k, LeO (subprogram_Split_2.f k a0 a1 a2) (subprogram_Split_2.f (k + 1) a0 a1 a2) := by
 intro a0 a1 a2 k
 unfold subprogram_Split_2.f
 repeat' first
   | (with_reducible exact subprogram_has.mono _ _ _ _ _ _)
   | (with_reducible exact LeO.refl _)
   | (with_reducible exact LeO.none _)
   | (with_reducible refine LeO.ite ?_ ?_)
   | (with_reducible refine LeO.bind ?_ (fun _ => ?_))
   | exact subprogram_has.mono _ _ _ _ _ _
   | exact LeO.none _
   | refine LeO.ite ?_ ?_
   | refine LeO.bind ?_ (fun _ => ?_)
set_option maxHeartbeats 8000000 in
set_option maxRecDepth 100000 in
theorem subprogram_Split_2.calls (k : Nat) (a0_0 : Bool) (A0_1 : Option Addr) (c0_1 : Nat) (l0_1 : List (S78)) (a0_2 : ByteArray) (r : Bool) (w : World) (hr0_1 : Kd.C k78 w A0_1 l0_1.length l0_1) (hc0_1 : l0_1.length ≤ c0_1) (h : subprogram_Split_2.f k a0_0 l0_1 a0_2 = some r) :
  Calls Try.prog 77 #[.agg #[.bool a0_0, .slice A0_1 l0_1.length c0_1, .string a0_2]] w fun e w' => e = .returned (.bool r) ∧ Below w.heap.size w w' := by
 have hu32 := Try.underlying32
 have HR0_1 := Aside0.mk hr0_1
 have HC0_1 := Aside0.mk hc0_1
 clear hr0_1 hc0_1
 have HB := Aside0.mk (Below.refl w.heap.size w)
 have H : ((subprogram_plain.f a0_0 l0_1 a0_2).bind fun t945 => (if t945 = true then ((subprogram_has.f k a0_0 l0_1 a0_2 77 99000).bind fun t946 => (some t946)) else (some false))) = some r := h
 clear h
 replace H := Option.bind_eq_some_iff.mp H
 obtain ⟨t945, A20, H⟩ := H
 replace H : (if t945 = true then ((subprogram_has.f k a0_0 l0_1 a0_2 77 99000).bind fun t946 => (some t946)) else (some false)) = some r := H
 have A2 := Aside0.mk A20
 clear A20
 by_cases c3 : t945 = true
 ·subst c3
  have H1 : ((subprogram_has.f k a0_0 l0_1 a0_2 77 99000).bind fun t946 => (some t946)) = some r := by rw [if_pos rfl] at H; exact H
  clear H
  have H := H1
  clear H1
  replace H := Option.bind_eq_some_iff.mp H
  obtain ⟨t946, A40, H⟩ := H
  replace H : (some t946) = some r := H
  have A4 := Aside0.mk A40
  clear A40
  obtain rfl := Option.some.inj H
  go_enter Try.func77, Try.ntmps77
  go_wp2_with (first | ((with_reducible refine gate_dst (N := 1) rfl ?_); refine box_event ?hg (N := 1) ?hd (cs := #[.bool a0_0, .slice A0_1 l0_1.length c0_1, .string a0_2]) (t := 32) ?hr ?_; (case hd => rfl); (case hg => rfl); (case hr => first | (go_simp; done) | (go_simp; rfl)); intro gb944 hg w5 hbox hb; have n0_ := Aside0.mk (below_step (by repeat (first | (with_reducible first | exact HB.out | apply below_alloc | apply pw_below_drewN | apply below_drew1) | exact HB.out)) hb); have n1_ := Aside0.mk (hbox); have n2_ := Aside0.mk ((by rw [hg]; exact (below_size (by repeat (first | (with_reducible first | exact HB.out | apply below_alloc | apply pw_below_drewN | apply below_drew1) | exact HB.out))) : w.heap.size ≤ gb944)); have n3_ := Aside0.mk ((by rw [hg]; exact (below_size (by repeat (first | (with_reducible first | exact HB.out | apply below_alloc | apply pw_below_drewN | apply below_drew1) | exact HB.out))) : w.heap.size ≤ gb944)); clear HB; have HB := n0_; have BK944 := n1_; have GW944 := n2_; have GE944 := n3_; clear n0_ n1_ n2_ n3_; clear hb hbox hg; have hcz6_0 : w5.cell? ⟨gb944, 0, none⟩ = some (.bool a0_0) := (blk_cell BK944.out 0).trans rfl; have hcz6_1 : w5.cell? ⟨gb944, 1, none⟩ = some (.slice A0_1 l0_1.length c0_1) := (blk_cell BK944.out 1).trans rfl; have hcz6_2 : w5.cell? ⟨gb944, 2, none⟩ = some (.string a0_2) := (blk_cell BK944.out 2).trans rfl; have hfz6_0 := blk_frozen BK944.out 0; have hfz6_1 := blk_frozen BK944.out 1; have hfz6_2 := blk_frozen BK944.out 2) | ((with_reducible refine gate_callee (f := 78) rfl ?_); refine goesL_ (some 4) rfl rfl Try.func78 (by kernel_rfl) rfl #[.agg #[.bool a0_0, .slice A0_1 l0_1.length c0_1, .string a0_2]] rfl (by (try simp only [List.map_toArray, List.map_cons, List.map_nil]); first | done | rfl | (simp only [List.length_drop, List.length_take]; rfl)) ?_; (with_reducible refine (subprogram_plain.calls a0_0 _ _ l0_1 a0_2 true _ ?side1 ?side2 A2.out).mono ?_); (case side1 => repeat (first | exact (Kd.C_below HR0_1.out HB.out) | (with_reducible refine Kd.C_alloc ?_ _) | (with_reducible refine Kd.C_drewN ?_ _) | (with_reducible refine Kd.C_drew ?_))); (case side2 => exact HC0_1.out); rintro e w7 ⟨rfl, hb⟩; refine ⟨_, rfl, ?_⟩; have n0_ := Aside0.mk (blk_below (g := gb944) (o := .cells #[.bool a0_0, .slice A0_1 l0_1.length c0_1, .string a0_2] 32 (0, 0)) (by (with_reducible repeat (first | refine blk_drewN ?_ _ | refine blk_drew ?_ | refine blk_alloc ?_ _)); exact BK944.out) hb); have n1_ := Aside0.mk (below_step (by repeat (first | (with_reducible first | exact HB.out | apply below_alloc | apply pw_below_drewN | apply below_drew1 | refine below_set ?_ GE944.out) | exact HB.out)) hb); clear BK944; clear HB; have BK944 := n0_; have HB := n1_; clear n0_ n1_; (try clear hb); (try clear hb2); (try clear hk); (try clear hi); have hcz8_0 : w7.cell? ⟨gb944, 0, none⟩ = some (.bool a0_0) := (blk_cell BK944.out 0).trans rfl; have hcz8_1 : w7.cell? ⟨gb944, 1, none⟩ = some (.slice A0_1 l0_1.length c0_1) := (blk_cell BK944.out 1).trans rfl; have hcz8_2 : w7.cell? ⟨gb944, 2, none⟩ = some (.string a0_2) := (blk_cell BK944.out 2).trans rfl; have hfz8_0 := blk_frozen BK944.out 0; have hfz8_1 := blk_frozen BK944.out 1; have hfz8_2 := blk_frozen BK944.out 2) | (go_at_call 58; (with_reducible refine (subprogram_has.calls k a0_0 _ _ l0_1 a0_2 77 99000 t946 _ ?side1 ?side2 A4.out).mono ?_); (case side1 => repeat (first | exact (Kd.C_below HR0_1.out HB.out) | (with_reducible refine Kd.C_alloc ?_ _) | (with_reducible refine Kd.C_drewN ?_ _) | (with_reducible refine Kd.C_drew ?_))); (case side2 => exact HC0_1.out); rintro e w9 ⟨rfl, hb⟩; have n0_ := Aside0.mk (blk_below (g := gb944) (o := .cells #[.bool a0_0, .slice A0_1 l0_1.length c0_1, .string a0_2] 32 (0, 0)) (by (with_reducible repeat (first | refine blk_drewN ?_ _ | refine blk_drew ?_ | refine blk_alloc ?_ _)); exact BK944.out) hb); have n1_ := Aside0.mk (below_step (by repeat (first | (with_reducible first | exact HB.out | apply below_alloc | apply pw_below_drewN | apply below_drew1 | refine below_set ?_ GE944.out) | exact HB.out)) hb); clear BK944; clear HB; have BK944 := n0_; have HB := n1_; clear n0_ n1_; (try clear hb); (try clear hb2); (try clear hk); (try clear hi)))
  go_ret
  exact ⟨by first | rfl | (simp [errW_none, errW_some] <;> rfl) | (simp [*, errW_none, errW_some] <;> rfl), by repeat (first | (with_reducible first | exact HB.out | apply below_alloc | apply pw_below_drewN | apply below_drew1 | refine below_set ?_ GE944.out) | exact HB.out)⟩
 ·replace c3 := Bool.eq_false_iff.mpr c3
  subst c3
  have H1 : (some false) = some r := by rw [if_neg (show ¬ (false = true) by decide)] at H; exact H
  clear H
  have H := H1
  clear H1
  obtain rfl := Option.some.inj H
  go_enter Try.func77, Try.ntmps77
  go_wp2_with (first | ((with_reducible refine gate_dst (N := 1) rfl ?_); refine box_event ?hg (N := 1) ?hd (cs := #[.bool a0_0, .slice A0_1 l0_1.length c0_1, .string a0_2]) (t := 32) ?hr ?_; (case hd => rfl); (case hg => rfl); (case hr => first | (go_simp; done) | (go_simp; rfl)); intro gb944 hg w10 hbox hb; have n0_ := Aside0.mk (below_step (by repeat (first | (with_reducible first | exact HB.out | apply below_alloc | apply pw_below_drewN | apply below_drew1) | exact HB.out)) hb); have n1_ := Aside0.mk (hbox); have n2_ := Aside0.mk ((by rw [hg]; exact (below_size (by repeat (first | (with_reducible first | exact HB.out | apply below_alloc | apply pw_below_drewN | apply below_drew1) | exact HB.out))) : w.heap.size ≤ gb944)); have n3_ := Aside0.mk ((by rw [hg]; exact (below_size (by repeat (first | (with_reducible first | exact HB.out | apply below_alloc | apply pw_below_drewN | apply below_drew1) | exact HB.out))) : w.heap.size ≤ gb944)); clear HB; have HB := n0_; have BK944 := n1_; have GW944 := n2_; have GE944 := n3_; clear n0_ n1_ n2_ n3_; clear hb hbox hg; have hcz11_0 : w10.cell? ⟨gb944, 0, none⟩ = some (.bool a0_0) := (blk_cell BK944.out 0).trans rfl; have hcz11_1 : w10.cell? ⟨gb944, 1, none⟩ = some (.slice A0_1 l0_1.length c0_1) := (blk_cell BK944.out 1).trans rfl; have hcz11_2 : w10.cell? ⟨gb944, 2, none⟩ = some (.string a0_2) := (blk_cell BK944.out 2).trans rfl; have hfz11_0 := blk_frozen BK944.out 0; have hfz11_1 := blk_frozen BK944.out 1; have hfz11_2 := blk_frozen BK944.out 2) | ((with_reducible refine gate_callee (f := 78) rfl ?_); refine goesL_ (some 4) rfl rfl Try.func78 (by kernel_rfl) rfl #[.agg #[.bool a0_0, .slice A0_1 l0_1.length c0_1, .string a0_2]] rfl (by (try simp only [List.map_toArray, List.map_cons, List.map_nil]); first | done | rfl | (simp only [List.length_drop, List.length_take]; rfl)) ?_; (with_reducible refine (subprogram_plain.calls a0_0 _ _ l0_1 a0_2 false _ ?side1 ?side2 A2.out).mono ?_); (case side1 => repeat (first | exact (Kd.C_below HR0_1.out HB.out) | (with_reducible refine Kd.C_alloc ?_ _) | (with_reducible refine Kd.C_drewN ?_ _) | (with_reducible refine Kd.C_drew ?_))); (case side2 => exact HC0_1.out); rintro e w12 ⟨rfl, hb⟩; refine ⟨_, rfl, ?_⟩; have n0_ := Aside0.mk (blk_below (g := gb944) (o := .cells #[.bool a0_0, .slice A0_1 l0_1.length c0_1, .string a0_2] 32 (0, 0)) (by (with_reducible repeat (first | refine blk_drewN ?_ _ | refine blk_drew ?_ | refine blk_alloc ?_ _)); exact BK944.out) hb); have n1_ := Aside0.mk (below_step (by repeat (first | (with_reducible first | exact HB.out | apply below_alloc | apply pw_below_drewN | apply below_drew1 | refine below_set ?_ GE944.out) | exact HB.out)) hb); clear BK944; clear HB; have BK944 := n0_; have HB := n1_; clear n0_ n1_; (try clear hb); (try clear hb2); (try clear hk); (try clear hi)))
  go_ret
  exact ⟨by first | rfl | (simp [errW_none, errW_some] <;> rfl) | (simp [*, errW_none, errW_some] <;> rfl), by repeat (first | (with_reducible first | exact HB.out | apply below_alloc | apply pw_below_drewN | apply below_drew1 | refine below_set ?_ GE944.out) | exact HB.out)⟩
end Go.Proofs.Ytehkhbnhmehobaa.P
namespace Go.Proofs.Ytehkhbnhmehobaa.P
open Go.RowKit Go.Proofs.YtehkhbnhmehobaaW.PrintWords Go.Proofs.YtehkhbnhmehobaaW.PrintLast Go.Proofs.YtehkhbnhmehobaaW.PrintMore
attribute [local go_sem] max2_int min2_int max_two min_two max_three min_three max_four min_four   -- for this text's walks alone
set_option linter.unusedVariables false
set_option linter.unusedSimpArgs false
/-! ### subprogram_marked: function 100 -/
def subprogram_marked.f (k : Nat) (a0_0 : Bool) (l0_1 : List (S78)) (a0_2 : ByteArray) : Option (Bool) := (block_Codes.f k a0_0 l0_1 a0_2 79).bind fun t376 => (if (t376.length : Int) > 0 then (some true) else ((subprogram_has.f k a0_0 l0_1 a0_2 77 30000).bind fun t379 => (if t379 = true then (some true) else ((subprogram_has.f k a0_0 l0_1 a0_2 77 99000).bind fun t380 => (some t380)))))
theorem subprogram_marked.mono : ∀ a0 a1 a2 k, LeO (subprogram_marked.f k a0 a1 a2) (subprogram_marked.f (k + 1) a0 a1 a2) := by
 intro a0 a1 a2 k
 unfold subprogram_marked.f
 repeat' first
   | (with_reducible exact block_Codes.mono _ _ _ _ _)
   | (with_reducible exact subprogram_has.mono _ _ _ _ _ _)
   | (with_reducible exact LeO.refl _)
   | (with_reducible exact LeO.none _)
   | (with_reducible refine LeO.ite ?_ ?_)
   | (with_reducible refine LeO.bind ?_ (fun _ => ?_))
   | exact block_Codes.mono _ _ _ _ _
   | exact subprogram_has.mono _ _ _ _ _ _
   | exact LeO.none _
   | refine LeO.ite ?_ ?_
   | refine LeO.bind ?_ (fun _ => ?_)
set_option maxHeartbeats 8000000 in
set_option maxRecDepth 100000 in
theorem subprogram_marked.calls (k : Nat) (a0_0 : Bool) (A0_1 : Option Addr) (c0_1 : Nat) (l0_1 : List (S78)) (a0_2 : ByteArray) (r : Bool) (w : World) (hr0_1 : Kd.C k78 w A0_1 l0_1.length l0_1) (hc0_1 : l0_1.length ≤ c0_1) (h : subprogram_marked.f k a0_0 l0_1 a0_2 = some r) :
  Calls Try.prog 100 #[.agg #[.bool a0_0, .slice A0_1 l0_1.length c0_1, .string a0_2]] w fun e w' => e = .returned (.bool r) ∧ Below w.heap.size w w' := by
 have hu32 := Try.underlying32
 have HR0_1 := Aside0.mk hr0_1
 have HC0_1 := Aside0.mk hc0_1
 clear hr0_1 hc0_1
 have HB := Aside0.mk (Below.refl w.heap.size w)
 have H : ((block_Codes.f k a0_0 l0_1 a0_2 79).bind fun t376 => (if (t376.length : Int) > 0 then (some true) else ((subprogram_has.f k a0_0 l0_1 a0_2 77 30000).bind fun t379 => (if t379 = true then (some true) else ((subprogram_has.f k a0_0 l0_1 a0_2 77 99000).bind fun t380 => (some t380)))))) = some r := h
 clear h
 replace H := Option.bind_eq_some_iff.mp H
 obtain ⟨t376, A20, H⟩ := H
 replace H : (if (t376.length : Int) > 0 then (some true) else ((subprogram_has.f k a0_0 l0_1 a0_2 77 30000).bind fun t379 => (if t379 = true then (some true) else ((subprogram_has.f k a0_0 l0_1 a0_2 77 99000).bind fun t380 => (some t380))))) = some r := H
 have A2 := Aside0.mk A20
 clear A20
 by_cases c3 : (t376.length : Int) > 0
 ·rw [if_pos c3] at H
  have c3b0 : decide (0 < (t376.length : Int)) = true := decide_eq_true c3
  have c3b1 : decide (0 < t376.length) = true := decide_eq_true (by omega)
  clear c3
  obtain rfl := Option.some.inj H
  go_enter Try.func100, Try.ntmps100
  go_wp2_with (first | ((with_reducible refine gate_dst (N := 1) rfl ?_); refine box_event ?hg (N := 1) ?hd (cs := #[.bool a0_0, .slice A0_1 l0_1.length c0_1, .string a0_2]) (t := 32) ?hr ?_; (case hd => rfl); (case hg => rfl); (case hr => first | (go_simp; done) | (go_simp; rfl)); intro gb375 hg w4 hbox hb; have n0_ := Aside0.mk (below_step (by repeat (first | (with_reducible first | exact HB.out | apply below_alloc | apply pw_below_drewN | apply below_drew1) | exact HB.out)) hb); have n1_ := Aside0.mk (hbox); have n2_ := Aside0.mk ((by rw [hg]; exact (below_size (by repeat (first | (with_reducible first | exact HB.out | apply below_alloc | apply pw_below_drewN | apply below_drew1) | exact HB.out))) : w.heap.size ≤ gb375)); have n3_ := Aside0.mk ((by rw [hg]; exact (below_size (by repeat (first | (with_reducible first | exact HB.out | apply below_alloc | apply pw_below_drewN | apply below_drew1) | exact HB.out))) : w.heap.size ≤ gb375)); clear HB; have HB := n0_; have BK375 := n1_; have GW375 := n2_; have GE375 := n3_; clear n0_ n1_ n2_ n3_; clear hb hbox hg; have hcz5_0 : w4.cell? ⟨gb375, 0, none⟩ = some (.bool a0_0) := (blk_cell BK375.out 0).trans rfl; have hcz5_1 : w4.cell? ⟨gb375, 1, none⟩ = some (.slice A0_1 l0_1.length c0_1) := (blk_cell BK375.out 1).trans rfl; have hcz5_2 : w4.cell? ⟨gb375, 2, none⟩ = some (.string a0_2) := (blk_cell BK375.out 2).trans rfl; have hfz5_0 := blk_frozen BK375.out 0; have hfz5_1 := blk_frozen BK375.out 1; have hfz5_2 := blk_frozen BK375.out 2) | ((with_reducible refine gate_callee (f := 93) rfl ?_); refine goesL_ (some 4) rfl rfl Try.func93 (by kernel_rfl) rfl #[.agg #[.bool a0_0, .slice A0_1 l0_1.length c0_1, .string a0_2], .int .u8 79] rfl (by (try simp only [List.map_toArray, List.map_cons, List.map_nil]); first | done | rfl | (simp only [List.length_drop, List.length_take]; rfl)) ?_; (with_reducible refine (block_Codes.calls k a0_0 _ _ l0_1 a0_2 79 t376 _ ?side1 ?side2 A2.out).mono ?_); (case side1 => repeat (first | exact (Kd.C_below HR0_1.out HB.out) | (with_reducible refine Kd.C_alloc ?_ _) | (with_reducible refine Kd.C_drewN ?_ _) | (with_reducible refine Kd.C_drew ?_))); (case side2 => exact HC0_1.out); rintro e w6 ⟨v377, rfl, ho0, hb⟩; refine ⟨_, rfl, ?_⟩; have n0_ := Aside0.mk (Kd.R_lower ho0 (below_size (by repeat (first | (with_reducible first | exact HB.out | apply below_alloc | apply pw_below_drewN | apply below_drew1 | refine below_set ?_ GE375.out) | exact HB.out)))); have n1_ := Aside0.mk (blk_below (g := gb375) (o := .cells #[.bool a0_0, .slice A0_1 l0_1.length c0_1, .string a0_2] 32 (0, 0)) (by (with_reducible repeat (first | refine blk_drewN ?_ _ | refine blk_drew ?_ | refine blk_alloc ?_ _)); exact BK375.out) hb); have n2_ := Aside0.mk (below_step (by repeat (first | (with_reducible first | exact HB.out | apply below_alloc | apply pw_below_drewN | apply below_drew1 | refine below_set ?_ GE375.out) | exact HB.out)) hb); clear BK375; clear HB; have HO378 := n0_; have BK375 := n1_; have HB := n2_; clear n0_ n1_ n2_; (try clear hb); (try clear hb2); (try clear hk); (try clear hi); (try clear ho0); obtain ⟨Ao7, co7, eo7⟩ := Kd.R_slice HO378.out; subst eo7))
  go_ret
  exact ⟨by first | rfl | (simp [errW_none, errW_some] <;> rfl) | (simp [*, errW_none, errW_some] <;> rfl), by repeat (first | (with_reducible first | exact HB.out | apply below_alloc | apply pw_below_drewN | apply below_drew1 | refine below_set ?_ GE375.out) | exact HB.out)⟩
 ·rw [if_neg c3] at H
  have c3b0 : decide (0 < (t376.length : Int)) = false := decide_eq_false c3
  have c3b1 : decide (0 < t376.length) = false := decide_eq_false (by omega)
  clear c3
  replace H := Option.bind_eq_some_iff.mp H
  obtain ⟨t379, A80, H⟩ := H
  replace H : (if t379 = true then (some true) else ((subprogram_has.f k a0_0 l0_1 a0_2 77 99000).bind fun t380 => (some t380))) = some r := H
  have A8 := Aside0.mk A80
  clear A80
  by_cases c9 : t379 = true
  ·subst c9
   have H1 : (some true) = some r := by rw [if_pos rfl] at H; exact H
   clear H
   have H := H1
   clear H1
   obtain rfl := Option.some.inj H
   go_enter Try.func100, Try.ntmps100
   go_wp2_with (first | ((with_reducible refine gate_dst (N := 1) rfl ?_); refine box_event ?hg (N := 1) ?hd (cs := #[.bool a0_0, .slice A0_1 l0_1.length c0_1, .string a0_2]) (t := 32) ?hr ?_; (case hd => rfl); (case hg => rfl); (case hr => first | (go_simp; done) | (go_simp; rfl)); intro gb375 hg w10 hbox hb; have n0_ := Aside0.mk (below_step (by repeat (first | (with_reducible first | exact HB.out | apply below_alloc | apply pw_below_drewN | apply below_drew1) | exact HB.out)) hb); have n1_ := Aside0.mk (hbox); have n2_ := Aside0.mk ((by rw [hg]; exact (below_size (by repeat (first | (with_reducible first | exact HB.out | apply below_alloc | apply pw_below_drewN | apply below_drew1) | exact HB.out))) : w.heap.size ≤ gb375)); have n3_ := Aside0.mk ((by rw [hg]; exact (below_size (by repeat (first | (with_reducible first | exact HB.out | apply below_alloc | apply pw_below_drewN | apply below_drew1) | exact HB.out))) : w.heap.size ≤ gb375)); clear HB; have HB := n0_; have BK375 := n1_; have GW375 := n2_; have GE375 := n3_; clear n0_ n1_ n2_ n3_; clear hb hbox hg; have hcz11_0 : w10.cell? ⟨gb375, 0, none⟩ = some (.bool a0_0) := (blk_cell BK375.out 0).trans rfl; have hcz11_1 : w10.cell? ⟨gb375, 1, none⟩ = some (.slice A0_1 l0_1.length c0_1) := (blk_cell BK375.out 1).trans rfl; have hcz11_2 : w10.cell? ⟨gb375, 2, none⟩ = some (.string a0_2) := (blk_cell BK375.out 2).trans rfl; have hfz11_0 := blk_frozen BK375.out 0; have hfz11_1 := blk_frozen BK375.out 1; have hfz11_2 := blk_frozen BK375.out 2) | ((with_reducible refine gate_callee (f := 93) rfl ?_); refine goesL_ (some 4) rfl rfl Try.func93 (by kernel_rfl) rfl #[.agg #[.bool a0_0, .slice A0_1 l0_1.length c0_1, .string a0_2], .int .u8 79] rfl (by (try simp only [List.map_toArray, List.map_cons, List.map_nil]); first | done | rfl | (simp only [List.length_drop, List.length_take]; rfl)) ?_; (with_reducible refine (block_Codes.calls k a0_0 _ _ l0_1 a0_2 79 t376 _ ?side1 ?side2 A2.out).mono ?_); (case side1 => repeat (first | exact (Kd.C_below HR0_1.out HB.out) | (with_reducible refine Kd.C_alloc ?_ _) | (with_reducible refine Kd.C_drewN ?_ _) | (with_reducible refine Kd.C_drew ?_))); (case side2 => exact HC0_1.out); rintro e w12 ⟨v377, rfl, ho0, hb⟩; refine ⟨_, rfl, ?_⟩; have n0_ := Aside0.mk (Kd.R_lower ho0 (below_size (by repeat (first | (with_reducible first | exact HB.out | apply below_alloc | apply pw_below_drewN | apply below_drew1 | refine below_set ?_ GE375.out) | exact HB.out)))); have n1_ := Aside0.mk (blk_below (g := gb375) (o := .cells #[.bool a0_0, .slice A0_1 l0_1.length c0_1, .string a0_2] 32 (0, 0)) (by (with_reducible repeat (first | refine blk_drewN ?_ _ | refine blk_drew ?_ | refine blk_alloc ?_ _)); exact BK375.out) hb); have n2_ := Aside0.mk (below_step (by repeat (first | (with_reducible first | exact HB.out | apply below_alloc | apply pw_below_drewN | apply below_drew1 | refine below_set ?_ GE375.out) | exact HB.out)) hb); clear BK375; clear HB; have HO378 := n0_; have BK375 := n1_; have HB := n2_; clear n0_ n1_ n2_; (try clear hb); (try clear hb2); (try clear hk); (try clear hi); (try clear ho0); obtain ⟨Ao13, co13, eo13⟩ := Kd.R_slice HO378.out; subst eo13; have hcz14_0 : w12.cell? ⟨gb375, 0, none⟩ = some (.bool a0_0) := (blk_cell BK375.out 0).trans rfl; have hcz14_1 : w12.cell? ⟨gb375, 1, none⟩ = some (.slice A0_1 l0_1.length c0_1) := (blk_cell BK375.out 1).trans rfl; have hcz14_2 : w12.cell? ⟨gb375, 2, none⟩ = some (.string a0_2) := (blk_cell BK375.out 2).trans rfl; have hfz14_0 := blk_frozen BK375.out 0; have hfz14_1 := blk_frozen BK375.out 1; have hfz14_2 := blk_frozen BK375.out 2) | (go_at_call 58; (with_reducible refine (subprogram_has.calls k a0_0 _ _ l0_1 a0_2 77 30000 true _ ?side1 ?side2 A8.out).mono ?_); (case side1 => repeat (first | exact (Kd.C_below HR0_1.out HB.out) | (with_reducible refine Kd.C_alloc ?_ _) | (with_reducible refine Kd.C_drewN ?_ _) | (with_reducible refine Kd.C_drew ?_))); (case side2 => exact HC0_1.out); rintro e w15 ⟨rfl, hb⟩; have n0_ := Aside0.mk (Kd.R_below (by (with_reducible repeat (first | apply Kd.R_alloc | apply Kd.R_drewN | apply Kd.R_drew)); exact HO378.out) hb); have n1_ := Aside0.mk (blk_below (g := gb375) (o := .cells #[.bool a0_0, .slice A0_1 l0_1.length c0_1, .string a0_2] 32 (0, 0)) (by (with_reducible repeat (first | refine blk_drewN ?_ _ | refine blk_drew ?_ | refine blk_alloc ?_ _)); exact BK375.out) hb); have n2_ := Aside0.mk (below_step (by repeat (first | (with_reducible first | exact HB.out | apply below_alloc | apply pw_below_drewN | apply below_drew1 | refine below_set ?_ GE375.out) | exact HB.out)) hb); clear HO378; clear BK375; clear HB; have HO378 := n0_; have BK375 := n1_; have HB := n2_; clear n0_ n1_ n2_; (try clear hb); (try clear hb2); (try clear hk); (try clear hi)))
   go_ret
   exact ⟨by first | rfl | (simp [errW_none, errW_some] <;> rfl) | (simp [*, errW_none, errW_some] <;> rfl), by repeat (first | (with_reducible first | exact HB.out | apply below_alloc | apply pw_below_drewN | apply below_drew1 | refine below_set ?_ GE375.out) | exact HB.out)⟩
  ·replace c9 := Bool.eq_false_iff.mpr c9
   subst c9
   have H1 : ((subprogram_has.f k a0_0 l0_1 a0_2 77 99000).bind fun t380 => (some t380)) = some r := by rw [if_neg (show ¬ (false = true) by decide)] at H; exact H
   clear H
   have H := H1
   clear H1
   replace H := Option.bind_eq_some_iff.mp H
   obtain ⟨t380, A160, H⟩ := H
   replace H : (some t380) = some r := H
   have A16 := Aside0.mk A160
   clear A160
   obtain rfl := Option.some.inj H
   go_enter Try.func100, Try.ntmps100
   go_wp2_with (first | ((with_reducible refine gate_dst (N := 1) rfl ?_); refine box_event ?hg (N := 1) ?hd (cs := #[.bool a0_0, .slice A0_1 l0_1.length c0_1, .string a0_2]) (t := 32) ?hr ?_; (case hd => rfl); (case hg => rfl); (case hr => first | (go_simp; done) | (go_simp; rfl)); intro gb375 hg w17 hbox hb; have n0_ := Aside0.mk (below_step (by repeat (first | (with_reducible first | exact HB.out | apply below_alloc | apply pw_below_drewN | apply below_drew1) | exact HB.out)) hb); have n1_ := Aside0.mk (hbox); have n2_ := Aside0.mk ((by rw [hg]; exact (below_size (by repeat (first | (with_reducible first | exact HB.out | apply below_alloc | apply pw_below_drewN | apply below_drew1) | exact HB.out))) : w.heap.size ≤ gb375)); have n3_ := Aside0.mk ((by rw [hg]; exact (below_size (by repeat (first | (with_reducible first | exact HB.out | apply below_alloc | apply pw_below_drewN | apply below_drew1) | exact HB.out))) : w.heap.size ≤ gb375)); clear HB; have HB := n0_; have BK375 := n1_; have GW375 := n2_; have GE375 := n3_; clear n0_ n1_ n2_ n3_; clear hb hbox hg; have hcz18_0 : w17.cell? ⟨gb375, 0, none⟩ = some (.bool a0_0) := (blk_cell BK375.out 0).trans rfl; have hcz18_1 : w17.cell? ⟨gb375, 1, none⟩ = some (.slice A0_1 l0_1.length c0_1) := (blk_cell BK375.out 1).trans rfl; have hcz18_2 : w17.cell? ⟨gb375, 2, none⟩ = some (.string a0_2) := (blk_cell BK375.out 2).trans rfl; have hfz18_0 := blk_frozen BK375.out 0; have hfz18_1 := blk_frozen BK375.out 1; have hfz18_2 := blk_frozen BK375.out 2) | ((with_reducible refine gate_callee (f := 93) rfl ?_); refine goesL_ (some 4) rfl rfl Try.func93 (by kernel_rfl) rfl #[.agg #[.bool a0_0, .slice A0_1 l0_1.length c0_1, .string a0_2], .int .u8 79] rfl (by (try simp only [List.map_toArray, List.map_cons, List.map_nil]); first | done | rfl | (simp only [List.length_drop, List.length_take]; rfl)) ?_; (with_reducible refine (block_Codes.calls k a0_0 _ _ l0_1 a0_2 79 t376 _ ?side1 ?side2 A2.out).mono ?_); (case side1 => repeat (first | exact (Kd.C_below HR0_1.out HB.out) | (with_reducible refine Kd.C_alloc ?_ _) | (with_reducible refine Kd.C_drewN ?_ _) | (with_reducible refine Kd.C_drew ?_))); (case side2 => exact HC0_1.out); rintro e w19 ⟨v377, rfl, ho0, hb⟩; refine ⟨_, rfl, ?_⟩; have n0_ := Aside0.mk (Kd.R_lower ho0 (below_size (by repeat (first | (with_reducible first | exact HB.out | apply below_alloc | apply pw_below_drewN | apply below_drew1 | refine below_set ?_ GE375.out) | exact HB.out)))); have n1_ := Aside0.mk (blk_below (g := gb375) (o := .cells #[.bool a0_0, .slice A0_1 l0_1.length c0_1, .string a0_2] 32 (0, 0)) (by (with_reducible repeat (first | refine blk_drewN ?_ _ | refine blk_drew ?_ | refine blk_alloc ?_ _)); exact BK375.out) hb); have n2_ := Aside0.mk (below_step (by repeat (first | (with_reducible first | exact HB.out | apply below_alloc | apply pw_below_drewN | apply below_drew1 | refine below_set ?_ GE375.out) | exact HB.out)) hb); clear BK375; clear HB; have HO378 := n0_; have BK375 := n1_; have HB := n2_; clear n0_ n1_ n2_; (try clear hb); (try clear hb2); (try clear hk); (try clear hi); (try clear ho0); obtain ⟨Ao20, co20, eo20⟩ := Kd.R_slice HO378.out; subst eo20; have hcz21_0 : w19.cell? ⟨gb375, 0, none⟩ = some (.bool a0_0) := (blk_cell BK375.out 0).trans rfl; have hcz21_1 : w19.cell? ⟨gb375, 1, none⟩ = some (.slice A0_1 l0_1.length c0_1) := (blk_cell BK375.out 1).trans rfl; have hcz21_2 : w19.cell? ⟨gb375, 2, none⟩ = some (.string a0_2) := (blk_cell BK375.out 2).trans rfl; have hfz21_0 := blk_frozen BK375.out 0; have hfz21_1 := blk_frozen BK375.out 1; have hfz21_2 := blk_frozen BK375.out 2) | (go_at_call 58; (with_reducible refine (subprogram_has.calls k a0_0 _ _ l0_1 a0_2 77 30000 false _ ?side1 ?side2 A8.out).mono ?_); (case side1 => repeat (first | exact (Kd.C_below HR0_1.out HB.out) | (with_reducible refine Kd.C_alloc ?_ _) | (with_reducible refine Kd.C_drewN ?_ _) | (with_reducible refine Kd.C_drew ?_))); (case side2 => exact HC0_1.out); rintro e w22 ⟨rfl, hb⟩; have n0_ := Aside0.mk (Kd.R_below (by (with_reducible repeat (first | apply Kd.R_alloc | apply Kd.R_drewN | apply Kd.R_drew)); exact HO378.out) hb); have n1_ := Aside0.mk (blk_below (g := gb375) (o := .cells #[.bool a0_0, .slice A0_1 l0_1.length c0_1, .string a0_2] 32 (0, 0)) (by (with_reducible repeat (first | refine blk_drewN ?_ _ | refine blk_drew ?_ | refine blk_alloc ?_ _)); exact BK375.out) hb); have n2_ := Aside0.mk (below_step (by repeat (first | (with_reducible first | exact HB.out | apply below_alloc | apply pw_below_drewN | apply below_drew1 | refine below_set ?_ GE375.out) | exact HB.out)) hb); clear HO378; clear BK375; clear HB; have HO378 := n0_; have BK375 := n1_; have HB := n2_; clear n0_ n1_ n2_; (try clear hb); (try clear hb2); (try clear hk); (try clear hi); have hcz23_0 : w22.cell? ⟨gb375, 0, none⟩ = some (.bool a0_0) := (blk_cell BK375.out 0).trans rfl; have hcz23_1 : w22.cell? ⟨gb375, 1, none⟩ = some (.slice A0_1 l0_1.length c0_1) := (blk_cell BK375.out 1).trans rfl; have hcz23_2 : w22.cell? ⟨gb375, 2, none⟩ = some (.string a0_2) := (blk_cell BK375.out 2).trans rfl; have hfz23_0 := blk_frozen BK375.out 0; have hfz23_1 := blk_frozen BK375.out 1; have hfz23_2 := blk_frozen BK375.out 2) | (go_at_call 58; (with_reducible refine (subprogram_has.calls k a0_0 _ _ l0_1 a0_2 77 99000 t380 _ ?side1 ?side2 A16.out).mono ?_); (case side1 => repeat (first | exact (Kd.C_below HR0_1.out HB.out) | (with_reducible refine Kd.C_alloc ?_ _) | (with_reducible refine Kd.C_drewN ?_ _) | (with_reducible refine Kd.C_drew ?_))); (case side2 => exact HC0_1.out); rintro e w24 ⟨rfl, hb⟩; have n0_ := Aside0.mk (Kd.R_below (by (with_reducible repeat (first | apply Kd.R_alloc | apply Kd.R_drewN | apply Kd.R_drew)); exact HO378.out) hb); have n1_ := Aside0.mk (blk_below (g := gb375) (o := .cells #[.bool a0_0, .slice A0_1 l0_1.length c0_1, .string a0_2] 32 (0, 0)) (by (with_reducible repeat (first | refine blk_drewN ?_ _ | refine blk_drew ?_ | refine blk_alloc ?_ _)); exact BK375.out) hb); have n2_ := Aside0.mk (below_step (by repeat (first | (with_reducible first | exact HB.out | apply below_alloc | apply pw_below_drewN | apply below_drew1 | refine below_set ?_ GE375.out) | exact HB.out)) hb); clear HO378; clear BK375; clear HB; have HO378 := n0_; have BK375 := n1_; have HB := n2_; clear n0_ n1_ n2_; (try clear hb); (try clear hb2); (try clear hk); (try clear hi)))
   go_ret
   exact ⟨by first | rfl | (simp [errW_none, errW_some] <;> rfl) | (simp [*, errW_none, errW_some] <;> rfl), by repeat (first | (with_reducible first | exact HB.out | apply below_alloc | apply pw_below_drewN | apply below_drew1 | refine below_set ?_ GE375.out) | exact HB.out)⟩
end Go.Proofs.Ytehkhbnhmehobaa.P
namespace Go.Proofs.Ytehkhbnhmehobaa.P
open Go.RowKit Go.Proofs.YtehkhbnhmehobaaW.PrintWords Go.Proofs.YtehkhbnhmehobaaW.PrintLast Go.Proofs.YtehkhbnhmehobaaW.PrintMore
set_option linter.unusedVariables false
/-- The first index at which p holds, from i on. -/
def idxF {α : Type} (p : α → Option Bool) : List α → Int → Option Int
  | [], _ => some (-1)
  | x :: l, i => (p x).bind fun b => if b = true then some i else idxF p l (i + 1)
theorem idxF_step {α : Type} {p : α → Option Bool} {l : List α} {j : Nat} {r : Int} (hj : j < l.length) (h : idxF p (l.drop j) (j : Int) = some r) :
    ∃ b, p (l[j]) = some b ∧ (if b = true then r = (j : Int) else idxF p (l.drop (j + 1)) ((j + 1 : Nat) : Int) = some r) := by
  rw [List.drop_eq_getElem_cons hj] at h
  simp only [idxF] at h
  obtain ⟨b, hb, h⟩ := Option.bind_eq_some_iff.mp h
  refine ⟨b, hb, ?_⟩
  cases b with
  | true => simp at h; simp [← h]
  | false =>
    simp at h ⊢
    exact h
theorem idxF_mono {α : Type} {p q : α → Option Bool} (h : ∀ x, LeO (p x) (q x)) : ∀ (l : List α) (i : Int), LeO (idxF p l i) (idxF q l i)
  | [], _ => LeO.refl _
  | x :: l, i => by
    simp only [idxF]
    exact LeO.bind (h x) (fun b => LeO.ite (LeO.refl _) (idxF_mono h l (i + 1)))
set_option maxHeartbeats 1000000 in
set_option maxRecDepth 100000 in
theorem IndexFunc_any (g : Nat) (fn : Func) (hf : Try.prog.funcs[g]? = some fn) (hname : (fn.name == "runtime.NumGoroutine") = false) (hbody : fn.body.isSome = true) (caps : Array Value) (p : S32 → Option Bool) (w : World)
    (hp : Aside0 (∀ (x : S32) (A1 : Option Addr) (c1 : Nat) (b : Bool) (W : World), Below w.heap.size w W → Kd.C k78 W A1 x.f1.length x.f1 → x.f1.length ≤ c1 → p x = some b →
      Calls Try.prog g (#[.agg #[.bool x.f0, .slice A1 x.f1.length c1, .string x.f2]] ++ caps) W fun e W' => e = .returned (.bool b) ∧ Below W.heap.size W W'))
    (A0 : Option Addr) (c0 : Nat) (l0 : List S32) (r : Int) (hr0 : Kd.C k32 w A0 l0.length l0) (hc0 : l0.length ≤ c0) (h : idxF p l0 0 = some r) :
    Calls Try.prog 73 #[.slice A0 l0.length c0, .func (.func g) #[] caps] w fun e w' => e = .returned (.int .i64 r) ∧ Below w.heap.size w w' := by
  have hu := Try.underlying32
  have HR0 := Aside0.mk hr0
  have HM := Aside0.mk (Kd.C_max hr0)
  have H := Aside0.mk h
  clear hr0 h
  go_enter Try.func73, Try.ntmps73
  go_wp2
  go_loopw [8] (fun i w' => ∃ j : Nat, i = .int .i64 j ∧ Aside0 (j ≤ l0.length) ∧ Aside0 (idxF p (l0.drop j) (j : Int) = some r) ∧ Aside0 (Below w.heap.size w w')) (fun i _ => l0.length - (intOf i).toNat)
  case atStart => exact ⟨0, rfl, ⟨Nat.zero_le _⟩, ⟨H.out⟩, ⟨Below.refl _ _⟩⟩
  case round =>
    obtain ⟨j, rfl, HJ, HI, HB⟩ := hrel
    by_cases hlt : j < l0.length
    · obtain ⟨b, hb, hI⟩ := idxF_step hlt HI.out
      obtain ⟨ad, A1, c1, e, hx0, hx1, hx2, hl1, hi1⟩ := at_T32 (Kd.C_below HR0.out HB.out) (j : Int) (by omega) (by omega)
      cases e
      have hrd : rd_T32 l0 (j : Int) = l0[j] := by simp [rd_T32, hlt]
      rw [hrd] at hx0 hx1 hx2 hl1 hi1
      generalize l0[j] = x at *
      clear hrd
      simp only [Int.toNat_natCast] at hx0 hx1 hx2
      have hlt' : decide ((j : Int) < (l0.length : Int)) = true := by simp; omega
      have HI2 := Aside0.mk hI
      have HL1 := Aside0.mk hl1
      have HI1 := Aside0.mk hi1
      have HP := Aside0.mk hb
      clear hI hl1 hi1 hb
      go_wp2_with ((with_reducible refine gate_dst (N := 16) rfl ?_); refine goesV_ (some 16) rfl rfl (caps := caps) rfl hf hname hbody (#[.agg #[.bool x.f0, .slice A1 x.f1.length c1, .string x.f2]] ++ caps) rfl (congrArg (fun z => z ++ caps) (by (try simp only [List.map_toArray, List.map_cons, List.map_nil]); rfl)) ?_; (with_reducible refine (hp.out x A1 c1 b _ HB.out HI1.out HL1.out HP.out).mono ?_); rintro e w2 ⟨rfl, hb2⟩; refine ⟨_, rfl, ?_⟩; have HB2 := Aside0.mk (below_then HB.out HB.out.size hb2); clear hb2)
      · have hbt : b = true := by assumption
        have hI3 := HI2.out
        rw [if_pos hbt] at hI3
        subst hI3
        go_ret
        exact ⟨rfl, HB2.out⟩
      · have hbf : ¬ b = true := by simpa using (show b = false by assumption)
        have hI3 := HI2.out
        rw [if_neg hbf] at hI3
        have HI3 := Aside0.mk hI3
        clear hI3
        go_roundw
        case rel => exact ⟨j + 1, by rw [wrap_succ hlt HM.out], ⟨by omega⟩, ⟨HI3.out⟩, ⟨HB2.out⟩⟩
        case measure => rw [wrap_succ hlt HM.out]; simp only [intOf, Int.toNat_natCast]; omega
    · have hlt' : decide ((j : Int) < (l0.length : Int)) = false := by simp; omega
      have hI := HI.out
      rw [List.drop_eq_nil_of_le (by omega)] at hI
      simp only [idxF, Option.some.injEq] at hI
      subst hI
      go_wp2
      go_ret
      exact ⟨rfl, HB.out⟩
set_option maxRecDepth 100000 in
theorem ContainsFunc_any (g : Nat) (fn : Func) (hf : Try.prog.funcs[g]? = some fn) (hname : (fn.name == "runtime.NumGoroutine") = false) (hbody : fn.body.isSome = true) (caps : Array Value) (p : S32 → Option Bool) (w : World)
    (hp : Aside0 (∀ (x : S32) (A1 : Option Addr) (c1 : Nat) (b : Bool) (W : World), Below w.heap.size w W → Kd.C k78 W A1 x.f1.length x.f1 → x.f1.length ≤ c1 → p x = some b →
      Calls Try.prog g (#[.agg #[.bool x.f0, .slice A1 x.f1.length c1, .string x.f2]] ++ caps) W fun e W' => e = .returned (.bool b) ∧ Below W.heap.size W W'))
    (A0 : Option Addr) (c0 : Nat) (l0 : List S32) (r : Bool) (hr0 : Kd.C k32 w A0 l0.length l0) (hc0 : l0.length ≤ c0) (h : (idxF p l0 0).map (fun i => decide (i ≥ 0)) = some r) :
    Calls Try.prog 38 #[.slice A0 l0.length c0, .func (.func g) #[] caps] w fun e w' => e = .returned (.bool r) ∧ Below w.heap.size w w' := by
  obtain ⟨i, hi, hr⟩ := Option.map_eq_some_iff.mp h
  have HR0 := Aside0.mk hr0
  have HC0 := Aside0.mk hc0
  have H := Aside0.mk hi
  have HE := Aside0.mk hr
  clear hr0 h hi hc0 hr
  go_enter Try.func38, Try.ntmps38
  go_wp2_with (go_at_call 73; (with_reducible refine (IndexFunc_any g fn hf hname hbody caps p _ hp A0 c0 l0 i HR0.out HC0.out H.out).mono ?_); rintro e w2 ⟨rfl, hb2⟩; have HB2 := Aside0.mk hb2; clear hb2)
  go_ret
  exact ⟨by rw [← HE.out]; rfl, HB2.out⟩
def IndexFunc_end.f (k : Nat) (l0 : List S32) : Option Int := idxF (fun x => subprogram_Split_1.f k x.f0 x.f1 x.f2) l0 0
theorem IndexFunc_end.mono : ∀ l0 k, LeO (IndexFunc_end.f k l0) (IndexFunc_end.f (k + 1) l0) := by
  intro l0 k
  unfold IndexFunc_end.f
  exact idxF_mono (fun x => subprogram_Split_1.mono _ _ _ _) l0 0
theorem IndexFunc_end.calls (k : Nat) (A0 : Option Addr) (c0 : Nat) (l0 : List S32) (r : Int) (w : World) (hr0 : Kd.C k32 w A0 l0.length l0) (hc0 : l0.length ≤ c0) (h : IndexFunc_end.f k l0 = some r) :
    Calls Try.prog 73 #[.slice A0 l0.length c0, .func (.func 75) #[] #[]] w fun e w' => e = .returned (.int .i64 r) ∧ Below w.heap.size w w' :=
  IndexFunc_any 75 _ Try.func75 (by kernel_rfl) rfl #[] (fun x => subprogram_Split_1.f k x.f0 x.f1 x.f2) w ⟨fun x A1 c1 b W _ hk hc hb => subprogram_Split_1.calls k x.f0 A1 c1 x.f1 x.f2 b W hk hc hb⟩ A0 c0 l0 r hr0 hc0 h
def IndexFunc_back.f (k : Nat) (l0 : List S32) : Option Int := idxF (fun x => subprogram_Split_2.f k x.f0 x.f1 x.f2) l0 0
theorem IndexFunc_back.mono : ∀ l0 k, LeO (IndexFunc_back.f k l0) (IndexFunc_back.f (k + 1) l0) := by
  intro l0 k
  unfold IndexFunc_back.f
  exact idxF_mono (fun x => subprogram_Split_2.mono _ _ _ _) l0 0
theorem IndexFunc_back.calls (k : Nat) (A0 : Option Addr) (c0 : Nat) (l0 : List S32) (r : Int) (w : World) (hr0 : Kd.C k32 w A0 l0.length l0) (hc0 : l0.length ≤ c0) (h : IndexFunc_back.f k l0 = some r) :
    Calls Try.prog 73 #[.slice A0 l0.length c0, .func (.func 77) #[] #[]] w fun e w' => e = .returned (.int .i64 r) ∧ Below w.heap.size w w' :=
  IndexFunc_any 77 _ Try.func77 (by kernel_rfl) rfl #[] (fun x => subprogram_Split_2.f k x.f0 x.f1 x.f2) w ⟨fun x A1 c1 b W _ hk hc hb => subprogram_Split_2.calls k x.f0 A1 c1 x.f1 x.f2 b W hk hc hb⟩ A0 c0 l0 r hr0 hc0 h
def ContainsFunc_marked.f (k : Nat) (l0 : List S32) : Option Bool := (idxF (fun x => subprogram_marked.f k x.f0 x.f1 x.f2) l0 0).map (fun i => decide (i ≥ 0))
theorem ContainsFunc_marked.mono : ∀ l0 k, LeO (ContainsFunc_marked.f k l0) (ContainsFunc_marked.f (k + 1) l0) := by
  intro l0 k
  unfold ContainsFunc_marked.f
  exact LeO.map _ (idxF_mono (fun x => subprogram_marked.mono _ _ _ _) l0 0)
theorem ContainsFunc_marked.calls (k : Nat) (A0 : Option Addr) (c0 : Nat) (l0 : List S32) (r : Bool) (w : World) (hr0 : Kd.C k32 w A0 l0.length l0) (hc0 : l0.length ≤ c0) (h : ContainsFunc_marked.f k l0 = some r) :
    Calls Try.prog 38 #[.slice A0 l0.length c0, .func (.func 100) #[] #[]] w fun e w' => e = .returned (.bool r) ∧ Below w.heap.size w w' :=
  ContainsFunc_any 100 _ Try.func100 (by kernel_rfl) rfl #[] (fun x => subprogram_marked.f k x.f0 x.f1 x.f2) w ⟨fun x A1 c1 b W _ hk hc hb => subprogram_marked.calls k x.f0 A1 c1 x.f1 x.f2 b W hk hc hb⟩ A0 c0 l0 r hr0 hc0 h
end Go.Proofs.Ytehkhbnhmehobaa.P
namespace Go.Proofs.Ytehkhbnhmehobaa.P
open Go.RowKit Go.Proofs.YtehkhbnhmehobaaW.PrintWords Go.Proofs.YtehkhbnhmehobaaW.PrintLast Go.Proofs.YtehkhbnhmehobaaW.PrintMore
set_option linter.unusedVariables false
set_option linter.unusedSimpArgs false
def Clone_Block.f (l0 : List (S32)) : Option ((List (S32))) := if l0.length < 2932031007402 then some l0 else none
set_option maxHeartbeats 1000000 in
set_option maxRecDepth 100000 in
theorem Clone_Block.calls (P0_ : Nat → Prop) (A0 : Option Addr) (c0 : Nat) (l0 : List (S32)) (r : List (S32)) (w : World) (hs0 : Kd.V k32 32 w w.heap.size (fun k_ => P0_ k_) (.slice A0 l0.length c0) l0) (h : Clone_Block.f l0 = some r) :
    Calls Try.prog 33 #[.slice A0 l0.length c0] w fun e w' => ∃ v0_ : Value, e = .returned (v0_) ∧ Kd.N k32 32 w' w.heap.size (fun k_ => (P0_ k_ ∨ w.heap.size ≤ k_)) v0_ r ∧ Below w.heap.size w w' := by
  unfold Clone_Block.f at h
  by_cases hl : l0.length < 2932031007402
  rotate_left
  · rw [if_neg hl] at h; cases h
  rw [if_pos hl] at h
  obtain rfl := Option.some.inj h
  have HL := Aside0.mk hl
  have HS := Aside0.mk hs0
  clear hs0 hl h
  have qT : ∀ (w : World) (a : Option Addr) (n c n' c' : Nat), (binOp .eql 35 (.slice a n c) (.slice none n' c')).run Try.prog w = .ok (.bool a.isNone) w := fun w a n c n' c' => Lib.run_eql_slice_nil w _ _ a n c n' c' Try.underlying35
  cases A0 with
  | none =>
    have h0 : l0 = [] := by
      have hc := (Kd.V_reads' HS.out).2.2
      obtain ⟨_, _, hn⟩ := hc
      cases l0 with
      | nil => rfl
      | cons x l => obtain ⟨ad, he, _⟩ := hn (by simp); cases he
    subst h0
    go_enter Try.func33, Try.ntmps33
    go_wp2
    go_ret
    exact ⟨_, rfl, Kd.N_nil _ _ _ _ _, Below.refl _ _⟩
  | some ad =>
    go_enter Try.func33, Try.ntmps33
    go_wp2_with (first | ((with_reducible refine gate_dst (N := 5) rfl ?_); refine Kd.N_lit k32 w.heap.size 32 ?hg (N' := 5) ?hd (xs := ([] : List (S32))) (inner := []) (ok := (fun k_ => (P0_ k_ ∨ w.heap.size ≤ k_))) (okp := (fun k_ => (P0_ k_ ∨ w.heap.size ≤ k_))) ?hr ?hp (fun _ hk => hk) (.inr (Nat.le_refl _)) (Below.refl _ _) (Nat.le_refl _) (by simp) ?_; (case hd => rfl); (case hg => rfl); (case hr => first | (go_simp; done) | (go_simp; rfl)); (case hp => exact (Reps.none _ _)); intro v5 w4 ho5 hb hg_ hnew_; have HO5 := Aside0.mk ho5; have HB4 := Aside0.mk hb; have HN5 := Aside0.mk (show ∃ b, v5.ownBlock = some b ∧ w.heap.size ≤ b from hnew_); have HS4 := Aside0.mk (Kd.V_elder' HS.out (Kd.N_base ho5) hb); clear hg_ hnew_ hb ho5) | ((with_reducible refine gate_builtin (b := .append) (xs := #[.tmp 5, .tmp 6]) rfl ?_); at_builtin; refine Kd.N_append_rows k32 (w0 := w) w.heap.size rfl (.tmp 5) (.tmp 6) 35 32 (.agg #[(.bool false), (.slice none 0 0), (.string ⟨#[]⟩)]) 48 rfl Try.underlying35 info32 rfl (by decide) (by omega) v5 [] l0 _ _ _ (fun k_ => (P0_ k_ ∨ w.heap.size ≤ k_)) (fun k_ => (fun k_ => (P0_ k_ ∨ w.heap.size ≤ k_)) k_ ∧ some k_ ≠ (v5 : Value).ownBlock) rfl rfl ?aO ?aR (fun _ hk => hk) ?aF ?aB ?aS ?aL ?_; (case aO => exact HO5.out); (case aR => exact Kd.V_F (Kd.V_mono HS4.out (fun k_ hk => ⟨.inl hk.1, hk.2⟩))); (case aF => exact fun k_ hk => .inr (Nat.le_trans HB4.out.size hk)); (case aB => exact HB4.out); (case aS => exact HB4.out.size); (case aL => have := HL.out; simp only [List.length_nil]; omega); intro v7 w5 ho7 hb hg_ hat_; have HO7 := Aside0.mk ho7; have HB5 := Aside0.mk hb; clear hg_ hat_ hb ho7))
    go_ret
    exact ⟨_, rfl, HO7.out, HB5.out⟩
def Clone_Word.f (l0 : List (S78)) : Option ((List (S78))) := if l0.length < 8796093022208 then some l0 else none
set_option maxHeartbeats 1000000 in
set_option maxRecDepth 100000 in
theorem Clone_Word.calls (A0 : Option Addr) (c0 : Nat) (l0 : List (S78)) (r : List (S78)) (w : World) (hr0 : Kd.C k78 w A0 l0.length l0) (hc0 : l0.length ≤ c0) (h : Clone_Word.f l0 = some r) :
    Calls Try.prog 65 #[.slice A0 l0.length c0] w fun e w' => ∃ v0_ : Value, e = .returned (v0_) ∧ Kd.R k78 78 w' w.heap.size (fun _ => True) v0_ r ∧ Below w.heap.size w w' := by
  unfold Clone_Word.f at h
  by_cases hl : l0.length < 8796093022208
  rotate_left
  · rw [if_neg hl] at h; cases h
  rw [if_pos hl] at h
  obtain rfl := Option.some.inj h
  have HL := Aside0.mk hl
  have HR := Aside0.mk hr0
  clear hr0 hl h
  have qT : ∀ (w : World) (a : Option Addr) (n c n' c' : Nat), (binOp .eql 30 (.slice a n c) (.slice none n' c')).run Try.prog w = .ok (.bool a.isNone) w := fun w a n c n' c' => Lib.run_eql_slice_nil w _ _ a n c n' c' Try.underlying30
  cases A0 with
  | none =>
    have h0 : l0 = [] := by
      obtain ⟨_, _, hn⟩ := HR.out
      cases l0 with
      | nil => rfl
      | cons x l => obtain ⟨ad, he, _⟩ := hn (by simp); cases he
    subst h0
    go_enter Try.func65, Try.ntmps65
    go_wp2
    go_ret
    exact ⟨_, rfl, Kd.R_nil _ _ _ _ _, Below.refl _ _⟩
  | some ad =>
    go_enter Try.func65, Try.ntmps65
    go_wp2_with (first | ((with_reducible refine gate_dst (N := 5) rfl ?_); refine Kd.R_lit k78 w.heap.size 78 ?hg (N := 5) ?hd (xs := ([] : List (S78))) (inner := []) (ok := (fun _ => True)) (okp := (fun _ => False)) ?hr ?hp (fun _ hk => hk.elim) trivial (Below.refl _ _) (Nat.le_refl _) (by simp) ?_; (case hd => rfl); (case hg => rfl); (case hr => first | (go_simp; done) | (go_simp; rfl)); (case hp => exact (Reps.none _ _)); intro v5 w4 ho5 hb hg_ hnew_; have HO5 := Aside0.mk ho5; have HB4 := Aside0.mk hb; have HR4 := Aside0.mk (Kd.C_below HR.out hb); clear hg_ hnew_ hb ho5) | ((with_reducible refine gate_builtin (b := .append) (xs := #[.tmp 5, .tmp 6]) rfl ?_); at_builtin; refine Kd.R_append_rows k78 (Rr := fun x c => k78.K w4 x c) (w0 := w) w.heap.size rfl (.tmp 5) (.tmp 6) 30 78 (.agg #[(.int .u8 0), (.int .i64 0)]) 16 rfl Try.underlying30 info78 rfl (by decide) (by omega) v5 [] l0 _ _ _ (fun _ => True) (fun _ => False) rfl rfl ?aO ?aR ?aK (fun _ hk => hk.elim) (fun _ _ => trivial) ?aB ?aS ?aL ?_; (case aO => exact HO5.out); (case aR => exact HR4.out); (case aK => exact fun x cs hk => by rw [k78_open hk]; exact k78_mkM _ _ _ _); (case aB => exact HB4.out); (case aS => exact HB4.out.size); (case aL => have := HL.out; simp only [List.length_nil]; omega); intro v7 w5 ho7 hb hg_ hat_; have HO7 := Aside0.mk ho7; have HB5 := Aside0.mk hb; clear hg_ hat_ hb ho7))
    go_ret
    exact ⟨_, rfl, HO7.out, HB5.out⟩
end Go.Proofs.Ytehkhbnhmehobaa.P
namespace Go.Proofs.Ytehkhbnhmehobaa.P
open Go.RowKit Go.Proofs.YtehkhbnhmehobaaW.PrintWords Go.Proofs.YtehkhbnhmehobaaW.PrintLast Go.Proofs.YtehkhbnhmehobaaW.PrintMore
set_option linter.unusedVariables false
set_option linter.unusedSimpArgs false
set_option maxHeartbeats 1000000 in
set_option maxRecDepth 100000 in
theorem IndexFuncWord_any (g : Nat) (fn : Func) (hf : Try.prog.funcs[g]? = some fn) (hname : (fn.name == "runtime.NumGoroutine") = false) (hbody : fn.body.isSome = true) (caps : Array Value) (p : S78 → Option Bool) (w : World) (I : World → Prop) (hI0 : I w) (hIB : ∀ W W', I W → Below W.heap.size W W' → I W')
    (hp : Aside0 (∀ (x : S78) (b : Bool) (W : World), I W → p x = some b →
      Calls Try.prog g (#[.agg #[.int .u8 x.f0, .int .i64 x.f1]] ++ caps) W fun e W' => e = .returned (.bool b) ∧ Below W.heap.size W W'))
    (A0 : Option Addr) (c0 : Nat) (l0 : List S78) (r : Int) (hr0 : Kd.C k78 w A0 l0.length l0) (hc0 : l0.length ≤ c0) (h : idxF p l0 0 = some r) :
    Calls Try.prog 108 #[.slice A0 l0.length c0, .func (.func g) #[] caps] w fun e w' => e = .returned (.int .i64 r) ∧ Below w.heap.size w w' := by
  have hu := Try.underlying78
  have HR0 := Aside0.mk hr0
  have HI0 := Aside0.mk hI0
  clear hI0
  have HM := Aside0.mk (Kd.C_max hr0)
  have H := Aside0.mk h
  clear hr0 h
  go_enter Try.func108, Try.ntmps108
  go_wp2
  go_loopw [8] (fun i w' => ∃ j : Nat, i = .int .i64 j ∧ Aside0 (j ≤ l0.length) ∧ Aside0 (idxF p (l0.drop j) (j : Int) = some r) ∧ Aside0 (Below w.heap.size w w')) (fun i _ => l0.length - (intOf i).toNat)
  case atStart => exact ⟨0, rfl, ⟨Nat.zero_le _⟩, ⟨H.out⟩, ⟨Below.refl _ _⟩⟩
  case round =>
    obtain ⟨j, rfl, HJ, HI, HB⟩ := hrel
    by_cases hlt : j < l0.length
    · obtain ⟨b, hb, hI⟩ := idxF_step hlt HI.out
      obtain ⟨ad, e, hx0, hx1⟩ := at_T78 (Kd.C_below HR0.out HB.out) (j : Int) (by omega) (by omega)
      cases e
      have hrd : rd_T78 l0 (j : Int) = l0[j] := by simp [rd_T78, hlt]
      rw [hrd] at hx0 hx1
      generalize l0[j] = x at *
      clear hrd
      simp only [Int.toNat_natCast] at hx0 hx1
      have hlt' : decide ((j : Int) < (l0.length : Int)) = true := by simp; omega
      have HI2 := Aside0.mk hI
      have HP := Aside0.mk hb
      clear hI hb
      go_wp2_with ((with_reducible refine gate_dst (N := 16) rfl ?_); refine goesV_ (some 16) rfl rfl (caps := caps) rfl hf hname hbody (#[.agg #[.int .u8 x.f0, .int .i64 x.f1]] ++ caps) rfl (congrArg (fun z => z ++ caps) (by (try simp only [List.map_toArray, List.map_cons, List.map_nil]); rfl)) ?_; (with_reducible refine (hp.out x b _ (hIB _ _ HI0.out HB.out) HP.out).mono ?_); rintro e w2 ⟨rfl, hb2⟩; refine ⟨_, rfl, ?_⟩; have HB2 := Aside0.mk (below_then HB.out HB.out.size hb2); clear hb2)
      · have hbt : b = true := by assumption
        have hI3 := HI2.out
        rw [if_pos hbt] at hI3
        subst hI3
        go_ret
        exact ⟨rfl, HB2.out⟩
      · have hbf : ¬ b = true := by simpa using (show b = false by assumption)
        have hI3 := HI2.out
        rw [if_neg hbf] at hI3
        have HI3 := Aside0.mk hI3
        clear hI3
        go_roundw
        case rel => exact ⟨j + 1, by rw [wrap_succ hlt HM.out], ⟨by omega⟩, ⟨HI3.out⟩, ⟨HB2.out⟩⟩
        case measure => rw [wrap_succ hlt HM.out]; simp only [intOf, Int.toNat_natCast]; omega
    · have hlt' : decide ((j : Int) < (l0.length : Int)) = false := by simp; omega
      have hI := HI.out
      rw [List.drop_eq_nil_of_le (by omega)] at hI
      simp only [idxF, Option.some.injEq] at hI
      subst hI
      go_wp2
      go_ret
      exact ⟨rfl, HB.out⟩
/-- What is kept of a list by a predicate that may stop. -/
def delF {α : Type} (p : α → Option Bool) : List α → Option (List α)
  | [] => some []
  | x :: l => (p x).bind fun b => (delF p l).map fun r => if b = true then r else x :: r
theorem delF_spec {α : Type} {p : α → Option Bool} : ∀ {l r : List α}, delF p l = some r → (∀ x ∈ l, p x = some ((p x).getD false)) ∧ r = l.filter (fun x => !(p x).getD false)
  | [], r, h => by
    simp [delF] at h
    exact ⟨fun x hx => by simp at hx, by simp [h]⟩
  | x :: l, r, h => by
    simp only [delF] at h
    obtain ⟨b, hb, h⟩ := Option.bind_eq_some_iff.mp h
    obtain ⟨r', hr', h⟩ := Option.map_eq_some_iff.mp h
    obtain ⟨h1, h2⟩ := delF_spec hr'
    refine ⟨fun y hy => ?_, ?_⟩
    · rcases List.mem_cons.mp hy with rfl | hy
      · simp [hb]
      · exact h1 y hy
    · rw [List.filter_cons, hb]
      cases b <;> simp at h ⊢ <;> rw [← h, h2]
/-- The first index at which q holds. -/
theorem idxF_total {α : Type} {p : α → Option Bool} {q : α → Bool} : ∀ (l : List α) (i : Int), (∀ x ∈ l, p x = some (q x)) → 0 ≤ i →
    (idxF p l i = some (-1) ∧ ∀ x ∈ l, q x = false) ∨ (∃ j, ∃ hj : j < l.length, idxF p l i = some (i + (j : Int)) ∧ q l[j] = true ∧ ∀ k (hk : k < l.length), k < j → q l[k] = false)
  | [], i, _, _ => .inl ⟨rfl, fun x hx => by simp at hx⟩
  | x :: l, i, h, hi => by
    simp only [idxF, h x List.mem_cons_self, Option.bind_some]
    cases hq : q x with
    | true => exact .inr ⟨0, by simp, by simp, hq, fun k _ hk => by omega⟩
    | false =>
      rcases idxF_total l (i + 1) (fun y hy => h y (List.mem_cons_of_mem _ hy)) (by omega) with ⟨h1, h2⟩ | ⟨j, hj, h1, hq2, h2⟩
      · exact .inl ⟨by simpa using h1, fun y hy => (List.mem_cons.mp hy).elim (fun e => e ▸ hq) (h2 y)⟩
      · refine .inr ⟨j + 1, by simpa using hj, ?_, by simpa using hq2, fun k hk hkj => ?_⟩
        · simp only [Bool.false_eq_true, if_false, h1]
          congr 1
          omega
        · cases k with
          | zero => exact hq
          | succ k => exact h2 k (by simpa using hk) (by omega)
/-- A row's head, behind whatever was written further on in its block. -/
theorem head_kept {W : World} {base g n cap i : Nat} {ok : Nat → Prop} {xs : List S78} (h : Kd.R k78 78 W base ok (.slice (some ⟨g, 0, none⟩) n cap) xs) (hi : i ≤ n) (vs : List Value) (hl : i * 2 + vs.length ≤ cap * 2) :
    Kd.R k78 78 (W.setCells g (i * 2) vs) base ok (.slice (some ⟨g, 0, none⟩) i cap) (xs.take i) ∧ W.grownBy (W.setCells g (i * 2) vs) (some g) := by
  have hn := (Kd.R_reads' h).1
  have hd := Kd.R_take (m := i) h (by omega)
  have hs := setCells_same g vs (i * 2) W
  refine ⟨?_, ⟨hs.1, hs.2.1, hs.2.2.1, Nat.le_of_eq hs.2.2.2.symm, fun k hk hne => setCells_far vs _ k (fun e => hne (by rw [e]))⟩⟩
  obtain ⟨h0, inner, ho, hr⟩ := hd
  have hlx : (xs.take i).length = i := by rw [List.length_take]; omega
  refine ⟨h0, inner, ?_, hr⟩
  rw [hlx] at ho ⊢
  obtain ⟨hl1, ho⟩ := ho
  refine ⟨hl1, ?_⟩
  rcases ho with ⟨he, _⟩ | ⟨g', cap', cur, he, hb, hh, hnc, hcm, hcs, ht⟩
  · cases he
  · injection he with ha _ hc
    injection ha with ha
    injection ha with hg
    subst hg; subst hc
    obtain ⟨cur', h1, h2, h3⟩ := setCells_row vs (i * 2) W cur hh (by rw [hcs]; exact hl)
    refine .inr ⟨g, cap, cur', rfl, hb, h1, hnc, hcm, by rw [h2, hcs], ?_⟩
    rw [← ht, h3]
    have hlen : (cur.toList.take (i * 2)).length = i * 2 := by
      rw [List.length_take, Array.length_toList, hcs]
      exact Nat.min_eq_left (Nat.mul_le_mul_right 2 hnc)
    rw [show i * k78.sz = i * 2 from rfl, List.append_assoc, List.take_append_of_le_length (by omega)]
    rw [List.take_take, Nat.min_self]
theorem zeroCells_len (n : Nat) : (Builtin.zeroCells #[.int .u8 0, .int .i64 0] n).toList.length = n * 2 ∧ ∀ q ∈ (Builtin.zeroCells #[.int .u8 0, .int .i64 0] n).toList, q.oneCell' = true := by
  unfold Builtin.zeroCells
  refine ⟨by simp, fun q hq => ?_⟩
  simp at hq
  obtain ⟨j, _, rfl⟩ := hq
  rcases Nat.mod_two_eq_zero_or_one j with h | h <;> rw [h] <;> rfl
theorem zero_word (w : World) : (zeroValue 78).run Try.prog w = .ok (.agg #[.int .u8 0, .int .i64 0]) w := by kernel_rfl
set_option maxRecDepth 100000 in
/-- clear(s[i:]) of a row of words, at the operation. -/
theorem clear_tail {ops : Array Oper} {rest : List Oper} {o : Oper} {a : Act} {Q : Exit → Act → World → Prop} {W : World} {base g n cap i : Nat} {ok : Nat → Prop} {xs : List S78} {c : Nat}
    (hN : o.dst = none) (hgd : o.guard = none) (x : Operand) (ho : o.op = .call { callee := .builtin .clear, args := #[x], argTypes := #[30] })
    (h : Kd.R k78 78 W base ok (.slice (some ⟨g, 0, none⟩) n cap) xs) (hi : i ≤ n) (hx : a.eval x = .slice (some ⟨g, i * 2, none⟩) (n - i) c)
    (hK : ∀ w1, Kd.R k78 78 w1 base ok (.slice (some ⟨g, 0, none⟩) i cap) (xs.take i) → W.grownBy w1 (some g) → wpList Try.prog ops Q rest a w1) : wpList Try.prog ops Q (o :: rest) a W := by
  have hn := (Kd.R_reads' h).1
  have hnc := (Kd.R_reads' h).2.1
  have hz := zeroCells_len (n - i)
  have hfit : i * 2 + (Builtin.zeroCells #[.int .u8 0, .int .i64 0] (n - i)).toList.length ≤ cap * 2 := by rw [hz.1]; omega
  have hh := head_kept h hi (Builtin.zeroCells #[.int .u8 0, .int .i64 0] (n - i)).toList hfit
  refine wpList_plain hgd fun K hKK => ?_
  have hrun : (Builtin.clear_ #[30] o.type #[.slice (some ⟨g, i * 2, none⟩) (n - i) c]).run Try.prog W = .ok (.tuple #[]) (W.setCells g (i * 2) (Builtin.zeroCells #[.int .u8 0, .int .i64 0] (n - i)).toList) := by
    cases hm : n - i with
    | zero =>
      have : (Builtin.zeroCells #[.int .u8 0, .int .i64 0] 0).toList = [] := by simp [Builtin.zeroCells]
      rw [this]
      simp [Builtin.clear_, run_underlying Try.underlying30, World.setCells]
    | succ m =>
      have h2 : 0 < n := by omega
      obtain ⟨inner, hown⟩ := Kd.R_own h
      rcases hown.2 with ⟨he, _⟩ | ⟨g', cap', cur, he, hb, hc, _, _, hcs, _⟩
      · cases he
      · injection he with ha _ hcap
        injection ha with ha
        injection ha with hg
        subst hg; subst hcap
        rw [← hm]
        have hcell : ∀ j, j < (Builtin.zeroCells #[.int .u8 0, .int .i64 0] (n - i)).toList.length → (W.cell? ⟨g, i * 2 + j, none⟩).isSome = true := by
          intro j hj
          have hj2 : i * 2 + j < cur.size := by
            rw [hz.1] at hj
            rw [hcs]
            show _ < cap * 2
            omega
          rw [cell_of_row W g _ cur _ (0, 0) hc, Array.getElem?_eq_getElem hj2]
          rfl
        have hst := run_storeCells_cells (P := Try.prog) g (i * 2) (Builtin.zeroCells #[.int .u8 0, .int .i64 0] (n - i)).toList 0 W hcell (fun j _ => blk_frozen hc _) hz.2
        simp only [Nat.add_zero] at hst
        rw [hm] at hst ⊢
        simp [Builtin.clear_, run_underlying Try.underlying30, zero_word, Value.cells, hst]
  unfold Oper.wp
  simp [execOp, ho, hx, hrun, resolve, invoke, builtin, Result.andThen, Deferred.ofValue]
  show K (a.put o.dst _) _
  rw [hN]
  exact hKK _ _ (hK _ hh.1 hh.2)
theorem del_keep {q : S78 → Bool} {l xs : List S78} {i j : Nat} (hij : i < j) (hj : j < l.length) (hl : xs.length = l.length) (ht : xs.take i = (l.take j).filter (fun x => !q x)) (hd : xs.drop j = l.drop j) (hq : q l[j] = false) :
    (xs.set i l[j]).length = l.length ∧ (xs.set i l[j]).take (i + 1) = (l.take (j + 1)).filter (fun x => !q x) ∧ (xs.set i l[j]).drop (j + 1) = l.drop (j + 1) := by
  refine ⟨by simp [hl], ?_, ?_⟩
  · rw [List.take_set, List.take_succ_eq_append_getElem (by omega), List.take_succ_eq_append_getElem hj, List.filter_append, ← ht]
    rw [List.set_append_right _ _ (by simp; omega)]
    simp [hq, Nat.min_eq_left (show i ≤ xs.length by omega)]
  · rw [List.drop_set_of_lt (by omega), ← List.drop_drop, hd, List.drop_drop]
theorem del_drop {q : S78 → Bool} {l xs : List S78} {i j : Nat} (hj : j < l.length) (ht : xs.take i = (l.take j).filter (fun x => !q x)) (hd : xs.drop j = l.drop j) (hq : q l[j] = true) :
    xs.take i = (l.take (j + 1)).filter (fun x => !q x) ∧ xs.drop (j + 1) = l.drop (j + 1) := by
  refine ⟨?_, by rw [← List.drop_drop, hd, List.drop_drop]⟩
  rw [List.take_succ_eq_append_getElem hj, List.filter_append, ← ht]
  simp [hq]
theorem del_start {q : S78 → Bool} {l : List S78} {j : Nat} (hj : j < l.length) (h : ∀ k (hk : k < l.length), k < j → q l[k] = false) (hq : q l[j] = true) : l.take j = (l.take (j + 1)).filter (fun x => !q x) := by
  rw [List.take_succ_eq_append_getElem hj, List.filter_append]
  have : (l.take j).filter (fun x => !q x) = l.take j := by
    rw [List.filter_eq_self]
    intro x hx
    obtain ⟨k, hk, rfl⟩ := List.mem_iff_getElem.mp hx
    rw [List.getElem_take]
    simp at hk
    simp [h k (by omega) (by omega)]
  rw [this]
  simp [hq]
theorem same_at {l xs : List S78} {j : Nat} (hj : j < l.length) (hl : xs.length = l.length) (hd : xs.drop j = l.drop j) : xs.getD j z78 = l[j] := by
  have h1 : (xs.drop j)[0]? = (l.drop j)[0]? := by rw [hd]
  simp [hj] at h1
  rw [List.getD_eq_getElem?_getD, h1]
  rfl
set_option maxHeartbeats 2000000 in
set_option maxRecDepth 100000 in
theorem DeleteFunc_any (g : Nat) (fn : Func) (hf : Try.prog.funcs[g]? = some fn) (hname : (fn.name == "runtime.NumGoroutine") = false) (hbody : fn.body.isSome = true) (caps : Array Value) (p : S78 → Option Bool) (q : S78 → Bool) (w : World) (I : World → Prop) (hI0 : I w) (base : Nat) (ok : Nat → Prop) (v : Value) (l : List S78)
    (hIG : Aside0 (∀ W W', I W → W.grownBy W' v.ownBlock → I W')) (hp : Aside0 (∀ (x : S78) (b : Bool) (W : World), I W → p x = some b →
      Calls Try.prog g (#[.agg #[.int .u8 x.f0, .int .i64 x.f1]] ++ caps) W fun e W' => e = .returned (.bool b) ∧ Below W.heap.size W W'))
    (hR : Kd.R k78 78 w base ok v l) (h : ∀ x ∈ l, p x = some (q x)) :
    Calls Try.prog 86 #[v, .func (.func g) #[] caps] w fun e w' => ∃ v', e = .returned v' ∧ Kd.R k78 78 w' base ok v' (l.filter (fun x => !q x)) ∧ w.grownBy w' v.ownBlock ∧ v'.ownBlock = v.ownBlock := by
  have hu := Try.underlying78
  obtain ⟨A, c, rfl, hlc, hC⟩ := Kd.R_reads hR
  have HI0 := Aside0.mk hI0
  have HR := Aside0.mk hR
  have HC := Aside0.mk hC
  have HLC := Aside0.mk hlc
  have HQ := Aside0.mk h
  have HM := Aside0.mk (Kd.C_max hC)
  have HIB := Aside0.mk (show ∀ W W', I W → Below W.heap.size W W' → I W' from fun W W' hi hb => hIG.out W W' hi (grown_of_below hb _))
  clear hI0 hR hC hlc h
  rcases idxF_total l 0 HQ.out (Int.le_refl 0) with ⟨h1, h2⟩ | ⟨j0, hj0, h1, hq0, h2⟩
  · have H1 := Aside0.mk h1
    have H2 := Aside0.mk (show l.filter (fun x => !q x) = l from by rw [List.filter_eq_self]; intro x hx; simp [h2 x hx])
    clear h1 h2
    go_enter Try.func86, Try.ntmps86
    go_wp2_with (go_at_call 108; (with_reducible refine (IndexFuncWord_any g fn hf hname hbody caps p _ I HI0.out HIB.out hp A c l (-1) HC.out HLC.out H1.out).mono ?_); rintro e w2 ⟨rfl, hb2⟩; have HB2 := Aside0.mk hb2; clear hb2)
    go_ret
    exact ⟨_, rfl, by rw [H2.out]; exact Kd.R_below HR.out HB2.out, grown_of_below HB2.out _, rfl⟩
  · obtain ⟨gv, cap, he, hbg, hgl, cells, hcells⟩ := Kd.R_form HR.out (by omega)
    injection he with heA _ hec
    subst heA; subst hec
    have H1 := Aside0.mk (show idxF p l 0 = some (j0 : Int) from by rw [h1]; simp)
    have H2 := Aside0.mk (del_start hj0 h2 hq0)
    have HJ0 := Aside0.mk hj0
    clear h1 h2 hcells hq0 hbg hgl
    have HM0 := Aside0.mk (wrap_succ hj0 HM.out)
    go_enter Try.func86, Try.ntmps86
    have hneg : ((j0 : Int) == -1) = false := beq_eq_false_iff_ne.mpr (by omega)
    go_wp2_with (go_at_call 108; (with_reducible refine (IndexFuncWord_any g fn hf hname hbody caps p _ I HI0.out HIB.out hp _ c l (j0 : Int) HC.out HLC.out H1.out).mono ?_); rintro e w2 ⟨rfl, hb2⟩; have HB2 := Aside0.mk hb2; clear hb2)
    generalize wrap64 ((j0 : Int) + 1) = m0 at *
    go_loopw [5, 6] (fun vi vj w' => ∃ (i j : Nat) (xs : List S78), vi = .int .i64 i ∧ vj = .int .i64 j ∧ Aside0 (i < j ∧ j ≤ l.length ∧ xs.length = l.length) ∧ Aside0 (xs.take i = (l.take j).filter (fun x => !q x)) ∧ Aside0 (xs.drop j = l.drop j) ∧ Aside0 (Kd.R k78 78 w' base ok (.slice (some ⟨gv, 0, none⟩) l.length c) xs) ∧ Aside0 (w.grownBy w' (some gv))) (fun _ j _ => l.length - (intOf j).toNat)
    case atStart => exact ⟨j0, j0 + 1, l, rfl, by rw [HM0.out], ⟨by omega, HJ0.out, rfl⟩, ⟨H2.out⟩, ⟨rfl⟩, ⟨Kd.R_below HR.out HB2.out⟩, ⟨grown_of_below HB2.out _⟩⟩
    case round =>
      obtain ⟨i, j, xs, rfl, rfl, HIJ, HT, HD, HRr, HG⟩ := hrel
      obtain ⟨hij, hjl, hxl⟩ := HIJ.out
      clear HM0 HB2
      by_cases hlt : j < l.length
      · have hC := (Kd.R_reads' HRr.out).2.2
        rw [hxl] at hC
        obtain ⟨ad, e, hx0, hx1⟩ := at_T78 hC (j : Int) (by omega) (by omega)
        cases e
        have hrd : rd_T78 xs (j : Int) = l[j] := by simpa [rd_T78] using same_at hlt hxl HD.out
        rw [hrd] at hx0 hx1
        have HX := Aside0.mk (HQ.out l[j] (List.getElem_mem hlt))
        have HKK := Aside0.mk (del_keep (q := q) hij hlt hxl HT.out HD.out)
        have HKD := Aside0.mk (del_drop (q := q) hlt HT.out HD.out)
        clear hrd hC
        generalize l[j] = x at *
        simp only [Int.toNat_natCast, add_plain] at hx0 hx1
        have hlt' : decide ((j : Int) < (l.length : Int)) = true := by simp; omega
        have hp1 : (0 : Int) ≤ (i : Int) := by omega
        have hp2 : (i : Int) < (l.length : Int) := by omega
        have HXL := Aside0.mk hxl
        clear hxl
        cases cq : q x with
        | true =>
          have HX2 := Aside0.mk (HX.out.trans (congrArg some cq))
          obtain ⟨k1, k2⟩ := HKD.out cq
          have K1 := Aside0.mk k1
          have K2 := Aside0.mk k2
          clear k1 k2 HKK HKD cq
          go_wp2_with (first | ((with_reducible refine gate_dst (N := 28) rfl ?_); refine goesV_ (some 28) rfl rfl (caps := caps) rfl hf hname hbody (#[.agg #[.int .u8 x.f0, .int .i64 x.f1]] ++ caps) rfl (congrArg (fun z => z ++ caps) (by (try simp only [List.map_toArray, List.map_cons, List.map_nil]); rfl)) ?_; (with_reducible refine (hp.out x true _ (hIG.out _ _ HI0.out (grown_trans HG.out (World.grownBy_alloc wr _ _))) HX2.out).mono ?_); rintro e w3 ⟨rfl, hb2⟩; refine ⟨_, rfl, ?_⟩; have HB2 := Aside0.mk hb2; have HR3 := Aside0.mk (Kd.R_below (Kd.R_alloc HRr.out _) hb2); have HG3 := Aside0.mk (grown_trans HG.out (grown_trans (World.grownBy_alloc wr _ _) (grown_of_below hb2 _))); clear hb2))
          go_roundw
          case rel => exact ⟨i, j + 1, xs, rfl, by rw [wrap_succ hlt HM.out], ⟨by omega, by omega, HXL.out⟩, ⟨K1.out⟩, ⟨K2.out⟩, ⟨HR3.out⟩, ⟨HG3.out⟩⟩
          case measure => rw [wrap_succ hlt HM.out]; simp only [intOf, Int.toNat_natCast]; omega
        | false =>
          have HX2 := Aside0.mk (HX.out.trans (congrArg some cq))
          obtain ⟨k0, k1, k2⟩ := HKK.out cq
          have K0 := Aside0.mk k0
          have K1 := Aside0.mk k1
          have K2 := Aside0.mk k2
          have HP2 := Aside0.mk hp2
          clear k0 k1 k2 HKK HKD cq
          go_wp2_with (first | ((with_reducible refine gate_dst (N := 28) rfl ?_); refine goesV_ (some 28) rfl rfl (caps := caps) rfl hf hname hbody (#[.agg #[.int .u8 x.f0, .int .i64 x.f1]] ++ caps) rfl (congrArg (fun z => z ++ caps) (by (try simp only [List.map_toArray, List.map_cons, List.map_nil]); rfl)) ?_; (with_reducible refine (hp.out x false _ (hIG.out _ _ HI0.out (grown_trans HG.out (World.grownBy_alloc wr _ _))) HX2.out).mono ?_); rintro e w3 ⟨rfl, hb2⟩; refine ⟨_, rfl, ?_⟩; have HB2 := Aside0.mk hb2; have HR3 := Aside0.mk (Kd.R_below (Kd.R_alloc HRr.out _) hb2); have HG3 := Aside0.mk (grown_trans HG.out (grown_trans (World.grownBy_alloc wr _ _) (grown_of_below hb2 _))); have hy0 : w3.cell? ⟨wr.heap.size, 0, none⟩ = some (.int .u8 x.f0) := (blk_cell (blk_below (blk_new wr _) hb2) 0).trans rfl; have hy1 : w3.cell? ⟨wr.heap.size, 1, none⟩ = some (.int .i64 x.f1) := (blk_cell (blk_below (blk_new wr _) hb2) 1).trans rfl; obtain ⟨ce, hcl_, hcm_, hcc_, _⟩ := Kd.R_elem HR3.out z78 (i : Int) (by omega) (by have := HP2.out; omega); have HCL := Aside0.mk hcl_; have HCC := Aside0.mk hcc_; have HCN := Aside0.mk (show ce.take 0 ++ [.int .u8 x.f0, .int .i64 x.f1] ++ ce.drop (0 + 2) = [.int .u8 x.f0, .int .i64 x.f1] from by rw [List.drop_eq_nil_of_le (by rw [hcl_]; show 2 ≤ 0 + 2; omega)]; simp); clear hcl_ hcm_ hcc_; clear hb2) | ((with_reducible refine gate_store (p := 33) rfl ?_); refine Kd.R_store k78 (w0 := w3) base rfl rfl 78 (.tmp 33) (.tmp 32) rfl 78 (i : Int) 0 xs x (.agg #[.int .u8 x.f0, .int .i64 x.f1]) [.int .u8 x.f0, .int .i64 x.f1] ce ok (fun _ => False) rfl (by simp; rfl) rfl rfl (by kernel_rfl) (by intro u_ hu_; simp at hu_; rcases hu_ with rfl | rfl <;> rfl) HR3.out (by omega) (by have := HP2.out; omega) HCL.out HCC.out (by show 0 + 2 ≤ 2; omega) ?hM (fun _ h_ => h_.elim) ⟨rfl, rfl, rfl, Nat.le_refl _, fun _ _ => rfl⟩ ?_; (case hM => exact Eq.mpr (congrArg (k78.M w3 base (fun _ => False) x) HCN.out) (k78_mkM _ _ _ _)); intro w4 hr4 _ hg4; have HR4 := Aside0.mk hr4; have HG4 := Aside0.mk (grown_trans HG3.out hg4); clear hr4 hg4))
          go_roundw
          case rel => exact ⟨i + 1, j + 1, xs.set i x, by rw [wrap_succ (show i < l.length by omega) HM.out], by rw [wrap_succ hlt HM.out], ⟨by omega, by omega, K0.out⟩, ⟨K1.out⟩, ⟨K2.out⟩, ⟨by simpa using HR4.out⟩, ⟨HG4.out⟩⟩
          case measure => rw [wrap_succ hlt HM.out]; simp only [intOf, Int.toNat_natCast]; omega
      · have hlt' : decide ((j : Int) < (l.length : Int)) = false := by simp; omega
        have hci : ¬ c = i := by have := HLC.out; omega
        have hi0 : (0 : Int) ≤ (i : Int) := by omega
        have hi1 : (i : Int) ≤ (l.length : Int) := by omega
        have hle : i ≤ l.length := by omega
        have hi2 : i ≤ c := by have := HLC.out; omega
        have HE := Aside0.mk (show xs.take i = l.filter (fun x => !q x) from by rw [HT.out, List.take_of_length_le (by omega)])
        go_wp2_with ((with_reducible refine gate_builtin (b := .clear) (xs := #[.tmp 38]) rfl ?_); refine clear_tail (base := base) (ok := ok) (xs := xs) rfl rfl (.tmp 38) rfl HRr.out hle rfl ?_; intro w4 hr4 hg4; have HR4 := Aside0.mk hr4; have HG4 := Aside0.mk (grown_trans HG.out hg4); clear hr4 hg4)
        go_ret
        exact ⟨_, rfl, by rw [← HE.out]; exact HR4.out, HG4.out, rfl⟩
end Go.Proofs.Ytehkhbnhmehobaa.P
namespace Go.Proofs.Ytehkhbnhmehobaa.P
open Go.RowKit Go.Proofs.YtehkhbnhmehobaaW.PrintWords Go.Proofs.YtehkhbnhmehobaaW.PrintLast Go.Proofs.YtehkhbnhmehobaaW.PrintMore
attribute [local go_sem] max2_int min2_int max_two min_two max_three min_three max_four min_four   -- for this text's walks alone
set_option linter.unusedVariables false
set_option linter.unusedSimpArgs false
theorem eqA26 (d : Nat) (w : World) (x0 y0 : Int) (x1 y1 : Int) (x2 y2 : Int) (x3 y3 : Int) (x4 y4 : Int) (x5 y5 : Int) (x6 y6 : Int) (x7 y7 : Int) :
    (Op.equalIn (d + 2) 26 (.agg #[.int .i64 x0, .int .i64 x1, .int .i64 x2, .int .i64 x3, .int .i64 x4, .int .i64 x5, .int .i64 x6, .int .i64 x7]) (.agg #[.int .i64 y0, .int .i64 y1, .int .i64 y2, .int .i64 y3, .int .i64 y4, .int .i64 y5, .int .i64 y6, .int .i64 y7])).run Try.prog w = .ok (x0 == y0 && (x1 == y1 && (x2 == y2 && (x3 == y3 && (x4 == y4 && (x5 == y5 && (x6 == y6 && (x7 == y7)))))))) w := by
  refine eqA_of Try.underlying26 (by kernel_rfl) ?_
  refine eqf_cons (by rfl) (by go_simp; rfl) (by go_simp; rfl) (by go_simp) ?_
  refine eqf_cons (by rfl) (by go_simp; rfl) (by go_simp; rfl) (by go_simp) ?_
  refine eqf_cons (by rfl) (by go_simp; rfl) (by go_simp; rfl) (by go_simp) ?_
  refine eqf_cons (by rfl) (by go_simp; rfl) (by go_simp; rfl) (by go_simp) ?_
  refine eqf_cons (by rfl) (by go_simp; rfl) (by go_simp; rfl) (by go_simp) ?_
  refine eqf_cons (by rfl) (by go_simp; rfl) (by go_simp; rfl) (by go_simp) ?_
  refine eqf_cons (by rfl) (by go_simp; rfl) (by go_simp; rfl) (by go_simp) ?_
  exact eqf_last (by rfl) (by go_simp; rfl) (by go_simp; rfl) (by go_simp)
end Go.Proofs.Ytehkhbnhmehobaa.P
namespace Go.Proofs.Ytehkhbnhmehobaa.P
open Go.RowKit Go.Proofs.YtehkhbnhmehobaaW.PrintWords Go.Proofs.YtehkhbnhmehobaaW.PrintLast Go.Proofs.YtehkhbnhmehobaaW.PrintMore
attribute [local go_sem] max2_int min2_int max_two min_two max_three min_three max_four min_four   -- for this text's walks alone
set_option linter.unusedVariables false
set_option linter.unusedSimpArgs false
attribute [local go_sem high] eqA25 eqA26
/-! ### modal_idle: function 88 -/
def modal_idle.f (a0_0 : Int) (a0_1 : Int) (a0_2 : Int) (a0_3 : Int) (a0_4 : Int) (a0_5 : Int) (a0_6 : Int) (a0_7 : Int) (a1_0 : Int) (a1_1 : Int) : Option (Bool) := if a1_0 = 71 then (if a1_1 ≥ 80000 then (if a1_1 ≤ 83000 then (some false) else ((modal_put.f a0_0 a0_1 a0_2 a0_3 a0_4 a0_5 a0_6 a0_7 a1_0 a1_1).bind fun bt952 => (some (bt952.1 == a0_0 && (bt952.2.1 == a0_1 && (bt952.2.2.1 == a0_2 && (bt952.2.2.2.1 == a0_3 && (bt952.2.2.2.2.1 == a0_4 && (bt952.2.2.2.2.2.1 == a0_5 && (bt952.2.2.2.2.2.2.1 == a0_6 && (bt952.2.2.2.2.2.2.2 == a0_7))))))))))) else ((modal_put.f a0_0 a0_1 a0_2 a0_3 a0_4 a0_5 a0_6 a0_7 a1_0 a1_1).bind fun bt960 => (some (bt960.1 == a0_0 && (bt960.2.1 == a0_1 && (bt960.2.2.1 == a0_2 && (bt960.2.2.2.1 == a0_3 && (bt960.2.2.2.2.1 == a0_4 && (bt960.2.2.2.2.2.1 == a0_5 && (bt960.2.2.2.2.2.2.1 == a0_6 && (bt960.2.2.2.2.2.2.2 == a0_7))))))))))) else (if a1_0 = 70 then ((modal_put.f a0_0 a0_1 a0_2 a0_3 a0_4 a0_5 a0_6 a0_7 a1_0 a1_1).bind fun bt968 => (some (bt968.1 == a0_0 && (bt968.2.1 == a0_1 && (bt968.2.2.1 == a0_2 && (bt968.2.2.2.1 == a0_3 && (bt968.2.2.2.2.1 == a0_4 && (bt968.2.2.2.2.2.1 == a0_5 && (bt968.2.2.2.2.2.2.1 == a0_6 && (bt968.2.2.2.2.2.2.2 == a0_7)))))))))) else (if a1_0 = 84 then ((modal_put.f a0_0 a0_1 a0_2 a0_3 a0_4 a0_5 a0_6 a0_7 a1_0 a1_1).bind fun bt976 => (some (bt976.1 == a0_0 && (bt976.2.1 == a0_1 && (bt976.2.2.1 == a0_2 && (bt976.2.2.2.1 == a0_3 && (bt976.2.2.2.2.1 == a0_4 && (bt976.2.2.2.2.2.1 == a0_5 && (bt976.2.2.2.2.2.2.1 == a0_6 && (bt976.2.2.2.2.2.2.2 == a0_7)))))))))) else (if a1_0 = 72 then ((modal_put.f a0_0 a0_1 a0_2 a0_3 a0_4 a0_5 a0_6 a0_7 a1_0 a1_1).bind fun bt984 => (some (bt984.1 == a0_0 && (bt984.2.1 == a0_1 && (bt984.2.2.1 == a0_2 && (bt984.2.2.2.1 == a0_3 && (bt984.2.2.2.2.1 == a0_4 && (bt984.2.2.2.2.2.1 == a0_5 && (bt984.2.2.2.2.2.2.1 == a0_6 && (bt984.2.2.2.2.2.2.2 == a0_7)))))))))) else (some false))))
set_option maxHeartbeats 8000000 in
set_option maxRecDepth 100000 in
theorem modal_idle.calls (a0_0 : Int) (a0_1 : Int) (a0_2 : Int) (a0_3 : Int) (a0_4 : Int) (a0_5 : Int) (a0_6 : Int) (a0_7 : Int) (a1_0 : Int) (a1_1 : Int) (r : Bool) (w : World) (h : modal_idle.f a0_0 a0_1 a0_2 a0_3 a0_4 a0_5 a0_6 a0_7 a1_0 a1_1 = some r) :
  Calls Try.prog 88 #[.agg #[.int .i64 a0_0, .int .i64 a0_1, .int .i64 a0_2, .int .i64 a0_3, .int .i64 a0_4, .int .i64 a0_5, .int .i64 a0_6, .int .i64 a0_7], .agg #[.int .u8 a1_0, .int .i64 a1_1]] w fun e w' => e = .returned (.bool r) ∧ Below w.heap.size w w' := by
 have hu26 := Try.underlying26
 have hu78 := Try.underlying78
 have HB := Aside0.mk (Below.refl w.heap.size w)
 have H : (if a1_0 = 71 then (if a1_1 ≥ 80000 then (if a1_1 ≤ 83000 then (some false) else ((modal_put.f a0_0 a0_1 a0_2 a0_3 a0_4 a0_5 a0_6 a0_7 a1_0 a1_1).bind fun bt952 => (some (bt952.1 == a0_0 && (bt952.2.1 == a0_1 && (bt952.2.2.1 == a0_2 && (bt952.2.2.2.1 == a0_3 && (bt952.2.2.2.2.1 == a0_4 && (bt952.2.2.2.2.2.1 == a0_5 && (bt952.2.2.2.2.2.2.1 == a0_6 && (bt952.2.2.2.2.2.2.2 == a0_7))))))))))) else ((modal_put.f a0_0 a0_1 a0_2 a0_3 a0_4 a0_5 a0_6 a0_7 a1_0 a1_1).bind fun bt960 => (some (bt960.1 == a0_0 && (bt960.2.1 == a0_1 && (bt960.2.2.1 == a0_2 && (bt960.2.2.2.1 == a0_3 && (bt960.2.2.2.2.1 == a0_4 && (bt960.2.2.2.2.2.1 == a0_5 && (bt960.2.2.2.2.2.2.1 == a0_6 && (bt960.2.2.2.2.2.2.2 == a0_7))))))))))) else (if a1_0 = 70 then ((modal_put.f a0_0 a0_1 a0_2 a0_3 a0_4 a0_5 a0_6 a0_7 a1_0 a1_1).bind fun bt968 => (some (bt968.1 == a0_0 && (bt968.2.1 == a0_1 && (bt968.2.2.1 == a0_2 && (bt968.2.2.2.1 == a0_3 && (bt968.2.2.2.2.1 == a0_4 && (bt968.2.2.2.2.2.1 == a0_5 && (bt968.2.2.2.2.2.2.1 == a0_6 && (bt968.2.2.2.2.2.2.2 == a0_7)))))))))) else (if a1_0 = 84 then ((modal_put.f a0_0 a0_1 a0_2 a0_3 a0_4 a0_5 a0_6 a0_7 a1_0 a1_1).bind fun bt976 => (some (bt976.1 == a0_0 && (bt976.2.1 == a0_1 && (bt976.2.2.1 == a0_2 && (bt976.2.2.2.1 == a0_3 && (bt976.2.2.2.2.1 == a0_4 && (bt976.2.2.2.2.2.1 == a0_5 && (bt976.2.2.2.2.2.2.1 == a0_6 && (bt976.2.2.2.2.2.2.2 == a0_7)))))))))) else (if a1_0 = 72 then ((modal_put.f a0_0 a0_1 a0_2 a0_3 a0_4 a0_5 a0_6 a0_7 a1_0 a1_1).bind fun bt984 => (some (bt984.1 == a0_0 && (bt984.2.1 == a0_1 && (bt984.2.2.1 == a0_2 && (bt984.2.2.2.1 == a0_3 && (bt984.2.2.2.2.1 == a0_4 && (bt984.2.2.2.2.2.1 == a0_5 && (bt984.2.2.2.2.2.2.1 == a0_6 && (bt984.2.2.2.2.2.2.2 == a0_7)))))))))) else (some false))))) = some r := h
 clear h
 by_cases c3 : a1_0 = 71
 ·rw [if_pos c3] at H
  have c3b0 : (a1_0 == 71) = true := beq_iff_eq.mpr c3
  have c3b1 : (a1_0 != 71) = false := bne_eq_false_iff_eq.mpr c3
  clear c3
  by_cases c4 : a1_1 ≥ 80000
  ·rw [if_pos c4] at H
   have c4b0 : decide (80000 ≤ a1_1) = true := decide_eq_true c4
   clear c4
   by_cases c5 : a1_1 ≤ 83000
   ·rw [if_pos c5] at H
    have c5b0 : decide (a1_1 ≤ 83000) = true := decide_eq_true c5
    clear c5
    obtain rfl := Option.some.inj H
    go_enter Try.func88, Try.ntmps88
    go_wp2_with (first | ((with_reducible refine gate_dst (N := 2) rfl ?_); refine box_event ?hg (N := 2) ?hd (cs := #[.int .i64 a0_0, .int .i64 a0_1, .int .i64 a0_2, .int .i64 a0_3, .int .i64 a0_4, .int .i64 a0_5, .int .i64 a0_6, .int .i64 a0_7]) (t := 26) ?hr ?_; (case hd => rfl); (case hg => rfl); (case hr => first | (go_simp; done) | (go_simp; rfl)); intro gb950 hg w6 hbox hb; have n0_ := Aside0.mk (below_step (by repeat (first | (with_reducible first | exact HB.out | apply below_alloc | apply pw_below_drewN | apply below_drew1) | exact HB.out)) hb); have n1_ := Aside0.mk (hbox); have n2_ := Aside0.mk ((by rw [hg]; exact (below_size (by repeat (first | (with_reducible first | exact HB.out | apply below_alloc | apply pw_below_drewN | apply below_drew1) | exact HB.out))) : w.heap.size ≤ gb950)); have n3_ := Aside0.mk ((by rw [hg]; exact (below_size (by repeat (first | (with_reducible first | exact HB.out | apply below_alloc | apply pw_below_drewN | apply below_drew1) | exact HB.out))) : w.heap.size ≤ gb950)); clear HB; have HB := n0_; have BK950 := n1_; have GW950 := n2_; have GE950 := n3_; clear n0_ n1_ n2_ n3_; clear hb hbox hg) | ((with_reducible refine gate_dst (N := 3) rfl ?_); refine box_event ?hg (N := 3) ?hd (cs := #[.int .u8 a1_0, .int .i64 a1_1]) (t := 78) ?hr ?_; (case hd => rfl); (case hg => rfl); (case hr => first | (go_simp; done) | (go_simp; rfl)); intro gb951 hg w7 hbox hb; have n0_ := Aside0.mk (blk_below (g := gb950) (o := .cells #[.int .i64 a0_0, .int .i64 a0_1, .int .i64 a0_2, .int .i64 a0_3, .int .i64 a0_4, .int .i64 a0_5, .int .i64 a0_6, .int .i64 a0_7] 26 (0, 0)) (by (with_reducible repeat (first | refine blk_drewN ?_ _ | refine blk_drew ?_ | refine blk_alloc ?_ _)); exact BK950.out) hb); have n1_ := Aside0.mk (below_step (by repeat (first | (with_reducible first | exact HB.out | apply below_alloc | apply pw_below_drewN | apply below_drew1 | refine below_set ?_ GE950.out) | exact HB.out)) hb); have n2_ := Aside0.mk (hbox); have n3_ := Aside0.mk ((by rw [hg]; exact (below_size (by repeat (first | (with_reducible first | exact HB.out | apply below_alloc | apply pw_below_drewN | apply below_drew1 | refine below_set ?_ GE950.out) | exact HB.out))) : w.heap.size ≤ gb951)); have n4_ := Aside0.mk ((by rw [hg]; exact (below_size (by repeat (first | (with_reducible first | exact HB.out | apply below_alloc | apply pw_below_drewN | apply below_drew1 | refine below_set ?_ GE950.out) | exact HB.out))) : w.heap.size ≤ gb951)); have n5_ := Aside0.mk ((by rw [hg]; exact Nat.ne_of_lt (blk_lt (g := gb950) (o := .cells #[.int .i64 a0_0, .int .i64 a0_1, .int .i64 a0_2, .int .i64 a0_3, .int .i64 a0_4, .int .i64 a0_5, .int .i64 a0_6, .int .i64 a0_7] 26 (0, 0)) (by (with_reducible repeat (first | refine blk_drewN ?_ _ | refine blk_drew ?_ | refine blk_alloc ?_ _)); exact BK950.out)) : gb950 ≠ gb951)); have n6_ := Aside0.mk ((by rw [hg]; exact Nat.ne_of_gt (blk_lt (g := gb950) (o := .cells #[.int .i64 a0_0, .int .i64 a0_1, .int .i64 a0_2, .int .i64 a0_3, .int .i64 a0_4, .int .i64 a0_5, .int .i64 a0_6, .int .i64 a0_7] 26 (0, 0)) (by (with_reducible repeat (first | refine blk_drewN ?_ _ | refine blk_drew ?_ | refine blk_alloc ?_ _)); exact BK950.out)) : gb951 ≠ gb950)); clear BK950; clear HB; have BK950 := n0_; have HB := n1_; have BK951 := n2_; have GW951 := n3_; have GE951 := n4_; have NB950_951 := n5_; have NB951_950 := n6_; clear n0_ n1_ n2_ n3_ n4_ n5_ n6_; clear hb hbox hg; have hnb8 := NB951_950.out; have hnc8 := NB950_951.out; have hcz9_0 : w7.cell? ⟨gb951, 0, none⟩ = some (.int .u8 a1_0) := (blk_cell BK951.out 0).trans rfl; have hcz9_1 : w7.cell? ⟨gb951, 1, none⟩ = some (.int .i64 a1_1) := (blk_cell BK951.out 1).trans rfl; have hfz9_0 := blk_frozen BK951.out 0; have hfz9_1 := blk_frozen BK951.out 1))
    go_ret
    exact ⟨by first | rfl | (simp [errW_none, errW_some] <;> rfl) | (simp [*, errW_none, errW_some] <;> rfl), by repeat (first | (with_reducible first | exact HB.out | apply below_alloc | apply pw_below_drewN | apply below_drew1 | refine below_set ?_ GE950.out | refine below_set ?_ GE951.out) | exact HB.out)⟩
   ·rw [if_neg c5] at H
    have c5b0 : decide (a1_1 ≤ 83000) = false := decide_eq_false c5
    clear c5
    replace H := Option.bind_eq_some_iff.mp H
    obtain ⟨⟨t952, t953, t954, t955, t956, t957, t958, t959⟩, A100, H⟩ := H
    replace H : (some (t952 == a0_0 && (t953 == a0_1 && (t954 == a0_2 && (t955 == a0_3 && (t956 == a0_4 && (t957 == a0_5 && (t958 == a0_6 && (t959 == a0_7))))))))) = some r := H
    have A10 := Aside0.mk A100
    clear A100
    obtain rfl := Option.some.inj H
    go_enter Try.func88, Try.ntmps88
    try go_wp2_with (first | ((with_reducible refine gate_dst (N := 2) rfl ?_); refine box_event ?hg (N := 2) ?hd (cs := #[.int .i64 a0_0, .int .i64 a0_1, .int .i64 a0_2, .int .i64 a0_3, .int .i64 a0_4, .int .i64 a0_5, .int .i64 a0_6, .int .i64 a0_7]) (t := 26) ?hr ?_; (case hd => rfl); (case hg => rfl); (case hr => first | (go_simp; done) | (go_simp; rfl)); intro gb950 hg w11 hbox hb; have n0_ := Aside0.mk (below_step (by repeat (first | (with_reducible first | exact HB.out | apply below_alloc | apply pw_below_drewN | apply below_drew1) | exact HB.out)) hb); have n1_ := Aside0.mk (hbox); have n2_ := Aside0.mk ((by rw [hg]; exact (below_size (by repeat (first | (with_reducible first | exact HB.out | apply below_alloc | apply pw_below_drewN | apply below_drew1) | exact HB.out))) : w.heap.size ≤ gb950)); have n3_ := Aside0.mk ((by rw [hg]; exact (below_size (by repeat (first | (with_reducible first | exact HB.out | apply below_alloc | apply pw_below_drewN | apply below_drew1) | exact HB.out))) : w.heap.size ≤ gb950)); clear HB; have HB := n0_; have BK950 := n1_; have GW950 := n2_; have GE950 := n3_; clear n0_ n1_ n2_ n3_; clear hb hbox hg) | ((with_reducible refine gate_dst (N := 3) rfl ?_); refine box_event ?hg (N := 3) ?hd (cs := #[.int .u8 a1_0, .int .i64 a1_1]) (t := 78) ?hr ?_; (case hd => rfl); (case hg => rfl); (case hr => first | (go_simp; done) | (go_simp; rfl)); intro gb951 hg w12 hbox hb; have n0_ := Aside0.mk (blk_below (g := gb950) (o := .cells #[.int .i64 a0_0, .int .i64 a0_1, .int .i64 a0_2, .int .i64 a0_3, .int .i64 a0_4, .int .i64 a0_5, .int .i64 a0_6, .int .i64 a0_7] 26 (0, 0)) (by (with_reducible repeat (first | refine blk_drewN ?_ _ | refine blk_drew ?_ | refine blk_alloc ?_ _)); exact BK950.out) hb); have n1_ := Aside0.mk (below_step (by repeat (first | (with_reducible first | exact HB.out | apply below_alloc | apply pw_below_drewN | apply below_drew1 | refine below_set ?_ GE950.out) | exact HB.out)) hb); have n2_ := Aside0.mk (hbox); have n3_ := Aside0.mk ((by rw [hg]; exact (below_size (by repeat (first | (with_reducible first | exact HB.out | apply below_alloc | apply pw_below_drewN | apply below_drew1 | refine below_set ?_ GE950.out) | exact HB.out))) : w.heap.size ≤ gb951)); have n4_ := Aside0.mk ((by rw [hg]; exact (below_size (by repeat (first | (with_reducible first | exact HB.out | apply below_alloc | apply pw_below_drewN | apply below_drew1 | refine below_set ?_ GE950.out) | exact HB.out))) : w.heap.size ≤ gb951)); have n5_ := Aside0.mk ((by rw [hg]; exact Nat.ne_of_lt (blk_lt (g := gb950) (o := .cells #[.int .i64 a0_0, .int .i64 a0_1, .int .i64 a0_2, .int .i64 a0_3, .int .i64 a0_4, .int .i64 a0_5, .int .i64 a0_6, .int .i64 a0_7] 26 (0, 0)) (by (with_reducible repeat (first | refine blk_drewN ?_ _ | refine blk_drew ?_ | refine blk_alloc ?_ _)); exact BK950.out)) : gb950 ≠ gb951)); have n6_ := Aside0.mk ((by rw [hg]; exact Nat.ne_of_gt (blk_lt (g := gb950) (o := .cells #[.int .i64 a0_0, .int .i64 a0_1, .int .i64 a0_2, .int .i64 a0_3, .int .i64 a0_4, .int .i64 a0_5, .int .i64 a0_6, .int .i64 a0_7] 26 (0, 0)) (by (with_reducible repeat (first | refine blk_drewN ?_ _ | refine blk_drew ?_ | refine blk_alloc ?_ _)); exact BK950.out)) : gb951 ≠ gb950)); clear BK950; clear HB; have BK950 := n0_; have HB := n1_; have BK951 := n2_; have GW951 := n3_; have GE951 := n4_; have NB950_951 := n5_; have NB951_950 := n6_; clear n0_ n1_ n2_ n3_ n4_ n5_ n6_; clear hb hbox hg; have hnb13 := NB951_950.out; have hnc13 := NB950_951.out; have hcz14_0 : w12.cell? ⟨gb951, 0, none⟩ = some (.int .u8 a1_0) := (blk_cell BK951.out 0).trans rfl; have hcz14_1 : w12.cell? ⟨gb951, 1, none⟩ = some (.int .i64 a1_1) := (blk_cell BK951.out 1).trans rfl; have hfz14_0 := blk_frozen BK951.out 0; have hfz14_1 := blk_frozen BK951.out 1))
    have n0_ := Aside0.mk (blk_drew BK950.out)
    have n1_ := Aside0.mk (blk_drew BK951.out)
    have n2_ := Aside0.mk (below_drew1 HB.out)
    clear BK950
    clear BK951
    clear HB
    have BK950 := n0_
    have BK951 := n1_
    have HB := n2_
    clear n0_ n1_ n2_
    refine start_ (n := 6) (S := fun w' => w'.cell? ⟨gb950, 0, none⟩ = some (.int .i64 a0_0) ∧ w'.cell? ⟨gb950, 1, none⟩ = some (.int .i64 a0_1) ∧ w'.cell? ⟨gb950, 2, none⟩ = some (.int .i64 a0_2) ∧ w'.cell? ⟨gb950, 3, none⟩ = some (.int .i64 a0_3) ∧ w'.cell? ⟨gb950, 4, none⟩ = some (.int .i64 a0_4) ∧ w'.cell? ⟨gb950, 5, none⟩ = some (.int .i64 a0_5) ∧ w'.cell? ⟨gb950, 6, none⟩ = some (.int .i64 a0_6) ∧ w'.cell? ⟨gb950, 7, none⟩ = some (.int .i64 a0_7) ∧ w'.cell? ⟨gb951, 0, none⟩ = some (.int .u8 a1_0) ∧ w'.cell? ⟨gb951, 1, none⟩ = some (.int .i64 a1_1)) (ds := []) #[false, false, false, false, false, false] (by kernel_rfl) rfl rfl ⟨(blk_cell BK950.out 0).trans rfl, (blk_cell BK950.out 1).trans rfl, (blk_cell BK950.out 2).trans rfl, (blk_cell BK950.out 3).trans rfl, (blk_cell BK950.out 4).trans rfl, (blk_cell BK950.out 5).trans rfl, (blk_cell BK950.out 6).trans rfl, (blk_cell BK950.out 7).trans rfl, (blk_cell BK951.out 0).trans rfl, (blk_cell BK951.out 1).trans rfl⟩ (fun hHeld => ?_)
    generalize w12.drew = w15 at BK950 BK951 HB hHeld ⊢
    refine take_ (i := 0) (N := some 21) (v := ?_) (a' := ?_) #[true, false, false, false, false, false] rfl rfl (by kernel_rfl) (fun _ _ _ h => h) (Or.inl ⟨by rfl, ?_⟩) hHeld ?_ ?_
    rotate_left
    ·rintro w' ⟨s0, s1, s2, s3, s4, s5, s6, s7, s8, s9⟩
     go_simp
     with_reducible rfl
    rotate_left
    ·simp only [Act.put, List.setIfInBounds_toArray, List.set_cons_zero, List.set_cons_succ, i64_w, i32_w]
     rfl
    refine take_ (i := 1) (N := some 22) (v := ?_) (a' := ?_) #[true, true, false, false, false, false] rfl rfl (by kernel_rfl) (fun _ _ _ h => h) (Or.inl ⟨by rfl, ?_⟩) hHeld ?_ ?_
    rotate_left
    ·rintro w' ⟨s0, s1, s2, s3, s4, s5, s6, s7, s8, s9⟩
     go_simp
     with_reducible rfl
    rotate_left
    ·simp only [Act.put, List.setIfInBounds_toArray, List.set_cons_zero, List.set_cons_succ, i64_w, i32_w]
     rfl
    refine take_ (i := 3) (N := some 24) (v := ?_) (a' := ?_) #[true, true, false, true, false, false] rfl rfl (by kernel_rfl) (fun _ _ _ h => h) (Or.inl ⟨by rfl, ?_⟩) hHeld ?_ ?_
    rotate_left
    ·rintro w' ⟨s0, s1, s2, s3, s4, s5, s6, s7, s8, s9⟩
     go_simp
     with_reducible rfl
    rotate_left
    ·simp only [Act.put, List.setIfInBounds_toArray, List.set_cons_zero, List.set_cons_succ, i64_w, i32_w]
     rfl
    refine one_ (i := 2) (N := some 23) #[true, true, true, true, false, false] rfl rfl (by kernel_rfl) (by decide) (fun K hK => ?_)
    refine goes_ Try.func54 (by kernel_rfl) rfl #[.agg #[.int .i64 a0_0, .int .i64 a0_1, .int .i64 a0_2, .int .i64 a0_3, .int .i64 a0_4, .int .i64 a0_5, .int .i64 a0_6, .int .i64 a0_7], .agg #[.int .u8 a1_0, .int .i64 a1_1]] (by rfl) rfl rfl (by (try simp only [List.map_toArray, List.map_cons, List.map_nil]); first | done | rfl | (simp only [List.length_drop, List.length_take]; rfl)) ?_
    with_reducible refine (modal_put.calls a0_0 a0_1 a0_2 a0_3 a0_4 a0_5 a0_6 a0_7 a1_0 a1_1 t952 t953 t954 t955 t956 t957 t958 t959 _ A10.out).mono ?_
    rintro e w16 ⟨rfl, hb⟩
    refine ⟨_, rfl, ?_⟩
    have n0_ := Aside0.mk (blk_below (g := gb950) (o := .cells #[.int .i64 a0_0, .int .i64 a0_1, .int .i64 a0_2, .int .i64 a0_3, .int .i64 a0_4, .int .i64 a0_5, .int .i64 a0_6, .int .i64 a0_7] 26 (0, 0)) (by (with_reducible repeat (first | refine blk_drewN ?_ _ | refine blk_drew ?_ | refine blk_alloc ?_ _)); exact BK950.out) hb)
    have n1_ := Aside0.mk (blk_below (g := gb951) (o := .cells #[.int .u8 a1_0, .int .i64 a1_1] 78 (0, 0)) (by (with_reducible repeat (first | refine blk_drewN ?_ _ | refine blk_drew ?_ | refine blk_alloc ?_ _)); exact BK951.out) hb)
    have n2_ := Aside0.mk (below_step (by repeat (first | (with_reducible first | exact HB.out | apply below_alloc | apply pw_below_drewN | apply below_drew1 | refine below_set ?_ GE950.out | refine below_set ?_ GE951.out) | exact HB.out)) hb)
    clear BK950
    clear BK951
    clear HB
    have BK950 := n0_
    have BK951 := n1_
    have HB := n2_
    clear n0_ n1_ n2_
    (try clear hb)
    (try clear hb2)
    (try clear hk)
    (try clear hi)
    refine hK.out _ _ ⟨(blk_cell BK950.out 0).trans rfl, (blk_cell BK950.out 1).trans rfl, (blk_cell BK950.out 2).trans rfl, (blk_cell BK950.out 3).trans rfl, (blk_cell BK950.out 4).trans rfl, (blk_cell BK950.out 5).trans rfl, (blk_cell BK950.out 6).trans rfl, (blk_cell BK950.out 7).trans rfl, (blk_cell BK951.out 0).trans rfl, (blk_cell BK951.out 1).trans rfl⟩ (fun hHeld => ?_)
    clear hK K
    refine norm_ (a' := ?_) ?_ ?_
    rotate_left
    ·show Act.put _ (some 23) _ = _
     simp only [Act.put, List.setIfInBounds_toArray, List.set_cons_zero, List.set_cons_succ, i64_w, i32_w]
     rfl
    refine pure_ (i := 4) (N := some 25) (v := ?_) (a' := ?_) #[true, true, true, true, true, false] rfl rfl (by kernel_rfl) (fun _ _ _ h => h) (Or.inl ⟨by rfl, ?_⟩) ?_ ?_
    rotate_left
    ·intro w'
     go_simp
     with_reducible rfl
    rotate_left
    ·simp only [Act.put, List.setIfInBounds_toArray, List.set_cons_zero, List.set_cons_succ, i64_w, i32_w]
     rfl
    refine pure_ (i := 5) (N := some 4) (v := ?_) (a' := ?_) #[true, true, true, true, true, true] rfl rfl (by kernel_rfl) (fun _ _ _ h => h) (Or.inl ⟨by rfl, ?_⟩) ?_ ?_
    rotate_left
    ·intro w'
     go_simp
     with_reducible rfl
    rotate_left
    ·simp only [Act.put, List.setIfInBounds_toArray, List.set_cons_zero, List.set_cons_succ, i64_w, i32_w]
     rfl
    refine done_ (by kernel_rfl) ?_
    try go_wp2
    go_ret
    exact ⟨by first | rfl | (simp [errW_none, errW_some] <;> rfl) | (simp [*, errW_none, errW_some] <;> rfl), by repeat (first | (with_reducible first | exact HB.out | apply below_alloc | apply pw_below_drewN | apply below_drew1 | refine below_set ?_ GE950.out | refine below_set ?_ GE951.out) | exact HB.out)⟩
  ·rw [if_neg c4] at H
   have c4b0 : decide (80000 ≤ a1_1) = false := decide_eq_false c4
   clear c4
   replace H := Option.bind_eq_some_iff.mp H
   obtain ⟨⟨t960, t961, t962, t963, t964, t965, t966, t967⟩, A170, H⟩ := H
   replace H : (some (t960 == a0_0 && (t961 == a0_1 && (t962 == a0_2 && (t963 == a0_3 && (t964 == a0_4 && (t965 == a0_5 && (t966 == a0_6 && (t967 == a0_7))))))))) = some r := H
   have A17 := Aside0.mk A170
   clear A170
   obtain rfl := Option.some.inj H
   go_enter Try.func88, Try.ntmps88
   try go_wp2_with (first | ((with_reducible refine gate_dst (N := 2) rfl ?_); refine box_event ?hg (N := 2) ?hd (cs := #[.int .i64 a0_0, .int .i64 a0_1, .int .i64 a0_2, .int .i64 a0_3, .int .i64 a0_4, .int .i64 a0_5, .int .i64 a0_6, .int .i64 a0_7]) (t := 26) ?hr ?_; (case hd => rfl); (case hg => rfl); (case hr => first | (go_simp; done) | (go_simp; rfl)); intro gb950 hg w18 hbox hb; have n0_ := Aside0.mk (below_step (by repeat (first | (with_reducible first | exact HB.out | apply below_alloc | apply pw_below_drewN | apply below_drew1) | exact HB.out)) hb); have n1_ := Aside0.mk (hbox); have n2_ := Aside0.mk ((by rw [hg]; exact (below_size (by repeat (first | (with_reducible first | exact HB.out | apply below_alloc | apply pw_below_drewN | apply below_drew1) | exact HB.out))) : w.heap.size ≤ gb950)); have n3_ := Aside0.mk ((by rw [hg]; exact (below_size (by repeat (first | (with_reducible first | exact HB.out | apply below_alloc | apply pw_below_drewN | apply below_drew1) | exact HB.out))) : w.heap.size ≤ gb950)); clear HB; have HB := n0_; have BK950 := n1_; have GW950 := n2_; have GE950 := n3_; clear n0_ n1_ n2_ n3_; clear hb hbox hg) | ((with_reducible refine gate_dst (N := 3) rfl ?_); refine box_event ?hg (N := 3) ?hd (cs := #[.int .u8 a1_0, .int .i64 a1_1]) (t := 78) ?hr ?_; (case hd => rfl); (case hg => rfl); (case hr => first | (go_simp; done) | (go_simp; rfl)); intro gb951 hg w19 hbox hb; have n0_ := Aside0.mk (blk_below (g := gb950) (o := .cells #[.int .i64 a0_0, .int .i64 a0_1, .int .i64 a0_2, .int .i64 a0_3, .int .i64 a0_4, .int .i64 a0_5, .int .i64 a0_6, .int .i64 a0_7] 26 (0, 0)) (by (with_reducible repeat (first | refine blk_drewN ?_ _ | refine blk_drew ?_ | refine blk_alloc ?_ _)); exact BK950.out) hb); have n1_ := Aside0.mk (below_step (by repeat (first | (with_reducible first | exact HB.out | apply below_alloc | apply pw_below_drewN | apply below_drew1 | refine below_set ?_ GE950.out) | exact HB.out)) hb); have n2_ := Aside0.mk (hbox); have n3_ := Aside0.mk ((by rw [hg]; exact (below_size (by repeat (first | (with_reducible first | exact HB.out | apply below_alloc | apply pw_below_drewN | apply below_drew1 | refine below_set ?_ GE950.out) | exact HB.out))) : w.heap.size ≤ gb951)); have n4_ := Aside0.mk ((by rw [hg]; exact (below_size (by repeat (first | (with_reducible first | exact HB.out | apply below_alloc | apply pw_below_drewN | apply below_drew1 | refine below_set ?_ GE950.out) | exact HB.out))) : w.heap.size ≤ gb951)); have n5_ := Aside0.mk ((by rw [hg]; exact Nat.ne_of_lt (blk_lt (g := gb950) (o := .cells #[.int .i64 a0_0, .int .i64 a0_1, .int .i64 a0_2, .int .i64 a0_3, .int .i64 a0_4, .int .i64 a0_5, .int .i64 a0_6, .int .i64 a0_7] 26 (0, 0)) (by (with_reducible repeat (first | refine blk_drewN ?_ _ | refine blk_drew ?_ | refine blk_alloc ?_ _)); exact BK950.out)) : gb950 ≠ gb951)); have n6_ := Aside0.mk ((by rw [hg]; exact Nat.ne_of_gt (blk_lt (g := gb950) (o := .cells #[.int .i64 a0_0, .int .i64 a0_1, .int .i64 a0_2, .int .i64 a0_3, .int .i64 a0_4, .int .i64 a0_5, .int .i64 a0_6, .int .i64 a0_7] 26 (0, 0)) (by (with_reducible repeat (first | refine blk_drewN ?_ _ | refine blk_drew ?_ | refine blk_alloc ?_ _)); exact BK950.out)) : gb951 ≠ gb950)); clear BK950; clear HB; have BK950 := n0_; have HB := n1_; have BK951 := n2_; have GW951 := n3_; have GE951 := n4_; have NB950_951 := n5_; have NB951_950 := n6_; clear n0_ n1_ n2_ n3_ n4_ n5_ n6_; clear hb hbox hg; have hnb20 := NB951_950.out; have hnc20 := NB950_951.out; have hcz21_0 : w19.cell? ⟨gb951, 0, none⟩ = some (.int .u8 a1_0) := (blk_cell BK951.out 0).trans rfl; have hcz21_1 : w19.cell? ⟨gb951, 1, none⟩ = some (.int .i64 a1_1) := (blk_cell BK951.out 1).trans rfl; have hfz21_0 := blk_frozen BK951.out 0; have hfz21_1 := blk_frozen BK951.out 1))
   have n0_ := Aside0.mk (blk_drew BK950.out)
   have n1_ := Aside0.mk (blk_drew BK951.out)
   have n2_ := Aside0.mk (below_drew1 HB.out)
   clear BK950
   clear BK951
   clear HB
   have BK950 := n0_
   have BK951 := n1_
   have HB := n2_
   clear n0_ n1_ n2_
   refine start_ (n := 6) (S := fun w' => w'.cell? ⟨gb950, 0, none⟩ = some (.int .i64 a0_0) ∧ w'.cell? ⟨gb950, 1, none⟩ = some (.int .i64 a0_1) ∧ w'.cell? ⟨gb950, 2, none⟩ = some (.int .i64 a0_2) ∧ w'.cell? ⟨gb950, 3, none⟩ = some (.int .i64 a0_3) ∧ w'.cell? ⟨gb950, 4, none⟩ = some (.int .i64 a0_4) ∧ w'.cell? ⟨gb950, 5, none⟩ = some (.int .i64 a0_5) ∧ w'.cell? ⟨gb950, 6, none⟩ = some (.int .i64 a0_6) ∧ w'.cell? ⟨gb950, 7, none⟩ = some (.int .i64 a0_7) ∧ w'.cell? ⟨gb951, 0, none⟩ = some (.int .u8 a1_0) ∧ w'.cell? ⟨gb951, 1, none⟩ = some (.int .i64 a1_1)) (ds := []) #[false, false, false, false, false, false] (by kernel_rfl) rfl rfl ⟨(blk_cell BK950.out 0).trans rfl, (blk_cell BK950.out 1).trans rfl, (blk_cell BK950.out 2).trans rfl, (blk_cell BK950.out 3).trans rfl, (blk_cell BK950.out 4).trans rfl, (blk_cell BK950.out 5).trans rfl, (blk_cell BK950.out 6).trans rfl, (blk_cell BK950.out 7).trans rfl, (blk_cell BK951.out 0).trans rfl, (blk_cell BK951.out 1).trans rfl⟩ (fun hHeld => ?_)
   generalize w19.drew = w22 at BK950 BK951 HB hHeld ⊢
   refine take_ (i := 0) (N := some 21) (v := ?_) (a' := ?_) #[true, false, false, false, false, false] rfl rfl (by kernel_rfl) (fun _ _ _ h => h) (Or.inl ⟨by rfl, ?_⟩) hHeld ?_ ?_
   rotate_left
   ·rintro w' ⟨s0, s1, s2, s3, s4, s5, s6, s7, s8, s9⟩
    go_simp
    with_reducible rfl
   rotate_left
   ·simp only [Act.put, List.setIfInBounds_toArray, List.set_cons_zero, List.set_cons_succ, i64_w, i32_w]
    rfl
   refine take_ (i := 1) (N := some 22) (v := ?_) (a' := ?_) #[true, true, false, false, false, false] rfl rfl (by kernel_rfl) (fun _ _ _ h => h) (Or.inl ⟨by rfl, ?_⟩) hHeld ?_ ?_
   rotate_left
   ·rintro w' ⟨s0, s1, s2, s3, s4, s5, s6, s7, s8, s9⟩
    go_simp
    with_reducible rfl
   rotate_left
   ·simp only [Act.put, List.setIfInBounds_toArray, List.set_cons_zero, List.set_cons_succ, i64_w, i32_w]
    rfl
   refine take_ (i := 3) (N := some 24) (v := ?_) (a' := ?_) #[true, true, false, true, false, false] rfl rfl (by kernel_rfl) (fun _ _ _ h => h) (Or.inl ⟨by rfl, ?_⟩) hHeld ?_ ?_
   rotate_left
   ·rintro w' ⟨s0, s1, s2, s3, s4, s5, s6, s7, s8, s9⟩
    go_simp
    with_reducible rfl
   rotate_left
   ·simp only [Act.put, List.setIfInBounds_toArray, List.set_cons_zero, List.set_cons_succ, i64_w, i32_w]
    rfl
   refine one_ (i := 2) (N := some 23) #[true, true, true, true, false, false] rfl rfl (by kernel_rfl) (by decide) (fun K hK => ?_)
   refine goes_ Try.func54 (by kernel_rfl) rfl #[.agg #[.int .i64 a0_0, .int .i64 a0_1, .int .i64 a0_2, .int .i64 a0_3, .int .i64 a0_4, .int .i64 a0_5, .int .i64 a0_6, .int .i64 a0_7], .agg #[.int .u8 a1_0, .int .i64 a1_1]] (by rfl) rfl rfl (by (try simp only [List.map_toArray, List.map_cons, List.map_nil]); first | done | rfl | (simp only [List.length_drop, List.length_take]; rfl)) ?_
   with_reducible refine (modal_put.calls a0_0 a0_1 a0_2 a0_3 a0_4 a0_5 a0_6 a0_7 a1_0 a1_1 t960 t961 t962 t963 t964 t965 t966 t967 _ A17.out).mono ?_
   rintro e w23 ⟨rfl, hb⟩
   refine ⟨_, rfl, ?_⟩
   have n0_ := Aside0.mk (blk_below (g := gb950) (o := .cells #[.int .i64 a0_0, .int .i64 a0_1, .int .i64 a0_2, .int .i64 a0_3, .int .i64 a0_4, .int .i64 a0_5, .int .i64 a0_6, .int .i64 a0_7] 26 (0, 0)) (by (with_reducible repeat (first | refine blk_drewN ?_ _ | refine blk_drew ?_ | refine blk_alloc ?_ _)); exact BK950.out) hb)
   have n1_ := Aside0.mk (blk_below (g := gb951) (o := .cells #[.int .u8 a1_0, .int .i64 a1_1] 78 (0, 0)) (by (with_reducible repeat (first | refine blk_drewN ?_ _ | refine blk_drew ?_ | refine blk_alloc ?_ _)); exact BK951.out) hb)
   have n2_ := Aside0.mk (below_step (by repeat (first | (with_reducible first | exact HB.out | apply below_alloc | apply pw_below_drewN | apply below_drew1 | refine below_set ?_ GE950.out | refine below_set ?_ GE951.out) | exact HB.out)) hb)
   clear BK950
   clear BK951
   clear HB
   have BK950 := n0_
   have BK951 := n1_
   have HB := n2_
   clear n0_ n1_ n2_
   (try clear hb)
   (try clear hb2)
   (try clear hk)
   (try clear hi)
   refine hK.out _ _ ⟨(blk_cell BK950.out 0).trans rfl, (blk_cell BK950.out 1).trans rfl, (blk_cell BK950.out 2).trans rfl, (blk_cell BK950.out 3).trans rfl, (blk_cell BK950.out 4).trans rfl, (blk_cell BK950.out 5).trans rfl, (blk_cell BK950.out 6).trans rfl, (blk_cell BK950.out 7).trans rfl, (blk_cell BK951.out 0).trans rfl, (blk_cell BK951.out 1).trans rfl⟩ (fun hHeld => ?_)
   clear hK K
   refine norm_ (a' := ?_) ?_ ?_
   rotate_left
   ·show Act.put _ (some 23) _ = _
    simp only [Act.put, List.setIfInBounds_toArray, List.set_cons_zero, List.set_cons_succ, i64_w, i32_w]
    rfl
   refine pure_ (i := 4) (N := some 25) (v := ?_) (a' := ?_) #[true, true, true, true, true, false] rfl rfl (by kernel_rfl) (fun _ _ _ h => h) (Or.inl ⟨by rfl, ?_⟩) ?_ ?_
   rotate_left
   ·intro w'
    go_simp
    with_reducible rfl
   rotate_left
   ·simp only [Act.put, List.setIfInBounds_toArray, List.set_cons_zero, List.set_cons_succ, i64_w, i32_w]
    rfl
   refine pure_ (i := 5) (N := some 4) (v := ?_) (a' := ?_) #[true, true, true, true, true, true] rfl rfl (by kernel_rfl) (fun _ _ _ h => h) (Or.inl ⟨by rfl, ?_⟩) ?_ ?_
   rotate_left
   ·intro w'
    go_simp
    with_reducible rfl
   rotate_left
   ·simp only [Act.put, List.setIfInBounds_toArray, List.set_cons_zero, List.set_cons_succ, i64_w, i32_w]
    rfl
   refine done_ (by kernel_rfl) ?_
   try go_wp2
   go_ret
   exact ⟨by first | rfl | (simp [errW_none, errW_some] <;> rfl) | (simp [*, errW_none, errW_some] <;> rfl), by repeat (first | (with_reducible first | exact HB.out | apply below_alloc | apply pw_below_drewN | apply below_drew1 | refine below_set ?_ GE950.out | refine below_set ?_ GE951.out) | exact HB.out)⟩
 ·rw [if_neg c3] at H
  have c3b0 : (a1_0 == 71) = false := beq_eq_false_iff_ne.mpr c3
  have c3b1 : (a1_0 != 71) = true := bne_iff_ne.mpr c3
  by_cases c24 : a1_0 = 70
  ·rw [if_pos c24] at H
   have c24b0 : (a1_0 == 70) = true := beq_iff_eq.mpr c24
   have c24b1 : (a1_0 != 70) = false := bne_eq_false_iff_eq.mpr c24
   clear c24
   replace H := Option.bind_eq_some_iff.mp H
   obtain ⟨⟨t968, t969, t970, t971, t972, t973, t974, t975⟩, A250, H⟩ := H
   replace H : (some (t968 == a0_0 && (t969 == a0_1 && (t970 == a0_2 && (t971 == a0_3 && (t972 == a0_4 && (t973 == a0_5 && (t974 == a0_6 && (t975 == a0_7))))))))) = some r := H
   have A25 := Aside0.mk A250
   clear A250
   obtain rfl := Option.some.inj H
   go_enter Try.func88, Try.ntmps88
   try go_wp2_with (first | ((with_reducible refine gate_dst (N := 2) rfl ?_); refine box_event ?hg (N := 2) ?hd (cs := #[.int .i64 a0_0, .int .i64 a0_1, .int .i64 a0_2, .int .i64 a0_3, .int .i64 a0_4, .int .i64 a0_5, .int .i64 a0_6, .int .i64 a0_7]) (t := 26) ?hr ?_; (case hd => rfl); (case hg => rfl); (case hr => first | (go_simp; done) | (go_simp; rfl)); intro gb950 hg w26 hbox hb; have n0_ := Aside0.mk (below_step (by repeat (first | (with_reducible first | exact HB.out | apply below_alloc | apply pw_below_drewN | apply below_drew1) | exact HB.out)) hb); have n1_ := Aside0.mk (hbox); have n2_ := Aside0.mk ((by rw [hg]; exact (below_size (by repeat (first | (with_reducible first | exact HB.out | apply below_alloc | apply pw_below_drewN | apply below_drew1) | exact HB.out))) : w.heap.size ≤ gb950)); have n3_ := Aside0.mk ((by rw [hg]; exact (below_size (by repeat (first | (with_reducible first | exact HB.out | apply below_alloc | apply pw_below_drewN | apply below_drew1) | exact HB.out))) : w.heap.size ≤ gb950)); clear HB; have HB := n0_; have BK950 := n1_; have GW950 := n2_; have GE950 := n3_; clear n0_ n1_ n2_ n3_; clear hb hbox hg) | ((with_reducible refine gate_dst (N := 3) rfl ?_); refine box_event ?hg (N := 3) ?hd (cs := #[.int .u8 a1_0, .int .i64 a1_1]) (t := 78) ?hr ?_; (case hd => rfl); (case hg => rfl); (case hr => first | (go_simp; done) | (go_simp; rfl)); intro gb951 hg w27 hbox hb; have n0_ := Aside0.mk (blk_below (g := gb950) (o := .cells #[.int .i64 a0_0, .int .i64 a0_1, .int .i64 a0_2, .int .i64 a0_3, .int .i64 a0_4, .int .i64 a0_5, .int .i64 a0_6, .int .i64 a0_7] 26 (0, 0)) (by (with_reducible repeat (first | refine blk_drewN ?_ _ | refine blk_drew ?_ | refine blk_alloc ?_ _)); exact BK950.out) hb); have n1_ := Aside0.mk (below_step (by repeat (first | (with_reducible first | exact HB.out | apply below_alloc | apply pw_below_drewN | apply below_drew1 | refine below_set ?_ GE950.out) | exact HB.out)) hb); have n2_ := Aside0.mk (hbox); have n3_ := Aside0.mk ((by rw [hg]; exact (below_size (by repeat (first | (with_reducible first | exact HB.out | apply below_alloc | apply pw_below_drewN | apply below_drew1 | refine below_set ?_ GE950.out) | exact HB.out))) : w.heap.size ≤ gb951)); have n4_ := Aside0.mk ((by rw [hg]; exact (below_size (by repeat (first | (with_reducible first | exact HB.out | apply below_alloc | apply pw_below_drewN | apply below_drew1 | refine below_set ?_ GE950.out) | exact HB.out))) : w.heap.size ≤ gb951)); have n5_ := Aside0.mk ((by rw [hg]; exact Nat.ne_of_lt (blk_lt (g := gb950) (o := .cells #[.int .i64 a0_0, .int .i64 a0_1, .int .i64 a0_2, .int .i64 a0_3, .int .i64 a0_4, .int .i64 a0_5, .int .i64 a0_6, .int .i64 a0_7] 26 (0, 0)) (by (with_reducible repeat (first | refine blk_drewN ?_ _ | refine blk_drew ?_ | refine blk_alloc ?_ _)); exact BK950.out)) : gb950 ≠ gb951)); have n6_ := Aside0.mk ((by rw [hg]; exact Nat.ne_of_gt (blk_lt (g := gb950) (o := .cells #[.int .i64 a0_0, .int .i64 a0_1, .int .i64 a0_2, .int .i64 a0_3, .int .i64 a0_4, .int .i64 a0_5, .int .i64 a0_6, .int .i64 a0_7] 26 (0, 0)) (by (with_reducible repeat (first | refine blk_drewN ?_ _ | refine blk_drew ?_ | refine blk_alloc ?_ _)); exact BK950.out)) : gb951 ≠ gb950)); clear BK950; clear HB; have BK950 := n0_; have HB := n1_; have BK951 := n2_; have GW951 := n3_; have GE951 := n4_; have NB950_951 := n5_; have NB951_950 := n6_; clear n0_ n1_ n2_ n3_ n4_ n5_ n6_; clear hb hbox hg; have hnb28 := NB951_950.out; have hnc28 := NB950_951.out; have hcz29_0 : w27.cell? ⟨gb951, 0, none⟩ = some (.int .u8 a1_0) := (blk_cell BK951.out 0).trans rfl; have hcz29_1 : w27.cell? ⟨gb951, 1, none⟩ = some (.int .i64 a1_1) := (blk_cell BK951.out 1).trans rfl; have hfz29_0 := blk_frozen BK951.out 0; have hfz29_1 := blk_frozen BK951.out 1))
   have n0_ := Aside0.mk (blk_drew BK950.out)
   have n1_ := Aside0.mk (blk_drew BK951.out)
   have n2_ := Aside0.mk (below_drew1 HB.out)
   clear BK950
   clear BK951
   clear HB
   have BK950 := n0_
   have BK951 := n1_
   have HB := n2_
   clear n0_ n1_ n2_
   refine start_ (n := 6) (S := fun w' => w'.cell? ⟨gb950, 0, none⟩ = some (.int .i64 a0_0) ∧ w'.cell? ⟨gb950, 1, none⟩ = some (.int .i64 a0_1) ∧ w'.cell? ⟨gb950, 2, none⟩ = some (.int .i64 a0_2) ∧ w'.cell? ⟨gb950, 3, none⟩ = some (.int .i64 a0_3) ∧ w'.cell? ⟨gb950, 4, none⟩ = some (.int .i64 a0_4) ∧ w'.cell? ⟨gb950, 5, none⟩ = some (.int .i64 a0_5) ∧ w'.cell? ⟨gb950, 6, none⟩ = some (.int .i64 a0_6) ∧ w'.cell? ⟨gb950, 7, none⟩ = some (.int .i64 a0_7) ∧ w'.cell? ⟨gb951, 0, none⟩ = some (.int .u8 a1_0) ∧ w'.cell? ⟨gb951, 1, none⟩ = some (.int .i64 a1_1)) (ds := []) #[false, false, false, false, false, false] (by kernel_rfl) rfl rfl ⟨(blk_cell BK950.out 0).trans rfl, (blk_cell BK950.out 1).trans rfl, (blk_cell BK950.out 2).trans rfl, (blk_cell BK950.out 3).trans rfl, (blk_cell BK950.out 4).trans rfl, (blk_cell BK950.out 5).trans rfl, (blk_cell BK950.out 6).trans rfl, (blk_cell BK950.out 7).trans rfl, (blk_cell BK951.out 0).trans rfl, (blk_cell BK951.out 1).trans rfl⟩ (fun hHeld => ?_)
   generalize w27.drew = w30 at BK950 BK951 HB hHeld ⊢
   refine take_ (i := 0) (N := some 21) (v := ?_) (a' := ?_) #[true, false, false, false, false, false] rfl rfl (by kernel_rfl) (fun _ _ _ h => h) (Or.inl ⟨by rfl, ?_⟩) hHeld ?_ ?_
   rotate_left
   ·rintro w' ⟨s0, s1, s2, s3, s4, s5, s6, s7, s8, s9⟩
    go_simp
    with_reducible rfl
   rotate_left
   ·simp only [Act.put, List.setIfInBounds_toArray, List.set_cons_zero, List.set_cons_succ, i64_w, i32_w]
    rfl
   refine take_ (i := 1) (N := some 22) (v := ?_) (a' := ?_) #[true, true, false, false, false, false] rfl rfl (by kernel_rfl) (fun _ _ _ h => h) (Or.inl ⟨by rfl, ?_⟩) hHeld ?_ ?_
   rotate_left
   ·rintro w' ⟨s0, s1, s2, s3, s4, s5, s6, s7, s8, s9⟩
    go_simp
    with_reducible rfl
   rotate_left
   ·simp only [Act.put, List.setIfInBounds_toArray, List.set_cons_zero, List.set_cons_succ, i64_w, i32_w]
    rfl
   refine take_ (i := 3) (N := some 24) (v := ?_) (a' := ?_) #[true, true, false, true, false, false] rfl rfl (by kernel_rfl) (fun _ _ _ h => h) (Or.inl ⟨by rfl, ?_⟩) hHeld ?_ ?_
   rotate_left
   ·rintro w' ⟨s0, s1, s2, s3, s4, s5, s6, s7, s8, s9⟩
    go_simp
    with_reducible rfl
   rotate_left
   ·simp only [Act.put, List.setIfInBounds_toArray, List.set_cons_zero, List.set_cons_succ, i64_w, i32_w]
    rfl
   refine one_ (i := 2) (N := some 23) #[true, true, true, true, false, false] rfl rfl (by kernel_rfl) (by decide) (fun K hK => ?_)
   refine goes_ Try.func54 (by kernel_rfl) rfl #[.agg #[.int .i64 a0_0, .int .i64 a0_1, .int .i64 a0_2, .int .i64 a0_3, .int .i64 a0_4, .int .i64 a0_5, .int .i64 a0_6, .int .i64 a0_7], .agg #[.int .u8 a1_0, .int .i64 a1_1]] (by rfl) rfl rfl (by (try simp only [List.map_toArray, List.map_cons, List.map_nil]); first | done | rfl | (simp only [List.length_drop, List.length_take]; rfl)) ?_
   with_reducible refine (modal_put.calls a0_0 a0_1 a0_2 a0_3 a0_4 a0_5 a0_6 a0_7 a1_0 a1_1 t968 t969 t970 t971 t972 t973 t974 t975 _ A25.out).mono ?_
   rintro e w31 ⟨rfl, hb⟩
   refine ⟨_, rfl, ?_⟩
   have n0_ := Aside0.mk (blk_below (g := gb950) (o := .cells #[.int .i64 a0_0, .int .i64 a0_1, .int .i64 a0_2, .int .i64 a0_3, .int .i64 a0_4, .int .i64 a0_5, .int .i64 a0_6, .int .i64 a0_7] 26 (0, 0)) (by (with_reducible repeat (first | refine blk_drewN ?_ _ | refine blk_drew ?_ | refine blk_alloc ?_ _)); exact BK950.out) hb)
   have n1_ := Aside0.mk (blk_below (g := gb951) (o := .cells #[.int .u8 a1_0, .int .i64 a1_1] 78 (0, 0)) (by (with_reducible repeat (first | refine blk_drewN ?_ _ | refine blk_drew ?_ | refine blk_alloc ?_ _)); exact BK951.out) hb)
   have n2_ := Aside0.mk (below_step (by repeat (first | (with_reducible first | exact HB.out | apply below_alloc | apply pw_below_drewN | apply below_drew1 | refine below_set ?_ GE950.out | refine below_set ?_ GE951.out) | exact HB.out)) hb)
   clear BK950
   clear BK951
   clear HB
   have BK950 := n0_
   have BK951 := n1_
   have HB := n2_
   clear n0_ n1_ n2_
   (try clear hb)
   (try clear hb2)
   (try clear hk)
   (try clear hi)
   refine hK.out _ _ ⟨(blk_cell BK950.out 0).trans rfl, (blk_cell BK950.out 1).trans rfl, (blk_cell BK950.out 2).trans rfl, (blk_cell BK950.out 3).trans rfl, (blk_cell BK950.out 4).trans rfl, (blk_cell BK950.out 5).trans rfl, (blk_cell BK950.out 6).trans rfl, (blk_cell BK950.out 7).trans rfl, (blk_cell BK951.out 0).trans rfl, (blk_cell BK951.out 1).trans rfl⟩ (fun hHeld => ?_)
   clear hK K
   refine norm_ (a' := ?_) ?_ ?_
   rotate_left
   ·show Act.put _ (some 23) _ = _
    simp only [Act.put, List.setIfInBounds_toArray, List.set_cons_zero, List.set_cons_succ, i64_w, i32_w]
    rfl
   refine pure_ (i := 4) (N := some 25) (v := ?_) (a' := ?_) #[true, true, true, true, true, false] rfl rfl (by kernel_rfl) (fun _ _ _ h => h) (Or.inl ⟨by rfl, ?_⟩) ?_ ?_
   rotate_left
   ·intro w'
    go_simp
    with_reducible rfl
   rotate_left
   ·simp only [Act.put, List.setIfInBounds_toArray, List.set_cons_zero, List.set_cons_succ, i64_w, i32_w]
    rfl
   refine pure_ (i := 5) (N := some 4) (v := ?_) (a' := ?_) #[true, true, true, true, true, true] rfl rfl (by kernel_rfl) (fun _ _ _ h => h) (Or.inl ⟨by rfl, ?_⟩) ?_ ?_
   rotate_left
   ·intro w'
    go_simp
    with_reducible rfl
   rotate_left
   ·simp only [Act.put, List.setIfInBounds_toArray, List.set_cons_zero, List.set_cons_succ, i64_w, i32_w]
    rfl
   refine done_ (by kernel_rfl) ?_
   try go_wp2
   go_ret
   exact ⟨by first | rfl | (simp [errW_none, errW_some] <;> rfl) | (simp [*, errW_none, errW_some] <;> rfl), by repeat (first | (with_reducible first | exact HB.out | apply below_alloc | apply pw_below_drewN | apply below_drew1 | refine below_set ?_ GE950.out | refine below_set ?_ GE951.out) | exact HB.out)⟩
  ·rw [if_neg c24] at H
   have c24b0 : (a1_0 == 70) = false := beq_eq_false_iff_ne.mpr c24
   have c24b1 : (a1_0 != 70) = true := bne_iff_ne.mpr c24
   by_cases c32 : a1_0 = 84
   ·rw [if_pos c32] at H
    have c32b0 : (a1_0 == 84) = true := beq_iff_eq.mpr c32
    have c32b1 : (a1_0 != 84) = false := bne_eq_false_iff_eq.mpr c32
    clear c32
    replace H := Option.bind_eq_some_iff.mp H
    obtain ⟨⟨t976, t977, t978, t979, t980, t981, t982, t983⟩, A330, H⟩ := H
    replace H : (some (t976 == a0_0 && (t977 == a0_1 && (t978 == a0_2 && (t979 == a0_3 && (t980 == a0_4 && (t981 == a0_5 && (t982 == a0_6 && (t983 == a0_7))))))))) = some r := H
    have A33 := Aside0.mk A330
    clear A330
    obtain rfl := Option.some.inj H
    go_enter Try.func88, Try.ntmps88
    try go_wp2_with (first | ((with_reducible refine gate_dst (N := 2) rfl ?_); refine box_event ?hg (N := 2) ?hd (cs := #[.int .i64 a0_0, .int .i64 a0_1, .int .i64 a0_2, .int .i64 a0_3, .int .i64 a0_4, .int .i64 a0_5, .int .i64 a0_6, .int .i64 a0_7]) (t := 26) ?hr ?_; (case hd => rfl); (case hg => rfl); (case hr => first | (go_simp; done) | (go_simp; rfl)); intro gb950 hg w34 hbox hb; have n0_ := Aside0.mk (below_step (by repeat (first | (with_reducible first | exact HB.out | apply below_alloc | apply pw_below_drewN | apply below_drew1) | exact HB.out)) hb); have n1_ := Aside0.mk (hbox); have n2_ := Aside0.mk ((by rw [hg]; exact (below_size (by repeat (first | (with_reducible first | exact HB.out | apply below_alloc | apply pw_below_drewN | apply below_drew1) | exact HB.out))) : w.heap.size ≤ gb950)); have n3_ := Aside0.mk ((by rw [hg]; exact (below_size (by repeat (first | (with_reducible first | exact HB.out | apply below_alloc | apply pw_below_drewN | apply below_drew1) | exact HB.out))) : w.heap.size ≤ gb950)); clear HB; have HB := n0_; have BK950 := n1_; have GW950 := n2_; have GE950 := n3_; clear n0_ n1_ n2_ n3_; clear hb hbox hg) | ((with_reducible refine gate_dst (N := 3) rfl ?_); refine box_event ?hg (N := 3) ?hd (cs := #[.int .u8 a1_0, .int .i64 a1_1]) (t := 78) ?hr ?_; (case hd => rfl); (case hg => rfl); (case hr => first | (go_simp; done) | (go_simp; rfl)); intro gb951 hg w35 hbox hb; have n0_ := Aside0.mk (blk_below (g := gb950) (o := .cells #[.int .i64 a0_0, .int .i64 a0_1, .int .i64 a0_2, .int .i64 a0_3, .int .i64 a0_4, .int .i64 a0_5, .int .i64 a0_6, .int .i64 a0_7] 26 (0, 0)) (by (with_reducible repeat (first | refine blk_drewN ?_ _ | refine blk_drew ?_ | refine blk_alloc ?_ _)); exact BK950.out) hb); have n1_ := Aside0.mk (below_step (by repeat (first | (with_reducible first | exact HB.out | apply below_alloc | apply pw_below_drewN | apply below_drew1 | refine below_set ?_ GE950.out) | exact HB.out)) hb); have n2_ := Aside0.mk (hbox); have n3_ := Aside0.mk ((by rw [hg]; exact (below_size (by repeat (first | (with_reducible first | exact HB.out | apply below_alloc | apply pw_below_drewN | apply below_drew1 | refine below_set ?_ GE950.out) | exact HB.out))) : w.heap.size ≤ gb951)); have n4_ := Aside0.mk ((by rw [hg]; exact (below_size (by repeat (first | (with_reducible first | exact HB.out | apply below_alloc | apply pw_below_drewN | apply below_drew1 | refine below_set ?_ GE950.out) | exact HB.out))) : w.heap.size ≤ gb951)); have n5_ := Aside0.mk ((by rw [hg]; exact Nat.ne_of_lt (blk_lt (g := gb950) (o := .cells #[.int .i64 a0_0, .int .i64 a0_1, .int .i64 a0_2, .int .i64 a0_3, .int .i64 a0_4, .int .i64 a0_5, .int .i64 a0_6, .int .i64 a0_7] 26 (0, 0)) (by (with_reducible repeat (first | refine blk_drewN ?_ _ | refine blk_drew ?_ | refine blk_alloc ?_ _)); exact BK950.out)) : gb950 ≠ gb951)); have n6_ := Aside0.mk ((by rw [hg]; exact Nat.ne_of_gt (blk_lt (g := gb950) (o := .cells #[.int .i64 a0_0, .int .i64 a0_1, .int .i64 a0_2, .int .i64 a0_3, .int .i64 a0_4, .int .i64 a0_5, .int .i64 a0_6, .int .i64 a0_7] 26 (0, 0)) (by (with_reducible repeat (first | refine blk_drewN ?_ _ | refine blk_drew ?_ | refine blk_alloc ?_ _)); exact BK950.out)) : gb951 ≠ gb950)); clear BK950; clear HB; have BK950 := n0_; have HB := n1_; have BK951 := n2_; have GW951 := n3_; have GE951 := n4_; have NB950_951 := n5_; have NB951_950 := n6_; clear n0_ n1_ n2_ n3_ n4_ n5_ n6_; clear hb hbox hg; have hnb36 := NB951_950.out; have hnc36 := NB950_951.out; have hcz37_0 : w35.cell? ⟨gb951, 0, none⟩ = some (.int .u8 a1_0) := (blk_cell BK951.out 0).trans rfl; have hcz37_1 : w35.cell? ⟨gb951, 1, none⟩ = some (.int .i64 a1_1) := (blk_cell BK951.out 1).trans rfl; have hfz37_0 := blk_frozen BK951.out 0; have hfz37_1 := blk_frozen BK951.out 1))
    have n0_ := Aside0.mk (blk_drew BK950.out)
    have n1_ := Aside0.mk (blk_drew BK951.out)
    have n2_ := Aside0.mk (below_drew1 HB.out)
    clear BK950
    clear BK951
    clear HB
    have BK950 := n0_
    have BK951 := n1_
    have HB := n2_
    clear n0_ n1_ n2_
    refine start_ (n := 6) (S := fun w' => w'.cell? ⟨gb950, 0, none⟩ = some (.int .i64 a0_0) ∧ w'.cell? ⟨gb950, 1, none⟩ = some (.int .i64 a0_1) ∧ w'.cell? ⟨gb950, 2, none⟩ = some (.int .i64 a0_2) ∧ w'.cell? ⟨gb950, 3, none⟩ = some (.int .i64 a0_3) ∧ w'.cell? ⟨gb950, 4, none⟩ = some (.int .i64 a0_4) ∧ w'.cell? ⟨gb950, 5, none⟩ = some (.int .i64 a0_5) ∧ w'.cell? ⟨gb950, 6, none⟩ = some (.int .i64 a0_6) ∧ w'.cell? ⟨gb950, 7, none⟩ = some (.int .i64 a0_7) ∧ w'.cell? ⟨gb951, 0, none⟩ = some (.int .u8 a1_0) ∧ w'.cell? ⟨gb951, 1, none⟩ = some (.int .i64 a1_1)) (ds := []) #[false, false, false, false, false, false] (by kernel_rfl) rfl rfl ⟨(blk_cell BK950.out 0).trans rfl, (blk_cell BK950.out 1).trans rfl, (blk_cell BK950.out 2).trans rfl, (blk_cell BK950.out 3).trans rfl, (blk_cell BK950.out 4).trans rfl, (blk_cell BK950.out 5).trans rfl, (blk_cell BK950.out 6).trans rfl, (blk_cell BK950.out 7).trans rfl, (blk_cell BK951.out 0).trans rfl, (blk_cell BK951.out 1).trans rfl⟩ (fun hHeld => ?_)
    generalize w35.drew = w38 at BK950 BK951 HB hHeld ⊢
    refine take_ (i := 0) (N := some 21) (v := ?_) (a' := ?_) #[true, false, false, false, false, false] rfl rfl (by kernel_rfl) (fun _ _ _ h => h) (Or.inl ⟨by rfl, ?_⟩) hHeld ?_ ?_
    rotate_left
    ·rintro w' ⟨s0, s1, s2, s3, s4, s5, s6, s7, s8, s9⟩
     go_simp
     with_reducible rfl
    rotate_left
    ·simp only [Act.put, List.setIfInBounds_toArray, List.set_cons_zero, List.set_cons_succ, i64_w, i32_w]
     rfl
    refine take_ (i := 1) (N := some 22) (v := ?_) (a' := ?_) #[true, true, false, false, false, false] rfl rfl (by kernel_rfl) (fun _ _ _ h => h) (Or.inl ⟨by rfl, ?_⟩) hHeld ?_ ?_
    rotate_left
    ·rintro w' ⟨s0, s1, s2, s3, s4, s5, s6, s7, s8, s9⟩
     go_simp
     with_reducible rfl
    rotate_left
    ·simp only [Act.put, List.setIfInBounds_toArray, List.set_cons_zero, List.set_cons_succ, i64_w, i32_w]
     rfl
    refine take_ (i := 3) (N := some 24) (v := ?_) (a' := ?_) #[true, true, false, true, false, false] rfl rfl (by kernel_rfl) (fun _ _ _ h => h) (Or.inl ⟨by rfl, ?_⟩) hHeld ?_ ?_
    rotate_left
    ·rintro w' ⟨s0, s1, s2, s3, s4, s5, s6, s7, s8, s9⟩
     go_simp
     with_reducible rfl
    rotate_left
    ·simp only [Act.put, List.setIfInBounds_toArray, List.set_cons_zero, List.set_cons_succ, i64_w, i32_w]
     rfl
    refine one_ (i := 2) (N := some 23) #[true, true, true, true, false, false] rfl rfl (by kernel_rfl) (by decide) (fun K hK => ?_)
    refine goes_ Try.func54 (by kernel_rfl) rfl #[.agg #[.int .i64 a0_0, .int .i64 a0_1, .int .i64 a0_2, .int .i64 a0_3, .int .i64 a0_4, .int .i64 a0_5, .int .i64 a0_6, .int .i64 a0_7], .agg #[.int .u8 a1_0, .int .i64 a1_1]] (by rfl) rfl rfl (by (try simp only [List.map_toArray, List.map_cons, List.map_nil]); first | done | rfl | (simp only [List.length_drop, List.length_take]; rfl)) ?_
    with_reducible refine (modal_put.calls a0_0 a0_1 a0_2 a0_3 a0_4 a0_5 a0_6 a0_7 a1_0 a1_1 t976 t977 t978 t979 t980 t981 t982 t983 _ A33.out).mono ?_
    rintro e w39 ⟨rfl, hb⟩
    refine ⟨_, rfl, ?_⟩
    have n0_ := Aside0.mk (blk_below (g := gb950) (o := .cells #[.int .i64 a0_0, .int .i64 a0_1, .int .i64 a0_2, .int .i64 a0_3, .int .i64 a0_4, .int .i64 a0_5, .int .i64 a0_6, .int .i64 a0_7] 26 (0, 0)) (by (with_reducible repeat (first | refine blk_drewN ?_ _ | refine blk_drew ?_ | refine blk_alloc ?_ _)); exact BK950.out) hb)
    have n1_ := Aside0.mk (blk_below (g := gb951) (o := .cells #[.int .u8 a1_0, .int .i64 a1_1] 78 (0, 0)) (by (with_reducible repeat (first | refine blk_drewN ?_ _ | refine blk_drew ?_ | refine blk_alloc ?_ _)); exact BK951.out) hb)
    have n2_ := Aside0.mk (below_step (by repeat (first | (with_reducible first | exact HB.out | apply below_alloc | apply pw_below_drewN | apply below_drew1 | refine below_set ?_ GE950.out | refine below_set ?_ GE951.out) | exact HB.out)) hb)
    clear BK950
    clear BK951
    clear HB
    have BK950 := n0_
    have BK951 := n1_
    have HB := n2_
    clear n0_ n1_ n2_
    (try clear hb)
    (try clear hb2)
    (try clear hk)
    (try clear hi)
    refine hK.out _ _ ⟨(blk_cell BK950.out 0).trans rfl, (blk_cell BK950.out 1).trans rfl, (blk_cell BK950.out 2).trans rfl, (blk_cell BK950.out 3).trans rfl, (blk_cell BK950.out 4).trans rfl, (blk_cell BK950.out 5).trans rfl, (blk_cell BK950.out 6).trans rfl, (blk_cell BK950.out 7).trans rfl, (blk_cell BK951.out 0).trans rfl, (blk_cell BK951.out 1).trans rfl⟩ (fun hHeld => ?_)
    clear hK K
    refine norm_ (a' := ?_) ?_ ?_
    rotate_left
    ·show Act.put _ (some 23) _ = _
     simp only [Act.put, List.setIfInBounds_toArray, List.set_cons_zero, List.set_cons_succ, i64_w, i32_w]
     rfl
    refine pure_ (i := 4) (N := some 25) (v := ?_) (a' := ?_) #[true, true, true, true, true, false] rfl rfl (by kernel_rfl) (fun _ _ _ h => h) (Or.inl ⟨by rfl, ?_⟩) ?_ ?_
    rotate_left
    ·intro w'
     go_simp
     with_reducible rfl
    rotate_left
    ·simp only [Act.put, List.setIfInBounds_toArray, List.set_cons_zero, List.set_cons_succ, i64_w, i32_w]
     rfl
    refine pure_ (i := 5) (N := some 4) (v := ?_) (a' := ?_) #[true, true, true, true, true, true] rfl rfl (by kernel_rfl) (fun _ _ _ h => h) (Or.inl ⟨by rfl, ?_⟩) ?_ ?_
    rotate_left
    ·intro w'
     go_simp
     with_reducible rfl
    rotate_left
    ·simp only [Act.put, List.setIfInBounds_toArray, List.set_cons_zero, List.set_cons_succ, i64_w, i32_w]
     rfl
    refine done_ (by kernel_rfl) ?_
    try go_wp2
    go_ret
    exact ⟨by first | rfl | (simp [errW_none, errW_some] <;> rfl) | (simp [*, errW_none, errW_some] <;> rfl), by repeat (first | (with_reducible first | exact HB.out | apply below_alloc | apply pw_below_drewN | apply below_drew1 | refine below_set ?_ GE950.out | refine below_set ?_ GE951.out) | exact HB.out)⟩
   ·rw [if_neg c32] at H
    have c32b0 : (a1_0 == 84) = false := beq_eq_false_iff_ne.mpr c32
    have c32b1 : (a1_0 != 84) = true := bne_iff_ne.mpr c32
    by_cases c40 : a1_0 = 72
    ·rw [if_pos c40] at H
     have c40b0 : (a1_0 == 72) = true := beq_iff_eq.mpr c40
     have c40b1 : (a1_0 != 72) = false := bne_eq_false_iff_eq.mpr c40
     clear c40
     replace H := Option.bind_eq_some_iff.mp H
     obtain ⟨⟨t984, t985, t986, t987, t988, t989, t990, t991⟩, A410, H⟩ := H
     replace H : (some (t984 == a0_0 && (t985 == a0_1 && (t986 == a0_2 && (t987 == a0_3 && (t988 == a0_4 && (t989 == a0_5 && (t990 == a0_6 && (t991 == a0_7))))))))) = some r := H
     have A41 := Aside0.mk A410
     clear A410
     obtain rfl := Option.some.inj H
     go_enter Try.func88, Try.ntmps88
     try go_wp2_with (first | ((with_reducible refine gate_dst (N := 2) rfl ?_); refine box_event ?hg (N := 2) ?hd (cs := #[.int .i64 a0_0, .int .i64 a0_1, .int .i64 a0_2, .int .i64 a0_3, .int .i64 a0_4, .int .i64 a0_5, .int .i64 a0_6, .int .i64 a0_7]) (t := 26) ?hr ?_; (case hd => rfl); (case hg => rfl); (case hr => first | (go_simp; done) | (go_simp; rfl)); intro gb950 hg w42 hbox hb; have n0_ := Aside0.mk (below_step (by repeat (first | (with_reducible first | exact HB.out | apply below_alloc | apply pw_below_drewN | apply below_drew1) | exact HB.out)) hb); have n1_ := Aside0.mk (hbox); have n2_ := Aside0.mk ((by rw [hg]; exact (below_size (by repeat (first | (with_reducible first | exact HB.out | apply below_alloc | apply pw_below_drewN | apply below_drew1) | exact HB.out))) : w.heap.size ≤ gb950)); have n3_ := Aside0.mk ((by rw [hg]; exact (below_size (by repeat (first | (with_reducible first | exact HB.out | apply below_alloc | apply pw_below_drewN | apply below_drew1) | exact HB.out))) : w.heap.size ≤ gb950)); clear HB; have HB := n0_; have BK950 := n1_; have GW950 := n2_; have GE950 := n3_; clear n0_ n1_ n2_ n3_; clear hb hbox hg) | ((with_reducible refine gate_dst (N := 3) rfl ?_); refine box_event ?hg (N := 3) ?hd (cs := #[.int .u8 a1_0, .int .i64 a1_1]) (t := 78) ?hr ?_; (case hd => rfl); (case hg => rfl); (case hr => first | (go_simp; done) | (go_simp; rfl)); intro gb951 hg w43 hbox hb; have n0_ := Aside0.mk (blk_below (g := gb950) (o := .cells #[.int .i64 a0_0, .int .i64 a0_1, .int .i64 a0_2, .int .i64 a0_3, .int .i64 a0_4, .int .i64 a0_5, .int .i64 a0_6, .int .i64 a0_7] 26 (0, 0)) (by (with_reducible repeat (first | refine blk_drewN ?_ _ | refine blk_drew ?_ | refine blk_alloc ?_ _)); exact BK950.out) hb); have n1_ := Aside0.mk (below_step (by repeat (first | (with_reducible first | exact HB.out | apply below_alloc | apply pw_below_drewN | apply below_drew1 | refine below_set ?_ GE950.out) | exact HB.out)) hb); have n2_ := Aside0.mk (hbox); have n3_ := Aside0.mk ((by rw [hg]; exact (below_size (by repeat (first | (with_reducible first | exact HB.out | apply below_alloc | apply pw_below_drewN | apply below_drew1 | refine below_set ?_ GE950.out) | exact HB.out))) : w.heap.size ≤ gb951)); have n4_ := Aside0.mk ((by rw [hg]; exact (below_size (by repeat (first | (with_reducible first | exact HB.out | apply below_alloc | apply pw_below_drewN | apply below_drew1 | refine below_set ?_ GE950.out) | exact HB.out))) : w.heap.size ≤ gb951)); have n5_ := Aside0.mk ((by rw [hg]; exact Nat.ne_of_lt (blk_lt (g := gb950) (o := .cells #[.int .i64 a0_0, .int .i64 a0_1, .int .i64 a0_2, .int .i64 a0_3, .int .i64 a0_4, .int .i64 a0_5, .int .i64 a0_6, .int .i64 a0_7] 26 (0, 0)) (by (with_reducible repeat (first | refine blk_drewN ?_ _ | refine blk_drew ?_ | refine blk_alloc ?_ _)); exact BK950.out)) : gb950 ≠ gb951)); have n6_ := Aside0.mk ((by rw [hg]; exact Nat.ne_of_gt (blk_lt (g := gb950) (o := .cells #[.int .i64 a0_0, .int .i64 a0_1, .int .i64 a0_2, .int .i64 a0_3, .int .i64 a0_4, .int .i64 a0_5, .int .i64 a0_6, .int .i64 a0_7] 26 (0, 0)) (by (with_reducible repeat (first | refine blk_drewN ?_ _ | refine blk_drew ?_ | refine blk_alloc ?_ _)); exact BK950.out)) : gb951 ≠ gb950)); clear BK950; clear HB; have BK950 := n0_; have HB := n1_; have BK951 := n2_; have GW951 := n3_; have GE951 := n4_; have NB950_951 := n5_; have NB951_950 := n6_; clear n0_ n1_ n2_ n3_ n4_ n5_ n6_; clear hb hbox hg; have hnb44 := NB951_950.out; have hnc44 := NB950_951.out; have hcz45_0 : w43.cell? ⟨gb951, 0, none⟩ = some (.int .u8 a1_0) := (blk_cell BK951.out 0).trans rfl; have hcz45_1 : w43.cell? ⟨gb951, 1, none⟩ = some (.int .i64 a1_1) := (blk_cell BK951.out 1).trans rfl; have hfz45_0 := blk_frozen BK951.out 0; have hfz45_1 := blk_frozen BK951.out 1))
     have n0_ := Aside0.mk (blk_drew BK950.out)
     have n1_ := Aside0.mk (blk_drew BK951.out)
     have n2_ := Aside0.mk (below_drew1 HB.out)
     clear BK950
     clear BK951
     clear HB
     have BK950 := n0_
     have BK951 := n1_
     have HB := n2_
     clear n0_ n1_ n2_
     refine start_ (n := 6) (S := fun w' => w'.cell? ⟨gb950, 0, none⟩ = some (.int .i64 a0_0) ∧ w'.cell? ⟨gb950, 1, none⟩ = some (.int .i64 a0_1) ∧ w'.cell? ⟨gb950, 2, none⟩ = some (.int .i64 a0_2) ∧ w'.cell? ⟨gb950, 3, none⟩ = some (.int .i64 a0_3) ∧ w'.cell? ⟨gb950, 4, none⟩ = some (.int .i64 a0_4) ∧ w'.cell? ⟨gb950, 5, none⟩ = some (.int .i64 a0_5) ∧ w'.cell? ⟨gb950, 6, none⟩ = some (.int .i64 a0_6) ∧ w'.cell? ⟨gb950, 7, none⟩ = some (.int .i64 a0_7) ∧ w'.cell? ⟨gb951, 0, none⟩ = some (.int .u8 a1_0) ∧ w'.cell? ⟨gb951, 1, none⟩ = some (.int .i64 a1_1)) (ds := []) #[false, false, false, false, false, false] (by kernel_rfl) rfl rfl ⟨(blk_cell BK950.out 0).trans rfl, (blk_cell BK950.out 1).trans rfl, (blk_cell BK950.out 2).trans rfl, (blk_cell BK950.out 3).trans rfl, (blk_cell BK950.out 4).trans rfl, (blk_cell BK950.out 5).trans rfl, (blk_cell BK950.out 6).trans rfl, (blk_cell BK950.out 7).trans rfl, (blk_cell BK951.out 0).trans rfl, (blk_cell BK951.out 1).trans rfl⟩ (fun hHeld => ?_)
     generalize w43.drew = w46 at BK950 BK951 HB hHeld ⊢
     refine take_ (i := 0) (N := some 21) (v := ?_) (a' := ?_) #[true, false, false, false, false, false] rfl rfl (by kernel_rfl) (fun _ _ _ h => h) (Or.inl ⟨by rfl, ?_⟩) hHeld ?_ ?_
     rotate_left
     ·rintro w' ⟨s0, s1, s2, s3, s4, s5, s6, s7, s8, s9⟩
      go_simp
      with_reducible rfl
     rotate_left
     ·simp only [Act.put, List.setIfInBounds_toArray, List.set_cons_zero, List.set_cons_succ, i64_w, i32_w]
      rfl
     refine take_ (i := 1) (N := some 22) (v := ?_) (a' := ?_) #[true, true, false, false, false, false] rfl rfl (by kernel_rfl) (fun _ _ _ h => h) (Or.inl ⟨by rfl, ?_⟩) hHeld ?_ ?_
     rotate_left
     ·rintro w' ⟨s0, s1, s2, s3, s4, s5, s6, s7, s8, s9⟩
      go_simp
      with_reducible rfl
     rotate_left
     ·simp only [Act.put, List.setIfInBounds_toArray, List.set_cons_zero, List.set_cons_succ, i64_w, i32_w]
      rfl
     refine take_ (i := 3) (N := some 24) (v := ?_) (a' := ?_) #[true, true, false, true, false, false] rfl rfl (by kernel_rfl) (fun _ _ _ h => h) (Or.inl ⟨by rfl, ?_⟩) hHeld ?_ ?_
     rotate_left
     ·rintro w' ⟨s0, s1, s2, s3, s4, s5, s6, s7, s8, s9⟩
      go_simp
      with_reducible rfl
     rotate_left
     ·simp only [Act.put, List.setIfInBounds_toArray, List.set_cons_zero, List.set_cons_succ, i64_w, i32_w]
      rfl
     refine one_ (i := 2) (N := some 23) #[true, true, true, true, false, false] rfl rfl (by kernel_rfl) (by decide) (fun K hK => ?_)
     refine goes_ Try.func54 (by kernel_rfl) rfl #[.agg #[.int .i64 a0_0, .int .i64 a0_1, .int .i64 a0_2, .int .i64 a0_3, .int .i64 a0_4, .int .i64 a0_5, .int .i64 a0_6, .int .i64 a0_7], .agg #[.int .u8 a1_0, .int .i64 a1_1]] (by rfl) rfl rfl (by (try simp only [List.map_toArray, List.map_cons, List.map_nil]); first | done | rfl | (simp only [List.length_drop, List.length_take]; rfl)) ?_
     with_reducible refine (modal_put.calls a0_0 a0_1 a0_2 a0_3 a0_4 a0_5 a0_6 a0_7 a1_0 a1_1 t984 t985 t986 t987 t988 t989 t990 t991 _ A41.out).mono ?_
     rintro e w47 ⟨rfl, hb⟩
     refine ⟨_, rfl, ?_⟩
     have n0_ := Aside0.mk (blk_below (g := gb950) (o := .cells #[.int .i64 a0_0, .int .i64 a0_1, .int .i64 a0_2, .int .i64 a0_3, .int .i64 a0_4, .int .i64 a0_5, .int .i64 a0_6, .int .i64 a0_7] 26 (0, 0)) (by (with_reducible repeat (first | refine blk_drewN ?_ _ | refine blk_drew ?_ | refine blk_alloc ?_ _)); exact BK950.out) hb)
     have n1_ := Aside0.mk (blk_below (g := gb951) (o := .cells #[.int .u8 a1_0, .int .i64 a1_1] 78 (0, 0)) (by (with_reducible repeat (first | refine blk_drewN ?_ _ | refine blk_drew ?_ | refine blk_alloc ?_ _)); exact BK951.out) hb)
     have n2_ := Aside0.mk (below_step (by repeat (first | (with_reducible first | exact HB.out | apply below_alloc | apply pw_below_drewN | apply below_drew1 | refine below_set ?_ GE950.out | refine below_set ?_ GE951.out) | exact HB.out)) hb)
     clear BK950
     clear BK951
     clear HB
     have BK950 := n0_
     have BK951 := n1_
     have HB := n2_
     clear n0_ n1_ n2_
     (try clear hb)
     (try clear hb2)
     (try clear hk)
     (try clear hi)
     refine hK.out _ _ ⟨(blk_cell BK950.out 0).trans rfl, (blk_cell BK950.out 1).trans rfl, (blk_cell BK950.out 2).trans rfl, (blk_cell BK950.out 3).trans rfl, (blk_cell BK950.out 4).trans rfl, (blk_cell BK950.out 5).trans rfl, (blk_cell BK950.out 6).trans rfl, (blk_cell BK950.out 7).trans rfl, (blk_cell BK951.out 0).trans rfl, (blk_cell BK951.out 1).trans rfl⟩ (fun hHeld => ?_)
     clear hK K
     refine norm_ (a' := ?_) ?_ ?_
     rotate_left
     ·show Act.put _ (some 23) _ = _
      simp only [Act.put, List.setIfInBounds_toArray, List.set_cons_zero, List.set_cons_succ, i64_w, i32_w]
      rfl
     refine pure_ (i := 4) (N := some 25) (v := ?_) (a' := ?_) #[true, true, true, true, true, false] rfl rfl (by kernel_rfl) (fun _ _ _ h => h) (Or.inl ⟨by rfl, ?_⟩) ?_ ?_
     rotate_left
     ·intro w'
      go_simp
      with_reducible rfl
     rotate_left
     ·simp only [Act.put, List.setIfInBounds_toArray, List.set_cons_zero, List.set_cons_succ, i64_w, i32_w]
      rfl
     refine pure_ (i := 5) (N := some 4) (v := ?_) (a' := ?_) #[true, true, true, true, true, true] rfl rfl (by kernel_rfl) (fun _ _ _ h => h) (Or.inl ⟨by rfl, ?_⟩) ?_ ?_
     rotate_left
     ·intro w'
      go_simp
      with_reducible rfl
     rotate_left
     ·simp only [Act.put, List.setIfInBounds_toArray, List.set_cons_zero, List.set_cons_succ, i64_w, i32_w]
      rfl
     refine done_ (by kernel_rfl) ?_
     try go_wp2
     go_ret
     exact ⟨by first | rfl | (simp [errW_none, errW_some] <;> rfl) | (simp [*, errW_none, errW_some] <;> rfl), by repeat (first | (with_reducible first | exact HB.out | apply below_alloc | apply pw_below_drewN | apply below_drew1 | refine below_set ?_ GE950.out | refine below_set ?_ GE951.out) | exact HB.out)⟩
    ·rw [if_neg c40] at H
     have c40b0 : (a1_0 == 72) = false := beq_eq_false_iff_ne.mpr c40
     have c40b1 : (a1_0 != 72) = true := bne_iff_ne.mpr c40
     obtain rfl := Option.some.inj H
     go_enter Try.func88, Try.ntmps88
     go_wp2_with (first | ((with_reducible refine gate_dst (N := 2) rfl ?_); refine box_event ?hg (N := 2) ?hd (cs := #[.int .i64 a0_0, .int .i64 a0_1, .int .i64 a0_2, .int .i64 a0_3, .int .i64 a0_4, .int .i64 a0_5, .int .i64 a0_6, .int .i64 a0_7]) (t := 26) ?hr ?_; (case hd => rfl); (case hg => rfl); (case hr => first | (go_simp; done) | (go_simp; rfl)); intro gb950 hg w48 hbox hb; have n0_ := Aside0.mk (below_step (by repeat (first | (with_reducible first | exact HB.out | apply below_alloc | apply pw_below_drewN | apply below_drew1) | exact HB.out)) hb); have n1_ := Aside0.mk (hbox); have n2_ := Aside0.mk ((by rw [hg]; exact (below_size (by repeat (first | (with_reducible first | exact HB.out | apply below_alloc | apply pw_below_drewN | apply below_drew1) | exact HB.out))) : w.heap.size ≤ gb950)); have n3_ := Aside0.mk ((by rw [hg]; exact (below_size (by repeat (first | (with_reducible first | exact HB.out | apply below_alloc | apply pw_below_drewN | apply below_drew1) | exact HB.out))) : w.heap.size ≤ gb950)); clear HB; have HB := n0_; have BK950 := n1_; have GW950 := n2_; have GE950 := n3_; clear n0_ n1_ n2_ n3_; clear hb hbox hg) | ((with_reducible refine gate_dst (N := 3) rfl ?_); refine box_event ?hg (N := 3) ?hd (cs := #[.int .u8 a1_0, .int .i64 a1_1]) (t := 78) ?hr ?_; (case hd => rfl); (case hg => rfl); (case hr => first | (go_simp; done) | (go_simp; rfl)); intro gb951 hg w49 hbox hb; have n0_ := Aside0.mk (blk_below (g := gb950) (o := .cells #[.int .i64 a0_0, .int .i64 a0_1, .int .i64 a0_2, .int .i64 a0_3, .int .i64 a0_4, .int .i64 a0_5, .int .i64 a0_6, .int .i64 a0_7] 26 (0, 0)) (by (with_reducible repeat (first | refine blk_drewN ?_ _ | refine blk_drew ?_ | refine blk_alloc ?_ _)); exact BK950.out) hb); have n1_ := Aside0.mk (below_step (by repeat (first | (with_reducible first | exact HB.out | apply below_alloc | apply pw_below_drewN | apply below_drew1 | refine below_set ?_ GE950.out) | exact HB.out)) hb); have n2_ := Aside0.mk (hbox); have n3_ := Aside0.mk ((by rw [hg]; exact (below_size (by repeat (first | (with_reducible first | exact HB.out | apply below_alloc | apply pw_below_drewN | apply below_drew1 | refine below_set ?_ GE950.out) | exact HB.out))) : w.heap.size ≤ gb951)); have n4_ := Aside0.mk ((by rw [hg]; exact (below_size (by repeat (first | (with_reducible first | exact HB.out | apply below_alloc | apply pw_below_drewN | apply below_drew1 | refine below_set ?_ GE950.out) | exact HB.out))) : w.heap.size ≤ gb951)); have n5_ := Aside0.mk ((by rw [hg]; exact Nat.ne_of_lt (blk_lt (g := gb950) (o := .cells #[.int .i64 a0_0, .int .i64 a0_1, .int .i64 a0_2, .int .i64 a0_3, .int .i64 a0_4, .int .i64 a0_5, .int .i64 a0_6, .int .i64 a0_7] 26 (0, 0)) (by (with_reducible repeat (first | refine blk_drewN ?_ _ | refine blk_drew ?_ | refine blk_alloc ?_ _)); exact BK950.out)) : gb950 ≠ gb951)); have n6_ := Aside0.mk ((by rw [hg]; exact Nat.ne_of_gt (blk_lt (g := gb950) (o := .cells #[.int .i64 a0_0, .int .i64 a0_1, .int .i64 a0_2, .int .i64 a0_3, .int .i64 a0_4, .int .i64 a0_5, .int .i64 a0_6, .int .i64 a0_7] 26 (0, 0)) (by (with_reducible repeat (first | refine blk_drewN ?_ _ | refine blk_drew ?_ | refine blk_alloc ?_ _)); exact BK950.out)) : gb951 ≠ gb950)); clear BK950; clear HB; have BK950 := n0_; have HB := n1_; have BK951 := n2_; have GW951 := n3_; have GE951 := n4_; have NB950_951 := n5_; have NB951_950 := n6_; clear n0_ n1_ n2_ n3_ n4_ n5_ n6_; clear hb hbox hg; have hnb50 := NB951_950.out; have hnc50 := NB950_951.out; have hcz51_0 : w49.cell? ⟨gb951, 0, none⟩ = some (.int .u8 a1_0) := (blk_cell BK951.out 0).trans rfl; have hcz51_1 : w49.cell? ⟨gb951, 1, none⟩ = some (.int .i64 a1_1) := (blk_cell BK951.out 1).trans rfl; have hfz51_0 := blk_frozen BK951.out 0; have hfz51_1 := blk_frozen BK951.out 1))
     go_ret
     exact ⟨by first | rfl | (simp [errW_none, errW_some] <;> rfl) | (simp [*, errW_none, errW_some] <;> rfl), by repeat (first | (with_reducible first | exact HB.out | apply below_alloc | apply pw_below_drewN | apply below_drew1 | refine below_set ?_ GE950.out | refine below_set ?_ GE951.out) | exact HB.out)⟩
end Go.Proofs.Ytehkhbnhmehobaa.P
namespace Go.Proofs.Ytehkhbnhmehobaa.P
open Go.RowKit Go.Proofs.YtehkhbnhmehobaaW.PrintWords Go.Proofs.YtehkhbnhmehobaaW.PrintLast Go.Proofs.YtehkhbnhmehobaaW.PrintMore
set_option linter.unusedVariables false
set_option linter.unusedSimpArgs false
def Del_Word.f (l0 : List (S78)) (a1_0 : Int) (a1_1 : Int) (a1_2 : Int) (a1_3 : Int) (a1_4 : Int) (a1_5 : Int) (a1_6 : Int) (a1_7 : Int) : Option ((List (S78))) :=
  if l0.length < 8796093022208 then delF (fun x => modal_idle.f a1_0 a1_1 a1_2 a1_3 a1_4 a1_5 a1_6 a1_7 x.f0 x.f1) l0 else none
set_option maxHeartbeats 1000000 in
set_option maxRecDepth 100000 in
theorem idle_closure (a0 a1 a2 a3 a4 a5 a6 a7 : Int) (x : S78) (b : Bool) (gs : Nat) (w : World) (hbox : w.heap[gs]? = some (.cells #[.int .i64 a0, .int .i64 a1, .int .i64 a2, .int .i64 a3, .int .i64 a4, .int .i64 a5, .int .i64 a6, .int .i64 a7] 26 (0, 0))) (h : modal_idle.f a0 a1 a2 a3 a4 a5 a6 a7 x.f0 x.f1 = some b) :
    Calls Try.prog 87 (#[.agg #[.int .u8 x.f0, .int .i64 x.f1]] ++ #[.pointer (some ⟨gs, 0, none⟩)]) w fun e w' => e = .returned (.bool b) ∧ Below w.heap.size w w' := by
  have hu1 := Try.underlying26
  have hu2 := Try.underlying78
  have hcz0 : w.cell? ⟨gs, 0, none⟩ = some (.int .i64 a0) := (blk_cell hbox 0).trans rfl
  have hcz1 : w.cell? ⟨gs, 1, none⟩ = some (.int .i64 a1) := (blk_cell hbox 1).trans rfl
  have hcz2 : w.cell? ⟨gs, 2, none⟩ = some (.int .i64 a2) := (blk_cell hbox 2).trans rfl
  have hcz3 : w.cell? ⟨gs, 3, none⟩ = some (.int .i64 a3) := (blk_cell hbox 3).trans rfl
  have hcz4 : w.cell? ⟨gs, 4, none⟩ = some (.int .i64 a4) := (blk_cell hbox 4).trans rfl
  have hcz5 : w.cell? ⟨gs, 5, none⟩ = some (.int .i64 a5) := (blk_cell hbox 5).trans rfl
  have hcz6 : w.cell? ⟨gs, 6, none⟩ = some (.int .i64 a6) := (blk_cell hbox 6).trans rfl
  have hcz7 : w.cell? ⟨gs, 7, none⟩ = some (.int .i64 a7) := (blk_cell hbox 7).trans rfl
  have BKs := Aside0.mk hbox
  have H := Aside0.mk h
  clear hbox h
  show Calls Try.prog 87 #[.agg #[.int .u8 x.f0, .int .i64 x.f1], .pointer (some ⟨gs, 0, none⟩)] w _
  go_enter Try.func87, Try.ntmps87
  go_wp2_with (first | ((with_reducible refine gate_dst (N := 2) rfl ?_); refine box_event ?hg (N := 2) ?hd (cs := #[.int .u8 x.f0, .int .i64 x.f1]) (t := 78) ?hr ?_; (case hd => rfl); (case hg => rfl); (case hr => first | (go_simp; done) | (go_simp; rfl)); intro gb hg w1 hbox hb; have BKx := Aside0.mk hbox; have BKt := Aside0.mk (blk_below BKs.out hb); have HB := Aside0.mk hb; clear hb hbox hg hcz0 hcz1 hcz2 hcz3 hcz4 hcz5 hcz6 hcz7; have hx0 : w1.cell? ⟨gb, 0, none⟩ = some (.int .u8 x.f0) := (blk_cell BKx.out 0).trans rfl; have hx1 : w1.cell? ⟨gb, 1, none⟩ = some (.int .i64 x.f1) := (blk_cell BKx.out 1).trans rfl; have hcz0 : w1.cell? ⟨gs, 0, none⟩ = some (.int .i64 a0) := (blk_cell BKt.out 0).trans rfl; have hcz1 : w1.cell? ⟨gs, 1, none⟩ = some (.int .i64 a1) := (blk_cell BKt.out 1).trans rfl; have hcz2 : w1.cell? ⟨gs, 2, none⟩ = some (.int .i64 a2) := (blk_cell BKt.out 2).trans rfl; have hcz3 : w1.cell? ⟨gs, 3, none⟩ = some (.int .i64 a3) := (blk_cell BKt.out 3).trans rfl; have hcz4 : w1.cell? ⟨gs, 4, none⟩ = some (.int .i64 a4) := (blk_cell BKt.out 4).trans rfl; have hcz5 : w1.cell? ⟨gs, 5, none⟩ = some (.int .i64 a5) := (blk_cell BKt.out 5).trans rfl; have hcz6 : w1.cell? ⟨gs, 6, none⟩ = some (.int .i64 a6) := (blk_cell BKt.out 6).trans rfl; have hcz7 : w1.cell? ⟨gs, 7, none⟩ = some (.int .i64 a7) := (blk_cell BKt.out 7).trans rfl) | (go_at_call 88; (with_reducible refine (modal_idle.calls a0 a1 a2 a3 a4 a5 a6 a7 x.f0 x.f1 b _ H.out).mono ?_); rintro e w2 ⟨rfl, hb2⟩; have HB2 := Aside0.mk (below_step HB.out hb2); clear hb2))
  go_ret
  exact ⟨rfl, HB2.out⟩
theorem Del_Word.len {l : List (S78)} {a0 a1 a2 a3 a4 a5 a6 a7 : Int} {r : List (S78)} (h : Del_Word.f l a0 a1 a2 a3 a4 a5 a6 a7 = some r) : Clone_Word.f l = some l := by
  unfold Del_Word.f at h
  unfold Clone_Word.f
  by_cases hl : l.length < 8796093022208
  · rw [if_pos hl]
  · rw [if_neg hl] at h; cases h
theorem Del_Word.of {l : List (S78)} {a0 a1 a2 a3 a4 a5 a6 a7 : Int} {r : List (S78)} {gs : Nat} {v : Value} {w w1 : World} (hbox : w.heap[gs]? = some (.cells #[.int .i64 a0, .int .i64 a1, .int .i64 a2, .int .i64 a3, .int .i64 a4, .int .i64 a5, .int .i64 a6, .int .i64 a7] 26 (0, 0)))
    (hR : Kd.R k78 78 w1 w.heap.size (fun _ => True) v l) (hb : Below w.heap.size w w1) (h : Del_Word.f l a0 a1 a2 a3 a4 a5 a6 a7 = some r) :
    Calls Try.prog 86 #[v, .func (.func 87) #[] #[.pointer (some ⟨gs, 0, none⟩)]] w1 fun e w' => ∃ v0_ : Value, e = .returned (v0_) ∧ Kd.R k78 78 w' w.heap.size (fun _ => True) v0_ r ∧ Below w.heap.size w w' := by
  unfold Del_Word.f at h
  by_cases hl : l.length < 8796093022208
  rotate_left
  · rw [if_neg hl] at h; cases h
  rw [if_pos hl] at h
  obtain ⟨h1, h2⟩ := delF_spec h
  have hlt : gs < w.heap.size := blk_lt hbox
  have hbase := Kd.R_base hR
  refine (DeleteFunc_any 87 _ Try.func87 (by kernel_rfl) rfl #[.pointer (some ⟨gs, 0, none⟩)] _ (fun x => (modal_idle.f a0 a1 a2 a3 a4 a5 a6 a7 x.f0 x.f1).getD false) w1
    (fun W => W.heap[gs]? = some (.cells #[.int .i64 a0, .int .i64 a1, .int .i64 a2, .int .i64 a3, .int .i64 a4, .int .i64 a5, .int .i64 a6, .int .i64 a7] 26 (0, 0))) (blk_below hbox hb) w.heap.size (fun _ => True) v l
    ⟨fun W W' hi hg => (hg.block gs (blk_lt hi) (fun e => by have := hbase gs e.symm; omega)).trans hi⟩ ⟨fun x b W hi hx => idle_closure a0 a1 a2 a3 a4 a5 a6 a7 x b gs W hi hx⟩ hR h1).mono ?_
  rintro e w' ⟨v', rfl, hR', hg, _⟩
  refine ⟨v', rfl, by rw [h2]; exact hR', ?_⟩
  exact ⟨hg.os.trans hb.os, hg.tape.trans hb.tape, hg.output.trans hb.output, Nat.le_trans hb.size hg.size, fun i hi => (hg.block i (Nat.lt_of_lt_of_le hi hb.size) (fun e => by have := hbase i e.symm; omega)).trans (hb.block i hi)⟩
end Go.Proofs.Ytehkhbnhmehobaa.P
