/- A part of the proof of SubprogramJoin. -/

import Derived.Test.YtehkhbnhmehobaaCSubprogramJoin1
import Derived.Test.YtehkhbnhmehobaaCSubprogramJoin2
import Derived.Test.YtehkhbnhmehobaaCSubprogramJoin3
namespace Go.Proofs.Ytehkhbnhmehobaa.P
open Go.RowKit Go.Proofs.YtehkhbnhmehobaaW.PrintWords Go.Proofs.YtehkhbnhmehobaaW.PrintLast Go.Proofs.YtehkhbnhmehobaaW.PrintMore
attribute [local go_sem] max2_int min2_int max_two min_two max_three min_three max_four min_four
set_option linter.unusedVariables false
set_option linter.unusedSimpArgs false
def subprogram_beginning.f (a0_0 : Bool) (l0_1 : List (S78)) (a0_2 : ByteArray) : Option (Int × Bool) := (subprogram_plain.f a0_0 l0_1 a0_2).bind fun t450 => (if t450 = true then (if 0 < (l0_1.length : Int) then (if ((rd_T78 l0_1 0).f0) = 79 then ((subprogram_whole.f ((rd_T78 l0_1 0).f1)).bind fun bt453 => (some (bt453.1, bt453.2))) else (some (0, false))) else (none)) else (some (0, false)))
set_option maxHeartbeats 8000000 in
set_option maxRecDepth 100000 in
theorem subprogram_beginning.calls (a0_0 : Bool) (A0_1 : Option Addr) (c0_1 : Nat) (l0_1 : List (S78)) (a0_2 : ByteArray) (r1 : Int) (r2 : Bool) (w : World) (hr0_1 : Kd.C k78 w A0_1 l0_1.length l0_1) (hc0_1 : l0_1.length ≤ c0_1) (h : subprogram_beginning.f a0_0 l0_1 a0_2 = some (r1, r2)) :
  Calls Try.prog 76 #[.agg #[.bool a0_0, .slice A0_1 l0_1.length c0_1, .string a0_2]] w fun e w' => e = .returned (.tuple #[.int .i64 r1, .bool r2]) ∧ Below w.heap.size w w' := by
 have hu32 := Try.underlying32
 have HR0_1 := Aside0.mk hr0_1
 have HC0_1 := Aside0.mk hc0_1
 clear hr0_1 hc0_1
 have HB := Aside0.mk (Below.refl w.heap.size w)
 have H : ((subprogram_plain.f a0_0 l0_1 a0_2).bind fun t450 => (if t450 = true then (if 0 < (l0_1.length : Int) then (if ((rd_T78 l0_1 0).f0) = 79 then ((subprogram_whole.f ((rd_T78 l0_1 0).f1)).bind fun bt453 => (some (bt453.1, bt453.2))) else (some (0, false))) else (none)) else (some (0, false)))) = some (r1, r2) := h
 clear h
 replace H := Option.bind_eq_some_iff.mp H
 obtain ⟨t450, A20, H⟩ := H
 have A2 := Aside0.mk A20
 clear A20
 by_cases c3 : t450 = true
 ·subst c3
  rw [if_pos rfl] at H
  by_cases c4 : 0 < (l0_1.length : Int)
  ·rw [if_pos c4] at H
   have c4b0 := decide_eq_true c4
   have c4b1 : decide (0 < l0_1.length) = true := decide_eq_true (by omega)
   clear c4
   by_cases c5 : ((rd_T78 l0_1 0).f0) = 79
   ·rw [if_pos c5] at H
    have c5b0 : (((rd_T78 l0_1 0).f0) == 79) = true := beq_iff_eq.mpr c5
    have c5b1 : (((rd_T78 l0_1 0).f0) != 79) = false := bne_eq_false_iff_eq.mpr c5
    clear c5
    replace H := Option.bind_eq_some_iff.mp H
    obtain ⟨⟨t453, t454⟩, A60, H⟩ := H
    have A6 := Aside0.mk A60
    clear A60
    simp only [Option.some.injEq, Prod.mk.injEq] at H
    obtain ⟨rfl, rfl⟩ := H
    go_enter Try.func76, Try.ntmps76
    go_wp2_with (first | ((with_reducible refine gate_dst (N := 1) rfl ?_); refine yX 1 #[.bool a0_0, .slice A0_1 l0_1.length c0_1, .string a0_2] 32 ?_; intro gb449 hg w7 hbox hb; have BK449 := Aside0.mk (hbox); have GW449 := Aside0.mk ((yG hg : w.heap.size ≤ gb449)); have GE449 := Aside0.mk ((yG hg : w.heap.size ≤ gb449)); replace HB := Aside0.mk (below_step yB hb); clear hb hbox hg; have hcz8_0 := yZ0 BK449.out; have hcz8_1 := yZ1 BK449.out; have hcz8_2 := yZ2 BK449.out; have hfz8_0 := blk_frozen BK449.out 0; have hfz8_1 := blk_frozen BK449.out 1; have hfz8_2 := blk_frozen BK449.out 2) | ((with_reducible refine gate_callee (f := 78) rfl ?_); refine goesL_ (some 5) rfl rfl Try.func78 (by kernel_rfl) rfl #[.agg #[.bool a0_0, .slice A0_1 l0_1.length c0_1, .string a0_2]] rfl yQ ?_; (with_reducible refine (subprogram_plain.calls a0_0 _ _ l0_1 a0_2 true _ ?side1 ?side2 A2.out).mono ?_); (case side1 => exact yC HR0_1.out); (case side2 => exact HC0_1.out); rintro e w9 ⟨rfl, hb⟩; refine ⟨_, rfl, ?_⟩; replace BK449 := Aside0.mk (blk_below (g := gb449) yK hb); replace HB := Aside0.mk (below_step yB hb); (try clear hb); have hcz10_0 := yZ0 BK449.out; have hcz10_1 := yZ1 BK449.out; have hcz10_2 := yZ2 BK449.out; have hfz10_0 := blk_frozen BK449.out 0; have hfz10_1 := blk_frozen BK449.out 1; have hfz10_2 := blk_frozen BK449.out 2; have p451 : 0 ≤ (0 : Int) := (by omega); have q451 : 0 < (l0_1.length : Int) := yD; obtain ⟨ad451, e451, hx451_0, hx451_1⟩ := at_T78 HR0_1.out 0 p451 q451; cases e451; have qi451 : (0 < l0_1.length) = True := eq_true (by omega); (try rw [show ((0 : Int)).toNat = 0 from rfl] at hx451_0); (try rw [show 0 * 2 = 0 from rfl] at hx451_0); (try rw [Addr.add_zero'] at hx451_0); (try rw [show ((0 : Int)).toNat = 0 from rfl] at hx451_1); (try rw [show 0 * 2 = 0 from rfl] at hx451_1); (try rw [Addr.add_zero'] at hx451_1); replace hx451_0 := yM HB.out hx451_0; replace hx451_1 := yM HB.out hx451_1; replace p451 := eq_true p451; replace q451 := eq_true q451; have p452 : 0 ≤ (0 : Int) := (by omega); have q452 : 0 < (l0_1.length : Int) := yD; obtain ⟨ad452, e452, hx452_0, hx452_1⟩ := at_T78 HR0_1.out 0 p452 q452; obtain rfl : ad451 = ad452 := (by injection e452); have qi452 : (0 < l0_1.length) = True := eq_true (by omega); (try rw [show ((0 : Int)).toNat = 0 from rfl] at hx452_0); (try rw [show 0 * 2 = 0 from rfl] at hx452_0); (try rw [Addr.add_zero'] at hx452_0); (try rw [show ((0 : Int)).toNat = 0 from rfl] at hx452_1); (try rw [show 0 * 2 = 0 from rfl] at hx452_1); (try rw [Addr.add_zero'] at hx452_1); replace hx452_0 := yM HB.out hx452_0; replace hx452_1 := yM HB.out hx452_1; replace p452 := eq_true p452; replace q452 := eq_true q452) | ((with_reducible refine gate_callee (f := 59) rfl ?_); refine goesL_ (some 20) rfl rfl Try.func59 (by kernel_rfl) rfl #[.int .i64 ((rd_T78 l0_1 0).f1)] rfl yQ ?_; (with_reducible refine (subprogram_whole.calls ((rd_T78 l0_1 0).f1) t453 t454 _ A6.out).mono ?_); rintro e w' ⟨rfl, ⟨nd, rfl⟩⟩; refine ⟨_, rfl, ?_⟩))
    go_ret2
    exact ⟨yE, yB⟩
   rw [if_neg c5] at H
   have c5b0 : (((rd_T78 l0_1 0).f0) == 79) = false := beq_eq_false_iff_ne.mpr c5
   have c5b1 : (((rd_T78 l0_1 0).f0) != 79) = true := bne_iff_ne.mpr c5
   simp only [Option.some.injEq, Prod.mk.injEq] at H
   obtain ⟨rfl, rfl⟩ := H
   go_enter Try.func76, Try.ntmps76
   go_wp2_with (first | ((with_reducible refine gate_dst (N := 1) rfl ?_); refine yX 1 #[.bool a0_0, .slice A0_1 l0_1.length c0_1, .string a0_2] 32 ?_; intro gb449 hg w11 hbox hb; have BK449 := Aside0.mk (hbox); have GW449 := Aside0.mk ((yG hg : w.heap.size ≤ gb449)); have GE449 := Aside0.mk ((yG hg : w.heap.size ≤ gb449)); replace HB := Aside0.mk (below_step yB hb); clear hb hbox hg; have hcz12_0 := yZ0 BK449.out; have hcz12_1 := yZ1 BK449.out; have hcz12_2 := yZ2 BK449.out; have hfz12_0 := blk_frozen BK449.out 0; have hfz12_1 := blk_frozen BK449.out 1; have hfz12_2 := blk_frozen BK449.out 2) | ((with_reducible refine gate_callee (f := 78) rfl ?_); refine goesL_ (some 5) rfl rfl Try.func78 (by kernel_rfl) rfl #[.agg #[.bool a0_0, .slice A0_1 l0_1.length c0_1, .string a0_2]] rfl yQ ?_; (with_reducible refine (subprogram_plain.calls a0_0 _ _ l0_1 a0_2 true _ ?side1 ?side2 A2.out).mono ?_); (case side1 => exact yC HR0_1.out); (case side2 => exact HC0_1.out); rintro e w13 ⟨rfl, hb⟩; refine ⟨_, rfl, ?_⟩; replace BK449 := Aside0.mk (blk_below (g := gb449) yK hb); replace HB := Aside0.mk (below_step yB hb); (try clear hb); have hcz14_0 := yZ0 BK449.out; have hcz14_1 := yZ1 BK449.out; have hcz14_2 := yZ2 BK449.out; have hfz14_0 := blk_frozen BK449.out 0; have hfz14_1 := blk_frozen BK449.out 1; have hfz14_2 := blk_frozen BK449.out 2; have p451 : 0 ≤ (0 : Int) := (by omega); have q451 : 0 < (l0_1.length : Int) := yD; obtain ⟨ad451, e451, hx451_0, hx451_1⟩ := at_T78 HR0_1.out 0 p451 q451; cases e451; have qi451 : (0 < l0_1.length) = True := eq_true (by omega); (try rw [show ((0 : Int)).toNat = 0 from rfl] at hx451_0); (try rw [show 0 * 2 = 0 from rfl] at hx451_0); (try rw [Addr.add_zero'] at hx451_0); (try rw [show ((0 : Int)).toNat = 0 from rfl] at hx451_1); (try rw [show 0 * 2 = 0 from rfl] at hx451_1); (try rw [Addr.add_zero'] at hx451_1); replace hx451_0 := yM HB.out hx451_0; replace hx451_1 := yM HB.out hx451_1; replace p451 := eq_true p451; replace q451 := eq_true q451))
   go_ret2
   exact ⟨yE, yB⟩
  rw [if_neg c4] at H
  exact absurd H (by simp)
 replace c3 := Bool.eq_false_iff.mpr c3
 subst c3
 replace H : (some (0, false)) = some (r1, r2) := by rw [if_neg (show ¬ (false = true) by decide)] at H; exact H
 simp only [Option.some.injEq, Prod.mk.injEq] at H
 obtain ⟨rfl, rfl⟩ := H
 go_enter Try.func76, Try.ntmps76
 go_wp2_with (first | ((with_reducible refine gate_dst (N := 1) rfl ?_); refine yX 1 #[.bool a0_0, .slice A0_1 l0_1.length c0_1, .string a0_2] 32 ?_; intro gb449 hg w15 hbox hb; have BK449 := Aside0.mk (hbox); have GW449 := Aside0.mk ((yG hg : w.heap.size ≤ gb449)); have GE449 := Aside0.mk ((yG hg : w.heap.size ≤ gb449)); replace HB := Aside0.mk (below_step yB hb); clear hb hbox hg; have hcz16_0 := yZ0 BK449.out; have hcz16_1 := yZ1 BK449.out; have hcz16_2 := yZ2 BK449.out; have hfz16_0 := blk_frozen BK449.out 0; have hfz16_1 := blk_frozen BK449.out 1; have hfz16_2 := blk_frozen BK449.out 2) | ((with_reducible refine gate_callee (f := 78) rfl ?_); refine goesL_ (some 5) rfl rfl Try.func78 (by kernel_rfl) rfl #[.agg #[.bool a0_0, .slice A0_1 l0_1.length c0_1, .string a0_2]] rfl yQ ?_; (with_reducible refine (subprogram_plain.calls a0_0 _ _ l0_1 a0_2 false _ ?side1 ?side2 A2.out).mono ?_); (case side1 => exact yC HR0_1.out); (case side2 => exact HC0_1.out); rintro e w17 ⟨rfl, hb⟩; refine ⟨_, rfl, ?_⟩; replace BK449 := Aside0.mk (blk_below (g := gb449) yK hb); replace HB := Aside0.mk (below_step yB hb); (try clear hb)))
 go_ret2
 exact ⟨yE, yB⟩
def subprogram_Split_1.f (k : Nat) (a0_0 : Bool) (l0_1 : List (S78)) (a0_2 : ByteArray) : Option (Bool) := (subprogram_has.f k a0_0 l0_1 a0_2 77 30000).bind fun t990 => (some t990)
set_option maxHeartbeats 8000000 in
set_option maxRecDepth 100000 in
theorem subprogram_Split_1.calls (k : Nat) (a0_0 : Bool) (A0_1 : Option Addr) (c0_1 : Nat) (l0_1 : List (S78)) (a0_2 : ByteArray) (r : Bool) (w : World) (hr0_1 : Kd.C k78 w A0_1 l0_1.length l0_1) (hc0_1 : l0_1.length ≤ c0_1) (h : subprogram_Split_1.f k a0_0 l0_1 a0_2 = some r) :
  Calls Try.prog 75 #[.agg #[.bool a0_0, .slice A0_1 l0_1.length c0_1, .string a0_2]] w fun e w' => e = .returned (.bool r) ∧ Below w.heap.size w w' := by
 have hu32 := Try.underlying32
 have HR0_1 := Aside0.mk hr0_1
 have HC0_1 := Aside0.mk hc0_1
 clear hr0_1 hc0_1
 have HB := Aside0.mk (Below.refl w.heap.size w)
 have H : ((subprogram_has.f k a0_0 l0_1 a0_2 77 30000).bind fun t990 => (some t990)) = some r := h
 clear h
 replace H := Option.bind_eq_some_iff.mp H
 obtain ⟨t990, A20, H⟩ := H
 have A2 := Aside0.mk A20
 clear A20
 obtain rfl := Option.some.inj H
 go_enter Try.func75, Try.ntmps75
 go_wp2_with (first | ((with_reducible refine gate_dst (N := 1) rfl ?_); refine yX 1 #[.bool a0_0, .slice A0_1 l0_1.length c0_1, .string a0_2] 32 ?_; intro gb989 hg w3 hbox hb; have BK989 := Aside0.mk (hbox); have GE989 := Aside0.mk ((yG hg : w.heap.size ≤ gb989)); replace HB := Aside0.mk (below_step yB hb); clear hb hbox hg; have hcz4_0 := yZ0 BK989.out; have hcz4_1 := yZ1 BK989.out; have hcz4_2 := yZ2 BK989.out; have hfz4_0 := blk_frozen BK989.out 0; have hfz4_1 := blk_frozen BK989.out 1; have hfz4_2 := blk_frozen BK989.out 2) | ((with_reducible refine gate_callee (f := 58) rfl ?_); refine goesL_ (some 4) rfl rfl Try.func58 (by kernel_rfl) rfl #[.agg #[.bool a0_0, .slice A0_1 l0_1.length c0_1, .string a0_2], .int .u8 77, .int .i64 30000] rfl yQ ?_; (with_reducible refine (subprogram_has.calls k a0_0 _ _ l0_1 a0_2 77 30000 t990 _ ?side1 ?side2 A2.out).mono ?_); (case side1 => exact yC HR0_1.out); (case side2 => exact HC0_1.out); rintro e w5 ⟨rfl, hb⟩; refine ⟨_, rfl, ?_⟩; replace BK989 := Aside0.mk (blk_below (g := gb989) yK hb); replace HB := Aside0.mk (below_step yB hb); (try clear hb)))
 go_ret
 exact ⟨yE, yB⟩
def subprogram_Split_2.f (k : Nat) (a0_0 : Bool) (l0_1 : List (S78)) (a0_2 : ByteArray) : Option (Bool) := (subprogram_plain.f a0_0 l0_1 a0_2).bind fun t992 => (if t992 = true then ((subprogram_has.f k a0_0 l0_1 a0_2 77 99000).bind fun t993 => (some t993)) else (some false))
set_option maxHeartbeats 8000000 in
set_option maxRecDepth 100000 in
theorem subprogram_Split_2.calls (k : Nat) (a0_0 : Bool) (A0_1 : Option Addr) (c0_1 : Nat) (l0_1 : List (S78)) (a0_2 : ByteArray) (r : Bool) (w : World) (hr0_1 : Kd.C k78 w A0_1 l0_1.length l0_1) (hc0_1 : l0_1.length ≤ c0_1) (h : subprogram_Split_2.f k a0_0 l0_1 a0_2 = some r) :
  Calls Try.prog 77 #[.agg #[.bool a0_0, .slice A0_1 l0_1.length c0_1, .string a0_2]] w fun e w' => e = .returned (.bool r) ∧ Below w.heap.size w w' := by
 have hu32 := Try.underlying32
 have HR0_1 := Aside0.mk hr0_1
 have HC0_1 := Aside0.mk hc0_1
 clear hr0_1 hc0_1
 have HB := Aside0.mk (Below.refl w.heap.size w)
 have H : ((subprogram_plain.f a0_0 l0_1 a0_2).bind fun t992 => (if t992 = true then ((subprogram_has.f k a0_0 l0_1 a0_2 77 99000).bind fun t993 => (some t993)) else (some false))) = some r := h
 clear h
 replace H := Option.bind_eq_some_iff.mp H
 obtain ⟨t992, A20, H⟩ := H
 have A2 := Aside0.mk A20
 clear A20
 by_cases c3 : t992 = true
 ·subst c3
  rw [if_pos rfl] at H
  replace H := Option.bind_eq_some_iff.mp H
  obtain ⟨t993, A40, H⟩ := H
  have A4 := Aside0.mk A40
  clear A40
  obtain rfl := Option.some.inj H
  go_enter Try.func77, Try.ntmps77
  go_wp2_with (first | ((with_reducible refine gate_dst (N := 1) rfl ?_); refine yX 1 #[.bool a0_0, .slice A0_1 l0_1.length c0_1, .string a0_2] 32 ?_; intro gb991 hg w5 hbox hb; have BK991 := Aside0.mk (hbox); have GW991 := Aside0.mk ((yG hg : w.heap.size ≤ gb991)); have GE991 := Aside0.mk ((yG hg : w.heap.size ≤ gb991)); replace HB := Aside0.mk (below_step yB hb); clear hb hbox hg; have hcz6_0 := yZ0 BK991.out; have hcz6_1 := yZ1 BK991.out; have hcz6_2 := yZ2 BK991.out; have hfz6_0 := blk_frozen BK991.out 0; have hfz6_1 := blk_frozen BK991.out 1; have hfz6_2 := blk_frozen BK991.out 2) | ((with_reducible refine gate_callee (f := 78) rfl ?_); refine goesL_ (some 4) rfl rfl Try.func78 (by kernel_rfl) rfl #[.agg #[.bool a0_0, .slice A0_1 l0_1.length c0_1, .string a0_2]] rfl yQ ?_; (with_reducible refine (subprogram_plain.calls a0_0 _ _ l0_1 a0_2 true _ ?side1 ?side2 A2.out).mono ?_); (case side1 => exact yC HR0_1.out); (case side2 => exact HC0_1.out); rintro e w7 ⟨rfl, hb⟩; refine ⟨_, rfl, ?_⟩; replace BK991 := Aside0.mk (blk_below (g := gb991) yK hb); replace HB := Aside0.mk (below_step yB hb); (try clear hb); have hcz8_0 := yZ0 BK991.out; have hcz8_1 := yZ1 BK991.out; have hcz8_2 := yZ2 BK991.out; have hfz8_0 := blk_frozen BK991.out 0; have hfz8_1 := blk_frozen BK991.out 1; have hfz8_2 := blk_frozen BK991.out 2) | (go_at_call 58; (with_reducible refine (subprogram_has.calls k a0_0 _ _ l0_1 a0_2 77 99000 t993 _ ?side1 ?side2 A4.out).mono ?_); (case side1 => exact yC HR0_1.out); (case side2 => exact HC0_1.out); rintro e w9 ⟨rfl, hb⟩; replace BK991 := Aside0.mk (blk_below (g := gb991) yK hb); replace HB := Aside0.mk (below_step yB hb); (try clear hb)))
  go_ret
  exact ⟨yE, yB⟩
 replace c3 := Bool.eq_false_iff.mpr c3
 subst c3
 replace H : (some false) = some r := by rw [if_neg (show ¬ (false = true) by decide)] at H; exact H
 obtain rfl := Option.some.inj H
 go_enter Try.func77, Try.ntmps77
 go_wp2_with (first | ((with_reducible refine gate_dst (N := 1) rfl ?_); refine yX 1 #[.bool a0_0, .slice A0_1 l0_1.length c0_1, .string a0_2] 32 ?_; intro gb991 hg w10 hbox hb; have BK991 := Aside0.mk (hbox); have GW991 := Aside0.mk ((yG hg : w.heap.size ≤ gb991)); have GE991 := Aside0.mk ((yG hg : w.heap.size ≤ gb991)); replace HB := Aside0.mk (below_step yB hb); clear hb hbox hg; have hcz11_0 := yZ0 BK991.out; have hcz11_1 := yZ1 BK991.out; have hcz11_2 := yZ2 BK991.out; have hfz11_0 := blk_frozen BK991.out 0; have hfz11_1 := blk_frozen BK991.out 1; have hfz11_2 := blk_frozen BK991.out 2) | ((with_reducible refine gate_callee (f := 78) rfl ?_); refine goesL_ (some 4) rfl rfl Try.func78 (by kernel_rfl) rfl #[.agg #[.bool a0_0, .slice A0_1 l0_1.length c0_1, .string a0_2]] rfl yQ ?_; (with_reducible refine (subprogram_plain.calls a0_0 _ _ l0_1 a0_2 false _ ?side1 ?side2 A2.out).mono ?_); (case side1 => exact yC HR0_1.out); (case side2 => exact HC0_1.out); rintro e w12 ⟨rfl, hb⟩; refine ⟨_, rfl, ?_⟩; replace BK991 := Aside0.mk (blk_below (g := gb991) yK hb); replace HB := Aside0.mk (below_step yB hb); (try clear hb)))
 go_ret
 exact ⟨yE, yB⟩
end Go.Proofs.Ytehkhbnhmehobaa.P
namespace Go.Proofs.Ytehkhbnhmehobaa.P
open Go.RowKit Go.Proofs.YtehkhbnhmehobaaW.PrintWords Go.Proofs.YtehkhbnhmehobaaW.PrintLast Go.Proofs.YtehkhbnhmehobaaW.PrintMore
set_option linter.unusedVariables false
def idxF {α : Type} (p : α → Option Bool) : List α → Int → Option Int
  | [], _ => some (-1)
  | x :: l, i => (p x).bind fun b => if b = true then some i else idxF p l (i + 1)
theorem idxF_step {α : Type} {p : α → Option Bool} {l : List α} {j : Nat} {r : Int} (hj : j < l.length) (h : idxF p (l.drop j) (j : Int) = some r) :
    ∃ b, p (l[j]) = some b ∧ (if b = true then r = (j : Int) else idxF p (l.drop (j + 1)) ((j + 1 : Nat) : Int) = some r) := by
  rw [List.drop_eq_getElem_cons hj] at h
  simp only [idxF] at h
  obtain ⟨b, hb, h⟩ := Option.bind_eq_some_iff.mp h
  refine ⟨b, hb, ?_⟩
  cases b with
  | true => simp at h; simp [← h]
  | false =>
    simp at h ⊢
    exact h
set_option maxHeartbeats 1000000 in
set_option maxRecDepth 100000 in
theorem IndexFunc_any (g : Nat) (fn : Func) (hf : Try.prog.funcs[g]? = some fn) (hname : (fn.name == "runtime.NumGoroutine") = false) (hbody : fn.body.isSome = true) (caps : Array Value) (p : S32 → Option Bool) (w : World)
    (hp : Aside0 (∀ (x : S32) (A1 : Option Addr) (c1 : Nat) (b : Bool) (W : World), Below w.heap.size w W → Kd.C k78 W A1 x.f1.length x.f1 → x.f1.length ≤ c1 → p x = some b →
      Calls Try.prog g (#[.agg #[.bool x.f0, .slice A1 x.f1.length c1, .string x.f2]] ++ caps) W fun e W' => e = .returned (.bool b) ∧ Below W.heap.size W W'))
    (A0 : Option Addr) (c0 : Nat) (l0 : List S32) (r : Int) (hr0 : Kd.C k32 w A0 l0.length l0) (hc0 : l0.length ≤ c0) (h : idxF p l0 0 = some r) :
    Calls Try.prog 73 #[.slice A0 l0.length c0, .func (.func g) #[] caps] w fun e w' => e = .returned (.int .i64 r) ∧ Below w.heap.size w w' := by
  have hu := Try.underlying32
  have HR0 := Aside0.mk hr0
  have HM := Aside0.mk (Kd.C_max hr0)
  have H := Aside0.mk h
  clear hr0 h
  go_enter Try.func73, Try.ntmps73
  go_wp2
  go_loopw [8] (fun i w' => ∃ j : Nat, i = .int .i64 j ∧ Aside0 (j ≤ l0.length) ∧ Aside0 (idxF p (l0.drop j) (j : Int) = some r) ∧ Aside0 (Below w.heap.size w w')) (fun i _ => l0.length - (intOf i).toNat)
  case atStart => exact ⟨0, rfl, ⟨Nat.zero_le _⟩, ⟨H.out⟩, ⟨Below.refl _ _⟩⟩
  case round =>
    obtain ⟨j, rfl, HJ, HI, HB⟩ := hrel
    by_cases hlt : j < l0.length
    · obtain ⟨b, hb, hI⟩ := idxF_step hlt HI.out
      obtain ⟨ad, A1, c1, e, hx0, hx1, hx2, hl1, hi1⟩ := at_T32 (Kd.C_below HR0.out HB.out) (j : Int) (by omega) (by omega)
      cases e
      have hrd : rd_T32 l0 (j : Int) = l0[j] := by simp [rd_T32, hlt]
      rw [hrd] at hx0 hx1 hx2 hl1 hi1
      generalize l0[j] = x at *
      clear hrd
      simp only [Int.toNat_natCast] at hx0 hx1 hx2
      have hlt' : decide ((j : Int) < (l0.length : Int)) = true := by simp; omega
      have HI2 := Aside0.mk hI
      have HL1 := Aside0.mk hl1
      have HI1 := Aside0.mk hi1
      have HP := Aside0.mk hb
      clear hI hl1 hi1 hb
      go_wp2_with ((with_reducible refine gate_dst (N := 16) rfl ?_); refine goesV_ (some 16) rfl rfl (caps := caps) rfl hf hname hbody (#[.agg #[.bool x.f0, .slice A1 x.f1.length c1, .string x.f2]] ++ caps) rfl (congrArg (fun z => z ++ caps) (by (try simp only [List.map_toArray, List.map_cons, List.map_nil]); rfl)) ?_; (with_reducible refine (hp.out x A1 c1 b _ HB.out HI1.out HL1.out HP.out).mono ?_); rintro e w2 ⟨rfl, hb2⟩; refine ⟨_, rfl, ?_⟩; have HB2 := Aside0.mk (below_then HB.out HB.out.size hb2); clear hb2)
      · have hbt : b = true := by assumption
        have hI3 := HI2.out
        rw [if_pos hbt] at hI3
        subst hI3
        go_ret
        exact ⟨rfl, HB2.out⟩
      have hbf : ¬ b = true := by simpa using (show b = false by assumption)
      have hI3 := HI2.out
      rw [if_neg hbf] at hI3
      have HI3 := Aside0.mk hI3
      clear hI3
      go_roundw
      case rel => exact ⟨j + 1, by rw [wrap_succ hlt HM.out], ⟨by omega⟩, ⟨HI3.out⟩, ⟨HB2.out⟩⟩
      case measure => rw [wrap_succ hlt HM.out]; simp only [intOf, Int.toNat_natCast]; omega
    have hlt' : decide ((j : Int) < (l0.length : Int)) = false := by simp; omega
    have hI := HI.out
    rw [List.drop_eq_nil_of_le (by omega)] at hI
    simp only [idxF, Option.some.injEq] at hI
    subst hI
    go_wp2
    go_ret
    exact ⟨rfl, HB.out⟩
set_option maxHeartbeats 1000000 in
set_option maxRecDepth 100000 in
theorem IndexFuncSub_any (g : Nat) (fn : Func) (hf : Try.prog.funcs[g]? = some fn) (hname : (fn.name == "runtime.NumGoroutine") = false) (hbody : fn.body.isSome = true) (caps : Array Value) (p : S81 → Option Bool) (w : World)
    (hp : Aside0 (∀ (x : S81) (A1 : Option Addr) (c1 : Nat) (b : Bool) (W : World), Below w.heap.size w W → Kd.C k32 W A1 x.f1.length x.f1 → x.f1.length ≤ c1 → p x = some b →
      Calls Try.prog g (#[.agg #[.int .i64 x.f0, .slice A1 x.f1.length c1]] ++ caps) W fun e W' => e = .returned (.bool b) ∧ Below W.heap.size W W'))
    (A0 : Option Addr) (c0 : Nat) (l0 : List S81) (r : Int) (hr0 : Kd.C k81 w A0 l0.length l0) (hc0 : l0.length ≤ c0) (h : idxF p l0 0 = some r) :
    Calls Try.prog 113 #[.slice A0 l0.length c0, .func (.func g) #[] caps] w fun e w' => e = .returned (.int .i64 r) ∧ Below w.heap.size w w' := by
  have hu := Try.underlying81
  have HR0 := Aside0.mk hr0
  have HM := Aside0.mk (Kd.C_max hr0)
  have H := Aside0.mk h
  clear hr0 h
  go_enter Try.func113, Try.ntmps113
  go_wp2
  go_loopw [8] (fun i w' => ∃ j : Nat, i = .int .i64 j ∧ Aside0 (j ≤ l0.length) ∧ Aside0 (idxF p (l0.drop j) (j : Int) = some r) ∧ Aside0 (Below w.heap.size w w')) (fun i _ => l0.length - (intOf i).toNat)
  case atStart => exact ⟨0, rfl, ⟨Nat.zero_le _⟩, ⟨H.out⟩, ⟨Below.refl _ _⟩⟩
  case round =>
    obtain ⟨j, rfl, HJ, HI, HB⟩ := hrel
    by_cases hlt : j < l0.length
    · obtain ⟨b, hb, hI⟩ := idxF_step hlt HI.out
      obtain ⟨ad, A1, c1, e, hx0, hx1, hl1, hi1⟩ := at_T81 (Kd.C_below HR0.out HB.out) (j : Int) (by omega) (by omega)
      cases e
      have hrd : rd_T81 l0 (j : Int) = l0[j] := by simp [rd_T81, hlt]
      rw [hrd] at hx0 hx1 hl1 hi1
      generalize l0[j] = x at *
      clear hrd
      simp only [Int.toNat_natCast] at hx0 hx1
      have hlt' : decide ((j : Int) < (l0.length : Int)) = true := by simp; omega
      have HI2 := Aside0.mk hI
      have HL1 := Aside0.mk hl1
      have HI1 := Aside0.mk hi1
      have HP := Aside0.mk hb
      clear hI hl1 hi1 hb
      go_wp2_with ((with_reducible refine gate_dst (N := 16) rfl ?_); refine goesV_ (some 16) rfl rfl (caps := caps) rfl hf hname hbody (#[.agg #[.int .i64 x.f0, .slice A1 x.f1.length c1]] ++ caps) rfl (congrArg (fun z => z ++ caps) (by (try simp only [List.map_toArray, List.map_cons, List.map_nil]); rfl)) ?_; (with_reducible refine (hp.out x A1 c1 b _ HB.out HI1.out HL1.out HP.out).mono ?_); rintro e w2 ⟨rfl, hb2⟩; refine ⟨_, rfl, ?_⟩; have HB2 := Aside0.mk (below_then HB.out HB.out.size hb2); clear hb2)
      · have hbt : b = true := by assumption
        have hI3 := HI2.out
        rw [if_pos hbt] at hI3
        subst hI3
        go_ret
        exact ⟨rfl, HB2.out⟩
      have hbf : ¬ b = true := by simpa using (show b = false by assumption)
      have hI3 := HI2.out
      rw [if_neg hbf] at hI3
      have HI3 := Aside0.mk hI3
      clear hI3
      go_roundw
      case rel => exact ⟨j + 1, by rw [wrap_succ hlt HM.out], ⟨by omega⟩, ⟨HI3.out⟩, ⟨HB2.out⟩⟩
      case measure => rw [wrap_succ hlt HM.out]; simp only [intOf, Int.toNat_natCast]; omega
    have hlt' : decide ((j : Int) < (l0.length : Int)) = false := by simp; omega
    have hI := HI.out
    rw [List.drop_eq_nil_of_le (by omega)] at hI
    simp only [idxF, Option.some.injEq] at hI
    subst hI
    go_wp2
    go_ret
    exact ⟨rfl, HB.out⟩
set_option maxRecDepth 100000 in
theorem ContainsFunc_any (g : Nat) (fn : Func) (hf : Try.prog.funcs[g]? = some fn) (hname : (fn.name == "runtime.NumGoroutine") = false) (hbody : fn.body.isSome = true) (caps : Array Value) (p : S32 → Option Bool) (w : World)
    (hp : Aside0 (∀ (x : S32) (A1 : Option Addr) (c1 : Nat) (b : Bool) (W : World), Below w.heap.size w W → Kd.C k78 W A1 x.f1.length x.f1 → x.f1.length ≤ c1 → p x = some b →
      Calls Try.prog g (#[.agg #[.bool x.f0, .slice A1 x.f1.length c1, .string x.f2]] ++ caps) W fun e W' => e = .returned (.bool b) ∧ Below W.heap.size W W'))
    (A0 : Option Addr) (c0 : Nat) (l0 : List S32) (r : Bool) (hr0 : Kd.C k32 w A0 l0.length l0) (hc0 : l0.length ≤ c0) (h : (idxF p l0 0).map (fun i => decide (i ≥ 0)) = some r) :
    Calls Try.prog 38 #[.slice A0 l0.length c0, .func (.func g) #[] caps] w fun e w' => e = .returned (.bool r) ∧ Below w.heap.size w w' := by
  obtain ⟨i, hi, hr⟩ := Option.map_eq_some_iff.mp h
  have HR0 := Aside0.mk hr0
  have HC0 := Aside0.mk hc0
  have H := Aside0.mk hi
  have HE := Aside0.mk hr
  clear hr0 h hi hc0 hr
  go_enter Try.func38, Try.ntmps38
  go_wp2_with (go_at_call 73; (with_reducible refine (IndexFunc_any g fn hf hname hbody caps p _ hp A0 c0 l0 i HR0.out HC0.out H.out).mono ?_); rintro e w2 ⟨rfl, hb2⟩; have HB2 := Aside0.mk hb2; clear hb2)
  go_ret
  exact ⟨by rw [← HE.out]; rfl, HB2.out⟩
set_option maxRecDepth 100000 in
theorem ContainsFuncSub_any (g : Nat) (fn : Func) (hf : Try.prog.funcs[g]? = some fn) (hname : (fn.name == "runtime.NumGoroutine") = false) (hbody : fn.body.isSome = true) (caps : Array Value) (p : S81 → Option Bool) (w : World)
    (hp : Aside0 (∀ (x : S81) (A1 : Option Addr) (c1 : Nat) (b : Bool) (W : World), Below w.heap.size w W → Kd.C k32 W A1 x.f1.length x.f1 → x.f1.length ≤ c1 → p x = some b →
      Calls Try.prog g (#[.agg #[.int .i64 x.f0, .slice A1 x.f1.length c1]] ++ caps) W fun e W' => e = .returned (.bool b) ∧ Below W.heap.size W W'))
    (A0 : Option Addr) (c0 : Nat) (l0 : List S81) (r : Bool) (hr0 : Kd.C k81 w A0 l0.length l0) (hc0 : l0.length ≤ c0) (h : (idxF p l0 0).map (fun i => decide (i ≥ 0)) = some r) :
    Calls Try.prog 101 #[.slice A0 l0.length c0, .func (.func g) #[] caps] w fun e w' => e = .returned (.bool r) ∧ Below w.heap.size w w' := by
  obtain ⟨i, hi, hr⟩ := Option.map_eq_some_iff.mp h
  have HR0 := Aside0.mk hr0
  have HC0 := Aside0.mk hc0
  have H := Aside0.mk hi
  have HE := Aside0.mk hr
  clear hr0 h hi hc0 hr
  go_enter Try.func101, Try.ntmps101
  go_wp2_with (go_at_call 113; (with_reducible refine (IndexFuncSub_any g fn hf hname hbody caps p _ hp A0 c0 l0 i HR0.out HC0.out H.out).mono ?_); rintro e w2 ⟨rfl, hb2⟩; have HB2 := Aside0.mk hb2; clear hb2)
  go_ret
  exact ⟨by rw [← HE.out]; rfl, HB2.out⟩
def IndexFunc_end.f (k : Nat) (l0 : List S32) : Option Int := idxF (fun x => subprogram_Split_1.f k x.f0 x.f1 x.f2) l0 0
theorem IndexFunc_end.calls (k : Nat) (A0 : Option Addr) (c0 : Nat) (l0 : List S32) (r : Int) (w : World) (hr0 : Kd.C k32 w A0 l0.length l0) (hc0 : l0.length ≤ c0) (h : IndexFunc_end.f k l0 = some r) :
    Calls Try.prog 73 #[.slice A0 l0.length c0, .func (.func 75) #[] #[]] w fun e w' => e = .returned (.int .i64 r) ∧ Below w.heap.size w w' :=
  IndexFunc_any 75 _ Try.func75 (by kernel_rfl) rfl #[] (fun x => subprogram_Split_1.f k x.f0 x.f1 x.f2) w ⟨fun x A1 c1 b W _ hk hc hb => subprogram_Split_1.calls k x.f0 A1 c1 x.f1 x.f2 b W hk hc hb⟩ A0 c0 l0 r hr0 hc0 h
def IndexFunc_back.f (k : Nat) (l0 : List S32) : Option Int := idxF (fun x => subprogram_Split_2.f k x.f0 x.f1 x.f2) l0 0
theorem IndexFunc_back.calls (k : Nat) (A0 : Option Addr) (c0 : Nat) (l0 : List S32) (r : Int) (w : World) (hr0 : Kd.C k32 w A0 l0.length l0) (hc0 : l0.length ≤ c0) (h : IndexFunc_back.f k l0 = some r) :
    Calls Try.prog 73 #[.slice A0 l0.length c0, .func (.func 77) #[] #[]] w fun e w' => e = .returned (.int .i64 r) ∧ Below w.heap.size w w' :=
  IndexFunc_any 77 _ Try.func77 (by kernel_rfl) rfl #[] (fun x => subprogram_Split_2.f k x.f0 x.f1 x.f2) w ⟨fun x A1 c1 b W _ hk hc hb => subprogram_Split_2.calls k x.f0 A1 c1 x.f1 x.f2 b W hk hc hb⟩ A0 c0 l0 r hr0 hc0 h
def ContainsFunc_marked.f (k : Nat) (l0 : List S32) : Option Bool := (idxF (fun x => subprogram_marked.f k x.f0 x.f1 x.f2) l0 0).map (fun i => decide (i ≥ 0))
theorem ContainsFunc_marked.calls (k : Nat) (A0 : Option Addr) (c0 : Nat) (l0 : List S32) (r : Bool) (w : World) (hr0 : Kd.C k32 w A0 l0.length l0) (hc0 : l0.length ≤ c0) (h : ContainsFunc_marked.f k l0 = some r) :
    Calls Try.prog 38 #[.slice A0 l0.length c0, .func (.func 100) #[] #[]] w fun e w' => e = .returned (.bool r) ∧ Below w.heap.size w w' :=
  ContainsFunc_any 100 _ Try.func100 (by kernel_rfl) rfl #[] (fun x => subprogram_marked.f k x.f0 x.f1 x.f2) w ⟨fun x A1 c1 b W _ hk hc hb => subprogram_marked.calls k x.f0 A1 c1 x.f1 x.f2 b W hk hc hb⟩ A0 c0 l0 r hr0 hc0 h
end Go.Proofs.Ytehkhbnhmehobaa.P
namespace Go.Proofs.Ytehkhbnhmehobaa.P
open Go.RowKit Go.Proofs.YtehkhbnhmehobaaW.PrintWords Go.Proofs.YtehkhbnhmehobaaW.PrintLast Go.Proofs.YtehkhbnhmehobaaW.PrintMore
attribute [local go_sem] max2_int min2_int max_two min_two max_three min_three max_four min_four
set_option linter.unusedVariables false
set_option linter.unusedSimpArgs false
def subprogram_ordered_1.f (k : Nat) (a0_0 : Int) (l0_1 : List (S32)) : Option (Bool) := (ContainsFunc_marked.f k l0_1).bind fun t995 => (some t995)
set_option maxHeartbeats 8000000 in
set_option maxRecDepth 100000 in
theorem subprogram_ordered_1.calls (k : Nat) (a0_0 : Int) (A0_1 : Option Addr) (c0_1 : Nat) (l0_1 : List (S32)) (r : Bool) (w : World) (hr0_1 : Kd.C k32 w A0_1 l0_1.length l0_1) (hc0_1 : l0_1.length ≤ c0_1) (h : subprogram_ordered_1.f k a0_0 l0_1 = some r) :
  Calls Try.prog 102 #[.agg #[.int .i64 a0_0, .slice A0_1 l0_1.length c0_1]] w fun e w' => e = .returned (.bool r) ∧ Below w.heap.size w w' := by
 have hu81 := Try.underlying81
 have HR0_1 := Aside0.mk hr0_1
 have HC0_1 := Aside0.mk hc0_1
 clear hr0_1 hc0_1
 have HB := Aside0.mk (Below.refl w.heap.size w)
 have H : ((ContainsFunc_marked.f k l0_1).bind fun t995 => (some t995)) = some r := h
 clear h
 replace H := Option.bind_eq_some_iff.mp H
 obtain ⟨t995, A20, H⟩ := H
 have A2 := Aside0.mk A20
 clear A20
 obtain rfl := Option.some.inj H
 go_enter Try.func102, Try.ntmps102
 go_wp2_with (first | ((with_reducible refine gate_dst (N := 1) rfl ?_); refine yX 1 #[.int .i64 a0_0, .slice A0_1 l0_1.length c0_1] 81 ?_; intro gb994 hg w3 hbox hb; have BK994 := Aside0.mk (hbox); have GE994 := Aside0.mk ((yG hg : w.heap.size ≤ gb994)); replace HB := Aside0.mk (below_step yB hb); clear hb hbox hg; have hcz4_0 := yZ0 BK994.out; have hcz4_1 := yZ1 BK994.out; have hfz4_0 := blk_frozen BK994.out 0; have hfz4_1 := blk_frozen BK994.out 1) | ((with_reducible refine gate_callee (f := 38) rfl ?_); refine goesL_ (some 5) rfl rfl Try.func38 (by kernel_rfl) rfl #[.slice A0_1 l0_1.length c0_1, .func (.func 100) #[] #[]] rfl yQ ?_; (with_reducible refine (ContainsFunc_marked.calls k _ _ l0_1  t995 _ ?side1 ?side2 A2.out).mono ?_); (case side1 => exact yC HR0_1.out); (case side2 => exact HC0_1.out); rintro e w5 ⟨rfl, hb⟩; refine ⟨_, rfl, ?_⟩; replace BK994 := Aside0.mk (blk_below (g := gb994) yK hb); replace HB := Aside0.mk (below_step yB hb); (try clear hb)))
 go_ret
 exact ⟨yE, yB⟩
end Go.Proofs.Ytehkhbnhmehobaa.P
namespace Go.Proofs.Ytehkhbnhmehobaa.P
open Go.RowKit Go.Proofs.YtehkhbnhmehobaaW.PrintWords Go.Proofs.YtehkhbnhmehobaaW.PrintLast Go.Proofs.YtehkhbnhmehobaaW.PrintMore
set_option linter.unusedVariables false
def ContainsFunc_ordered.f (k : Nat) (l0 : List S81) : Option Bool := (idxF (fun x => subprogram_ordered_1.f k x.f0 x.f1) l0 0).map (fun i => decide (i ≥ 0))
theorem ContainsFunc_ordered.calls (k : Nat) (A0 : Option Addr) (c0 : Nat) (l0 : List S81) (r : Bool) (w : World) (hr0 : Kd.C k81 w A0 l0.length l0) (hc0 : l0.length ≤ c0) (h : ContainsFunc_ordered.f k l0 = some r) :
    Calls Try.prog 101 #[.slice A0 l0.length c0, .func (.func 102) #[] #[]] w fun e w' => e = .returned (.bool r) ∧ Below w.heap.size w w' :=
  ContainsFuncSub_any 102 _ Try.func102 (by kernel_rfl) rfl #[] (fun x => subprogram_ordered_1.f k x.f0 x.f1) w ⟨fun x A1 c1 b W _ hk hc hb => subprogram_ordered_1.calls k x.f0 A1 c1 x.f1 b W hk hc hb⟩ A0 c0 l0 r hr0 hc0 h
end Go.Proofs.Ytehkhbnhmehobaa.P
namespace Go.Proofs.Ytehkhbnhmehobaa.P
open Go.RowKit Go.Proofs.YtehkhbnhmehobaaW.PrintWords Go.Proofs.YtehkhbnhmehobaaW.PrintLast Go.Proofs.YtehkhbnhmehobaaW.PrintMore
attribute [local go_sem] max2_int min2_int max_two min_two max_three min_three max_four min_four
set_option linter.unusedVariables false
set_option linter.unusedSimpArgs false
def subprogram_ordered.f (k : Nat) (l0_0 : List (S32)) (l0_1 : List (S81)) : Option (Bool) := if (wrap64 ((l0_0.length : Int) - 1)) < 0 then (some false) else (if 0 ≤ (wrap64 ((l0_0.length : Int) - 1)) then (if (wrap64 ((l0_0.length : Int) - 1)) < (l0_0.length : Int) then ((subprogram_has.f k ((rd_T32 l0_0 (wrap64 ((l0_0.length : Int) - 1))).f0) ((rd_T32 l0_0 (wrap64 ((l0_0.length : Int) - 1))).f1) ((rd_T32 l0_0 (wrap64 ((l0_0.length : Int) - 1))).f2) 77 30000).bind fun t380 => (if t380 = true then ((block_Codes.f k ((rd_T32 l0_0 (wrap64 ((l0_0.length : Int) - 1))).f0) ((rd_T32 l0_0 (wrap64 ((l0_0.length : Int) - 1))).f1) ((rd_T32 l0_0 (wrap64 ((l0_0.length : Int) - 1))).f2) 79).bind fun t382 => (if (t382.length : Int) > 0 then (some false) else ((subprogram_has.f k ((rd_T32 l0_0 (wrap64 ((l0_0.length : Int) - 1))).f0) ((rd_T32 l0_0 (wrap64 ((l0_0.length : Int) - 1))).f1) ((rd_T32 l0_0 (wrap64 ((l0_0.length : Int) - 1))).f2) 77 99000).bind fun t386 => (if t386 = true then (some false) else (if (wrap64 ((l0_0.length : Int) - 1)) ≤ (l0_0.length : Int) then ((ContainsFunc_marked.f k (l0_0.take ((wrap64 ((l0_0.length : Int) - 1)) : Int).toNat)).bind fun t391 => (if t391 = true then (some false) else ((ContainsFunc_ordered.f k l0_1).bind fun t392 => (some (!t392))))) else (none)))))) else (some false))) else (none)) else (none))
set_option maxHeartbeats 8000000 in
set_option maxRecDepth 100000 in
theorem subprogram_ordered.calls (k : Nat) (A0_0 : Option Addr) (c0_0 : Nat) (l0_0 : List (S32)) (A0_1 : Option Addr) (c0_1 : Nat) (l0_1 : List (S81)) (r : Bool) (w : World) (hr0_0 : Kd.C k32 w A0_0 l0_0.length l0_0) (hc0_0 : l0_0.length ≤ c0_0) (hr0_1 : Kd.C k81 w A0_1 l0_1.length l0_1) (hc0_1 : l0_1.length ≤ c0_1) (h : subprogram_ordered.f k l0_0 l0_1 = some r) :
  Calls Try.prog 79 #[.agg #[.slice A0_0 l0_0.length c0_0, .slice A0_1 l0_1.length c0_1]] w fun e w' => e = .returned (.bool r) ∧ Below w.heap.size w w' := by
 have hu54 := Try.underlying54
 have hu32 := Try.underlying32
 have HR0_0 := Aside0.mk hr0_0
 have HC0_0 := Aside0.mk hc0_0
 clear hr0_0 hc0_0
 have HR0_1 := Aside0.mk hr0_1
 have HC0_1 := Aside0.mk hc0_1
 clear hr0_1 hc0_1
 have HB := Aside0.mk (Below.refl w.heap.size w)
 have H : (if (wrap64 ((l0_0.length : Int) - 1)) < 0 then (some false) else (if 0 ≤ (wrap64 ((l0_0.length : Int) - 1)) then (if (wrap64 ((l0_0.length : Int) - 1)) < (l0_0.length : Int) then ((subprogram_has.f k ((rd_T32 l0_0 (wrap64 ((l0_0.length : Int) - 1))).f0) ((rd_T32 l0_0 (wrap64 ((l0_0.length : Int) - 1))).f1) ((rd_T32 l0_0 (wrap64 ((l0_0.length : Int) - 1))).f2) 77 30000).bind fun t380 => (if t380 = true then ((block_Codes.f k ((rd_T32 l0_0 (wrap64 ((l0_0.length : Int) - 1))).f0) ((rd_T32 l0_0 (wrap64 ((l0_0.length : Int) - 1))).f1) ((rd_T32 l0_0 (wrap64 ((l0_0.length : Int) - 1))).f2) 79).bind fun t382 => (if (t382.length : Int) > 0 then (some false) else ((subprogram_has.f k ((rd_T32 l0_0 (wrap64 ((l0_0.length : Int) - 1))).f0) ((rd_T32 l0_0 (wrap64 ((l0_0.length : Int) - 1))).f1) ((rd_T32 l0_0 (wrap64 ((l0_0.length : Int) - 1))).f2) 77 99000).bind fun t386 => (if t386 = true then (some false) else (if (wrap64 ((l0_0.length : Int) - 1)) ≤ (l0_0.length : Int) then ((ContainsFunc_marked.f k (l0_0.take ((wrap64 ((l0_0.length : Int) - 1)) : Int).toNat)).bind fun t391 => (if t391 = true then (some false) else ((ContainsFunc_ordered.f k l0_1).bind fun t392 => (some (!t392))))) else (none)))))) else (some false))) else (none)) else (none))) = some r := h
 clear h
 by_cases c2 : (wrap64 ((l0_0.length : Int) - 1)) < 0
 ·rw [if_pos c2] at H
  have c2b0 := decide_eq_true c2
  clear c2
  obtain rfl := Option.some.inj H
  go_enter Try.func79, Try.ntmps79
  go_wp2_with (first | ((with_reducible refine gate_dst (N := 1) rfl ?_); (try (refine gate_guard (by rfl) ?_; dsimp only)); refine yX 1 #[.slice A0_0 l0_0.length c0_0, .slice A0_1 l0_1.length c0_1] 54 ?_; intro gb378 hg w3 hbox hb; have BK378 := Aside0.mk (hbox); have GW378 := Aside0.mk ((yG hg : w.heap.size ≤ gb378)); have GE378 := Aside0.mk ((yG hg : w.heap.size ≤ gb378)); replace HB := Aside0.mk (below_step yB hb); clear hb hbox hg; have hcz4_0 := yZ0 BK378.out; have hcz4_1 := yZ1 BK378.out; have hfz4_0 := blk_frozen BK378.out 0; have hfz4_1 := blk_frozen BK378.out 1))
  go_ret
  exact ⟨yE, yB⟩
 rw [if_neg c2] at H
 have c2b0 := decide_eq_false c2
 clear c2
 obtain ⟨ji5, hji5⟩ : ∃ j_ : Int, (wrap64 ((l0_0.length : Int) - 1)) = j_ := ⟨_, rfl⟩
 replace H : (if 0 ≤ (ji5) then (if (ji5) < (l0_0.length : Int) then ((subprogram_has.f k ((rd_T32 l0_0 (ji5)).f0) ((rd_T32 l0_0 (ji5)).f1) ((rd_T32 l0_0 (ji5)).f2) 77 30000).bind fun t380 => (if t380 = true then ((block_Codes.f k ((rd_T32 l0_0 (ji5)).f0) ((rd_T32 l0_0 (ji5)).f1) ((rd_T32 l0_0 (ji5)).f2) 79).bind fun t382 => (if (t382.length : Int) > 0 then (some false) else ((subprogram_has.f k ((rd_T32 l0_0 (ji5)).f0) ((rd_T32 l0_0 (ji5)).f1) ((rd_T32 l0_0 (ji5)).f2) 77 99000).bind fun t386 => (if t386 = true then (some false) else (if (ji5) ≤ (l0_0.length : Int) then ((ContainsFunc_marked.f k (l0_0.take ((ji5) : Int).toNat)).bind fun t391 => (if t391 = true then (some false) else ((ContainsFunc_ordered.f k l0_1).bind fun t392 => (some (!t392))))) else (none)))))) else (some false))) else (none)) else (none)) = some r := by first | (rw [hji5] at H; exact H) | (simp only [hji5] at H ⊢; exact H)
 (try rw [hji5] at c2b0)
 have hji5w : (IntKind.i64.wrap ((l0_0.length : Int) - 1)) = ji5 := (i64_w _).trans hji5
 by_cases c6 : 0 ≤ (ji5)
 ·rw [if_pos c6] at H
  have c6b0 := decide_eq_true c6
  clear c6
  by_cases c7 : (ji5) < (l0_0.length : Int)
  ·rw [if_pos c7] at H
   have c7b0 := decide_eq_true c7
   clear c7
   replace H := Option.bind_eq_some_iff.mp H
   obtain ⟨t380, A80, H⟩ := H
   have A8 := Aside0.mk A80
   clear A80
   by_cases c9 : t380 = true
   ·subst c9
    rw [if_pos rfl] at H
    replace H := Option.bind_eq_some_iff.mp H
    obtain ⟨t382, A100, H⟩ := H
    have A10 := Aside0.mk A100
    clear A100
    by_cases c11 : (t382.length : Int) > 0
    ·rw [if_pos c11] at H
     have c11b0 := decide_eq_true c11
     have c11b1 : decide (0 < t382.length) = true := decide_eq_true (by omega)
     clear c11
     obtain rfl := Option.some.inj H
     go_enter Try.func79, Try.ntmps79
     go_wp2_with (first | ((with_reducible refine gate_dst (N := 1) rfl ?_); (try (refine gate_guard (by rfl) ?_; dsimp only)); refine yX 1 #[.slice A0_0 l0_0.length c0_0, .slice A0_1 l0_1.length c0_1] 54 ?_; intro gb378 hg w12 hbox hb; have BK378 := Aside0.mk (hbox); have GW378 := Aside0.mk ((yG hg : w.heap.size ≤ gb378)); have GE378 := Aside0.mk ((yG hg : w.heap.size ≤ gb378)); replace HB := Aside0.mk (below_step yB hb); clear hb hbox hg; have hcz13_0 := yZ0 BK378.out; have hcz13_1 := yZ1 BK378.out; have hfz13_0 := blk_frozen BK378.out 0; have hfz13_1 := blk_frozen BK378.out 1; have p379 : 0 ≤ ((ji5) : Int) := yD; have q379 : (ji5) < (l0_0.length : Int) := yD; obtain ⟨ad379, A379_1, c379_1, e379, hx379_0, hx379_1, hx379_2, hl379_1, hi379_1⟩ := at_T32 HR0_0.out (ji5) p379 q379; cases e379; replace hx379_0 := yM HB.out hx379_0; replace hx379_1 := yM HB.out hx379_1; replace hx379_2 := yM HB.out hx379_2; have HR379_1 := Aside0.mk hi379_1; have HC379_1 := Aside0.mk hl379_1; clear hi379_1 hl379_1; replace p379 := eq_true p379; replace q379 := eq_true q379) | (go_at_call 58; (with_reducible refine (subprogram_has.calls k ((rd_T32 l0_0 (ji5)).f0) _ _ ((rd_T32 l0_0 (ji5)).f1) ((rd_T32 l0_0 (ji5)).f2) 77 30000 true _ ?side1 ?side2 A8.out).mono ?_); (case side1 => exact yC HR379_1.out); (case side2 => exact HC379_1.out); rintro e w14 ⟨rfl, hb⟩; replace BK378 := Aside0.mk (blk_below (g := gb378) yK hb); replace HB := Aside0.mk (below_step yB hb); (try clear hb); have hcz15_0 := yZ0 BK378.out; have hcz15_1 := yZ1 BK378.out; have hfz15_0 := blk_frozen BK378.out 0; have hfz15_1 := blk_frozen BK378.out 1; have p381 : 0 ≤ ((ji5) : Int) := yD; have q381 : (ji5) < (l0_0.length : Int) := yD; obtain ⟨ad381, A381_1, c381_1, e381, hx381_0, hx381_1, hx381_2, hl381_1, hi381_1⟩ := at_T32 HR0_0.out (ji5) p381 q381; obtain rfl : ad379 = ad381 := (by injection e381); replace hx381_0 := yM HB.out hx381_0; replace hx381_1 := yM HB.out hx381_1; replace hx381_2 := yM HB.out hx381_2; have HR381_1 := Aside0.mk hi381_1; have HC381_1 := Aside0.mk hl381_1; clear hi381_1 hl381_1; replace p381 := eq_true p381; replace q381 := eq_true q381) | (go_at_call 93; (with_reducible refine (block_Codes.calls k ((rd_T32 l0_0 (ji5)).f0) _ _ ((rd_T32 l0_0 (ji5)).f1) ((rd_T32 l0_0 (ji5)).f2) 79 t382 _ ?side1 ?side2 A10.out).mono ?_); (case side1 => exact yC HR381_1.out); (case side2 => exact HC381_1.out); rintro e w16 ⟨v383, rfl, ho0, hb⟩; have HO384 := Aside0.mk (Kd.R_lower ho0 (below_size yB)); replace BK378 := Aside0.mk (blk_below (g := gb378) yK hb); replace HB := Aside0.mk (below_step yB hb); (try clear hb); (try clear ho0); obtain ⟨Ao17, co17, eo17⟩ := Kd.R_slice HO384.out; subst eo17))
     go_ret
     exact ⟨by first | rfl | (simp [errW_none, errW_some] <;> rfl) | (simp only [← hji5]; first | rfl | (simp [errW_none, errW_some] <;> rfl)) | (simp [*, errW_none, errW_some] <;> rfl), yB⟩
    rw [if_neg c11] at H
    have c11b0 := decide_eq_false c11
    have c11b1 : decide (0 < t382.length) = false := decide_eq_false (by omega)
    clear c11
    replace H := Option.bind_eq_some_iff.mp H
    obtain ⟨t386, A180, H⟩ := H
    have A18 := Aside0.mk A180
    clear A180
    by_cases c19 : t386 = true
    ·subst c19
     rw [if_pos rfl] at H
     obtain rfl := Option.some.inj H
     go_enter Try.func79, Try.ntmps79
     go_wp2_with (first | ((with_reducible refine gate_dst (N := 1) rfl ?_); (try (refine gate_guard (by rfl) ?_; dsimp only)); refine yX 1 #[.slice A0_0 l0_0.length c0_0, .slice A0_1 l0_1.length c0_1] 54 ?_; intro gb378 hg w20 hbox hb; have BK378 := Aside0.mk (hbox); have GW378 := Aside0.mk ((yG hg : w.heap.size ≤ gb378)); have GE378 := Aside0.mk ((yG hg : w.heap.size ≤ gb378)); replace HB := Aside0.mk (below_step yB hb); clear hb hbox hg; have hcz21_0 := yZ0 BK378.out; have hcz21_1 := yZ1 BK378.out; have hfz21_0 := blk_frozen BK378.out 0; have hfz21_1 := blk_frozen BK378.out 1; have p379 : 0 ≤ ((ji5) : Int) := yD; have q379 : (ji5) < (l0_0.length : Int) := yD; obtain ⟨ad379, A379_1, c379_1, e379, hx379_0, hx379_1, hx379_2, hl379_1, hi379_1⟩ := at_T32 HR0_0.out (ji5) p379 q379; cases e379; replace hx379_0 := yM HB.out hx379_0; replace hx379_1 := yM HB.out hx379_1; replace hx379_2 := yM HB.out hx379_2; have HR379_1 := Aside0.mk hi379_1; have HC379_1 := Aside0.mk hl379_1; clear hi379_1 hl379_1; replace p379 := eq_true p379; replace q379 := eq_true q379) | (go_at_call 58; (with_reducible refine (subprogram_has.calls k ((rd_T32 l0_0 (ji5)).f0) _ _ ((rd_T32 l0_0 (ji5)).f1) ((rd_T32 l0_0 (ji5)).f2) 77 30000 true _ ?side1 ?side2 A8.out).mono ?_); (case side1 => exact yC HR379_1.out); (case side2 => exact HC379_1.out); rintro e w22 ⟨rfl, hb⟩; replace BK378 := Aside0.mk (blk_below (g := gb378) yK hb); replace HB := Aside0.mk (below_step yB hb); (try clear hb); have hcz23_0 := yZ0 BK378.out; have hcz23_1 := yZ1 BK378.out; have hfz23_0 := blk_frozen BK378.out 0; have hfz23_1 := blk_frozen BK378.out 1; have p381 : 0 ≤ ((ji5) : Int) := yD; have q381 : (ji5) < (l0_0.length : Int) := yD; obtain ⟨ad381, A381_1, c381_1, e381, hx381_0, hx381_1, hx381_2, hl381_1, hi381_1⟩ := at_T32 HR0_0.out (ji5) p381 q381; obtain rfl : ad379 = ad381 := (by injection e381); replace hx381_0 := yM HB.out hx381_0; replace hx381_1 := yM HB.out hx381_1; replace hx381_2 := yM HB.out hx381_2; have HR381_1 := Aside0.mk hi381_1; have HC381_1 := Aside0.mk hl381_1; clear hi381_1 hl381_1; replace p381 := eq_true p381; replace q381 := eq_true q381) | (go_at_call 93; (with_reducible refine (block_Codes.calls k ((rd_T32 l0_0 (ji5)).f0) _ _ ((rd_T32 l0_0 (ji5)).f1) ((rd_T32 l0_0 (ji5)).f2) 79 t382 _ ?side1 ?side2 A10.out).mono ?_); (case side1 => exact yC HR381_1.out); (case side2 => exact HC381_1.out); rintro e w24 ⟨v383, rfl, ho0, hb⟩; have HO384 := Aside0.mk (Kd.R_lower ho0 (below_size yB)); replace BK378 := Aside0.mk (blk_below (g := gb378) yK hb); replace HB := Aside0.mk (below_step yB hb); (try clear hb); (try clear ho0); obtain ⟨Ao25, co25, eo25⟩ := Kd.R_slice HO384.out; subst eo25; have hcz26_0 := yZ0 BK378.out; have hcz26_1 := yZ1 BK378.out; have hfz26_0 := blk_frozen BK378.out 0; have hfz26_1 := blk_frozen BK378.out 1; have p385 : 0 ≤ ((ji5) : Int) := yD; have q385 : (ji5) < (l0_0.length : Int) := yD; obtain ⟨ad385, A385_1, c385_1, e385, hx385_0, hx385_1, hx385_2, hl385_1, hi385_1⟩ := at_T32 HR0_0.out (ji5) p385 q385; obtain rfl : ad379 = ad385 := (by injection e385); replace hx385_0 := yM HB.out hx385_0; replace hx385_1 := yM HB.out hx385_1; replace hx385_2 := yM HB.out hx385_2; have HR385_1 := Aside0.mk hi385_1; have HC385_1 := Aside0.mk hl385_1; clear hi385_1 hl385_1; replace p385 := eq_true p385; replace q385 := eq_true q385) | (go_at_call 58; (with_reducible refine (subprogram_has.calls k ((rd_T32 l0_0 (ji5)).f0) _ _ ((rd_T32 l0_0 (ji5)).f1) ((rd_T32 l0_0 (ji5)).f2) 77 99000 true _ ?side1 ?side2 A18.out).mono ?_); (case side1 => exact yC HR385_1.out); (case side2 => exact HC385_1.out); rintro e w27 ⟨rfl, hb⟩; replace HO384 := Aside0.mk (Kd.R_below (yR HO384.out) hb); replace BK378 := Aside0.mk (blk_below (g := gb378) yK hb); replace HB := Aside0.mk (below_step yB hb); (try clear hb)))
     go_ret
     exact ⟨by first | rfl | (simp [errW_none, errW_some] <;> rfl) | (simp only [← hji5]; first | rfl | (simp [errW_none, errW_some] <;> rfl)) | (simp [*, errW_none, errW_some] <;> rfl), yB⟩
    replace c19 := Bool.eq_false_iff.mpr c19
    subst c19
    replace H : (if (ji5) ≤ (l0_0.length : Int) then ((ContainsFunc_marked.f k (l0_0.take ((ji5) : Int).toNat)).bind fun t391 => (if t391 = true then (some false) else ((ContainsFunc_ordered.f k l0_1).bind fun t392 => (some (!t392))))) else (none)) = some r := by rw [if_neg (show ¬ (false = true) by decide)] at H; exact H
    have c28b0 := eq_true (yD : 0 ≤ (ji5))
    by_cases c29 : (ji5) ≤ (l0_0.length : Int)
    ·rw [if_pos c29] at H
     have c29b0 := eq_true c29
     have c29b1 := decide_eq_true c29
     clear c29
     obtain ⟨y387, hy387⟩ : ∃ y_ : List (S32), y_ = (l0_0.take ((ji5) : Int).toNat) := ⟨_, rfl⟩
     replace H : ((ContainsFunc_marked.f k y387).bind fun t391 => (if t391 = true then (some false) else ((ContainsFunc_ordered.f k l0_1).bind fun t392 => (some (!t392))))) = some r := by first | (rw [hy387]; with_reducible exact H) | (have H2_ := (Option.bind_some _ _).symm.trans H; rw [hy387]; with_reducible exact H2_) | (have H2_ := (Option.bind_some _ _).symm.trans H; with_reducible exact H2_) | with_reducible exact H | (rw [hy387]; exact H) | exact H
     have Ny387 := Aside0.mk hy387
     clear hy387
     replace H := Option.bind_eq_some_iff.mp H
     obtain ⟨t391, A300, H⟩ := H
     have A30 := Aside0.mk A300
     clear A300
     by_cases c31 : t391 = true
     ·subst c31
      rw [if_pos rfl] at H
      obtain rfl := Option.some.inj H
      go_enter Try.func79, Try.ntmps79
      go_wp2_with (first | ((with_reducible refine gate_dst (N := 1) rfl ?_); (try (refine gate_guard (by rfl) ?_; dsimp only)); refine yX 1 #[.slice A0_0 l0_0.length c0_0, .slice A0_1 l0_1.length c0_1] 54 ?_; intro gb378 hg w32 hbox hb; have BK378 := Aside0.mk (hbox); have GW378 := Aside0.mk ((yG hg : w.heap.size ≤ gb378)); have GE378 := Aside0.mk ((yG hg : w.heap.size ≤ gb378)); replace HB := Aside0.mk (below_step yB hb); clear hb hbox hg; have hcz33_0 := yZ0 BK378.out; have hcz33_1 := yZ1 BK378.out; have hfz33_0 := blk_frozen BK378.out 0; have hfz33_1 := blk_frozen BK378.out 1; have p379 : 0 ≤ ((ji5) : Int) := yD; have q379 : (ji5) < (l0_0.length : Int) := yD; obtain ⟨ad379, A379_1, c379_1, e379, hx379_0, hx379_1, hx379_2, hl379_1, hi379_1⟩ := at_T32 HR0_0.out (ji5) p379 q379; cases e379; replace hx379_0 := yM HB.out hx379_0; replace hx379_1 := yM HB.out hx379_1; replace hx379_2 := yM HB.out hx379_2; have HR379_1 := Aside0.mk hi379_1; have HC379_1 := Aside0.mk hl379_1; clear hi379_1 hl379_1; replace p379 := eq_true p379; replace q379 := eq_true q379) | (go_at_call 58; (with_reducible refine (subprogram_has.calls k ((rd_T32 l0_0 (ji5)).f0) _ _ ((rd_T32 l0_0 (ji5)).f1) ((rd_T32 l0_0 (ji5)).f2) 77 30000 true _ ?side1 ?side2 A8.out).mono ?_); (case side1 => exact yC HR379_1.out); (case side2 => exact HC379_1.out); rintro e w34 ⟨rfl, hb⟩; replace BK378 := Aside0.mk (blk_below (g := gb378) yK hb); replace HB := Aside0.mk (below_step yB hb); (try clear hb); have hcz35_0 := yZ0 BK378.out; have hcz35_1 := yZ1 BK378.out; have hfz35_0 := blk_frozen BK378.out 0; have hfz35_1 := blk_frozen BK378.out 1; have p381 : 0 ≤ ((ji5) : Int) := yD; have q381 : (ji5) < (l0_0.length : Int) := yD; obtain ⟨ad381, A381_1, c381_1, e381, hx381_0, hx381_1, hx381_2, hl381_1, hi381_1⟩ := at_T32 HR0_0.out (ji5) p381 q381; obtain rfl : ad379 = ad381 := (by injection e381); replace hx381_0 := yM HB.out hx381_0; replace hx381_1 := yM HB.out hx381_1; replace hx381_2 := yM HB.out hx381_2; have HR381_1 := Aside0.mk hi381_1; have HC381_1 := Aside0.mk hl381_1; clear hi381_1 hl381_1; replace p381 := eq_true p381; replace q381 := eq_true q381) | (go_at_call 93; (with_reducible refine (block_Codes.calls k ((rd_T32 l0_0 (ji5)).f0) _ _ ((rd_T32 l0_0 (ji5)).f1) ((rd_T32 l0_0 (ji5)).f2) 79 t382 _ ?side1 ?side2 A10.out).mono ?_); (case side1 => exact yC HR381_1.out); (case side2 => exact HC381_1.out); rintro e w36 ⟨v383, rfl, ho0, hb⟩; have HO384 := Aside0.mk (Kd.R_lower ho0 (below_size yB)); replace BK378 := Aside0.mk (blk_below (g := gb378) yK hb); replace HB := Aside0.mk (below_step yB hb); (try clear hb); (try clear ho0); obtain ⟨Ao37, co37, eo37⟩ := Kd.R_slice HO384.out; subst eo37; have hcz38_0 := yZ0 BK378.out; have hcz38_1 := yZ1 BK378.out; have hfz38_0 := blk_frozen BK378.out 0; have hfz38_1 := blk_frozen BK378.out 1; have p385 : 0 ≤ ((ji5) : Int) := yD; have q385 : (ji5) < (l0_0.length : Int) := yD; obtain ⟨ad385, A385_1, c385_1, e385, hx385_0, hx385_1, hx385_2, hl385_1, hi385_1⟩ := at_T32 HR0_0.out (ji5) p385 q385; obtain rfl : ad379 = ad385 := (by injection e385); replace hx385_0 := yM HB.out hx385_0; replace hx385_1 := yM HB.out hx385_1; replace hx385_2 := yM HB.out hx385_2; have HR385_1 := Aside0.mk hi385_1; have HC385_1 := Aside0.mk hl385_1; clear hi385_1 hl385_1; replace p385 := eq_true p385; replace q385 := eq_true q385) | (go_at_call 58; (with_reducible refine (subprogram_has.calls k ((rd_T32 l0_0 (ji5)).f0) _ _ ((rd_T32 l0_0 (ji5)).f1) ((rd_T32 l0_0 (ji5)).f2) 77 99000 false _ ?side1 ?side2 A18.out).mono ?_); (case side1 => exact yC HR385_1.out); (case side2 => exact HC385_1.out); rintro e w39 ⟨rfl, hb⟩; replace HO384 := Aside0.mk (Kd.R_below (yR HO384.out) hb); replace BK378 := Aside0.mk (blk_below (g := gb378) yK hb); replace HB := Aside0.mk (below_step yB hb); (try clear hb); have hcz40_0 := yZ0 BK378.out; have hcz40_1 := yZ1 BK378.out; have hfz40_0 := blk_frozen BK378.out 0; have hfz40_1 := blk_frozen BK378.out 1; have q41 : ((ji5) : Int) ≤ ((l0_0.length : Int) : Int) := yD; obtain ⟨i041, hi041, _, hsz41, _⟩ := info_parts info32; have hroom41 : l0_0.length ≤ c0_0 := HC0_0.out; have hC41 : Kd.C k32 _ (some ad379) l0_0.length l0_0 := HR0_0.out; have hcut41 := cut_to (P := Try.prog) 35 32 .i64 Try.underlying35 hi041 (some ad379) l0_0.length c0_0 (ji5) (yD) q41 hroom41; have hr41 := Kd.C_take (m := ((ji5) : Int).toNat) hC41 (by omega); have hy41 : y387.length = ((ji5) : Int).toNat := (by rw [Ny387.out, List.length_take]; omega); rw [← Ny387.out] at hr41; rw [← hy41] at hcut41; have HR390 := Aside0.mk hr41; have HC390 := Aside0.mk (show y387.length ≤ c0_0 from by omega); clear hr41 hC41 hroom41 hi041 hsz41; have KY41 := Aside0.mk hy41; clear hy41; replace q41 := eq_true q41) | (go_at_call 38; (with_reducible refine (ContainsFunc_marked.calls k _ _ y387  true _ ?side1 ?side2 A30.out).mono ?_); (case side1 => exact yC HR390.out); (case side2 => exact HC390.out); rintro e w42 ⟨rfl, hb⟩; replace HO384 := Aside0.mk (Kd.R_below (yR HO384.out) hb); replace BK378 := Aside0.mk (blk_below (g := gb378) yK hb); replace HB := Aside0.mk (below_step yB hb); (try clear hb)))
      go_ret
      exact ⟨by first | rfl | (simp [errW_none, errW_some] <;> rfl) | (simp only [← hji5]; first | rfl | (simp [errW_none, errW_some] <;> rfl)) | (simp [*, errW_none, errW_some] <;> rfl), yB⟩
     replace c31 := Bool.eq_false_iff.mpr c31
     subst c31
     replace H : ((ContainsFunc_ordered.f k l0_1).bind fun t392 => (some (!t392))) = some r := by rw [if_neg (show ¬ (false = true) by decide)] at H; exact H
     replace H := Option.bind_eq_some_iff.mp H
     obtain ⟨t392, A430, H⟩ := H
     have A43 := Aside0.mk A430
     clear A430
     obtain rfl := Option.some.inj H
     go_enter Try.func79, Try.ntmps79
     go_wp2_with (first | ((with_reducible refine gate_dst (N := 1) rfl ?_); (try (refine gate_guard (by rfl) ?_; dsimp only)); refine yX 1 #[.slice A0_0 l0_0.length c0_0, .slice A0_1 l0_1.length c0_1] 54 ?_; intro gb378 hg w44 hbox hb; have BK378 := Aside0.mk (hbox); have GW378 := Aside0.mk ((yG hg : w.heap.size ≤ gb378)); have GE378 := Aside0.mk ((yG hg : w.heap.size ≤ gb378)); replace HB := Aside0.mk (below_step yB hb); clear hb hbox hg; have hcz45_0 := yZ0 BK378.out; have hcz45_1 := yZ1 BK378.out; have hfz45_0 := blk_frozen BK378.out 0; have hfz45_1 := blk_frozen BK378.out 1; have p379 : 0 ≤ ((ji5) : Int) := yD; have q379 : (ji5) < (l0_0.length : Int) := yD; obtain ⟨ad379, A379_1, c379_1, e379, hx379_0, hx379_1, hx379_2, hl379_1, hi379_1⟩ := at_T32 HR0_0.out (ji5) p379 q379; cases e379; replace hx379_0 := yM HB.out hx379_0; replace hx379_1 := yM HB.out hx379_1; replace hx379_2 := yM HB.out hx379_2; have HR379_1 := Aside0.mk hi379_1; have HC379_1 := Aside0.mk hl379_1; clear hi379_1 hl379_1; replace p379 := eq_true p379; replace q379 := eq_true q379) | (go_at_call 58; (with_reducible refine (subprogram_has.calls k ((rd_T32 l0_0 (ji5)).f0) _ _ ((rd_T32 l0_0 (ji5)).f1) ((rd_T32 l0_0 (ji5)).f2) 77 30000 true _ ?side1 ?side2 A8.out).mono ?_); (case side1 => exact yC HR379_1.out); (case side2 => exact HC379_1.out); rintro e w46 ⟨rfl, hb⟩; replace BK378 := Aside0.mk (blk_below (g := gb378) yK hb); replace HB := Aside0.mk (below_step yB hb); (try clear hb); have hcz47_0 := yZ0 BK378.out; have hcz47_1 := yZ1 BK378.out; have hfz47_0 := blk_frozen BK378.out 0; have hfz47_1 := blk_frozen BK378.out 1; have p381 : 0 ≤ ((ji5) : Int) := yD; have q381 : (ji5) < (l0_0.length : Int) := yD; obtain ⟨ad381, A381_1, c381_1, e381, hx381_0, hx381_1, hx381_2, hl381_1, hi381_1⟩ := at_T32 HR0_0.out (ji5) p381 q381; obtain rfl : ad379 = ad381 := (by injection e381); replace hx381_0 := yM HB.out hx381_0; replace hx381_1 := yM HB.out hx381_1; replace hx381_2 := yM HB.out hx381_2; have HR381_1 := Aside0.mk hi381_1; have HC381_1 := Aside0.mk hl381_1; clear hi381_1 hl381_1; replace p381 := eq_true p381; replace q381 := eq_true q381) | (go_at_call 93; (with_reducible refine (block_Codes.calls k ((rd_T32 l0_0 (ji5)).f0) _ _ ((rd_T32 l0_0 (ji5)).f1) ((rd_T32 l0_0 (ji5)).f2) 79 t382 _ ?side1 ?side2 A10.out).mono ?_); (case side1 => exact yC HR381_1.out); (case side2 => exact HC381_1.out); rintro e w48 ⟨v383, rfl, ho0, hb⟩; have HO384 := Aside0.mk (Kd.R_lower ho0 (below_size yB)); replace BK378 := Aside0.mk (blk_below (g := gb378) yK hb); replace HB := Aside0.mk (below_step yB hb); (try clear hb); (try clear ho0); obtain ⟨Ao49, co49, eo49⟩ := Kd.R_slice HO384.out; subst eo49; have hcz50_0 := yZ0 BK378.out; have hcz50_1 := yZ1 BK378.out; have hfz50_0 := blk_frozen BK378.out 0; have hfz50_1 := blk_frozen BK378.out 1; have p385 : 0 ≤ ((ji5) : Int) := yD; have q385 : (ji5) < (l0_0.length : Int) := yD; obtain ⟨ad385, A385_1, c385_1, e385, hx385_0, hx385_1, hx385_2, hl385_1, hi385_1⟩ := at_T32 HR0_0.out (ji5) p385 q385; obtain rfl : ad379 = ad385 := (by injection e385); replace hx385_0 := yM HB.out hx385_0; replace hx385_1 := yM HB.out hx385_1; replace hx385_2 := yM HB.out hx385_2; have HR385_1 := Aside0.mk hi385_1; have HC385_1 := Aside0.mk hl385_1; clear hi385_1 hl385_1; replace p385 := eq_true p385; replace q385 := eq_true q385) | (go_at_call 58; (with_reducible refine (subprogram_has.calls k ((rd_T32 l0_0 (ji5)).f0) _ _ ((rd_T32 l0_0 (ji5)).f1) ((rd_T32 l0_0 (ji5)).f2) 77 99000 false _ ?side1 ?side2 A18.out).mono ?_); (case side1 => exact yC HR385_1.out); (case side2 => exact HC385_1.out); rintro e w51 ⟨rfl, hb⟩; replace HO384 := Aside0.mk (Kd.R_below (yR HO384.out) hb); replace BK378 := Aside0.mk (blk_below (g := gb378) yK hb); replace HB := Aside0.mk (below_step yB hb); (try clear hb); have hcz52_0 := yZ0 BK378.out; have hcz52_1 := yZ1 BK378.out; have hfz52_0 := blk_frozen BK378.out 0; have hfz52_1 := blk_frozen BK378.out 1; have q53 : ((ji5) : Int) ≤ ((l0_0.length : Int) : Int) := yD; obtain ⟨i053, hi053, _, hsz53, _⟩ := info_parts info32; have hroom53 : l0_0.length ≤ c0_0 := HC0_0.out; have hC53 : Kd.C k32 _ (some ad379) l0_0.length l0_0 := HR0_0.out; have hcut53 := cut_to (P := Try.prog) 35 32 .i64 Try.underlying35 hi053 (some ad379) l0_0.length c0_0 (ji5) (yD) q53 hroom53; have hr53 := Kd.C_take (m := ((ji5) : Int).toNat) hC53 (by omega); have hy53 : y387.length = ((ji5) : Int).toNat := (by rw [Ny387.out, List.length_take]; omega); rw [← Ny387.out] at hr53; rw [← hy53] at hcut53; have HR390 := Aside0.mk hr53; have HC390 := Aside0.mk (show y387.length ≤ c0_0 from by omega); clear hr53 hC53 hroom53 hi053 hsz53; have KY53 := Aside0.mk hy53; clear hy53; replace q53 := eq_true q53) | (go_at_call 38; (with_reducible refine (ContainsFunc_marked.calls k _ _ y387  false _ ?side1 ?side2 A30.out).mono ?_); (case side1 => exact yC HR390.out); (case side2 => exact HC390.out); rintro e w54 ⟨rfl, hb⟩; replace HO384 := Aside0.mk (Kd.R_below (yR HO384.out) hb); replace BK378 := Aside0.mk (blk_below (g := gb378) yK hb); replace HB := Aside0.mk (below_step yB hb); (try clear hb); have hcz55_0 := yZ0 BK378.out; have hcz55_1 := yZ1 BK378.out; have hfz55_0 := blk_frozen BK378.out 0; have hfz55_1 := blk_frozen BK378.out 1) | ((with_reducible refine gate_callee (f := 101) rfl ?_); refine goesL_ (some 46) rfl rfl Try.func101 (by kernel_rfl) rfl #[.slice A0_1 l0_1.length c0_1, .func (.func 102) #[] #[]] rfl yQ ?_; (with_reducible refine (ContainsFunc_ordered.calls k _ _ l0_1  t392 _ ?side1 ?side2 A43.out).mono ?_); (case side1 => exact yC HR0_1.out); (case side2 => exact HC0_1.out); rintro e w56 ⟨rfl, hb⟩; refine ⟨_, rfl, ?_⟩; replace HO384 := Aside0.mk (Kd.R_below (yR HO384.out) hb); replace BK378 := Aside0.mk (blk_below (g := gb378) yK hb); replace HB := Aside0.mk (below_step yB hb); (try clear hb)))
     go_ret
     exact ⟨by first | rfl | (simp [errW_none, errW_some] <;> rfl) | (simp only [← hji5]; first | rfl | (simp [errW_none, errW_some] <;> rfl)) | (simp [*, errW_none, errW_some] <;> rfl), yB⟩
    rw [if_neg c29] at H
    exact absurd H (by simp)
   replace c9 := Bool.eq_false_iff.mpr c9
   subst c9
   replace H : (some false) = some r := by rw [if_neg (show ¬ (false = true) by decide)] at H; exact H
   obtain rfl := Option.some.inj H
   go_enter Try.func79, Try.ntmps79
   go_wp2_with (first | ((with_reducible refine gate_dst (N := 1) rfl ?_); (try (refine gate_guard (by rfl) ?_; dsimp only)); refine yX 1 #[.slice A0_0 l0_0.length c0_0, .slice A0_1 l0_1.length c0_1] 54 ?_; intro gb378 hg w57 hbox hb; have BK378 := Aside0.mk (hbox); have GW378 := Aside0.mk ((yG hg : w.heap.size ≤ gb378)); have GE378 := Aside0.mk ((yG hg : w.heap.size ≤ gb378)); replace HB := Aside0.mk (below_step yB hb); clear hb hbox hg; have hcz58_0 := yZ0 BK378.out; have hcz58_1 := yZ1 BK378.out; have hfz58_0 := blk_frozen BK378.out 0; have hfz58_1 := blk_frozen BK378.out 1; have p379 : 0 ≤ ((ji5) : Int) := yD; have q379 : (ji5) < (l0_0.length : Int) := yD; obtain ⟨ad379, A379_1, c379_1, e379, hx379_0, hx379_1, hx379_2, hl379_1, hi379_1⟩ := at_T32 HR0_0.out (ji5) p379 q379; cases e379; replace hx379_0 := yM HB.out hx379_0; replace hx379_1 := yM HB.out hx379_1; replace hx379_2 := yM HB.out hx379_2; have HR379_1 := Aside0.mk hi379_1; have HC379_1 := Aside0.mk hl379_1; clear hi379_1 hl379_1; replace p379 := eq_true p379; replace q379 := eq_true q379) | (go_at_call 58; (with_reducible refine (subprogram_has.calls k ((rd_T32 l0_0 (ji5)).f0) _ _ ((rd_T32 l0_0 (ji5)).f1) ((rd_T32 l0_0 (ji5)).f2) 77 30000 false _ ?side1 ?side2 A8.out).mono ?_); (case side1 => exact yC HR379_1.out); (case side2 => exact HC379_1.out); rintro e w59 ⟨rfl, hb⟩; replace BK378 := Aside0.mk (blk_below (g := gb378) yK hb); replace HB := Aside0.mk (below_step yB hb); (try clear hb)))
   go_ret
   exact ⟨by first | rfl | (simp [errW_none, errW_some] <;> rfl) | (simp only [← hji5]; first | rfl | (simp [errW_none, errW_some] <;> rfl)) | (simp [*, errW_none, errW_some] <;> rfl), yB⟩
  rw [if_neg c7] at H
  exact absurd H (by simp)
 rw [if_neg c6] at H
 exact absurd H (by simp)
end Go.Proofs.Ytehkhbnhmehobaa.P
namespace Go.Proofs.Ytehkhbnhmehobaa.P
open Go.RowKit Go.Proofs.YtehkhbnhmehobaaW.PrintWords Go.Proofs.YtehkhbnhmehobaaW.PrintLast Go.Proofs.YtehkhbnhmehobaaW.PrintMore
set_option linter.unusedVariables false
set_option linter.unusedSimpArgs false
def repL : List S81 → List S81 → Bool
  | _, [] => false
  | p, x :: l => if p.any (fun y => x.f0 == y.f0) = true then true else repL (p ++ [x]) l
def subprogram_repeated.f (l0 : List (S81)) : Option (Bool) := some (repL [] l0)
theorem idx_any (n : Int) : ∀ (l : List S81) (i : Int), 0 ≤ i → (idxF (fun y => some (n == y.f0)) l i).map (fun i => decide (i ≥ 0)) = some (l.any (fun y => n == y.f0))
  | [], i, _ => rfl
  | x :: l, i, hi => by
    simp only [idxF, Option.bind_some, List.any_cons]
    cases h : (n == x.f0) with
    | true => simp [hi]
    | false =>
      simp only [Bool.false_eq_true, if_false, Bool.false_or]
      exact idx_any n l (i + 1) (by omega)
theorem alloc_at2 (w : World) (o : Obj) : (w.alloc o).heap[w.heap.size]? = some o := by
  show (w.heap.push o)[w.heap.size]? = _
  simp
set_option maxHeartbeats 1000000 in
set_option maxRecDepth 100000 in
theorem repeated_closure (x y : S81) (v : Value) (g : Nat) (A1 : Option Addr) (c1 : Nat) (w : World) (hbox : w.heap[g]? = some (.cells #[.int .i64 x.f0, v] 81 (0, 0))) :
    Calls Try.prog 103 (#[.agg #[.int .i64 y.f0, .slice A1 y.f1.length c1]] ++ #[.pointer (some ⟨g, 0, none⟩)]) w fun e w' => e = .returned (.bool (x.f0 == y.f0)) ∧ Below w.heap.size w w' := by
  have hu1 := Try.underlying81
  have hcz0 : w.cell? ⟨g, 0, none⟩ = some (.int .i64 x.f0) := (blk_cell hbox 0).trans rfl
  have BK := Aside0.mk hbox
  clear hbox
  show Calls Try.prog 103 #[.agg #[.int .i64 y.f0, .slice A1 y.f1.length c1], .pointer (some ⟨g, 0, none⟩)] w _
  go_enter Try.func103, Try.ntmps103
  go_wp2_with ((with_reducible refine gate_dst (N := 2) rfl ?_); refine yX 2 #[.int .i64 y.f0, .slice A1 y.f1.length c1] 81 ?_; intro gb hg w1 hbox hb; have HB := Aside0.mk hb; have BKt := Aside0.mk (blk_below BK.out hb); have hx0 : w1.cell? ⟨gb, 0, none⟩ = some (.int .i64 y.f0) := (blk_cell hbox 0).trans rfl; have hx1 : w1.cell? ⟨g, 0, none⟩ = some (.int .i64 x.f0) := (blk_cell BKt.out 0).trans rfl; clear hb hbox hg hcz0)
  go_ret
  exact ⟨rfl, HB.out⟩
theorem repL_step {l : List S81} {j : Nat} (h : j < l.length) : repL (l.take j) (l.drop j) = if (l.take j).any (fun y => l[j].f0 == y.f0) = true then true else repL (l.take (j + 1)) (l.drop (j + 1)) := by
  rw [List.drop_eq_getElem_cons h, repL, List.take_succ_eq_append_getElem h]
set_option maxHeartbeats 2000000 in
set_option maxRecDepth 100000 in
theorem subprogram_repeated.calls (A0 : Option Addr) (c0 : Nat) (l0 : List (S81)) (r : Bool) (w : World) (hr0 : Kd.C k81 w A0 l0.length l0) (hc0 : l0.length ≤ c0) (h : subprogram_repeated.f l0 = some r) :
    Calls Try.prog 80 #[.slice A0 l0.length c0] w fun e w' => e = .returned (.bool r) ∧ Below w.heap.size w w' := by
  have H := Aside0.mk (Option.some.inj h)
  have hu81 := Try.underlying81
  have HR := Aside0.mk hr0
  have HC := Aside0.mk hc0
  have HM := Aside0.mk (Kd.C_max hr0)
  clear hr0 h hc0
  go_enter Try.func80, Try.ntmps80
  go_wp2
  go_loopw [7] (fun i w' => ∃ j : Nat, i = .int .i64 j ∧ Aside0 (j ≤ l0.length) ∧ Aside0 (repL (l0.take j) (l0.drop j) = r) ∧ Aside0 (Below w.heap.size w w')) (fun i _ => l0.length - (intOf i).toNat)
  case atStart => exact ⟨0, rfl, ⟨Nat.zero_le _⟩, ⟨H.out⟩, ⟨Below.refl _ _⟩⟩
  case round =>
    obtain ⟨j, rfl, HJ, HI, HB⟩ := hrel
    by_cases hlt : j < l0.length
    · obtain ⟨ad, A1, c1, e, hx0, hx1, hl1, hk1⟩ := at_T81 (Kd.C_below HR.out HB.out) (j : Int) (by omega) (by omega)
      cases e
      have hrd : rd_T81 l0 (j : Int) = l0[j] := by simp [rd_T81, hlt]
      rw [hrd] at hx0 hx1 hl1 hk1
      have HI2 := Aside0.mk ((repL_step hlt).symm.trans HI.out)
      have HTK := Aside0.mk (show Kd.C k81 wr (some ad) (l0.take j).length (l0.take j) from Kd.C_take (Kd.C_below HR.out HB.out) (m := j) (by omega))
      have HLT := Aside0.mk (show (l0.take j).length = j from by rw [List.length_take, Nat.min_eq_left (by omega)])
      clear hrd
      generalize l0[j] = x at *
      generalize l0.take j = pj at *
      simp only [Int.toNat_natCast] at hx0 hx1
      have hlt' : decide ((j : Int) < (l0.length : Int)) = true := by simp; omega
      have hj0 : (0 : Int) ≤ (j : Int) := by omega
      have hj1 : j ≤ l0.length := by omega
      have hj2 : j ≤ c0 := by have := HC.out; omega
      have CF : ∀ (W : World), W.heap[wr.heap.size]? = some (.cells #[.int .i64 x.f0, .slice A1 x.f1.length c1] 81 (0, 0)) → Below wr.heap.size wr W → Calls Try.prog 101 #[.slice (some ad) j c0, .func (.func 103) #[] #[.pointer (some ⟨wr.heap.size, 0, none⟩)]] W fun e w' => e = .returned (.bool (pj.any (fun y => x.f0 == y.f0))) ∧ Below W.heap.size W w' := by
        intro W hW hb
        have := ContainsFuncSub_any 103 _ Try.func103 (by kernel_rfl) rfl #[.pointer (some ⟨wr.heap.size, 0, none⟩)] (fun y => some (x.f0 == y.f0)) W ⟨fun y A2 c2 b W2 hb2 _ _ he => by obtain rfl := Option.some.inj he; exact repeated_closure x y _ wr.heap.size A2 c2 W2 (blk_below hW hb2)⟩ (some ad) c0 pj _ (Kd.C_below HTK.out hb) (by rw [HLT.out]; exact hj2) (idx_any x.f0 pj 0 (Int.le_refl 0))
        rw [HLT.out] at this
        exact this
      have CF := Aside0.mk CF
      cases ca : pj.any (fun y => x.f0 == y.f0) with
      | true =>
        have HI3 := HI2.out
        rw [if_pos ca] at HI3
        subst HI3
        rw [ca] at CF
        go_wp2_with (go_at_call 101; (with_reducible refine (CF.out _ (alloc_at2 wr _) (below_alloc (Below.refl _ _) _)).mono ?_); rintro e w4 ⟨rfl, hb4⟩; have HB4 := Aside0.mk (below_then (below_alloc HB.out _) (Nat.le_trans HB.out.size (below_alloc (Below.refl _ _) _).size) hb4); clear hb4)
        go_ret
        exact ⟨rfl, HB4.out⟩
      | false =>
        have HI3 := HI2.out
        rw [if_neg (by rw [ca]; decide)] at HI3
        have HI3 := Aside0.mk HI3
        rw [ca] at CF
        go_wp2_with (go_at_call 101; (with_reducible refine (CF.out _ (alloc_at2 wr _) (below_alloc (Below.refl _ _) _)).mono ?_); rintro e w4 ⟨rfl, hb4⟩; have HB4 := Aside0.mk (below_then (below_alloc HB.out _) (Nat.le_trans HB.out.size (below_alloc (Below.refl _ _) _).size) hb4); clear hb4)
        go_roundw
        case rel => exact ⟨j + 1, by rw [wrap_succ hlt HM.out], ⟨by omega⟩, ⟨HI3.out⟩, ⟨HB4.out⟩⟩
        case measure => rw [wrap_succ hlt HM.out]; simp only [intOf, Int.toNat_natCast]; omega
    have hlt' : decide ((j : Int) < (l0.length : Int)) = false := by simp; omega
    have hI := HI.out
    rw [List.drop_eq_nil_of_le (by omega), repL] at hI
    subst hI
    go_wp2
    go_ret
    exact ⟨rfl, HB.out⟩
end Go.Proofs.Ytehkhbnhmehobaa.P
namespace Go.Proofs.Ytehkhbnhmehobaa.P
open Go.RowKit Go.Proofs.YtehkhbnhmehobaaW.PrintWords Go.Proofs.YtehkhbnhmehobaaW.PrintLast Go.Proofs.YtehkhbnhmehobaaW.PrintMore
attribute [local go_sem] max2_int min2_int max_two min_two max_three min_three max_four min_four
set_option linter.unusedVariables false
set_option linter.unusedSimpArgs false
def subprogram_Split.l0 : Nat → List (S32) → List (S32) → List (S81) → Option ((List (S32)) × (List (S81)) × Int)
 | 0, _, _, _ => none
 | k + 1, x6, x466000, x466001 => if (x6.length : Int) > 0 then (if 0 < (x6.length : Int) then ((subprogram_beginning.f ((rd_T32 x6 0).f0) ((rd_T32 x6 0).f1) ((rd_T32 x6 0).f2)).bind fun bt472 => ((IndexFunc_back.f k x6).bind fun t474 => (if bt472.2 = true then (if t474 < 0 then (some (([] : List (S32)), ([] : List (S81)), 1)) else (if 1 ≤ t474 then (if t474 ≤ (x6.length : Int) then ((Clone_Block.f ((x6.take (t474 : Int).toNat).drop 1)).bind fun t480 => (if x466001.length < 4398046511104 then (if 0 ≤ (wrap64 (t474 + 1)) then (if (wrap64 (t474 + 1)) ≤ (x6.length : Int) then (subprogram_Split.l0 k (x6.drop ((wrap64 (t474 + 1)) : Int).toNat) x466000 (x466001 ++ [(⟨bt472.1, t480⟩ : S81)])) else (none)) else (none)) else (none))) else (none)) else (none))) else (some (([] : List (S32)), ([] : List (S81)), 1))))) else (none)) else ((subprogram_ordered.f k x466000 x466001).bind fun t491 => (if t491 = true then ((subprogram_repeated.f x466001).bind fun t492 => (if t492 = true then (some (([] : List (S32)), ([] : List (S81)), 5)) else (some (x466000, x466001, 0)))) else (some (([] : List (S32)), ([] : List (S81)), 1))))
def subprogram_Split.f (k : Nat) (l0 : List (S32)) : Option ((List (S32)) × (List (S81)) × Int) := (IndexFunc_end.f k l0).bind fun t456 => (if t456 < 0 then (some (([] : List (S32)), ([] : List (S81)), 1)) else (if 0 ≤ (wrap64 (t456 + 1)) then (if (wrap64 (t456 + 1)) ≤ (l0.length : Int) then ((Clone_Block.f (l0.take ((wrap64 (t456 + 1)) : Int).toNat)).bind fun t462 => (subprogram_Split.l0 k (l0.drop ((wrap64 (t456 + 1)) : Int).toNat) t462 ([] : List (S81)))) else (none)) else (none)))
def subprogram_Split.T11 : Bool × List (List Nat × List Nat) := (true, [([], []), ([0], [0]), ([], []), ([], []), ([], []), ([3, 4], [3, 4]), ([5], [5]), ([2, 6], [2, 6]), ([7], [7]), ([1, 8, 6], [1, 8]), ([0, 1, 2, 3, 4, 5, 6, 7, 8, 9], []), ([10, 9, 9, 0, 1, 2, 3, 4, 5, 6, 7, 8, 9], [9, 10])])
def subprogram_Split.B11 : List Nat := [0, 1, 0, 0, 0, 24, 56, 124, 252, 511, 1023, 2047]
theorem subprogram_Split.tab11 : rtab .any (opsOf Try.f45 11) = subprogram_Split.T11 := by kernel_rfl
theorem subprogram_Split.bits11 : waitsOk subprogram_Split.T11.2 subprogram_Split.B11 = true := by kernel_rfl
set_option maxHeartbeats 8000000 in
set_option maxRecDepth 100000 in
theorem subprogram_Split.calls (k : Nat) (P0_ : Nat → Prop) (A0 : Option Addr) (c0 : Nat) (l0 : List (S32)) (r1 : List (S32)) (r2 : List (S81)) (r3 : Int) (w : World) (hs0 : Kd.V k32 32 w w.heap.size (fun k_ => P0_ k_) (.slice A0 l0.length c0) l0) (h : subprogram_Split.f k l0 = some (r1, r2, r3)) :
  Calls Try.prog 45 #[.slice A0 l0.length c0] w fun e w' => ∃ v0_ v1_ : Value, e = .returned (.tuple #[.agg #[v0_, v1_], .int .i64 r3]) ∧ Kd.N k32 32 w' w.heap.size (fun k_ => (P0_ k_ ∨ w.heap.size ≤ k_) ∧ some k_ ≠ (v1_ : Value).ownBlock) v0_ r1 ∧ Kd.N k81 81 w' w.heap.size (fun k_ => (P0_ k_ ∨ w.heap.size ≤ k_) ∧ some k_ ≠ (v0_ : Value).ownBlock) v1_ r2 ∧ Below w.heap.size w w' := by
 have hu54 := Try.underlying54
 have hu32 := Try.underlying32
 have hu81 := Try.underlying81
 have HO0 := Aside0.mk (show Kd.V k32 32 w w.heap.size (fun k_ => (P0_ k_ ∨ w.heap.size ≤ k_)) (.slice A0 l0.length c0) l0 from Kd.V_mono hs0 (fun k_ hk => .inl hk))
 have HB := Aside0.mk (Below.refl w.heap.size w)
 have H : ((IndexFunc_end.f k l0).bind fun t456 => (if t456 < 0 then (some (([] : List (S32)), ([] : List (S81)), 1)) else (if 0 ≤ (wrap64 (t456 + 1)) then (if (wrap64 (t456 + 1)) ≤ (l0.length : Int) then ((Clone_Block.f (l0.take ((wrap64 (t456 + 1)) : Int).toNat)).bind fun t462 => (subprogram_Split.l0 k (l0.drop ((wrap64 (t456 + 1)) : Int).toNat) t462 ([] : List (S81)))) else (none)) else (none)))) = some (r1, r2, r3) := h
 clear h
 replace H := Option.bind_eq_some_iff.mp H
 obtain ⟨t456, A20, H⟩ := H
 have A2 := Aside0.mk A20
 clear A20
 by_cases c3 : t456 < 0
 ·rw [if_pos c3] at H
  have c3b0 := decide_eq_true c3
  clear c3
  simp only [Option.some.injEq, Prod.mk.injEq] at H
  obtain ⟨rfl, rfl, rfl⟩ := H
  go_enter Try.func45, Try.ntmps45
  go_wp2_with (first | ((with_reducible refine gate_dst (N := 2) rfl ?_); refine yX 2 #[.slice none 0 0, .slice none 0 0] 54 ?_; intro gb455 hg w4 hbox hb; replace HO0 := Aside0.mk (Kd.V_below (Kd.V_elderB (yV HO0.out) gb455 (Nat.le_of_eq hg.symm)) hb); have BK455 := Aside0.mk (hbox); have GW455 := Aside0.mk ((yG hg : w.heap.size ≤ gb455)); have GE455 := Aside0.mk ((yG hg : w.heap.size ≤ gb455)); replace HB := Aside0.mk (below_step yB hb); clear hb hbox hg) | ((with_reducible refine gate_callee (f := 73) rfl ?_); refine goesL_ (some 11) rfl rfl Try.func73 (by kernel_rfl) rfl #[.slice A0 l0.length c0, .func (.func 75) #[] #[]] rfl yQ ?_; (with_reducible refine (IndexFunc_end.calls k _ _ l0  t456 _ ?side1 ?side2 A2.out).mono ?_); (case side1 => repeat (first | exact (Kd.V_reads' HO0.out).2.2 | (with_reducible refine Kd.C_alloc ?_ _) | (with_reducible refine Kd.C_drewN ?_ _) | (with_reducible refine Kd.C_drew ?_))); (case side2 => exact (Kd.V_reads' HO0.out).2.1); rintro e w5 ⟨rfl, hb⟩; refine ⟨_, rfl, ?_⟩; replace HO0 := Aside0.mk (Kd.V_below (yV HO0.out) hb); replace BK455 := Aside0.mk (blk_below (g := gb455) yK hb); replace HB := Aside0.mk (below_step yB hb); (try clear hb); have hcz6_0 := yZ0 BK455.out; have hcz6_1 := yZ1 BK455.out; have hfz6_0 := blk_frozen BK455.out 0; have hfz6_1 := blk_frozen BK455.out 1))
  refine bodyPost_ret (results_ct rfl _ _ gb455 54 #[.slice none 0 0, .slice none 0 0] (0, 0) _ rfl (by refine yH ?_; refine blk_put (cs := #[.slice none 0 0, .slice none 0 0]) ?_ 1 _ rfl; refine yH ?_; refine blk_put (cs := #[.slice none 0 0, .slice none 0 0]) ?_ 0 _ rfl; refine yH ?_; exact BK455.out) Try.underlying54 rfl (by kernel_rfl)) rfl ?_
  exact ⟨_, _, yE, by first | exact Kd.S_nil _ _ _ _ _ | exact Kd.N_nil _ _ _ _ _ | exact Kd.V_nil _ _ _ _ _ | exact Kd.Q_nil _ _ _ _ _ | exact Kd.R_nil _ _ _ _ _, by first | exact Kd.R_nil _ _ _ _ _ | exact Kd.N_nil _ _ _ _ _ | exact Kd.V_nil _ _ _ _ _ | exact Kd.Q_nil _ _ _ _ _ | exact Kd.S_nil _ _ _ _ _, yB⟩
 rw [if_neg c3] at H
 have c3b0 := decide_eq_false c3
 clear c3
 obtain ⟨ji7, hji7⟩ : ∃ j_ : Int, (wrap64 (t456 + 1)) = j_ := ⟨_, rfl⟩
 replace H : (if 0 ≤ (ji7) then (if (ji7) ≤ (l0.length : Int) then ((Clone_Block.f (l0.take ((ji7) : Int).toNat)).bind fun t462 => (subprogram_Split.l0 k (l0.drop ((ji7) : Int).toNat) t462 ([] : List (S81)))) else (none)) else (none)) = some (r1, r2, r3) := by first | (rw [hji7] at H; exact H) | (simp only [hji7] at H ⊢; exact H)
 (try rw [hji7] at A2)
 have hji7w : (IntKind.i64.wrap (t456 + 1)) = ji7 := (i64_w _).trans hji7
 by_cases c8 : 0 ≤ (ji7)
 ·rw [if_pos c8] at H
  have c8b0 := eq_true c8
  have c8b1 := decide_eq_true c8
  clear c8
  by_cases c9 : (ji7) ≤ (l0.length : Int)
  ·rw [if_pos c9] at H
   have c9b0 := eq_true c9
   have c9b1 := decide_eq_true c9
   clear c9
   obtain ⟨y457, hy457⟩ : ∃ y_ : List (S32), y_ = (l0.take ((ji7) : Int).toNat) := ⟨_, rfl⟩
   replace H : ((Clone_Block.f y457).bind fun t462 => (subprogram_Split.l0 k (l0.drop ((ji7) : Int).toNat) t462 ([] : List (S81)))) = some (r1, r2, r3) := by first | (rw [hy457]; with_reducible exact H) | (have H2_ := (Option.bind_some _ _).symm.trans H; rw [hy457]; with_reducible exact H2_) | (have H2_ := (Option.bind_some _ _).symm.trans H; with_reducible exact H2_) | with_reducible exact H | (rw [hy457]; exact H) | exact H
   have Ny457 := Aside0.mk hy457
   clear hy457
   replace H := Option.bind_eq_some_iff.mp H
   obtain ⟨t462, A100, H⟩ := H
   have A10 := Aside0.mk A100
   clear A100
   have c11b0 := eq_true (yD : 0 ≤ (ji7))
   have c12b0 := eq_true (yD : (ji7) ≤ (l0.length : Int))
   obtain ⟨y466, hy466⟩ : ∃ y_ : List (S32), y_ = (l0.drop ((ji7) : Int).toNat) := ⟨_, rfl⟩
   replace H : (subprogram_Split.l0 k y466 t462 ([] : List (S81))) = some (r1, r2, r3) := by first | (rw [hy466]; with_reducible exact H) | (have H2_ := (Option.bind_some _ _).symm.trans H; rw [hy466]; with_reducible exact H2_) | (have H2_ := (Option.bind_some _ _).symm.trans H; with_reducible exact H2_) | with_reducible exact H | (rw [hy466]; exact H) | exact H
   have Ny466 := Aside0.mk hy466
   clear hy466
   have H' := Aside0.mk H
   clear H
   go_enter Try.func45, Try.ntmps45
   go_wp2_with (first | ((with_reducible refine gate_dst (N := 2) rfl ?_); refine yX 2 #[.slice none 0 0, .slice none 0 0] 54 ?_; intro gb455 hg w13 hbox hb; replace HO0 := Aside0.mk (Kd.V_below (Kd.V_elderB (yV HO0.out) gb455 (Nat.le_of_eq hg.symm)) hb); have BK455 := Aside0.mk (hbox); have GW455 := Aside0.mk ((yG hg : w.heap.size ≤ gb455)); have GE455 := Aside0.mk ((yG hg : w.heap.size ≤ gb455)); replace HB := Aside0.mk (below_step yB hb); clear hb hbox hg) | ((with_reducible refine gate_callee (f := 73) rfl ?_); refine goesL_ (some 11) rfl rfl Try.func73 (by kernel_rfl) rfl #[.slice A0 l0.length c0, .func (.func 75) #[] #[]] rfl yQ ?_; (with_reducible refine (IndexFunc_end.calls k _ _ l0  t456 _ ?side1 ?side2 A2.out).mono ?_); (case side1 => repeat (first | exact (Kd.V_reads' HO0.out).2.2 | (with_reducible refine Kd.C_alloc ?_ _) | (with_reducible refine Kd.C_drewN ?_ _) | (with_reducible refine Kd.C_drew ?_))); (case side2 => exact (Kd.V_reads' HO0.out).2.1); rintro e w14 ⟨rfl, hb⟩; refine ⟨_, rfl, ?_⟩; replace HO0 := Aside0.mk (Kd.V_below (yV HO0.out) hb); replace BK455 := Aside0.mk (blk_below (g := gb455) yK hb); replace HB := Aside0.mk (below_step yB hb); (try clear hb); have q15 : ((ji7) : Int) ≤ ((l0.length : Int) : Int) := yD; obtain ⟨i015, hi015, _, hsz15, _⟩ := info_parts info32; have hroom15 : l0.length ≤ c0 := (Kd.V_reads' HO0.out).2.1; have hC15 : Kd.F k32 _ _ A0 l0.length l0 := (Kd.V_at (base := w.heap.size) HO0.out).2.2; have hcut15 := cut_to (P := Try.prog) 35 32 .i64 Try.underlying35 hi015 A0 l0.length c0 (ji7) (yD) q15 hroom15; have hr15 := Kd.F_take (m := ((ji7) : Int).toNat) hC15 (by omega); have hy15 : y457.length = ((ji7) : Int).toNat := (by rw [Ny457.out, List.length_take]; omega); rw [← Ny457.out] at hr15; rw [← hy15] at hcut15; have HO461 := Aside0.mk (show Kd.V k32 32 _ w.heap.size _ (.slice A0 y457.length c0) y457 from Kd.V_mk (by omega) hr15); have HC461 := Aside0.mk (show y457.length ≤ c0 from by omega); clear hr15 hC15 hroom15 hi015 hsz15; have KY15 := Aside0.mk hy15; clear hy15; replace q15 := eq_true q15) | ((with_reducible refine gate_callee (f := 33) rfl ?_); refine goesL_ (some 19) rfl rfl Try.func33 (by kernel_rfl) rfl #[.slice A0 y457.length c0] rfl yQ ?_; (with_reducible refine (Clone_Block.calls (fun k_ => ((P0_ k_ ∨ w.heap.size ≤ k_) ∧ k_ ≠ gb455)) _ _ y457 t462 _ ?side1 A10.out).mono ?_); (case side1 => exact HO461.out); rintro e w16 ⟨v463, rfl, ho0, hb⟩; refine ⟨_, rfl, ?_⟩; replace HO0 := Aside0.mk (Kd.V_elder' (yV HO0.out) (by first | exact Kd.N_base ho0 | exact Kd.S_base ho0) hb); replace HO461 := Aside0.mk (Kd.V_elder' (yV HO461.out) (by first | exact Kd.N_base ho0 | exact Kd.S_base ho0) hb); have HO464 := Aside0.mk (Kd.N_lower (Kd.N_mono (ok' := fun k_ => (P0_ k_ ∨ w.heap.size ≤ k_) ∧ k_ ≠ gb455) ho0 (fun k_ hk_ => ⟨Or.elim hk_ (fun hs_ => hs_.1) (fun hn_ => (.inr (Nat.le_trans (below_size yB) hn_))), Or.elim hk_ (fun hs_ => hs_.2) (fun hn_ => (Kd.freshB (g := gb455) yK k_ hn_))⟩)) (below_size yB)); replace BK455 := Aside0.mk (blk_below (g := gb455) yK hb); replace HB := Aside0.mk (below_step yB hb); (try clear hb); (try clear ho0); obtain ⟨Ao17, co17, eo17⟩ := Kd.N_slice HO464.out; subst eo17) | ((with_reducible refine gate_dst (N := 5) rfl ?_); refine yX 5 #[.slice none 0 0, .slice none 0 0] 54 ?_; intro gb465 hg w18 hbox hb; replace HO0 := Aside0.mk (Kd.V_below (Kd.V_elderB (yV HO0.out) gb465 (Nat.le_of_eq hg.symm)) hb); replace HO461 := Aside0.mk (Kd.V_below (Kd.V_elderB (yV HO461.out) gb465 (Nat.le_of_eq hg.symm)) hb); replace HO464 := Aside0.mk (Kd.N_below (Kd.N_elderB (yN HO464.out) gb465 (Nat.le_of_eq hg.symm)) hb); have BK465 := Aside0.mk (hbox); have GE465 := Aside0.mk ((yG hg : w.heap.size ≤ gb465)); replace HB := Aside0.mk (below_step yB hb); have NB455_465 := Aside0.mk ((yJ hg yK : gb455 ≠ gb465)); have NB465_455 := Aside0.mk ((yI hg yK : gb465 ≠ gb455)); replace BK455 := Aside0.mk (blk_below (g := gb455) yK hb); clear hb hbox hg; have hnb19 := NB465_455.out; have hnc19 := NB455_465.out; have hcz20_0 := yZ0 BK465.out; have hcz20_1 := yZ1 BK465.out; have hfz20_0 := blk_frozen BK465.out 0; have hfz20_1 := blk_frozen BK465.out 1) | ((with_reducible refine gate_store (t := 54) (p := 5) rfl ?_); refine store_event (t := 54) (p := 5) (v := ?vo_w21) (w1 := ((w18.setCell ⟨gb465, 0, none⟩ (.slice Ao17 t462.length co17)).setCell ⟨gb465, 1, none⟩ (.slice none 0 0))) ?hg ?ho ?hn ?hr ?_; (case ho => rfl); (case hg => rfl); (case hn => rfl); (case hr => first | (go_simp; done) | (go_simp; rfl)); intro w21 hw; have n0_ : Aside0 (Kd.V k32 32 w21 w.heap.size (fun k_ => (P0_ k_ ∨ w.heap.size ≤ k_) ∧ some k_ ≠ (.slice Ao17 t462.length co17 : Value).ownBlock ∧ k_ ≠ gb455 ∧ k_ ≠ gb465) (.slice A0 l0.length c0) l0) := ⟨(by rw [hw]; exact (yV (Kd.V_mono (Kd.V_far (p := ⟨gb465, 1, none⟩) (Kd.V_far (p := ⟨gb465, 0, none⟩) (Kd.V_mono HO0.out (fun k_ hk => (⟨hk, hk.2⟩ : _ ∧ k_ ≠ gb465))) (fun _ hk => hk.2) (.slice Ao17 t462.length co17)) (fun _ hk => hk.2) (.slice none 0 0)) (fun _ hk => ⟨hk.1.1.1.1, ⟨hk.1.1.2, ⟨hk.1.1.1.2, hk.1.2⟩⟩⟩))))⟩; have n1_ : Aside0 (Kd.V k32 32 w21 w.heap.size (fun k_ => (P0_ k_ ∨ w.heap.size ≤ k_) ∧ some k_ ≠ (.slice Ao17 t462.length co17 : Value).ownBlock ∧ k_ ≠ gb455 ∧ k_ ≠ gb465) (.slice A0 y457.length c0) y457) := ⟨(by rw [hw]; exact (yV (Kd.V_mono (Kd.V_far (p := ⟨gb465, 1, none⟩) (Kd.V_far (p := ⟨gb465, 0, none⟩) (Kd.V_mono HO461.out (fun k_ hk => (⟨hk, hk.2⟩ : _ ∧ k_ ≠ gb465))) (fun _ hk => hk.2) (.slice Ao17 t462.length co17)) (fun _ hk => hk.2) (.slice none 0 0)) (fun _ hk => ⟨hk.1.1.1.1, ⟨hk.1.1.2, ⟨hk.1.1.1.2, hk.1.2⟩⟩⟩))))⟩; have n2_ : Aside0 (Kd.N k32 32 w21 w.heap.size (fun k_ => (P0_ k_ ∨ w.heap.size ≤ k_) ∧ k_ ≠ gb455 ∧ k_ ≠ gb465) (.slice Ao17 t462.length co17) t462) := ⟨(by rw [hw]; exact (yN (Kd.N_mono (Kd.N_far (p := ⟨gb465, 1, none⟩) (Kd.N_far (p := ⟨gb465, 0, none⟩) (Kd.N_mono HO464.out (fun k_ hk => (⟨hk, hk.2⟩ : _ ∧ k_ ≠ gb465))) (fun _ hk => hk.2) (.slice Ao17 t462.length co17)) (fun _ hk => hk.2) (.slice none 0 0)) (fun _ hk => ⟨hk.1.1.1, ⟨hk.1.1.2, hk.1.2⟩⟩))))⟩; have n3_ : Aside0 (w21.heap[gb455]? = some (.cells #[.slice none 0 0, .slice none 0 0] 54 (0, 0))) := ⟨(by rw [hw]; exact (by refine yH ?_; refine blk_far ?_ NB455_465.out _; refine yH ?_; refine blk_far ?_ NB455_465.out _; refine yH ?_; exact BK455.out))⟩; have n4_ : Aside0 (w21.heap[gb465]? = some (.cells #[.slice Ao17 t462.length co17, .slice none 0 0] 54 (0, 0))) := ⟨(by rw [hw]; exact (by refine yH ?_; refine blk_put (cs := #[.slice Ao17 t462.length co17, .slice none 0 0]) ?_ 1 _ rfl; refine yH ?_; refine blk_put (cs := #[.slice none 0 0, .slice none 0 0]) ?_ 0 _ rfl; refine yH ?_; exact BK465.out))⟩; have n5_ : Aside0 (Below w.heap.size w w21) := ⟨(by rw [hw]; exact yB)⟩; clear hw; clear HO0; clear HO461; clear HO464; clear BK455; clear BK465; clear HB; have HO0 := n0_; have HO461 := n1_; have HO464 := n2_; have BK455 := n3_; have BK465 := n4_; have HB := n5_; clear n0_ n1_ n2_ n3_ n4_ n5_; have q22 : ((ji7) : Int) ≤ ((l0.length : Int) : Int) := yD; obtain ⟨i022, hi022, _, hsz22, _⟩ := info_parts info32; have hroom22 : l0.length ≤ c0 := (Kd.V_reads' HO0.out).2.1; have hC22 : Kd.F k32 _ _ A0 l0.length l0 := (Kd.V_at (base := w.heap.size) HO0.out).2.2; have q022 : (0 : Int) ≤ ((ji7) : Int) := yD; have hcut22 := cut_from (P := Try.prog) 35 32 .i64 Try.underlying35 hi022 3 hsz22 A0 l0.length c0 (ji7) q022 q22; have hr22 := Kd.F_cut (m := ((ji7) : Int).toNat) (c := c0) hC22 (by omega) hroom22; obtain ⟨A22, hA22⟩ : ∃ A1, A1 = (if c0 = ((ji7) : Int).toNat then A0 else (A0 : Option Addr).map (·.add (((ji7) : Int).toNat * 3))) := ⟨_, rfl⟩; obtain ⟨c22, hc22⟩ : ∃ c1, c1 = c0 - ((ji7) : Int).toNat := ⟨_, rfl⟩; have hy22 : y466.length = l0.length - ((ji7) : Int).toNat := (by rw [Ny466.out, List.length_drop] <;> omega); rw [show (l0).drop ((ji7) : Int).toNat = y466 from Ny466.out.symm] at hr22; replace hr22 : Kd.F k32 _ _ A22 y466.length y466 := (by rw [hA22]; exact hr22); rw [← hy22, ← hA22, ← hc22] at hcut22; have HO470 := Aside0.mk (show Kd.V k32 32 _ w.heap.size _ (.slice A22 y466.length c22) y466 from Kd.V_mk (by rw [hy22, hc22]; exact Nat.sub_le_sub_right hroom22 _) hr22); have HC470 := Aside0.mk (show y466.length ≤ c22 from by rw [hy22, hc22]; exact Nat.sub_le_sub_right hroom22 _); clear hr22 hC22 hroom22 hi022 hsz22 hc22; have KY22 := Aside0.mk hy22; have KA22 := Aside0.mk hA22; clear hy22 hA22; replace q22 := eq_true q22))
   go_loopg [6] k (fun kq v6 w' => ∃ (x6_1 : List (S32)) (x466001_1 : List (S81)) (u466001 : Value), Aside0 (subprogram_Split.l0 kq x6_1 t462 x466001_1 = some (r1, r2, r3)) ∧ Aside0 (kq ≤ k) ∧ Aside0 (Kd.V k32 32 w' w.heap.size (fun k_ => (P0_ k_ ∨ w.heap.size ≤ k_) ∧ some k_ ≠ ((.slice Ao17 t462.length co17) : Value).ownBlock ∧ some k_ ≠ (u466001 : Value).ownBlock ∧ k_ ≠ gb455 ∧ k_ ≠ gb465) v6 x6_1) ∧ Aside0 (Kd.N k32 32 w' w.heap.size (fun k_ => (P0_ k_ ∨ w.heap.size ≤ k_) ∧ some k_ ≠ (u466001 : Value).ownBlock ∧ k_ ≠ gb455 ∧ k_ ≠ gb465) (.slice Ao17 t462.length co17) t462) ∧ Aside0 (Kd.N k81 81 w' w.heap.size (fun k_ => (P0_ k_ ∨ w.heap.size ≤ k_) ∧ some k_ ≠ ((.slice Ao17 t462.length co17) : Value).ownBlock ∧ k_ ≠ gb455 ∧ k_ ≠ gb465) u466001 x466001_1) ∧ Aside0 (w'.heap[gb455]? = some (.cells #[(.slice none 0 0), (.slice none 0 0)] 54 (0, 0))) ∧ Aside0 (w'.heap[gb465]? = some (.cells #[(.slice Ao17 t462.length co17), u466001] 54 (0, 0))) ∧ Aside0 (Below w.heap.size w w'))
   case atStart => exact ⟨(y466), (([] : List (S81))), (.slice none 0 0), H', ⟨Nat.le_refl _⟩, ⟨by refine yV ?_; exact Kd.V_mono HO470.out (fun _ hk => ⟨hk.1, ⟨hk.2.1, ⟨(by simp [Value.ownBlock]), ⟨hk.2.2.1, hk.2.2.2⟩⟩⟩⟩)⟩, ⟨by refine yN ?_; exact Kd.N_mono HO464.out (fun _ hk => ⟨hk.1, ⟨(by simp [Value.ownBlock]), ⟨hk.2.1, hk.2.2⟩⟩⟩)⟩, ⟨by first | exact Kd.R_nil _ _ _ _ _ | exact Kd.N_nil _ _ _ _ _ | exact Kd.V_nil _ _ _ _ _ | exact Kd.Q_nil _ _ _ _ _ | exact Kd.S_nil _ _ _ _ _⟩, ⟨by refine yH ?_; exact BK455.out⟩, ⟨by refine yH ?_; exact BK465.out⟩, ⟨yB⟩⟩
   case round =>
    clear H'
    try clear c1
    try clear q1
    try clear c2
    try clear p2
    try clear q2
    try clear c3
    try clear c3b0
    try clear c4
    try clear p6
    try clear c7
    try clear c8
    try clear c8b0
    try clear c8b1
    try clear c9
    try clear c9b0
    try clear c9b1
    try clear c11
    try clear c11b0
    try clear c12
    try clear c12b0
    try clear q15
    try clear c19
    try clear c22
    try clear q22
    try clear hcz20_0
    try clear hcz20_1
    try clear hcz6_0
    try clear hcz6_1
    try clear hfz20_0
    try clear hfz20_1
    try clear hfz6_0
    try clear hfz6_1
    try clear q022
    try clear q15
    try clear q22
    obtain ⟨x6_1, x466001_1, u466001, HA, HK1, HO_6, HO_466000, HO_466001, BK455, BK465, HB⟩ := hrel
    cases gk with
    | zero => exact absurd HA.out (by simp [subprogram_Split.l0])
    | succ k1 =>
     have H := HA.out
     clear HA
     simp only [subprogram_Split.l0] at H
     by_cases c23 : (x6_1.length : Int) > 0
     ·rw [if_pos c23] at H
      have c23b0 := decide_eq_true c23
      have c23b1 : decide (0 < x6_1.length) = true := decide_eq_true (by omega)
      clear c23
      by_cases c24 : 0 < (x6_1.length : Int)
      ·rw [if_pos c24] at H
       have c24b0 := decide_eq_true c24
       have c24b1 : decide (0 < x6_1.length) = true := decide_eq_true (by omega)
       clear c24
       replace H := Option.bind_eq_some_iff.mp H
       obtain ⟨⟨t472, t473⟩, A250, H⟩ := H
       have A25 := Aside0.mk A250
       clear A250
       replace H := Option.bind_eq_some_iff.mp H
       obtain ⟨t474, A260, H⟩ := H
       have A26 := Aside0.mk A260
       clear A260
       by_cases c27 : t473 = true
       ·subst c27
        rw [if_pos rfl] at H
        by_cases c28 : t474 < 0
        ·rw [if_pos c28] at H
         have c28b0 := decide_eq_true c28
         clear c28
         simp only [Option.some.injEq, Prod.mk.injEq] at H
         obtain ⟨rfl, rfl, rfl⟩ := H
         obtain ⟨Ao29, co29, eo29⟩ := Kd.V_slice HO_6.out
         subst eo29
         have p471 : 0 ≤ (0 : Int) := (by omega)
         have q471 : 0 < (x6_1.length : Int) := yD
         obtain ⟨ad471, A471_1, c471_1, e471, hx471_0, hx471_1, hx471_2, hl471_1, hi471_1⟩ := at_T32 (Kd.V_reads' HO_6.out).2.2 0 p471 q471
         cases e471
         obtain ⟨ce471, hce471, hMe471, hcc471⟩ := Kd.V_get HO_6.out z32 0 p471 (by first | exact q471 | exact yD | (have e_ := (Kd.V_reads' HO_6.out).1; omega))
         obtain ⟨ua471_1, uc471_1, rfl, ul471_1, ge471_1⟩ := k32_openF hMe471
         have hv471_1 := hcc471 1 _ rfl
         rw [add_field _ _ 1 (by omega)] at hv471_1
         replace hv471_1 := Option.some.inj (hv471_1.symm.trans hx471_1)
         injection hv471_1 with hva_ hvn_ hvc_
         rw [hva_] at ge471_1
         rw [hvc_] at ul471_1
         have HL471_1 := Aside0.mk (show Kd.V k78 78 _ w.heap.size _ _ ((rd_T32 x6_1 0).f1) from Kd.V_mk ul471_1 ge471_1)
         clear hva_ hvn_ hvc_ ge471_1 ul471_1
         clear hcc471 hce471
         have qi471 : (0 < x6_1.length) = True := eq_true (by omega)
         (try rw [show ((0 : Int)).toNat = 0 from rfl] at hx471_0)
         (try rw [show 0 * 3 = 0 from rfl] at hx471_0)
         (try rw [Addr.add_zero'] at hx471_0)
         (try rw [show ((0 : Int)).toNat = 0 from rfl] at hx471_1)
         (try rw [show 0 * 3 = 0 from rfl] at hx471_1)
         (try rw [Addr.add_zero'] at hx471_1)
         (try rw [show ((0 : Int)).toNat = 0 from rfl] at hx471_2)
         (try rw [show 0 * 3 = 0 from rfl] at hx471_2)
         (try rw [Addr.add_zero'] at hx471_2)
         have HR471_1 := Aside0.mk hi471_1
         have HC471_1 := Aside0.mk hl471_1
         clear hi471_1 hl471_1
         replace p471 := eq_true p471
         replace q471 := eq_true q471
         go_wp2_with (first | ((with_reducible refine gate_callee (f := 76) rfl ?_); refine goesL_ (some 32) rfl rfl Try.func76 (by kernel_rfl) rfl #[.agg #[.bool ((rd_T32 x6_1 0).f0), .slice A471_1 ((rd_T32 x6_1 0).f1).length c471_1, .string ((rd_T32 x6_1 0).f2)]] rfl yQ ?_; (with_reducible refine (subprogram_beginning.calls ((rd_T32 x6_1 0).f0) _ _ ((rd_T32 x6_1 0).f1) ((rd_T32 x6_1 0).f2) t472 true _ ?side1 ?side2 A25.out).mono ?_); (case side1 => repeat (first | exact (by repeat (first | (with_reducible exact HR471_1.out) | (with_reducible refine Kd.C_alloc ?_ _) | (with_reducible refine Kd.C_drewN ?_ _) | (with_reducible refine Kd.C_drew ?_) | exact HR471_1.out)) | (with_reducible refine Kd.C_alloc ?_ _) | (with_reducible refine Kd.C_drewN ?_ _) | (with_reducible refine Kd.C_drew ?_))); (case side2 => exact HC471_1.out); rintro e w30 ⟨rfl, hb⟩; refine ⟨_, rfl, ?_⟩; replace HO_6 := Aside0.mk (Kd.V_below (yV HO_6.out) hb); replace HO_466000 := Aside0.mk (Kd.N_below (yN HO_466000.out) hb); replace HO_466001 := Aside0.mk (Kd.N_below (yN HO_466001.out) hb); replace HL471_1 := Aside0.mk (Kd.V_below (yV HL471_1.out) hb); replace BK455 := Aside0.mk (blk_below (g := gb455) yK hb); replace BK465 := Aside0.mk (blk_below (g := gb465) yK hb); replace HR471_1 := Aside0.mk (Kd.C_below (by repeat (first | (with_reducible exact HR471_1.out) | (with_reducible refine Kd.C_alloc ?_ _) | (with_reducible refine Kd.C_drewN ?_ _) | (with_reducible refine Kd.C_drew ?_) | exact HR471_1.out)) hb); replace HB := Aside0.mk (below_step yB hb); (try clear hb)) | ((with_reducible refine gate_callee (f := 73) rfl ?_); refine goesL_ (some 36) rfl rfl Try.func73 (by kernel_rfl) rfl #[.slice (some ad471) x6_1.length co29, .func (.func 77) #[] #[]] rfl yQ ?_; (with_reducible refine (IndexFunc_back.calls k1 _ _ x6_1  t474 _ ?side1 ?side2 A26.out).mono ?_); (case side1 => repeat (first | exact (Kd.V_reads' HO_6.out).2.2 | (with_reducible refine Kd.C_alloc ?_ _) | (with_reducible refine Kd.C_drewN ?_ _) | (with_reducible refine Kd.C_drew ?_))); (case side2 => exact (Kd.V_reads' HO_6.out).2.1); rintro e w31 ⟨rfl, hb⟩; refine ⟨_, rfl, ?_⟩; replace HO_6 := Aside0.mk (Kd.V_below (yV HO_6.out) hb); replace HO_466000 := Aside0.mk (Kd.N_below (yN HO_466000.out) hb); replace HO_466001 := Aside0.mk (Kd.N_below (yN HO_466001.out) hb); replace HL471_1 := Aside0.mk (Kd.V_below (yV HL471_1.out) hb); replace BK455 := Aside0.mk (blk_below (g := gb455) yK hb); replace BK465 := Aside0.mk (blk_below (g := gb465) yK hb); replace HR471_1 := Aside0.mk (Kd.C_below (by repeat (first | (with_reducible exact HR471_1.out) | (with_reducible refine Kd.C_alloc ?_ _) | (with_reducible refine Kd.C_drewN ?_ _) | (with_reducible refine Kd.C_drew ?_) | exact HR471_1.out)) hb); replace HB := Aside0.mk (below_step yB hb); (try clear hb); have hnb32 := NB455_465.out; have hnc32 := NB465_455.out; have hcz33_0 := yZ0 BK455.out; have hcz33_1 := yZ1 BK455.out; have hfz33_0 := blk_frozen BK455.out 0; have hfz33_1 := blk_frozen BK455.out 1))
         refine bodyPost_ret (results_ct rfl _ _ gb455 54 #[.slice none 0 0, .slice none 0 0] (0, 0) _ rfl (by refine yH ?_; refine blk_put (cs := #[.slice none 0 0, .slice none 0 0]) ?_ 1 _ rfl; refine yH ?_; refine blk_put (cs := #[.slice none 0 0, .slice none 0 0]) ?_ 0 _ rfl; refine yH ?_; exact BK455.out) Try.underlying54 rfl (by kernel_rfl)) rfl ?_
         exact ⟨_, _, by first | rfl | (simp [errW_none, errW_some] <;> rfl) | (simp only [← hji7]; first | rfl | (simp [errW_none, errW_some] <;> rfl)) | (simp [*, errW_none, errW_some] <;> rfl), by first | exact Kd.S_nil _ _ _ _ _ | exact Kd.N_nil _ _ _ _ _ | exact Kd.V_nil _ _ _ _ _ | exact Kd.Q_nil _ _ _ _ _ | exact Kd.R_nil _ _ _ _ _, by first | exact Kd.R_nil _ _ _ _ _ | exact Kd.N_nil _ _ _ _ _ | exact Kd.V_nil _ _ _ _ _ | exact Kd.Q_nil _ _ _ _ _ | exact Kd.S_nil _ _ _ _ _, yB⟩
        rw [if_neg c28] at H
        have c28b0 := decide_eq_false c28
        clear c28
        by_cases c34 : 1 ≤ t474
        ·rw [if_pos c34] at H
         have c34b0 := eq_true c34
         have c34b1 := decide_eq_true c34
         clear c34
         by_cases c35 : t474 ≤ (x6_1.length : Int)
         ·rw [if_pos c35] at H
          have c35b0 := eq_true c35
          have c35b1 := decide_eq_true c35
          clear c35
          obtain ⟨y475, hy475⟩ : ∃ y_ : List (S32), y_ = ((x6_1.take (t474 : Int).toNat).drop 1) := ⟨_, rfl⟩
          replace H : ((Clone_Block.f y475).bind fun t480 => (if x466001_1.length < 4398046511104 then (if 0 ≤ (wrap64 (t474 + 1)) then (if (wrap64 (t474 + 1)) ≤ (x6_1.length : Int) then (subprogram_Split.l0 k1 (x6_1.drop ((wrap64 (t474 + 1)) : Int).toNat) t462 (x466001_1 ++ [(⟨t472, t480⟩ : S81)])) else (none)) else (none)) else (none))) = some (r1, r2, r3) := by first | (rw [hy475]; with_reducible exact H) | (have H2_ := (Option.bind_some _ _).symm.trans H; rw [hy475]; with_reducible exact H2_) | (have H2_ := (Option.bind_some _ _).symm.trans H; with_reducible exact H2_) | with_reducible exact H | (rw [hy475]; exact H) | exact H
          have Ny475 := Aside0.mk hy475
          clear hy475
          replace H := Option.bind_eq_some_iff.mp H
          obtain ⟨t480, A360, H⟩ := H
          have A36 := Aside0.mk A360
          clear A360
          by_cases c37 : x466001_1.length < 4398046511104
          ·rw [if_pos c37] at H
           have LMc37 := Aside0.mk c37
           clear c37
           obtain ⟨y483, hy483⟩ : ∃ y_ : List (S81), y_ = (x466001_1 ++ [(⟨t472, t480⟩ : S81)]) := ⟨_, rfl⟩
           replace H : (if 0 ≤ (wrap64 (t474 + 1)) then (if (wrap64 (t474 + 1)) ≤ (x6_1.length : Int) then (subprogram_Split.l0 k1 (x6_1.drop ((wrap64 (t474 + 1)) : Int).toNat) t462 y483) else (none)) else (none)) = some (r1, r2, r3) := by first | (rw [hy483]; with_reducible exact H) | (have H2_ := (Option.bind_some _ _).symm.trans H; rw [hy483]; with_reducible exact H2_) | (have H2_ := (Option.bind_some _ _).symm.trans H; with_reducible exact H2_) | with_reducible exact H | (rw [hy483]; exact H) | exact H
           have Ny483 := Aside0.mk hy483
           clear hy483
           obtain ⟨ji38, hji38⟩ : ∃ j_ : Int, (wrap64 (t474 + 1)) = j_ := ⟨_, rfl⟩
           replace H : (if 0 ≤ (ji38) then (if (ji38) ≤ (x6_1.length : Int) then (subprogram_Split.l0 k1 (x6_1.drop ((ji38) : Int).toNat) t462 y483) else (none)) else (none)) = some (r1, r2, r3) := by first | (rw [hji38] at H; exact H) | (simp only [hji38] at H ⊢; exact H)
           (try rw [hji38] at A25)
           (try rw [hji38] at A26)
           (try rw [hji38] at A36)
           have hji38w : (IntKind.i64.wrap (t474 + 1)) = ji38 := (i64_w _).trans hji38
           by_cases c39 : 0 ≤ (ji38)
           ·rw [if_pos c39] at H
            have c39b0 := eq_true c39
            have c39b1 := decide_eq_true c39
            clear c39
            by_cases c40 : (ji38) ≤ (x6_1.length : Int)
            ·rw [if_pos c40] at H
             have c40b0 := eq_true c40
             have c40b1 := decide_eq_true c40
             clear c40
             obtain ⟨y486, hy486⟩ : ∃ y_ : List (S32), y_ = (x6_1.drop ((ji38) : Int).toNat) := ⟨_, rfl⟩
             replace H : (subprogram_Split.l0 k1 y486 t462 y483) = some (r1, r2, r3) := by first | (rw [hy486]; with_reducible exact H) | (have H2_ := (Option.bind_some _ _).symm.trans H; rw [hy486]; with_reducible exact H2_) | (have H2_ := (Option.bind_some _ _).symm.trans H; with_reducible exact H2_) | with_reducible exact H | (rw [hy486]; exact H) | exact H
             have Ny486 := Aside0.mk hy486
             clear hy486
             have H' := Aside0.mk H
             clear H
             obtain ⟨Ao41, co41, eo41⟩ := Kd.V_slice HO_6.out
             subst eo41
             have p471 : 0 ≤ (0 : Int) := (by omega)
             have q471 : 0 < (x6_1.length : Int) := yD
             obtain ⟨ad471, A471_1, c471_1, e471, hx471_0, hx471_1, hx471_2, hl471_1, hi471_1⟩ := at_T32 (Kd.V_reads' HO_6.out).2.2 0 p471 q471
             cases e471
             obtain ⟨ce471, hce471, hMe471, hcc471⟩ := Kd.V_get HO_6.out z32 0 p471 (by first | exact q471 | exact yD | (have e_ := (Kd.V_reads' HO_6.out).1; omega))
             obtain ⟨ua471_1, uc471_1, rfl, ul471_1, ge471_1⟩ := k32_openF hMe471
             have hv471_1 := hcc471 1 _ rfl
             rw [add_field _ _ 1 (by omega)] at hv471_1
             replace hv471_1 := Option.some.inj (hv471_1.symm.trans hx471_1)
             injection hv471_1 with hva_ hvn_ hvc_
             rw [hva_] at ge471_1
             rw [hvc_] at ul471_1
             have HL471_1 := Aside0.mk (show Kd.V k78 78 _ w.heap.size _ _ ((rd_T32 x6_1 0).f1) from Kd.V_mk ul471_1 ge471_1)
             clear hva_ hvn_ hvc_ ge471_1 ul471_1
             clear hcc471 hce471
             have qi471 : (0 < x6_1.length) = True := eq_true (by omega)
             (try rw [show ((0 : Int)).toNat = 0 from rfl] at hx471_0)
             (try rw [show 0 * 3 = 0 from rfl] at hx471_0)
             (try rw [Addr.add_zero'] at hx471_0)
             (try rw [show ((0 : Int)).toNat = 0 from rfl] at hx471_1)
             (try rw [show 0 * 3 = 0 from rfl] at hx471_1)
             (try rw [Addr.add_zero'] at hx471_1)
             (try rw [show ((0 : Int)).toNat = 0 from rfl] at hx471_2)
             (try rw [show 0 * 3 = 0 from rfl] at hx471_2)
             (try rw [Addr.add_zero'] at hx471_2)
             have HR471_1 := Aside0.mk hi471_1
             have HC471_1 := Aside0.mk hl471_1
             clear hi471_1 hl471_1
             replace p471 := eq_true p471
             replace q471 := eq_true q471
             try go_wp2_with (first | ((with_reducible refine gate_callee (f := 76) rfl ?_); refine goesL_ (some 32) rfl rfl Try.func76 (by kernel_rfl) rfl #[.agg #[.bool ((rd_T32 x6_1 0).f0), .slice A471_1 ((rd_T32 x6_1 0).f1).length c471_1, .string ((rd_T32 x6_1 0).f2)]] rfl yQ ?_; (with_reducible refine (subprogram_beginning.calls ((rd_T32 x6_1 0).f0) _ _ ((rd_T32 x6_1 0).f1) ((rd_T32 x6_1 0).f2) t472 true _ ?side1 ?side2 A25.out).mono ?_); (case side1 => repeat (first | exact (by repeat (first | (with_reducible exact HR471_1.out) | (with_reducible refine Kd.C_alloc ?_ _) | (with_reducible refine Kd.C_drewN ?_ _) | (with_reducible refine Kd.C_drew ?_) | exact HR471_1.out)) | (with_reducible refine Kd.C_alloc ?_ _) | (with_reducible refine Kd.C_drewN ?_ _) | (with_reducible refine Kd.C_drew ?_))); (case side2 => exact HC471_1.out); rintro e w42 ⟨rfl, hb⟩; refine ⟨_, rfl, ?_⟩; replace HO_6 := Aside0.mk (Kd.V_below (yV HO_6.out) hb); replace HO_466000 := Aside0.mk (Kd.N_below (yN HO_466000.out) hb); replace HO_466001 := Aside0.mk (Kd.N_below (yN HO_466001.out) hb); replace HL471_1 := Aside0.mk (Kd.V_below (yV HL471_1.out) hb); replace BK455 := Aside0.mk (blk_below (g := gb455) yK hb); replace BK465 := Aside0.mk (blk_below (g := gb465) yK hb); replace HR471_1 := Aside0.mk (Kd.C_below (by repeat (first | (with_reducible exact HR471_1.out) | (with_reducible refine Kd.C_alloc ?_ _) | (with_reducible refine Kd.C_drewN ?_ _) | (with_reducible refine Kd.C_drew ?_) | exact HR471_1.out)) hb); replace HB := Aside0.mk (below_step yB hb); (try clear hb)) | ((with_reducible refine gate_callee (f := 73) rfl ?_); refine goesL_ (some 36) rfl rfl Try.func73 (by kernel_rfl) rfl #[.slice (some ad471) x6_1.length co41, .func (.func 77) #[] #[]] rfl yQ ?_; (with_reducible refine (IndexFunc_back.calls k1 _ _ x6_1  t474 _ ?side1 ?side2 A26.out).mono ?_); (case side1 => repeat (first | exact (Kd.V_reads' HO_6.out).2.2 | (with_reducible refine Kd.C_alloc ?_ _) | (with_reducible refine Kd.C_drewN ?_ _) | (with_reducible refine Kd.C_drew ?_))); (case side2 => exact (Kd.V_reads' HO_6.out).2.1); rintro e w43 ⟨rfl, hb⟩; refine ⟨_, rfl, ?_⟩; replace HO_6 := Aside0.mk (Kd.V_below (yV HO_6.out) hb); replace HO_466000 := Aside0.mk (Kd.N_below (yN HO_466000.out) hb); replace HO_466001 := Aside0.mk (Kd.N_below (yN HO_466001.out) hb); replace HL471_1 := Aside0.mk (Kd.V_below (yV HL471_1.out) hb); replace BK455 := Aside0.mk (blk_below (g := gb455) yK hb); replace BK465 := Aside0.mk (blk_below (g := gb465) yK hb); replace HR471_1 := Aside0.mk (Kd.C_below (by repeat (first | (with_reducible exact HR471_1.out) | (with_reducible refine Kd.C_alloc ?_ _) | (with_reducible refine Kd.C_drewN ?_ _) | (with_reducible refine Kd.C_drew ?_) | exact HR471_1.out)) hb); replace HB := Aside0.mk (below_step yB hb); (try clear hb)))
             replace HO_6 := Aside0.mk (Kd.V_drew HO_6.out)
             replace HO_466000 := Aside0.mk (Kd.N_drew HO_466000.out)
             replace HO_466001 := Aside0.mk (Kd.N_drew HO_466001.out)
             replace HL471_1 := Aside0.mk (Kd.V_drew HL471_1.out)
             replace BK455 := Aside0.mk (blk_drew BK455.out)
             replace BK465 := Aside0.mk (blk_drew BK465.out)
             replace HR471_1 := Aside0.mk (Kd.C_drew HR471_1.out)
             replace HB := Aside0.mk (below_drew1 HB.out)
             have q45 : (t474 : Int) ≤ ((x6_1.length : Int) : Int) := yD
             obtain ⟨i045, hi045, _, hsz45, _⟩ := info_parts info32
             have hroom45 : x6_1.length ≤ co41 := (Kd.V_reads' HO_6.out).2.1
             have hC45 : Kd.F k32 _ _ (some ad471) x6_1.length x6_1 := (Kd.V_at (base := w.heap.size) HO_6.out).2.2
             have ql45 : (1 : Int) ≤ (t474 : Int) := yD
             have hcut45 := cut_mid (P := Try.prog) 35 32 .i64 .i64 Try.underlying35 hi045 3 hsz45 (some ad471) x6_1.length co41 1 t474 (by omega) ql45 q45 hroom45
             have hr45 := Kd.F_mid (lo := (1 : Int).toNat) (hi := (t474 : Int).toNat) (c := co41) hC45 (by omega) (by omega) hroom45
             obtain ⟨A45, hA45⟩ : ∃ A1, A1 = (if co41 = (1 : Int).toNat then (some ad471) else ((some ad471) : Option Addr).map (·.add ((1 : Int).toNat * 3))) := ⟨_, rfl⟩
             obtain ⟨c45, hc45⟩ : ∃ c1, c1 = co41 - (1 : Int).toNat := ⟨_, rfl⟩
             have hy45 : y475.length = (t474 : Int).toNat - (1 : Int).toNat := (by rw [Ny475.out, List.length_drop, List.length_take] <;> omega)
             rw [show ((x6_1).take (t474 : Int).toNat).drop (1 : Int).toNat = y475 from Ny475.out.symm] at hr45
             replace hr45 : Kd.F k32 _ _ A45 y475.length y475 := (by rw [hA45]; exact hr45)
             rw [← hy45, ← hA45, ← hc45] at hcut45
             have HO479 := Aside0.mk (show Kd.V k32 32 _ w.heap.size _ (.slice A45 y475.length c45) y475 from Kd.V_mk (by rw [hy45, hc45]; exact Nat.sub_le_sub_right (Nat.le_trans (by omega) hroom45) _) hr45)
             have HC479 := Aside0.mk (show y475.length ≤ c45 from by rw [hy45, hc45]; exact Nat.sub_le_sub_right (Nat.le_trans (by omega) hroom45) _)
             clear hr45 hC45 hroom45 hi045 hsz45 hc45
             have KY45 := Aside0.mk hy45
             have KA45 := Aside0.mk hA45
             clear hy45 hA45
             replace q45 := eq_true q45
             refine start_ (n := 12) (S := fun w' => w'.cell? ⟨gb465, 0, none⟩ = some (.slice Ao17 t462.length co17) ∧ w'.cell? ⟨gb465, 1, none⟩ = some (u466001)) (ds := [11]) #[false, false, false, false, false, false, false, false, false, false, false, false] (by kernel_rfl) rfl rfl ⟨(blk_cell BK465.out 0).trans rfl, (blk_cell BK465.out 1).trans rfl⟩ (fun hHeld => ?_); refine with_tabW subprogram_Split.tab11 subprogram_Split.bits11 (fun HT_ HW_ => ?_)
             generalize w43.drew = w44 at HO_6 HO_466000 HO_466001 HL471_1 BK455 BK465 HR471_1 HB HO479 hHeld ⊢
             refine yp 0 44 ?_
             refine yp 2 46 ?_
             refine yp 3 47 ?_
             refine yp 4 48 ?_
             refine yp 5 49 ?_
             refine yt 1 45 hHeld ?_
             refine yo 6 (some 50) (fun K hK => ?_)
             refine goes_ Try.func33 (by kernel_rfl) rfl #[.slice A45 y475.length c45] (by rfl) rfl rfl yQ ?_
             with_reducible refine (Clone_Block.calls (fun k_ => ((P0_ k_ ∨ w.heap.size ≤ k_) ∧ (some k_ ≠ (.slice Ao17 t462.length co17 : Value).ownBlock ∧ (some k_ ≠ (u466001 : Value).ownBlock ∧ (k_ ≠ gb455 ∧ k_ ≠ gb465))))) _ _ y475 t480 _ ?side1 A36.out).mono ?_
             (case side1 => exact HO479.out)
             rintro e w46 ⟨v481, rfl, ho0, hb⟩
             refine ⟨_, rfl, ?_⟩
             replace HO_6 := Aside0.mk (Kd.V_elder' (yV HO_6.out) (by first | exact Kd.N_base ho0 | exact Kd.S_base ho0) hb)
             replace HL471_1 := Aside0.mk (Kd.V_elder' (yV HL471_1.out) (by first | exact Kd.N_base ho0 | exact Kd.S_base ho0) hb)
             replace HO479 := Aside0.mk (Kd.V_elder' (yV HO479.out) (by first | exact Kd.N_base ho0 | exact Kd.S_base ho0) hb)
             have HO482 := Aside0.mk (Kd.N_lower (Kd.N_mono (ok' := fun k_ => (P0_ k_ ∨ w.heap.size ≤ k_) ∧ some k_ ≠ (.slice Ao17 t462.length co17 : Value).ownBlock ∧ some k_ ≠ (u466001 : Value).ownBlock ∧ k_ ≠ gb455 ∧ k_ ≠ gb465) ho0 (fun k_ hk_ => ⟨Or.elim hk_ (fun hs_ => hs_.1) (fun hn_ => (.inr (Nat.le_trans (below_size yB) hn_))), Or.elim hk_ (fun hs_ => hs_.2.1) (fun hn_ => (Kd.fresh' (Kd.N_lt (yN HO_466000.out)) k_ hn_)), Or.elim hk_ (fun hs_ => hs_.2.2.1) (fun hn_ => (Kd.fresh' (Kd.N_lt (yN HO_466001.out)) k_ hn_)), Or.elim hk_ (fun hs_ => hs_.2.2.2.1) (fun hn_ => (Kd.freshB (g := gb455) yK k_ hn_)), Or.elim hk_ (fun hs_ => hs_.2.2.2.2) (fun hn_ => (Kd.freshB (g := gb465) yK k_ hn_))⟩)) (below_size yB))
             replace HO_466000 := Aside0.mk (Kd.N_elder' (yN HO_466000.out) (by first | exact Kd.N_base ho0 | exact Kd.S_base ho0) hb)
             replace HO_466001 := Aside0.mk (Kd.N_elder' (yN HO_466001.out) (by first | exact Kd.N_base ho0 | exact Kd.S_base ho0) hb)
             replace BK455 := Aside0.mk (blk_below (g := gb455) yK hb)
             replace BK465 := Aside0.mk (blk_below (g := gb465) yK hb)
             replace HR471_1 := Aside0.mk (Kd.C_below (by repeat (first | (with_reducible exact HR471_1.out) | (with_reducible refine Kd.C_alloc ?_ _) | (with_reducible refine Kd.C_drewN ?_ _) | (with_reducible refine Kd.C_drew ?_) | exact HR471_1.out)) hb)
             replace HB := Aside0.mk (below_step yB hb)
             (try clear hb)
             (try clear ho0)
             obtain ⟨Ao47, co47, eo47⟩ := Kd.N_slice HO482.out
             (first | subst eo47 | (injection eo47 with f1_ f2_ f3_; have f4_ := f1_.symm; have f5_ := f3_.symm; clear f1_ f2_ f3_; subst f4_; subst f5_))
             refine hK.out _ _ ⟨(blk_cell BK465.out 0).trans rfl, (blk_cell BK465.out 1).trans rfl⟩ (fun hHeld => ?_)
             clear hK K
             refine yn 50 ?_
             refine yp 7 51 ?_
             refine yo 8 (some 52) (fun K hK => ?_)
             refine value_ (w1 := ?_) (v := ?_) (by rfl) rfl ?_ ?_
             rotate_left 2
             ·go_simp
              constructor
              ·rfl
              rfl
             refine hK.out _ _ ⟨(blk_cell (blk_alloc BK465.out _) 0).trans rfl, (blk_cell (blk_alloc BK465.out _) 1).trans rfl⟩ (fun hHeld => ?_)
             clear hK K
             refine yn 52 ?_
             refine yo 9 (some 53) (fun K hK => ?_)
             refine Kd.N_append_step k81 (w0 := w) w.heap.size (by rfl) (.tmp 45) (.tmp 52) 52 81 (.agg #[(.int .i64 0), (.slice none 0 0)]) 32 rfl Try.underlying52 info81 rfl (by decide) (by omega) u466001 x466001_1 (⟨t472, t480⟩ : S81) [.int .i64 t472, .slice Ao47 t480.length co47] (fun k_ => (P0_ k_ ∨ w.heap.size ≤ k_) ∧ some k_ ≠ (.slice Ao17 t462.length co17 : Value).ownBlock ∧ k_ ≠ gb455 ∧ k_ ≠ gb465) (fun k_ => ((fun k_ => (P0_ k_ ∨ w.heap.size ≤ k_) ∧ some k_ ≠ (.slice Ao17 t462.length co17 : Value).ownBlock ∧ k_ ≠ gb455 ∧ k_ ≠ gb465)) k_ ∧ some k_ ≠ (u466001 : Value).ownBlock) rfl rfl ?aP (fun _ hk => hk) ?aF ?aO ?aB ?aS ?aL ?_
             (case aP => exact (k81_mkF _ _ (⟨t472, t480⟩ : S81) (Kd.N_reads' (Kd.N_mono (ok' := (fun k_ => ((fun k_ => (P0_ k_ ∨ w.heap.size ≤ k_) ∧ some k_ ≠ (.slice Ao17 t462.length co17 : Value).ownBlock ∧ k_ ≠ gb455 ∧ k_ ≠ gb465)) k_ ∧ some k_ ≠ (u466001 : Value).ownBlock)) (HO482.out) (fun k_ hk => ⟨⟨hk.1, ⟨hk.2.1, ⟨hk.2.2.2.1, hk.2.2.2.2⟩⟩⟩, hk.2.2.1⟩))).2.1 (Kd.N_F (Kd.N_mono (ok' := (fun k_ => ((fun k_ => (P0_ k_ ∨ w.heap.size ≤ k_) ∧ some k_ ≠ (.slice Ao17 t462.length co17 : Value).ownBlock ∧ k_ ≠ gb455 ∧ k_ ≠ gb465)) k_ ∧ some k_ ≠ (u466001 : Value).ownBlock)) (HO482.out) (fun k_ hk => ⟨⟨hk.1, ⟨hk.2.1, ⟨hk.2.2.2.1, hk.2.2.2.2⟩⟩⟩, hk.2.2.1⟩)))))
             (case aB => exact yB)
             (case aF => exact (fun k_ hk => ⟨(.inr (Nat.le_trans (below_size yB) hk)), Kd.fresh' (Kd.N_lt (yN HO_466000.out)) k_ hk, Kd.freshB (g := gb455) yK k_ hk, Kd.freshB (g := gb465) yK k_ hk⟩))
             (case aO => exact (yN (Kd.N_mono HO_466001.out (fun _ hk => ⟨hk.1.1, ⟨hk.1.2.1, ⟨hk.1.2.2.1, hk.1.2.2.2⟩⟩⟩))))
             (case aS => exact (below_size yB))
             (case aL => have := LMc37.out; omega)
             intro v484 w48 ho hb hg hat
             rw [← Ny483.out] at ho
             have n0_ := Aside0.mk (Kd.V_afterv (ok := (fun k_ => (P0_ k_ ∨ w.heap.size ≤ k_) ∧ some k_ ≠ (.slice Ao17 t462.length co17 : Value).ownBlock ∧ some k_ ≠ (.slice Ao47 t480.length co47 : Value).ownBlock ∧ k_ ≠ gb455 ∧ k_ ≠ gb465)) (yV (Kd.V_mono HO_6.out (fun _ hk => ⟨⟨hk.1.1, ⟨hk.1.2.1, ⟨hk.2, ⟨hk.1.2.2.2.1, hk.1.2.2.2.2⟩⟩⟩⟩, hk.1.2.2.1⟩))) hg hat)
             have n1_ := Aside0.mk (Kd.N_afterv (ok := (fun k_ => (P0_ k_ ∨ w.heap.size ≤ k_) ∧ some k_ ≠ (.slice Ao47 t480.length co47 : Value).ownBlock ∧ k_ ≠ gb455 ∧ k_ ≠ gb465)) (yN (Kd.N_mono HO_466000.out (fun _ hk => ⟨⟨hk.1.1, ⟨hk.2, ⟨hk.1.2.2.1, hk.1.2.2.2⟩⟩⟩, hk.1.2.1⟩))) hg hat)
             have n2_ := Aside0.mk (blk_grown (g := gb455) yK hg (Kd.N_ne HO_466001.out BK455.out (by decide)))
             have n3_ := Aside0.mk (blk_grown (g := gb465) yK hg (Kd.N_ne HO_466001.out BK465.out (by decide)))
             have n4_ := Aside0.mk (Kd.V_afterv (ok := (fun k_ => (P0_ k_ ∨ w.heap.size ≤ k_) ∧ some k_ ≠ (.slice Ao17 t462.length co17 : Value).ownBlock ∧ some k_ ≠ (.slice Ao47 t480.length co47 : Value).ownBlock ∧ k_ ≠ gb455 ∧ k_ ≠ gb465)) (yV (Kd.V_mono HL471_1.out (fun _ hk => ⟨⟨hk.1.1, ⟨hk.1.2.1, ⟨hk.2, ⟨hk.1.2.2.2.1, hk.1.2.2.2.2⟩⟩⟩⟩, hk.1.2.2.1⟩))) hg hat)
             have n5_ := Aside0.mk (Kd.V_afterv (ok := (fun k_ => (P0_ k_ ∨ w.heap.size ≤ k_) ∧ some k_ ≠ (.slice Ao17 t462.length co17 : Value).ownBlock ∧ some k_ ≠ (.slice Ao47 t480.length co47 : Value).ownBlock ∧ k_ ≠ gb455 ∧ k_ ≠ gb465)) (yV (Kd.V_mono HO479.out (fun _ hk => ⟨⟨hk.1.1, ⟨hk.1.2.1, ⟨hk.2, ⟨hk.1.2.2.2.1, hk.1.2.2.2.2⟩⟩⟩⟩, hk.1.2.2.1⟩))) hg hat)
             have n6_ := Aside0.mk (hb)
             have n7_ := Aside0.mk (ho)
             clear HO_6
             clear HO_466000
             clear BK455
             clear BK465
             clear HL471_1
             clear HO479
             clear HB
             clear HO_466001
             clear HO482
             have HO_6 := n0_
             have HO_466000 := n1_
             have BK455 := n2_
             have BK465 := n3_
             have HL471_1 := n4_
             have HO479 := n5_
             have HB := n6_
             have HO485 := n7_
             clear n0_ n1_ n2_ n3_ n4_ n5_ n6_ n7_
             clear ho hb hg hat
             obtain ⟨Ao49, co49, eo49⟩ := Kd.N_slice HO485.out
             (first | subst eo49 | (injection eo49 with f1_ f2_ f3_; have f4_ := f1_.symm; have f5_ := f3_.symm; clear f1_ f2_ f3_; subst f4_; subst f5_))
             refine hK.out _ _ ⟨(blk_cell BK465.out 0).trans rfl, (blk_cell BK465.out 1).trans rfl⟩ (fun hHeld => ?_)
             clear hK K
             refine yn 53 ?_
             refine yp 10 54 ?_
             refine last_ (i := 11) (N := none) #[true, true, true, true, true, true, true, true, true, true, true, true] rfl rfl (one_of HT_.out (by kernel_rfl)) (by decide) (fun K hK => ?_)
             have hs50 : w48.cell? ⟨gb465, 1, none⟩ = some (u466001) := (blk_cell BK465.out 1).trans rfl
             have hfs50 := blk_frozen BK465.out 1
             have hns50_0 := NB455_465.out
             have hms50_0 := NB465_455.out
             refine skip_ (w1 := ?_) (by rfl) rfl ?_ ?_
             rotate_left
             ·go_simp
              rfl
             refine hK.out _ _ ?_
             clear hK K
             refine done_ (done_of HT_.out (by kernel_rfl)) ?_
             have n0_ : Aside0 (Kd.V k32 32 (w48.setCell ⟨gb465, 1, none⟩ (.slice Ao49 y483.length co49)) w.heap.size (fun k_ => (P0_ k_ ∨ w.heap.size ≤ k_) ∧ some k_ ≠ (.slice Ao17 t462.length co17 : Value).ownBlock ∧ some k_ ≠ (.slice Ao49 y483.length co49 : Value).ownBlock ∧ k_ ≠ gb455 ∧ k_ ≠ gb465) (.slice (some ad471) x6_1.length co41) x6_1) := ⟨by refine yV ?_; exact Kd.V_mono (Kd.V_far (p := ⟨gb465, 1, none⟩) (Kd.V_mono HO_6.out (fun k_ hk => (⟨hk, hk.1.2.2.2.2⟩ : _ ∧ k_ ≠ gb465))) (fun _ hk => hk.2) (.slice Ao49 y483.length co49)) (fun _ hk => ⟨hk.1.1.1, ⟨hk.1.1.2.1, ⟨hk.1.2, ⟨hk.1.1.2.2.2.1, hk.1.1.2.2.2.2⟩⟩⟩⟩)⟩
             have n1_ : Aside0 (Kd.N k32 32 (w48.setCell ⟨gb465, 1, none⟩ (.slice Ao49 y483.length co49)) w.heap.size (fun k_ => (P0_ k_ ∨ w.heap.size ≤ k_) ∧ some k_ ≠ (.slice Ao49 y483.length co49 : Value).ownBlock ∧ k_ ≠ gb455 ∧ k_ ≠ gb465) (.slice Ao17 t462.length co17) t462) := ⟨by refine yN ?_; exact Kd.N_mono (Kd.N_far (p := ⟨gb465, 1, none⟩) (Kd.N_mono HO_466000.out (fun k_ hk => (⟨hk, hk.1.2.2.2⟩ : _ ∧ k_ ≠ gb465))) (fun _ hk => hk.2) (.slice Ao49 y483.length co49)) (fun _ hk => ⟨hk.1.1.1, ⟨hk.1.2, ⟨hk.1.1.2.2.1, hk.1.1.2.2.2⟩⟩⟩)⟩
             have n2_ : Aside0 (Kd.V k78 78 (w48.setCell ⟨gb465, 1, none⟩ (.slice Ao49 y483.length co49)) w.heap.size (fun k_ => (P0_ k_ ∨ w.heap.size ≤ k_) ∧ some k_ ≠ (.slice Ao17 t462.length co17 : Value).ownBlock ∧ some k_ ≠ (.slice Ao49 y483.length co49 : Value).ownBlock ∧ k_ ≠ gb455 ∧ k_ ≠ gb465) (.slice A471_1 ((rd_T32 x6_1 0).f1).length c471_1) ((rd_T32 x6_1 0).f1)) := ⟨by refine yV ?_; exact Kd.V_mono (Kd.V_far (p := ⟨gb465, 1, none⟩) (Kd.V_mono HL471_1.out (fun k_ hk => (⟨hk, hk.1.2.2.2.2⟩ : _ ∧ k_ ≠ gb465))) (fun _ hk => hk.2) (.slice Ao49 y483.length co49)) (fun _ hk => ⟨hk.1.1.1, ⟨hk.1.1.2.1, ⟨hk.1.2, ⟨hk.1.1.2.2.2.1, hk.1.1.2.2.2.2⟩⟩⟩⟩)⟩
             have n3_ : Aside0 (Kd.V k32 32 (w48.setCell ⟨gb465, 1, none⟩ (.slice Ao49 y483.length co49)) w.heap.size (fun k_ => (P0_ k_ ∨ w.heap.size ≤ k_) ∧ some k_ ≠ (.slice Ao17 t462.length co17 : Value).ownBlock ∧ some k_ ≠ (.slice Ao49 y483.length co49 : Value).ownBlock ∧ k_ ≠ gb455 ∧ k_ ≠ gb465) (.slice A45 y475.length c45) y475) := ⟨by refine yV ?_; exact Kd.V_mono (Kd.V_far (p := ⟨gb465, 1, none⟩) (Kd.V_mono HO479.out (fun k_ hk => (⟨hk, hk.1.2.2.2.2⟩ : _ ∧ k_ ≠ gb465))) (fun _ hk => hk.2) (.slice Ao49 y483.length co49)) (fun _ hk => ⟨hk.1.1.1, ⟨hk.1.1.2.1, ⟨hk.1.2, ⟨hk.1.1.2.2.2.1, hk.1.1.2.2.2.2⟩⟩⟩⟩)⟩
             have n4_ : Aside0 (Kd.N k81 81 (w48.setCell ⟨gb465, 1, none⟩ (.slice Ao49 y483.length co49)) w.heap.size (fun k_ => (P0_ k_ ∨ w.heap.size ≤ k_) ∧ some k_ ≠ (.slice Ao17 t462.length co17 : Value).ownBlock ∧ k_ ≠ gb455 ∧ k_ ≠ gb465) (.slice Ao49 y483.length co49) y483) := ⟨by refine yN ?_; exact Kd.N_mono (Kd.N_far (p := ⟨gb465, 1, none⟩) (Kd.N_mono HO485.out (fun k_ hk => (⟨hk, hk.2.2.2⟩ : _ ∧ k_ ≠ gb465))) (fun _ hk => hk.2) (.slice Ao49 y483.length co49)) (fun _ hk => ⟨hk.1.1, ⟨hk.1.2.1, ⟨hk.1.2.2.1, hk.1.2.2.2⟩⟩⟩)⟩
             have n5_ : Aside0 ((w48.setCell ⟨gb465, 1, none⟩ (.slice Ao49 y483.length co49)).heap[gb455]? = some (.cells #[.slice none 0 0, .slice none 0 0] 54 (0, 0))) := ⟨by refine yH ?_; refine blk_far ?_ NB455_465.out _; refine yH ?_; exact BK455.out⟩
             have n6_ : Aside0 ((w48.setCell ⟨gb465, 1, none⟩ (.slice Ao49 y483.length co49)).heap[gb465]? = some (.cells #[.slice Ao17 t462.length co17, .slice Ao49 y483.length co49] 54 (0, 0))) := ⟨by refine yH ?_; refine blk_put (cs := #[.slice Ao17 t462.length co17, u466001]) ?_ 1 _ rfl; refine yH ?_; exact BK465.out⟩
             have n7_ : Aside0 (Below w.heap.size w (w48.setCell ⟨gb465, 1, none⟩ (.slice Ao49 y483.length co49))) := ⟨yB⟩
             (try clear HO_6)
             (try clear HO_466000)
             (try clear HL471_1)
             (try clear HO479)
             (try clear HO485)
             (try clear BK455)
             (try clear BK465)
             (try clear HB)
             generalize (w48.setCell ⟨gb465, 1, none⟩ (.slice Ao49 y483.length co49)) = w51 at n0_ n1_ n2_ n3_ n4_ n5_ n6_ n7_ ⊢
             have HO_6 := n0_
             have HO_466000 := n1_
             have HL471_1 := n2_
             have HO479 := n3_
             have HO485 := n4_
             have BK455 := n5_
             have BK465 := n6_
             have HB := n7_
             clear n0_ n1_ n2_ n3_ n4_ n5_ n6_ n7_
             have q52 : ((ji38) : Int) ≤ ((x6_1.length : Int) : Int) := yD
             obtain ⟨i052, hi052, _, hsz52, _⟩ := info_parts info32
             have hroom52 : x6_1.length ≤ co41 := (Kd.V_reads' HO_6.out).2.1
             have hC52 : Kd.F k32 _ _ (some ad471) x6_1.length x6_1 := (Kd.V_at (base := w.heap.size) HO_6.out).2.2
             have q052 : (0 : Int) ≤ ((ji38) : Int) := yD
             have hcut52 := cut_from (P := Try.prog) 35 32 .i64 Try.underlying35 hi052 3 hsz52 (some ad471) x6_1.length co41 (ji38) q052 q52
             have hr52 := Kd.F_cut (m := ((ji38) : Int).toNat) (c := co41) hC52 (by omega) hroom52
             obtain ⟨A52, hA52⟩ : ∃ A1, A1 = (if co41 = ((ji38) : Int).toNat then (some ad471) else ((some ad471) : Option Addr).map (·.add (((ji38) : Int).toNat * 3))) := ⟨_, rfl⟩
             obtain ⟨c52, hc52⟩ : ∃ c1, c1 = co41 - ((ji38) : Int).toNat := ⟨_, rfl⟩
             have hy52 : y486.length = x6_1.length - ((ji38) : Int).toNat := (by rw [Ny486.out, List.length_drop] <;> omega)
             rw [show (x6_1).drop ((ji38) : Int).toNat = y486 from Ny486.out.symm] at hr52
             replace hr52 : Kd.F k32 _ _ A52 y486.length y486 := (by rw [hA52]; exact hr52)
             rw [← hy52, ← hA52, ← hc52] at hcut52
             have HO490 := Aside0.mk (show Kd.V k32 32 _ w.heap.size _ (.slice A52 y486.length c52) y486 from Kd.V_mk (by rw [hy52, hc52]; exact Nat.sub_le_sub_right hroom52 _) hr52)
             have HC490 := Aside0.mk (show y486.length ≤ c52 from by rw [hy52, hc52]; exact Nat.sub_le_sub_right hroom52 _)
             clear hr52 hC52 hroom52 hi052 hsz52 hc52
             have KY52 := Aside0.mk hy52
             have KA52 := Aside0.mk hA52
             clear hy52 hA52
             replace q52 := eq_true q52
             try go_wp2
             go_roundg k1
             case measure => have := HK1.out; omega
             case rel => exact ⟨(y486), (y483), (.slice Ao49 y483.length co49), H', ⟨by have := HK1.out; omega⟩, ⟨by refine yV ?_; exact HO490.out⟩, ⟨by refine yN ?_; exact HO_466000.out⟩, ⟨by refine yN ?_; exact HO485.out⟩, ⟨by refine yH ?_; exact BK455.out⟩, ⟨by refine yH ?_; exact BK465.out⟩, ⟨yB⟩⟩
            rw [if_neg c40] at H
            exact absurd H (by simp)
           rw [if_neg c39] at H
           exact absurd H (by simp)
          rw [if_neg c37] at H
          exact absurd H (by simp)
         rw [if_neg c35] at H
         exact absurd H (by simp)
        rw [if_neg c34] at H
        exact absurd H (by simp)
       replace c27 := Bool.eq_false_iff.mpr c27
       subst c27
       replace H : (some (([] : List (S32)), ([] : List (S81)), 1)) = some (r1, r2, r3) := by rw [if_neg (show ¬ (false = true) by decide)] at H; exact H
       simp only [Option.some.injEq, Prod.mk.injEq] at H
       obtain ⟨rfl, rfl, rfl⟩ := H
       obtain ⟨Ao53, co53, eo53⟩ := Kd.V_slice HO_6.out
       subst eo53
       have p471 : 0 ≤ (0 : Int) := (by omega)
       have q471 : 0 < (x6_1.length : Int) := yD
       obtain ⟨ad471, A471_1, c471_1, e471, hx471_0, hx471_1, hx471_2, hl471_1, hi471_1⟩ := at_T32 (Kd.V_reads' HO_6.out).2.2 0 p471 q471
       cases e471
       obtain ⟨ce471, hce471, hMe471, hcc471⟩ := Kd.V_get HO_6.out z32 0 p471 (by first | exact q471 | exact yD | (have e_ := (Kd.V_reads' HO_6.out).1; omega))
       obtain ⟨ua471_1, uc471_1, rfl, ul471_1, ge471_1⟩ := k32_openF hMe471
       have hv471_1 := hcc471 1 _ rfl
       rw [add_field _ _ 1 (by omega)] at hv471_1
       replace hv471_1 := Option.some.inj (hv471_1.symm.trans hx471_1)
       injection hv471_1 with hva_ hvn_ hvc_
       rw [hva_] at ge471_1
       rw [hvc_] at ul471_1
       have HL471_1 := Aside0.mk (show Kd.V k78 78 _ w.heap.size _ _ ((rd_T32 x6_1 0).f1) from Kd.V_mk ul471_1 ge471_1)
       clear hva_ hvn_ hvc_ ge471_1 ul471_1
       clear hcc471 hce471
       have qi471 : (0 < x6_1.length) = True := eq_true (by omega)
       (try rw [show ((0 : Int)).toNat = 0 from rfl] at hx471_0)
       (try rw [show 0 * 3 = 0 from rfl] at hx471_0)
       (try rw [Addr.add_zero'] at hx471_0)
       (try rw [show ((0 : Int)).toNat = 0 from rfl] at hx471_1)
       (try rw [show 0 * 3 = 0 from rfl] at hx471_1)
       (try rw [Addr.add_zero'] at hx471_1)
       (try rw [show ((0 : Int)).toNat = 0 from rfl] at hx471_2)
       (try rw [show 0 * 3 = 0 from rfl] at hx471_2)
       (try rw [Addr.add_zero'] at hx471_2)
       have HR471_1 := Aside0.mk hi471_1
       have HC471_1 := Aside0.mk hl471_1
       clear hi471_1 hl471_1
       replace p471 := eq_true p471
       replace q471 := eq_true q471
       go_wp2_with (first | ((with_reducible refine gate_callee (f := 76) rfl ?_); refine goesL_ (some 32) rfl rfl Try.func76 (by kernel_rfl) rfl #[.agg #[.bool ((rd_T32 x6_1 0).f0), .slice A471_1 ((rd_T32 x6_1 0).f1).length c471_1, .string ((rd_T32 x6_1 0).f2)]] rfl yQ ?_; (with_reducible refine (subprogram_beginning.calls ((rd_T32 x6_1 0).f0) _ _ ((rd_T32 x6_1 0).f1) ((rd_T32 x6_1 0).f2) t472 false _ ?side1 ?side2 A25.out).mono ?_); (case side1 => repeat (first | exact (by repeat (first | (with_reducible exact HR471_1.out) | (with_reducible refine Kd.C_alloc ?_ _) | (with_reducible refine Kd.C_drewN ?_ _) | (with_reducible refine Kd.C_drew ?_) | exact HR471_1.out)) | (with_reducible refine Kd.C_alloc ?_ _) | (with_reducible refine Kd.C_drewN ?_ _) | (with_reducible refine Kd.C_drew ?_))); (case side2 => exact HC471_1.out); rintro e w54 ⟨rfl, hb⟩; refine ⟨_, rfl, ?_⟩; replace HO_6 := Aside0.mk (Kd.V_below (yV HO_6.out) hb); replace HO_466000 := Aside0.mk (Kd.N_below (yN HO_466000.out) hb); replace HO_466001 := Aside0.mk (Kd.N_below (yN HO_466001.out) hb); replace HL471_1 := Aside0.mk (Kd.V_below (yV HL471_1.out) hb); replace BK455 := Aside0.mk (blk_below (g := gb455) yK hb); replace BK465 := Aside0.mk (blk_below (g := gb465) yK hb); replace HR471_1 := Aside0.mk (Kd.C_below (by repeat (first | (with_reducible exact HR471_1.out) | (with_reducible refine Kd.C_alloc ?_ _) | (with_reducible refine Kd.C_drewN ?_ _) | (with_reducible refine Kd.C_drew ?_) | exact HR471_1.out)) hb); replace HB := Aside0.mk (below_step yB hb); (try clear hb)) | ((with_reducible refine gate_callee (f := 73) rfl ?_); refine goesL_ (some 36) rfl rfl Try.func73 (by kernel_rfl) rfl #[.slice (some ad471) x6_1.length co53, .func (.func 77) #[] #[]] rfl yQ ?_; (with_reducible refine (IndexFunc_back.calls k1 _ _ x6_1  t474 _ ?side1 ?side2 A26.out).mono ?_); (case side1 => repeat (first | exact (Kd.V_reads' HO_6.out).2.2 | (with_reducible refine Kd.C_alloc ?_ _) | (with_reducible refine Kd.C_drewN ?_ _) | (with_reducible refine Kd.C_drew ?_))); (case side2 => exact (Kd.V_reads' HO_6.out).2.1); rintro e w55 ⟨rfl, hb⟩; refine ⟨_, rfl, ?_⟩; replace HO_6 := Aside0.mk (Kd.V_below (yV HO_6.out) hb); replace HO_466000 := Aside0.mk (Kd.N_below (yN HO_466000.out) hb); replace HO_466001 := Aside0.mk (Kd.N_below (yN HO_466001.out) hb); replace HL471_1 := Aside0.mk (Kd.V_below (yV HL471_1.out) hb); replace BK455 := Aside0.mk (blk_below (g := gb455) yK hb); replace BK465 := Aside0.mk (blk_below (g := gb465) yK hb); replace HR471_1 := Aside0.mk (Kd.C_below (by repeat (first | (with_reducible exact HR471_1.out) | (with_reducible refine Kd.C_alloc ?_ _) | (with_reducible refine Kd.C_drewN ?_ _) | (with_reducible refine Kd.C_drew ?_) | exact HR471_1.out)) hb); replace HB := Aside0.mk (below_step yB hb); (try clear hb); have hnb56 := NB455_465.out; have hnc56 := NB465_455.out; have hcz57_0 := yZ0 BK455.out; have hcz57_1 := yZ1 BK455.out; have hfz57_0 := blk_frozen BK455.out 0; have hfz57_1 := blk_frozen BK455.out 1))
       refine bodyPost_ret (results_ct rfl _ _ gb455 54 #[.slice none 0 0, .slice none 0 0] (0, 0) _ rfl (by refine yH ?_; refine blk_put (cs := #[.slice none 0 0, .slice none 0 0]) ?_ 1 _ rfl; refine yH ?_; refine blk_put (cs := #[.slice none 0 0, .slice none 0 0]) ?_ 0 _ rfl; refine yH ?_; exact BK455.out) Try.underlying54 rfl (by kernel_rfl)) rfl ?_
       exact ⟨_, _, by first | rfl | (simp [errW_none, errW_some] <;> rfl) | (simp only [← hji7]; first | rfl | (simp [errW_none, errW_some] <;> rfl)) | (simp [*, errW_none, errW_some] <;> rfl), by first | exact Kd.S_nil _ _ _ _ _ | exact Kd.N_nil _ _ _ _ _ | exact Kd.V_nil _ _ _ _ _ | exact Kd.Q_nil _ _ _ _ _ | exact Kd.R_nil _ _ _ _ _, by first | exact Kd.R_nil _ _ _ _ _ | exact Kd.N_nil _ _ _ _ _ | exact Kd.V_nil _ _ _ _ _ | exact Kd.Q_nil _ _ _ _ _ | exact Kd.S_nil _ _ _ _ _, yB⟩
      rw [if_neg c24] at H
      exact absurd H (by simp)
     rw [if_neg c23] at H
     have c23b0 := decide_eq_false c23
     have c23b1 : decide (0 < x6_1.length) = false := decide_eq_false (by omega)
     clear c23
     replace H := Option.bind_eq_some_iff.mp H
     obtain ⟨t491, A580, H⟩ := H
     have A58 := Aside0.mk A580
     clear A580
     by_cases c59 : t491 = true
     ·subst c59
      rw [if_pos rfl] at H
      replace H := Option.bind_eq_some_iff.mp H
      obtain ⟨t492, A600, H⟩ := H
      have A60 := Aside0.mk A600
      clear A600
      by_cases c61 : t492 = true
      ·subst c61
       rw [if_pos rfl] at H
       simp only [Option.some.injEq, Prod.mk.injEq] at H
       obtain ⟨rfl, rfl, rfl⟩ := H
       obtain ⟨Ao62, co62, eo62⟩ := Kd.V_slice HO_6.out
       subst eo62
       have hnb63 := NB465_455.out
       have hnc63 := NB455_465.out
       have hcz64_0 := yZ0 BK465.out
       have hcz64_1 := yZ1 BK465.out
       have hfz64_0 := blk_frozen BK465.out 0
       have hfz64_1 := blk_frozen BK465.out 1
       obtain ⟨Ao65, co65, eo65⟩ := Kd.N_slice HO_466001.out
       subst eo65
       go_wp2_with (first | ((with_reducible refine gate_callee (f := 79) rfl ?_); refine goesL_ (some 60) rfl rfl Try.func79 (by kernel_rfl) rfl #[.agg #[.slice Ao17 t462.length co17, .slice Ao65 x466001_1.length co65]] rfl yQ ?_; (with_reducible refine (subprogram_ordered.calls k1 _ _ t462 _ _ x466001_1 true _ ?side1 ?side2 ?side3 ?side4 A58.out).mono ?_); (case side1 => repeat (first | exact (Kd.N_reads' HO_466000.out).2.2 | (with_reducible refine Kd.C_alloc ?_ _) | (with_reducible refine Kd.C_drewN ?_ _) | (with_reducible refine Kd.C_drew ?_))); (case side2 => exact (Kd.N_reads' HO_466000.out).2.1); (case side3 => repeat (first | exact (Kd.N_reads' HO_466001.out).2.2 | (with_reducible refine Kd.C_alloc ?_ _) | (with_reducible refine Kd.C_drewN ?_ _) | (with_reducible refine Kd.C_drew ?_))); (case side4 => exact (Kd.N_reads' HO_466001.out).2.1); rintro e w66 ⟨rfl, hb⟩; refine ⟨_, rfl, ?_⟩; replace HO_6 := Aside0.mk (Kd.V_below (yV HO_6.out) hb); replace HO_466000 := Aside0.mk (Kd.N_below (yN HO_466000.out) hb); replace HO_466001 := Aside0.mk (Kd.N_below (yN HO_466001.out) hb); replace BK455 := Aside0.mk (blk_below (g := gb455) yK hb); replace BK465 := Aside0.mk (blk_below (g := gb465) yK hb); replace HB := Aside0.mk (below_step yB hb); (try clear hb); have hcz67_0 := yZ0 BK465.out; have hcz67_1 := yZ1 BK465.out; have hfz67_0 := blk_frozen BK465.out 0; have hfz67_1 := blk_frozen BK465.out 1) | ((with_reducible refine gate_callee (f := 80) rfl ?_); refine goesL_ (some 65) rfl rfl Try.func80 (by kernel_rfl) rfl #[.slice Ao65 x466001_1.length co65] rfl yQ ?_; (with_reducible refine (subprogram_repeated.calls _ _ x466001_1 true _ ?side1 ?side2 A60.out).mono ?_); (case side1 => repeat (first | exact (Kd.N_reads' HO_466001.out).2.2 | (with_reducible refine Kd.C_alloc ?_ _) | (with_reducible refine Kd.C_drewN ?_ _) | (with_reducible refine Kd.C_drew ?_))); (case side2 => exact (Kd.N_reads' HO_466001.out).2.1); rintro e w68 ⟨rfl, hb⟩; refine ⟨_, rfl, ?_⟩; replace HO_6 := Aside0.mk (Kd.V_below (yV HO_6.out) hb); replace HO_466000 := Aside0.mk (Kd.N_below (yN HO_466000.out) hb); replace HO_466001 := Aside0.mk (Kd.N_below (yN HO_466001.out) hb); replace BK455 := Aside0.mk (blk_below (g := gb455) yK hb); replace BK465 := Aside0.mk (blk_below (g := gb465) yK hb); replace HB := Aside0.mk (below_step yB hb); (try clear hb); have hcz69_0 := yZ0 BK455.out; have hcz69_1 := yZ1 BK455.out; have hfz69_0 := blk_frozen BK455.out 0; have hfz69_1 := blk_frozen BK455.out 1))
       refine bodyPost_ret (results_ct rfl _ _ gb455 54 #[.slice none 0 0, .slice none 0 0] (0, 0) _ rfl (by refine yH ?_; refine blk_put (cs := #[.slice none 0 0, .slice none 0 0]) ?_ 1 _ rfl; refine yH ?_; refine blk_put (cs := #[.slice none 0 0, .slice none 0 0]) ?_ 0 _ rfl; refine yH ?_; exact BK455.out) Try.underlying54 rfl (by kernel_rfl)) rfl ?_
       exact ⟨_, _, by first | rfl | (simp [errW_none, errW_some] <;> rfl) | (simp only [← hji7]; first | rfl | (simp [errW_none, errW_some] <;> rfl)) | (simp [*, errW_none, errW_some] <;> rfl), by first | exact Kd.S_nil _ _ _ _ _ | exact Kd.N_nil _ _ _ _ _ | exact Kd.V_nil _ _ _ _ _ | exact Kd.Q_nil _ _ _ _ _ | exact Kd.R_nil _ _ _ _ _, by first | exact Kd.R_nil _ _ _ _ _ | exact Kd.N_nil _ _ _ _ _ | exact Kd.V_nil _ _ _ _ _ | exact Kd.Q_nil _ _ _ _ _ | exact Kd.S_nil _ _ _ _ _, yB⟩
      replace c61 := Bool.eq_false_iff.mpr c61
      subst c61
      replace H : (some (t462, x466001_1, 0)) = some (r1, r2, r3) := by rw [if_neg (show ¬ (false = true) by decide)] at H; exact H
      simp only [Option.some.injEq, Prod.mk.injEq] at H
      obtain ⟨rfl, rfl, rfl⟩ := H
      obtain ⟨Ao70, co70, eo70⟩ := Kd.V_slice HO_6.out
      subst eo70
      have hnb71 := NB465_455.out
      have hnc71 := NB455_465.out
      have hcz72_0 := yZ0 BK465.out
      have hcz72_1 := yZ1 BK465.out
      have hfz72_0 := blk_frozen BK465.out 0
      have hfz72_1 := blk_frozen BK465.out 1
      obtain ⟨Ao73, co73, eo73⟩ := Kd.N_slice HO_466001.out
      subst eo73
      go_wp2_with (first | ((with_reducible refine gate_callee (f := 79) rfl ?_); refine goesL_ (some 60) rfl rfl Try.func79 (by kernel_rfl) rfl #[.agg #[.slice Ao17 t462.length co17, .slice Ao73 x466001_1.length co73]] rfl yQ ?_; (with_reducible refine (subprogram_ordered.calls k1 _ _ t462 _ _ x466001_1 true _ ?side1 ?side2 ?side3 ?side4 A58.out).mono ?_); (case side1 => repeat (first | exact (Kd.N_reads' HO_466000.out).2.2 | (with_reducible refine Kd.C_alloc ?_ _) | (with_reducible refine Kd.C_drewN ?_ _) | (with_reducible refine Kd.C_drew ?_))); (case side2 => exact (Kd.N_reads' HO_466000.out).2.1); (case side3 => repeat (first | exact (Kd.N_reads' HO_466001.out).2.2 | (with_reducible refine Kd.C_alloc ?_ _) | (with_reducible refine Kd.C_drewN ?_ _) | (with_reducible refine Kd.C_drew ?_))); (case side4 => exact (Kd.N_reads' HO_466001.out).2.1); rintro e w74 ⟨rfl, hb⟩; refine ⟨_, rfl, ?_⟩; replace HO_6 := Aside0.mk (Kd.V_below (yV HO_6.out) hb); replace HO_466000 := Aside0.mk (Kd.N_below (yN HO_466000.out) hb); replace HO_466001 := Aside0.mk (Kd.N_below (yN HO_466001.out) hb); replace BK455 := Aside0.mk (blk_below (g := gb455) yK hb); replace BK465 := Aside0.mk (blk_below (g := gb465) yK hb); replace HB := Aside0.mk (below_step yB hb); (try clear hb); have hcz75_0 := yZ0 BK465.out; have hcz75_1 := yZ1 BK465.out; have hfz75_0 := blk_frozen BK465.out 0; have hfz75_1 := blk_frozen BK465.out 1) | ((with_reducible refine gate_callee (f := 80) rfl ?_); refine goesL_ (some 65) rfl rfl Try.func80 (by kernel_rfl) rfl #[.slice Ao73 x466001_1.length co73] rfl yQ ?_; (with_reducible refine (subprogram_repeated.calls _ _ x466001_1 false _ ?side1 ?side2 A60.out).mono ?_); (case side1 => repeat (first | exact (Kd.N_reads' HO_466001.out).2.2 | (with_reducible refine Kd.C_alloc ?_ _) | (with_reducible refine Kd.C_drewN ?_ _) | (with_reducible refine Kd.C_drew ?_))); (case side2 => exact (Kd.N_reads' HO_466001.out).2.1); rintro e w76 ⟨rfl, hb⟩; refine ⟨_, rfl, ?_⟩; replace HO_6 := Aside0.mk (Kd.V_below (yV HO_6.out) hb); replace HO_466000 := Aside0.mk (Kd.N_below (yN HO_466000.out) hb); replace HO_466001 := Aside0.mk (Kd.N_below (yN HO_466001.out) hb); replace BK455 := Aside0.mk (blk_below (g := gb455) yK hb); replace BK465 := Aside0.mk (blk_below (g := gb465) yK hb); replace HB := Aside0.mk (below_step yB hb); (try clear hb); have hcz77_0 := yZ0 BK465.out; have hcz77_1 := yZ1 BK465.out; have hfz77_0 := blk_frozen BK465.out 0; have hfz77_1 := blk_frozen BK465.out 1; have hcz78_0 := yZ0 BK455.out; have hcz78_1 := yZ1 BK455.out; have hfz78_0 := blk_frozen BK455.out 0; have hfz78_1 := blk_frozen BK455.out 1))
      refine bodyPost_ret (results_ct rfl _ _ gb455 54 #[.slice Ao17 t462.length co17, .slice Ao73 x466001_1.length co73] (0, 0) _ rfl (by refine yH ?_; refine blk_put (cs := #[.slice Ao17 t462.length co17, .slice none 0 0]) ?_ 1 _ rfl; refine yH ?_; refine blk_put (cs := #[.slice none 0 0, .slice none 0 0]) ?_ 0 _ rfl; refine yH ?_; exact BK455.out) Try.underlying54 rfl (by kernel_rfl)) rfl ?_
      exact ⟨_, _, by first | rfl | (simp [errW_none, errW_some] <;> rfl) | (simp only [← hji7]; first | rfl | (simp [errW_none, errW_some] <;> rfl)) | (simp [*, errW_none, errW_some] <;> rfl), by refine yN ?_; exact Kd.N_mono (Kd.N_far (p := ⟨gb455, 1, none⟩) (Kd.N_far (p := ⟨gb455, 0, none⟩) (Kd.N_mono HO_466000.out (fun k_ hk => (⟨hk, hk.2.2.1⟩ : _ ∧ k_ ≠ gb455))) (fun _ hk => hk.2) (.slice Ao17 t462.length co17)) (fun _ hk => hk.2) (.slice Ao73 x466001_1.length co73)) (fun _ hk => ⟨hk.1.1, hk.1.2.1⟩), by refine yN ?_; exact Kd.N_mono (Kd.N_far (p := ⟨gb455, 1, none⟩) (Kd.N_far (p := ⟨gb455, 0, none⟩) (Kd.N_mono HO_466001.out (fun k_ hk => (⟨hk, hk.2.2.1⟩ : _ ∧ k_ ≠ gb455))) (fun _ hk => hk.2) (.slice Ao17 t462.length co17)) (fun _ hk => hk.2) (.slice Ao73 x466001_1.length co73)) (fun _ hk => ⟨hk.1.1, hk.1.2.1⟩), yB⟩
     replace c59 := Bool.eq_false_iff.mpr c59
     subst c59
     replace H : (some (([] : List (S32)), ([] : List (S81)), 1)) = some (r1, r2, r3) := by rw [if_neg (show ¬ (false = true) by decide)] at H; exact H
     simp only [Option.some.injEq, Prod.mk.injEq] at H
     obtain ⟨rfl, rfl, rfl⟩ := H
     obtain ⟨Ao79, co79, eo79⟩ := Kd.V_slice HO_6.out
     subst eo79
     have hnb80 := NB465_455.out
     have hnc80 := NB455_465.out
     have hcz81_0 := yZ0 BK465.out
     have hcz81_1 := yZ1 BK465.out
     have hfz81_0 := blk_frozen BK465.out 0
     have hfz81_1 := blk_frozen BK465.out 1
     obtain ⟨Ao82, co82, eo82⟩ := Kd.N_slice HO_466001.out
     subst eo82
     go_wp2_with (first | ((with_reducible refine gate_callee (f := 79) rfl ?_); refine goesL_ (some 60) rfl rfl Try.func79 (by kernel_rfl) rfl #[.agg #[.slice Ao17 t462.length co17, .slice Ao82 x466001_1.length co82]] rfl yQ ?_; (with_reducible refine (subprogram_ordered.calls k1 _ _ t462 _ _ x466001_1 false _ ?side1 ?side2 ?side3 ?side4 A58.out).mono ?_); (case side1 => repeat (first | exact (Kd.N_reads' HO_466000.out).2.2 | (with_reducible refine Kd.C_alloc ?_ _) | (with_reducible refine Kd.C_drewN ?_ _) | (with_reducible refine Kd.C_drew ?_))); (case side2 => exact (Kd.N_reads' HO_466000.out).2.1); (case side3 => repeat (first | exact (Kd.N_reads' HO_466001.out).2.2 | (with_reducible refine Kd.C_alloc ?_ _) | (with_reducible refine Kd.C_drewN ?_ _) | (with_reducible refine Kd.C_drew ?_))); (case side4 => exact (Kd.N_reads' HO_466001.out).2.1); rintro e w83 ⟨rfl, hb⟩; refine ⟨_, rfl, ?_⟩; replace HO_6 := Aside0.mk (Kd.V_below (yV HO_6.out) hb); replace HO_466000 := Aside0.mk (Kd.N_below (yN HO_466000.out) hb); replace HO_466001 := Aside0.mk (Kd.N_below (yN HO_466001.out) hb); replace BK455 := Aside0.mk (blk_below (g := gb455) yK hb); replace BK465 := Aside0.mk (blk_below (g := gb465) yK hb); replace HB := Aside0.mk (below_step yB hb); (try clear hb); have hcz84_0 := yZ0 BK455.out; have hcz84_1 := yZ1 BK455.out; have hfz84_0 := blk_frozen BK455.out 0; have hfz84_1 := blk_frozen BK455.out 1))
     refine bodyPost_ret (results_ct rfl _ _ gb455 54 #[.slice none 0 0, .slice none 0 0] (0, 0) _ rfl (by refine yH ?_; refine blk_put (cs := #[.slice none 0 0, .slice none 0 0]) ?_ 1 _ rfl; refine yH ?_; refine blk_put (cs := #[.slice none 0 0, .slice none 0 0]) ?_ 0 _ rfl; refine yH ?_; exact BK455.out) Try.underlying54 rfl (by kernel_rfl)) rfl ?_
     exact ⟨_, _, by first | rfl | (simp [errW_none, errW_some] <;> rfl) | (simp only [← hji7]; first | rfl | (simp [errW_none, errW_some] <;> rfl)) | (simp [*, errW_none, errW_some] <;> rfl), by first | exact Kd.S_nil _ _ _ _ _ | exact Kd.N_nil _ _ _ _ _ | exact Kd.V_nil _ _ _ _ _ | exact Kd.Q_nil _ _ _ _ _ | exact Kd.R_nil _ _ _ _ _, by first | exact Kd.R_nil _ _ _ _ _ | exact Kd.N_nil _ _ _ _ _ | exact Kd.V_nil _ _ _ _ _ | exact Kd.Q_nil _ _ _ _ _ | exact Kd.S_nil _ _ _ _ _, yB⟩
  rw [if_neg c9] at H
  exact absurd H (by simp)
 rw [if_neg c8] at H
 exact absurd H (by simp)
def swarfref43_Find.l0 : Nat → Int → Int → List (S32) → List (S58) → Option (Int)
 | 0, _, _, _, _ => none
 | k + 1, x1, x5, x541000, x541001 => if x5 < (x541001.length : Int) then (if 0 ≤ x5 then (if ((rd_T58 x541001 x5).f0) = x1 then (some x5) else (swarfref43_Find.l0 k x1 (wrap64 (x5 + 1)) x541000 x541001)) else (none)) else (some (-1))
def swarfref43_Find.f (k : Nat) (l0_0 : List (S32)) (l0_1 : List (S58)) (a1 : Int) : Option (Int) := swarfref43_Find.l0 k a1 0 l0_0 l0_1
set_option maxHeartbeats 8000000 in
set_option maxRecDepth 100000 in
theorem swarfref43_Find.calls (k : Nat) (A0_0 : Option Addr) (c0_0 : Nat) (l0_0 : List (S32)) (A0_1 : Option Addr) (c0_1 : Nat) (l0_1 : List (S58)) (a1 : Int) (r : Int) (w : World) (hr0_0 : Kd.C k32 w A0_0 l0_0.length l0_0) (hc0_0 : l0_0.length ≤ c0_0) (hr0_1 : Kd.C k58 w A0_1 l0_1.length l0_1) (hc0_1 : l0_1.length ≤ c0_1) (h : swarfref43_Find.f k l0_0 l0_1 a1 = some r) :
  Calls Try.prog 30 #[.agg #[.slice A0_0 l0_0.length c0_0, .slice A0_1 l0_1.length c0_1], .int .i64 a1] w fun e w' => e = .returned (.int .i64 r) ∧ Below w.heap.size w w' := by
 have hu48 := Try.underlying48
 have HR0_0 := Aside0.mk hr0_0
 have HC0_0 := Aside0.mk hc0_0
 clear hr0_0 hc0_0
 have HR0_1 := Aside0.mk hr0_1
 have HC0_1 := Aside0.mk hc0_1
 clear hr0_1 hc0_1
 have HB := Aside0.mk (Below.refl w.heap.size w)
 have H : (swarfref43_Find.l0 k a1 0 l0_0 l0_1) = some r := h
 clear h
 have H' := Aside0.mk H
 clear H
 go_enter Try.func30, Try.ntmps30
 go_wp2_with (first | ((with_reducible refine gate_dst (N := 2) rfl ?_); refine yX 2 #[.slice A0_0 l0_0.length c0_0, .slice A0_1 l0_1.length c0_1] 48 ?_; intro gb540 hg w3 hbox hb; have BK540 := Aside0.mk (hbox); have GE540 := Aside0.mk ((yG hg : w.heap.size ≤ gb540)); replace HB := Aside0.mk (below_step yB hb); clear hb hbox hg))
 go_loopg [5] k (fun kq v5 w' => ∃ (x5_1 : Int), v5 = .int .i64 x5_1 ∧ Aside0 (swarfref43_Find.l0 kq a1 x5_1 l0_0 l0_1 = some r) ∧ Aside0 (kq ≤ k) ∧ Aside0 (w'.heap[gb540]? = some (.cells #[(.slice A0_0 l0_0.length c0_0), (.slice A0_1 l0_1.length c0_1)] 48 (0, 0))) ∧ Aside0 (Below w.heap.size w w'))
 case atStart => exact ⟨(0), yS, H', ⟨Nat.le_refl _⟩, ⟨by refine yH ?_; exact BK540.out⟩, ⟨yB⟩⟩
 case round =>
  clear H'
  try clear p2
  try clear c3
  obtain ⟨x5_1, rfl, HA, HK1, BK540, HB⟩ := hrel
  cases gk with
  | zero => exact absurd HA.out (by simp [swarfref43_Find.l0])
  | succ k1 =>
   have H := HA.out
   clear HA
   simp only [swarfref43_Find.l0] at H
   by_cases c4 : x5_1 < (l0_1.length : Int)
   ·rw [if_pos c4] at H
    have c4b0 := decide_eq_true c4
    clear c4
    by_cases c5 : 0 ≤ x5_1
    ·rw [if_pos c5] at H
     have c5b0 := decide_eq_true c5
     clear c5
     by_cases c6 : ((rd_T58 l0_1 x5_1).f0) = a1
     ·rw [if_pos c6] at H
      have c6b0 : (((rd_T58 l0_1 x5_1).f0) == a1) = true := beq_iff_eq.mpr c6
      have c6b1 : (((rd_T58 l0_1 x5_1).f0) != a1) = false := bne_eq_false_iff_eq.mpr c6
      clear c6
      obtain rfl := Option.some.inj H
      have hcz7_0 := yZ0 BK540.out
      have hcz7_1 := yZ1 BK540.out
      have hfz7_0 := blk_frozen BK540.out 0
      have hfz7_1 := blk_frozen BK540.out 1
      have p541 : 0 ≤ (x5_1 : Int) := yD
      have q541 : x5_1 < (l0_1.length : Int) := yD
      obtain ⟨ad541, A541_1, c541_1, e541, hx541_0, hx541_1, hl541_1, hi541_1⟩ := at_T58 HR0_1.out x5_1 p541 q541
      cases e541
      replace hx541_0 := yM HB.out hx541_0
      replace hx541_1 := yM HB.out hx541_1
      have HR541_1 := Aside0.mk hi541_1
      have HC541_1 := Aside0.mk hl541_1
      clear hi541_1 hl541_1
      replace p541 := eq_true p541
      replace q541 := eq_true q541
      go_wp2
      go_ret
      exact ⟨yE, yB⟩
     rw [if_neg c6] at H
     have c6b0 : (((rd_T58 l0_1 x5_1).f0) == a1) = false := beq_eq_false_iff_ne.mpr c6
     have c6b1 : (((rd_T58 l0_1 x5_1).f0) != a1) = true := bne_iff_ne.mpr c6
     have H' := Aside0.mk H
     clear H
     have hcz8_0 := yZ0 BK540.out
     have hcz8_1 := yZ1 BK540.out
     have hfz8_0 := blk_frozen BK540.out 0
     have hfz8_1 := blk_frozen BK540.out 1
     have p541 : 0 ≤ (x5_1 : Int) := yD
     have q541 : x5_1 < (l0_1.length : Int) := yD
     obtain ⟨ad541, A541_1, c541_1, e541, hx541_0, hx541_1, hl541_1, hi541_1⟩ := at_T58 HR0_1.out x5_1 p541 q541
     cases e541
     replace hx541_0 := yM HB.out hx541_0
     replace hx541_1 := yM HB.out hx541_1
     have HR541_1 := Aside0.mk hi541_1
     have HC541_1 := Aside0.mk hl541_1
     clear hi541_1 hl541_1
     replace p541 := eq_true p541
     replace q541 := eq_true q541
     go_wp2
     go_roundg k1
     case measure => have := HK1.out; omega
     case rel => exact ⟨(wrap64 (x5_1 + 1)), yS, H', ⟨by have := HK1.out; omega⟩, ⟨by refine yH ?_; exact BK540.out⟩, ⟨yB⟩⟩
    rw [if_neg c5] at H
    exact absurd H (by simp)
   rw [if_neg c4] at H
   have c4b0 := decide_eq_false c4
   clear c4
   obtain rfl := Option.some.inj H
   have hcz9_0 := yZ0 BK540.out
   have hcz9_1 := yZ1 BK540.out
   have hfz9_0 := blk_frozen BK540.out 0
   have hfz9_1 := blk_frozen BK540.out 1
   go_wp2
   go_ret
   exact ⟨yE, yB⟩
mutual
def swarfref43_proper.l0 : Nat → Int → List (S32) → List (S58) → Option (Bool)
 | 0, _, _, _ => none
 | k + 1, x3, x689000, x689001 => if x3 < (x689000.length : Int) then (if 0 ≤ x3 then ((swarfref43_Return.f k ((rd_T32 x689000 x3).f0) ((rd_T32 x689000 x3).f1) ((rd_T32 x689000 x3).f2)).bind fun t690 => (if t690 = true then (some false) else ((swarfref43_letter.f k ((rd_T32 x689000 x3).f0) ((rd_T32 x689000 x3).f1) ((rd_T32 x689000 x3).f2) 79).bind fun t692 => (if t692 = true then (some false) else ((swarfref43_End.f k ((rd_T32 x689000 x3).f0) ((rd_T32 x689000 x3).f1) ((rd_T32 x689000 x3).f2)).bind fun t694 => (if (t694 != (x3 == (wrap64 ((x689000.length : Int) - 1)))) = true then (some false) else (swarfref43_proper.l0 k (wrap64 (x3 + 1)) x689000 x689001))))))) else (none)) else (swarfref43_proper.l1 k 0 x689000 x689001)
def swarfref43_proper.l1 : Nat → Int → List (S32) → List (S58) → Option (Bool)
 | 0, _, _, _ => none
 | k + 1, x4, x689000, x689001 => if x4 < (x689001.length : Int) then (if 0 ≤ x4 then (if ((rd_T58 x689001 x4).f0) < 1 then (swarfref43_proper.j2 k x4 true x689000 x689001 ((rd_T58 x689001 x4).f0) ((rd_T58 x689001 x4).f1)) else (if ((rd_T58 x689001 x4).f0) > 9999 then (swarfref43_proper.j2 k x4 true x689000 x689001 ((rd_T58 x689001 x4).f0) ((rd_T58 x689001 x4).f1)) else ((swarfref43_Find.f k x689000 x689001 ((rd_T58 x689001 x4).f0)).bind fun t697 => (swarfref43_proper.j2 k x4 (decide (t697 < x4)) x689000 x689001 ((rd_T58 x689001 x4).f0) ((rd_T58 x689001 x4).f1))))) else (none)) else (some true)
def swarfref43_proper.j2 : Nat → Int → Bool → List (S32) → List (S58) → Int → List (S32) → Option (Bool)
 | 0, _, _, _, _, _, _ => none
 | k + 1, x4, x74, x689000, x689001, x697000, x697001 => if x74 = true then (some false) else (swarfref43_proper.l2 k x4 0 x689000 x689001 x697000 x697001)
def swarfref43_proper.l2 : Nat → Int → Int → List (S32) → List (S58) → Int → List (S32) → Option (Bool)
 | 0, _, _, _, _, _, _ => none
 | k + 1, x4, x6, x689000, x689001, x697000, x697001 => if x6 < (x697001.length : Int) then (if 0 ≤ x6 then ((swarfref43_Return.f k ((rd_T32 x697001 x6).f0) ((rd_T32 x697001 x6).f1) ((rd_T32 x697001 x6).f2)).bind fun t699 => (if t699 = true then (some false) else ((swarfref43_letter.f k ((rd_T32 x697001 x6).f0) ((rd_T32 x697001 x6).f1) ((rd_T32 x697001 x6).f2) 79).bind fun t701 => (if t701 = true then (some false) else ((swarfref43_End.f k ((rd_T32 x697001 x6).f0) ((rd_T32 x697001 x6).f1) ((rd_T32 x697001 x6).f2)).bind fun t703 => (if t703 = true then (some false) else (swarfref43_proper.l2 k x4 (wrap64 (x6 + 1)) x689000 x689001 x697000 x697001))))))) else (none)) else (swarfref43_proper.l1 k (wrap64 (x4 + 1)) x689000 x689001)
end
def swarfref43_proper.f (k : Nat) (l0_0 : List (S32)) (l0_1 : List (S58)) : Option (Bool) := if (l0_0.length : Int) = 0 then (some false) else (swarfref43_proper.l0 k 0 l0_0 l0_1)
def swarfref43_proper.T6 : Bool × List (List Nat × List Nat) := (true, [([], []), ([0], [0]), ([], []), ([1, 2], [1, 2]), ([3], [3]), ([4], [4]), ([5, 5], [5]), ([6], [6]), ([7, 6], [6, 7]), ([6], [6]), ([8, 9, 6], [6, 8, 9]), ([10, 6], [6, 10]), ([11, 6, 6], [6, 11]), ([6, 12], [6, 12]), ([13, 12], [13]), ([14], [14]), ([15, 14], [14, 15]), ([14], [14]), ([16, 17, 14], [14, 16, 17]), ([18, 14], [14, 18]), ([19, 14, 14], [14, 19]), ([14], [14]), ([14], [14]), ([22, 14], [14, 22]), ([23, 14], [14, 23]), ([24, 14], [14, 24]), ([21, 25, 14], [14, 21, 25]), ([20, 26, 14], [14, 20, 26]), ([14, 27], [14, 27])])
def swarfref43_proper.B6 : List Nat := [0, 1, 0, 7, 15, 31, 63, 127, 255, 127, 1023, 2047, 4095, 8191, 16383, 32767, 65535, 32767, 262143, 524287, 1048575, 32767, 32767, 4227071, 12615679, 29392895, 65044479, 134217727, 268435455]
theorem swarfref43_proper.tab6 : rtab .any (opsOf Try.f70 6) = swarfref43_proper.T6 := by kernel_rfl
theorem swarfref43_proper.bits6 : waitsOk swarfref43_proper.T6.2 swarfref43_proper.B6 = true := by kernel_rfl
set_option maxHeartbeats 8000000 in
set_option maxRecDepth 100000 in
theorem swarfref43_proper.calls (k : Nat) (A0_0 : Option Addr) (c0_0 : Nat) (l0_0 : List (S32)) (A0_1 : Option Addr) (c0_1 : Nat) (l0_1 : List (S58)) (r : Bool) (w : World) (hr0_0 : Kd.C k32 w A0_0 l0_0.length l0_0) (hc0_0 : l0_0.length ≤ c0_0) (hr0_1 : Kd.C k58 w A0_1 l0_1.length l0_1) (hc0_1 : l0_1.length ≤ c0_1) (h : swarfref43_proper.f k l0_0 l0_1 = some r) :
  Calls Try.prog 70 #[.agg #[.slice A0_0 l0_0.length c0_0, .slice A0_1 l0_1.length c0_1]] w fun e w' => e = .returned (.bool r) ∧ Below w.heap.size w w' := by
 have hu48 := Try.underlying48
 have hu32 := Try.underlying32
 have hu58 := Try.underlying58
 have HR0_0 := Aside0.mk hr0_0
 have HC0_0 := Aside0.mk hc0_0
 clear hr0_0 hc0_0
 have HR0_1 := Aside0.mk hr0_1
 have HC0_1 := Aside0.mk hc0_1
 clear hr0_1 hc0_1
 have HB := Aside0.mk (Below.refl w.heap.size w)
 have H : (if (l0_0.length : Int) = 0 then (some false) else (swarfref43_proper.l0 k 0 l0_0 l0_1)) = some r := h
 clear h
 by_cases c2 : (l0_0.length : Int) = 0
 ·rw [if_pos c2] at H
  have c2b0 : ((l0_0.length : Int) == 0) = true := beq_iff_eq.mpr c2
  have c2b1 : ((l0_0.length : Int) != 0) = false := bne_eq_false_iff_eq.mpr c2
  clear c2
  obtain rfl := Option.some.inj H
  go_enter Try.func70, Try.ntmps70
  go_wp2_with (first | ((with_reducible refine gate_dst (N := 1) rfl ?_); (try (refine gate_guard (by rfl) ?_; dsimp only)); refine yX 1 #[.slice A0_0 l0_0.length c0_0, .slice A0_1 l0_1.length c0_1] 48 ?_; intro gb688 hg w3 hbox hb; have BK688 := Aside0.mk (hbox); have GW688 := Aside0.mk ((yG hg : w.heap.size ≤ gb688)); have GE688 := Aside0.mk ((yG hg : w.heap.size ≤ gb688)); replace HB := Aside0.mk (below_step yB hb); clear hb hbox hg; have hcz4_0 := yZ0 BK688.out; have hcz4_1 := yZ1 BK688.out; have hfz4_0 := blk_frozen BK688.out 0; have hfz4_1 := blk_frozen BK688.out 1))
  go_ret
  exact ⟨yE, yB⟩
 rw [if_neg c2] at H
 have c2b0 : ((l0_0.length : Int) == 0) = false := beq_eq_false_iff_ne.mpr c2
 have c2b1 : ((l0_0.length : Int) != 0) = true := bne_iff_ne.mpr c2
 have c2b2 : ¬ (l0_0 = []) := fun h_ => c2 (by rw [h_]; rfl)
 have H' := Aside0.mk H
 clear H
 go_enter Try.func70, Try.ntmps70
 go_wp2_with (first | ((with_reducible refine gate_dst (N := 1) rfl ?_); (try (refine gate_guard (by rfl) ?_; dsimp only)); refine yX 1 #[.slice A0_0 l0_0.length c0_0, .slice A0_1 l0_1.length c0_1] 48 ?_; intro gb688 hg w5 hbox hb; have BK688 := Aside0.mk (hbox); have GW688 := Aside0.mk ((yG hg : w.heap.size ≤ gb688)); have GE688 := Aside0.mk ((yG hg : w.heap.size ≤ gb688)); replace HB := Aside0.mk (below_step yB hb); clear hb hbox hg; have hcz6_0 := yZ0 BK688.out; have hcz6_1 := yZ1 BK688.out; have hfz6_0 := blk_frozen BK688.out 0; have hfz6_1 := blk_frozen BK688.out 1))
 go_loopg [3] k (fun kq v3 w' => ∃ (x3_1 : Int), v3 = .int .i64 x3_1 ∧ Aside0 (swarfref43_proper.l0 kq x3_1 l0_0 l0_1 = some r) ∧ Aside0 (kq ≤ k) ∧ Aside0 (w'.heap[gb688]? = some (.cells #[(.slice A0_0 l0_0.length c0_0), (.slice A0_1 l0_1.length c0_1)] 48 (0, 0))) ∧ Aside0 (Below w.heap.size w w'))
 case atStart => exact ⟨(0), yS, H', ⟨Nat.le_refl _⟩, ⟨by refine yH ?_; exact BK688.out⟩, ⟨yB⟩⟩
 case round =>
  clear H'
  try clear c2
  try clear c2b0
  try clear c2b1
  try clear c2b2
  try clear p2
  try clear hcz4_0
  try clear hcz4_1
  try clear hcz6_0
  try clear hcz6_1
  try clear hfz4_0
  try clear hfz4_1
  try clear hfz6_0
  try clear hfz6_1
  obtain ⟨x3_1, rfl, HA, HK1, BK688, HB⟩ := hrel
  cases gk with
  | zero => exact absurd HA.out (by simp [swarfref43_proper.l0])
  | succ k1 =>
   have H := HA.out
   clear HA
   simp only [swarfref43_proper.l0] at H
   by_cases c7 : x3_1 < (l0_0.length : Int)
   ·rw [if_pos c7] at H
    have c7b0 := decide_eq_true c7
    clear c7
    by_cases c8 : 0 ≤ x3_1
    ·rw [if_pos c8] at H
     have c8b0 := decide_eq_true c8
     clear c8
     replace H := Option.bind_eq_some_iff.mp H
     obtain ⟨t690, A90, H⟩ := H
     have A9 := Aside0.mk A90
     clear A90
     by_cases c10 : t690 = true
     ·subst c10
      rw [if_pos rfl] at H
      obtain rfl := Option.some.inj H
      have hcz11_0 := yZ0 BK688.out
      have hcz11_1 := yZ1 BK688.out
      have hfz11_0 := blk_frozen BK688.out 0
      have hfz11_1 := blk_frozen BK688.out 1
      try go_wp2
      replace BK688 := Aside0.mk (blk_drew BK688.out)
      replace HB := Aside0.mk (below_drew1 HB.out)
      have p689 : 0 ≤ (x3_1 : Int) := yD
      have q689 : x3_1 < (l0_0.length : Int) := yD
      obtain ⟨ad689, A689_1, c689_1, e689, hx689_0, hx689_1, hx689_2, hl689_1, hi689_1⟩ := at_T32 HR0_0.out x3_1 p689 q689
      have hw689_2 := hx689_2
      have hw689_1 := hx689_1
      have hw689_0 := hx689_0
      cases e689
      replace hx689_0 := yM HB.out hx689_0
      replace hx689_1 := yM HB.out hx689_1
      replace hx689_2 := yM HB.out hx689_2
      have HR689_1 := Aside0.mk hi689_1
      have HC689_1 := Aside0.mk hl689_1
      clear hi689_1 hl689_1
      replace p689 := eq_true p689
      replace q689 := eq_true q689
      refine start_ (n := 29) (S := fun w' => w'.cell? ⟨gb688, 0, none⟩ = some (.slice (some ad689) l0_0.length c0_0) ∧ w'.cell? ⟨gb688, 1, none⟩ = some (.slice A0_1 l0_1.length c0_1) ∧ w'.cell? (ad689.add ((x3_1).toNat * 3)) = some (.bool ((rd_T32 l0_0 x3_1).f0)) ∧ w'.cell? ⟨(ad689.add ((x3_1).toNat * 3)).block, (ad689.add ((x3_1).toNat * 3)).off + 1, none⟩ = some (.slice A689_1 ((rd_T32 l0_0 x3_1).f1).length c689_1) ∧ w'.cell? ⟨(ad689.add ((x3_1).toNat * 3)).block, (ad689.add ((x3_1).toNat * 3)).off + 2, none⟩ = some (.string ((rd_T32 l0_0 x3_1).f2))) (ds := []) #[false, false, false, false, false, false, false, false, false, false, false, false, false, false, false, false, false, false, false, false, false, false, false, false, false, false, false, false, false] (by kernel_rfl) rfl rfl ⟨(blk_cell BK688.out 0).trans rfl, (blk_cell BK688.out 1).trans rfl, (yM HB.out hw689_0), (yM HB.out hw689_1), (yM HB.out hw689_2)⟩ (fun hHeld => ?_); refine with_tabW swarfref43_proper.tab6 swarfref43_proper.bits6 (fun HT_ HW_ => ?_)
      generalize wr.drew = w12 at BK688 HB HR689_1 hx689_0 hx689_1 hx689_2 hHeld ⊢
      refine yp 0 18 ?_
      refine yp 2 20 ?_
      refine yt 1 19 hHeld ?_
      refine yp 3 21 ?_
      refine yt 4 22 hHeld ?_
      refine yo 5 (some 23) (fun K hK => ?_)
      refine goes_ Try.func82 (by kernel_rfl) rfl #[.agg #[.bool ((rd_T32 l0_0 x3_1).f0), .slice A689_1 ((rd_T32 l0_0 x3_1).f1).length c689_1, .string ((rd_T32 l0_0 x3_1).f2)]] (by rfl) rfl rfl yQ ?_
      with_reducible refine (swarfref43_Return.calls k1 ((rd_T32 l0_0 x3_1).f0) _ _ ((rd_T32 l0_0 x3_1).f1) ((rd_T32 l0_0 x3_1).f2) true _ ?side1 ?side2 A9.out).mono ?_
      (case side1 => exact yC HR689_1.out)
      (case side2 => exact HC689_1.out)
      rintro e w13 ⟨rfl, hb⟩
      refine ⟨_, rfl, ?_⟩
      replace BK688 := Aside0.mk (blk_below (g := gb688) yK hb)
      replace HB := Aside0.mk (below_step yB hb)
      (try clear hb)
      refine hK.out _ _ ⟨(blk_cell BK688.out 0).trans rfl, (blk_cell BK688.out 1).trans rfl, (yM HB.out hw689_0), (yM HB.out hw689_1), (yM HB.out hw689_2)⟩ (fun hHeld => ?_)
      clear hK K
      refine yn 23 ?_
      refine yp 6 24 ?_
      refine yu 7 25 ?_
      refine yu 8 26 ?_
      refine yu 9 27 ?_
      refine yu 10 28 ?_
      refine yu 11 29 ?_
      refine yu 12 30 ?_
      refine yp 13 31 ?_
      refine yp 14 32 ?_
      refine yu 15 33 ?_
      refine yu 16 34 ?_
      refine yu 17 35 ?_
      refine yu 18 36 ?_
      refine yu 19 37 ?_
      refine yu 20 38 ?_
      refine yu 21 39 ?_
      refine yu 22 40 ?_
      refine yu 23 41 ?_
      refine yu 24 42 ?_
      refine yu 25 43 ?_
      refine yu 26 44 ?_
      refine yu 27 45 ?_
      refine yp 28 46 ?_
      refine done_ (done_of HT_.out (by kernel_rfl)) ?_
      try go_wp2
      go_ret
      exact ⟨yE, yB⟩
     replace c10 := Bool.eq_false_iff.mpr c10
     subst c10
     replace H : ((swarfref43_letter.f k1 ((rd_T32 l0_0 x3_1).f0) ((rd_T32 l0_0 x3_1).f1) ((rd_T32 l0_0 x3_1).f2) 79).bind fun t692 => (if t692 = true then (some false) else ((swarfref43_End.f k1 ((rd_T32 l0_0 x3_1).f0) ((rd_T32 l0_0 x3_1).f1) ((rd_T32 l0_0 x3_1).f2)).bind fun t694 => (if (t694 != (x3_1 == (wrap64 ((l0_0.length : Int) - 1)))) = true then (some false) else (swarfref43_proper.l0 k1 (wrap64 (x3_1 + 1)) l0_0 l0_1))))) = some r := by rw [if_neg (show ¬ (false = true) by decide)] at H; exact H
     replace H := Option.bind_eq_some_iff.mp H
     obtain ⟨t692, A140, H⟩ := H
     have A14 := Aside0.mk A140
     clear A140
     by_cases c15 : t692 = true
     ·subst c15
      rw [if_pos rfl] at H
      obtain rfl := Option.some.inj H
      have hcz16_0 := yZ0 BK688.out
      have hcz16_1 := yZ1 BK688.out
      have hfz16_0 := blk_frozen BK688.out 0
      have hfz16_1 := blk_frozen BK688.out 1
      try go_wp2
      replace BK688 := Aside0.mk (blk_drew BK688.out)
      replace HB := Aside0.mk (below_drew1 HB.out)
      have p689 : 0 ≤ (x3_1 : Int) := yD
      have q689 : x3_1 < (l0_0.length : Int) := yD
      obtain ⟨ad689, A689_1, c689_1, e689, hx689_0, hx689_1, hx689_2, hl689_1, hi689_1⟩ := at_T32 HR0_0.out x3_1 p689 q689
      have hw689_2 := hx689_2
      have hw689_1 := hx689_1
      have hw689_0 := hx689_0
      cases e689
      replace hx689_0 := yM HB.out hx689_0
      replace hx689_1 := yM HB.out hx689_1
      replace hx689_2 := yM HB.out hx689_2
      have HR689_1 := Aside0.mk hi689_1
      have HC689_1 := Aside0.mk hl689_1
      clear hi689_1 hl689_1
      replace p689 := eq_true p689
      replace q689 := eq_true q689
      have p691 : 0 ≤ (x3_1 : Int) := yD
      have q691 : x3_1 < (l0_0.length : Int) := yD
      obtain ⟨ad691, A691_1, c691_1, e691, hx691_0, hx691_1, hx691_2, hl691_1, hi691_1⟩ := at_T32 HR0_0.out x3_1 p691 q691
      have hw691_2 := hx691_2
      have hw691_1 := hx691_1
      have hw691_0 := hx691_0
      obtain rfl : ad689 = ad691 := (by injection e691)
      have HQA691_1 := Aside0.mk (show A691_1 = A689_1 from by first | (have e_ := Option.some.inj (hw689_1.symm.trans hw691_1); injection e_ with e1_ e2_ e3_; exact e1_.symm) | (have e_ := Option.some.inj (hx689_1.symm.trans hx691_1); injection e_ with e1_ e2_ e3_; exact e1_.symm))
      have HQc691_1 := Aside0.mk (show c691_1 = c689_1 from by first | (have e_ := Option.some.inj (hw689_1.symm.trans hw691_1); injection e_ with e1_ e2_ e3_; exact e3_.symm) | (have e_ := Option.some.inj (hx689_1.symm.trans hx691_1); injection e_ with e1_ e2_ e3_; exact e3_.symm))
      replace hx691_0 := yM HB.out hx691_0
      replace hx691_1 := yM HB.out hx691_1
      replace hx691_2 := yM HB.out hx691_2
      have HR691_1 := Aside0.mk hi691_1
      have HC691_1 := Aside0.mk hl691_1
      clear hi691_1 hl691_1
      replace p691 := eq_true p691
      replace q691 := eq_true q691
      refine start_ (n := 29) (S := fun w' => w'.cell? ⟨gb688, 0, none⟩ = some (.slice (some ad689) l0_0.length c0_0) ∧ w'.cell? ⟨gb688, 1, none⟩ = some (.slice A0_1 l0_1.length c0_1) ∧ w'.cell? (ad689.add ((x3_1).toNat * 3)) = some (.bool ((rd_T32 l0_0 x3_1).f0)) ∧ w'.cell? ⟨(ad689.add ((x3_1).toNat * 3)).block, (ad689.add ((x3_1).toNat * 3)).off + 1, none⟩ = some (.slice A689_1 ((rd_T32 l0_0 x3_1).f1).length c689_1) ∧ w'.cell? ⟨(ad689.add ((x3_1).toNat * 3)).block, (ad689.add ((x3_1).toNat * 3)).off + 2, none⟩ = some (.string ((rd_T32 l0_0 x3_1).f2)) ∧ w'.cell? (ad689.add ((x3_1).toNat * 3)) = some (.bool ((rd_T32 l0_0 x3_1).f0)) ∧ w'.cell? ⟨(ad689.add ((x3_1).toNat * 3)).block, (ad689.add ((x3_1).toNat * 3)).off + 1, none⟩ = some (.slice A691_1 ((rd_T32 l0_0 x3_1).f1).length c691_1) ∧ w'.cell? ⟨(ad689.add ((x3_1).toNat * 3)).block, (ad689.add ((x3_1).toNat * 3)).off + 2, none⟩ = some (.string ((rd_T32 l0_0 x3_1).f2))) (ds := []) #[false, false, false, false, false, false, false, false, false, false, false, false, false, false, false, false, false, false, false, false, false, false, false, false, false, false, false, false, false] (by kernel_rfl) rfl rfl ⟨(blk_cell BK688.out 0).trans rfl, (blk_cell BK688.out 1).trans rfl, (yM HB.out hw689_0), (yM HB.out hw689_1), (yM HB.out hw689_2), (yM HB.out hw691_0), (yM HB.out hw691_1), (yM HB.out hw691_2)⟩ (fun hHeld => ?_); refine with_tabW swarfref43_proper.tab6 swarfref43_proper.bits6 (fun HT_ HW_ => ?_)
      generalize wr.drew = w17 at BK688 HB HR689_1 HR691_1 hx689_0 hx689_1 hx689_2 hx691_0 hx691_1 hx691_2 hHeld ⊢
      refine yp 0 18 ?_
      refine yp 2 20 ?_
      refine yt 1 19 hHeld ?_
      refine yp 3 21 ?_
      refine yt 4 22 hHeld ?_
      refine yo 5 (some 23) (fun K hK => ?_)
      refine goes_ Try.func82 (by kernel_rfl) rfl #[.agg #[.bool ((rd_T32 l0_0 x3_1).f0), .slice A689_1 ((rd_T32 l0_0 x3_1).f1).length c689_1, .string ((rd_T32 l0_0 x3_1).f2)]] (by rfl) rfl rfl (by (try simp only [List.map_toArray, List.map_cons, List.map_nil]); first | done | rfl | (simp only [List.length_drop, List.length_take]; rfl) | (simp only [HQA691_1.out, HQc691_1.out]; rfl)) ?_
      with_reducible refine (swarfref43_Return.calls k1 ((rd_T32 l0_0 x3_1).f0) _ _ ((rd_T32 l0_0 x3_1).f1) ((rd_T32 l0_0 x3_1).f2) false _ ?side1 ?side2 A9.out).mono ?_
      (case side1 => exact yC HR689_1.out)
      (case side2 => exact HC689_1.out)
      rintro e w18 ⟨rfl, hb⟩
      refine ⟨_, rfl, ?_⟩
      replace BK688 := Aside0.mk (blk_below (g := gb688) yK hb)
      replace HB := Aside0.mk (below_step yB hb)
      (try clear hb)
      refine hK.out _ _ ⟨(blk_cell BK688.out 0).trans rfl, (blk_cell BK688.out 1).trans rfl, (yM HB.out hw689_0), (yM HB.out hw689_1), (yM HB.out hw689_2), (yM HB.out hw691_0), (yM HB.out hw691_1), (yM HB.out hw691_2)⟩ (fun hHeld => ?_)
      clear hK K
      refine yn 23 ?_
      refine yp 6 24 ?_
      refine yp 7 25 ?_
      refine yp 9 27 ?_
      refine yt 8 26 hHeld ?_
      refine yp 10 28 ?_
      refine yt 11 29 hHeld ?_
      refine yo 12 (some 30) (fun K hK => ?_)
      refine goes_ Try.func83 (by kernel_rfl) rfl #[.agg #[.bool ((rd_T32 l0_0 x3_1).f0), .slice A691_1 ((rd_T32 l0_0 x3_1).f1).length c691_1, .string ((rd_T32 l0_0 x3_1).f2)], .int .u8 79] (by rfl) rfl rfl (by (try simp only [List.map_toArray, List.map_cons, List.map_nil]); first | done | rfl | (simp only [List.length_drop, List.length_take]; rfl) | (simp only [HQA691_1.out, HQc691_1.out]; rfl)) ?_
      with_reducible refine (swarfref43_letter.calls k1 ((rd_T32 l0_0 x3_1).f0) _ _ ((rd_T32 l0_0 x3_1).f1) ((rd_T32 l0_0 x3_1).f2) 79 true _ ?side1 ?side2 A14.out).mono ?_
      (case side1 => exact yC HR691_1.out)
      (case side2 => exact HC691_1.out)
      rintro e w19 ⟨rfl, hb⟩
      refine ⟨_, rfl, ?_⟩
      replace BK688 := Aside0.mk (blk_below (g := gb688) yK hb)
      replace HB := Aside0.mk (below_step yB hb)
      (try clear hb)
      refine hK.out _ _ ⟨(blk_cell BK688.out 0).trans rfl, (blk_cell BK688.out 1).trans rfl, (yM HB.out hw689_0), (yM HB.out hw689_1), (yM HB.out hw689_2), (yM HB.out hw691_0), (yM HB.out hw691_1), (yM HB.out hw691_2)⟩ (fun hHeld => ?_)
      clear hK K
      refine yn 30 ?_
      refine yp 13 31 ?_
      refine yp 14 32 ?_
      refine yu 15 33 ?_
      refine yu 16 34 ?_
      refine yu 17 35 ?_
      refine yu 18 36 ?_
      refine yu 19 37 ?_
      refine yu 20 38 ?_
      refine yu 21 39 ?_
      refine yu 22 40 ?_
      refine yu 23 41 ?_
      refine yu 24 42 ?_
      refine yu 25 43 ?_
      refine yu 26 44 ?_
      refine yu 27 45 ?_
      refine yp 28 46 ?_
      refine done_ (done_of HT_.out (by kernel_rfl)) ?_
      try go_wp2
      go_ret
      exact ⟨yE, yB⟩
     replace c15 := Bool.eq_false_iff.mpr c15
     subst c15
     replace H : ((swarfref43_End.f k1 ((rd_T32 l0_0 x3_1).f0) ((rd_T32 l0_0 x3_1).f1) ((rd_T32 l0_0 x3_1).f2)).bind fun t694 => (if (t694 != (x3_1 == (wrap64 ((l0_0.length : Int) - 1)))) = true then (some false) else (swarfref43_proper.l0 k1 (wrap64 (x3_1 + 1)) l0_0 l0_1))) = some r := by rw [if_neg (show ¬ (false = true) by decide)] at H; exact H
     replace H := Option.bind_eq_some_iff.mp H
     obtain ⟨t694, A200, H⟩ := H
     have A20 := Aside0.mk A200
     clear A200
     by_cases c21 : (t694 != (x3_1 == (wrap64 ((l0_0.length : Int) - 1)))) = true
     ·rw [if_pos c21] at H
      have c21b0 : (t694 != (x3_1 == (wrap64 ((l0_0.length : Int) - 1)))) = true := c21
      (try (have c21b1 : decide (t694 = (x3_1 == (wrap64 ((l0_0.length : Int) - 1)))) = false := by simpa using c21))
      (try (have c21b2 : (t694 == (x3_1 == (wrap64 ((l0_0.length : Int) - 1)))) = false := by simpa using c21))
      (try (have c21b3 : ¬ (t694 = (x3_1 == (wrap64 ((l0_0.length : Int) - 1)))) := by simpa using c21))
      clear c21
      obtain rfl := Option.some.inj H
      have hcz22_0 := yZ0 BK688.out
      have hcz22_1 := yZ1 BK688.out
      have hfz22_0 := blk_frozen BK688.out 0
      have hfz22_1 := blk_frozen BK688.out 1
      try go_wp2
      replace BK688 := Aside0.mk (blk_drew BK688.out)
      replace HB := Aside0.mk (below_drew1 HB.out)
      have p689 : 0 ≤ (x3_1 : Int) := yD
      have q689 : x3_1 < (l0_0.length : Int) := yD
      obtain ⟨ad689, A689_1, c689_1, e689, hx689_0, hx689_1, hx689_2, hl689_1, hi689_1⟩ := at_T32 HR0_0.out x3_1 p689 q689
      have hw689_2 := hx689_2
      have hw689_1 := hx689_1
      have hw689_0 := hx689_0
      cases e689
      replace hx689_0 := yM HB.out hx689_0
      replace hx689_1 := yM HB.out hx689_1
      replace hx689_2 := yM HB.out hx689_2
      have HR689_1 := Aside0.mk hi689_1
      have HC689_1 := Aside0.mk hl689_1
      clear hi689_1 hl689_1
      replace p689 := eq_true p689
      replace q689 := eq_true q689
      have p691 : 0 ≤ (x3_1 : Int) := yD
      have q691 : x3_1 < (l0_0.length : Int) := yD
      obtain ⟨ad691, A691_1, c691_1, e691, hx691_0, hx691_1, hx691_2, hl691_1, hi691_1⟩ := at_T32 HR0_0.out x3_1 p691 q691
      have hw691_2 := hx691_2
      have hw691_1 := hx691_1
      have hw691_0 := hx691_0
      obtain rfl : ad689 = ad691 := (by injection e691)
      have HQA691_1 := Aside0.mk (show A691_1 = A689_1 from by first | (have e_ := Option.some.inj (hw689_1.symm.trans hw691_1); injection e_ with e1_ e2_ e3_; exact e1_.symm) | (have e_ := Option.some.inj (hx689_1.symm.trans hx691_1); injection e_ with e1_ e2_ e3_; exact e1_.symm))
      have HQc691_1 := Aside0.mk (show c691_1 = c689_1 from by first | (have e_ := Option.some.inj (hw689_1.symm.trans hw691_1); injection e_ with e1_ e2_ e3_; exact e3_.symm) | (have e_ := Option.some.inj (hx689_1.symm.trans hx691_1); injection e_ with e1_ e2_ e3_; exact e3_.symm))
      replace hx691_0 := yM HB.out hx691_0
      replace hx691_1 := yM HB.out hx691_1
      replace hx691_2 := yM HB.out hx691_2
      have HR691_1 := Aside0.mk hi691_1
      have HC691_1 := Aside0.mk hl691_1
      clear hi691_1 hl691_1
      replace p691 := eq_true p691
      replace q691 := eq_true q691
      have p693 : 0 ≤ (x3_1 : Int) := yD
      have q693 : x3_1 < (l0_0.length : Int) := yD
      obtain ⟨ad693, A693_1, c693_1, e693, hx693_0, hx693_1, hx693_2, hl693_1, hi693_1⟩ := at_T32 HR0_0.out x3_1 p693 q693
      have hw693_2 := hx693_2
      have hw693_1 := hx693_1
      have hw693_0 := hx693_0
      obtain rfl : ad689 = ad693 := (by injection e693)
      have HQA693_1 := Aside0.mk (show A693_1 = A689_1 from by first | (have e_ := Option.some.inj (hw689_1.symm.trans hw693_1); injection e_ with e1_ e2_ e3_; exact e1_.symm) | (have e_ := Option.some.inj (hx689_1.symm.trans hx693_1); injection e_ with e1_ e2_ e3_; exact e1_.symm))
      have HQc693_1 := Aside0.mk (show c693_1 = c689_1 from by first | (have e_ := Option.some.inj (hw689_1.symm.trans hw693_1); injection e_ with e1_ e2_ e3_; exact e3_.symm) | (have e_ := Option.some.inj (hx689_1.symm.trans hx693_1); injection e_ with e1_ e2_ e3_; exact e3_.symm))
      replace hx693_0 := yM HB.out hx693_0
      replace hx693_1 := yM HB.out hx693_1
      replace hx693_2 := yM HB.out hx693_2
      have HR693_1 := Aside0.mk hi693_1
      have HC693_1 := Aside0.mk hl693_1
      clear hi693_1 hl693_1
      replace p693 := eq_true p693
      replace q693 := eq_true q693
      refine start_ (n := 29) (S := fun w' => w'.cell? ⟨gb688, 0, none⟩ = some (.slice (some ad689) l0_0.length c0_0) ∧ w'.cell? ⟨gb688, 1, none⟩ = some (.slice A0_1 l0_1.length c0_1) ∧ w'.cell? (ad689.add ((x3_1).toNat * 3)) = some (.bool ((rd_T32 l0_0 x3_1).f0)) ∧ w'.cell? ⟨(ad689.add ((x3_1).toNat * 3)).block, (ad689.add ((x3_1).toNat * 3)).off + 1, none⟩ = some (.slice A689_1 ((rd_T32 l0_0 x3_1).f1).length c689_1) ∧ w'.cell? ⟨(ad689.add ((x3_1).toNat * 3)).block, (ad689.add ((x3_1).toNat * 3)).off + 2, none⟩ = some (.string ((rd_T32 l0_0 x3_1).f2)) ∧ w'.cell? (ad689.add ((x3_1).toNat * 3)) = some (.bool ((rd_T32 l0_0 x3_1).f0)) ∧ w'.cell? ⟨(ad689.add ((x3_1).toNat * 3)).block, (ad689.add ((x3_1).toNat * 3)).off + 1, none⟩ = some (.slice A691_1 ((rd_T32 l0_0 x3_1).f1).length c691_1) ∧ w'.cell? ⟨(ad689.add ((x3_1).toNat * 3)).block, (ad689.add ((x3_1).toNat * 3)).off + 2, none⟩ = some (.string ((rd_T32 l0_0 x3_1).f2)) ∧ w'.cell? (ad689.add ((x3_1).toNat * 3)) = some (.bool ((rd_T32 l0_0 x3_1).f0)) ∧ w'.cell? ⟨(ad689.add ((x3_1).toNat * 3)).block, (ad689.add ((x3_1).toNat * 3)).off + 1, none⟩ = some (.slice A693_1 ((rd_T32 l0_0 x3_1).f1).length c693_1) ∧ w'.cell? ⟨(ad689.add ((x3_1).toNat * 3)).block, (ad689.add ((x3_1).toNat * 3)).off + 2, none⟩ = some (.string ((rd_T32 l0_0 x3_1).f2))) (ds := []) #[false, false, false, false, false, false, false, false, false, false, false, false, false, false, false, false, false, false, false, false, false, false, false, false, false, false, false, false, false] (by kernel_rfl) rfl rfl ⟨(blk_cell BK688.out 0).trans rfl, (blk_cell BK688.out 1).trans rfl, (yM HB.out hw689_0), (yM HB.out hw689_1), (yM HB.out hw689_2), (yM HB.out hw691_0), (yM HB.out hw691_1), (yM HB.out hw691_2), (yM HB.out hw693_0), (yM HB.out hw693_1), (yM HB.out hw693_2)⟩ (fun hHeld => ?_); refine with_tabW swarfref43_proper.tab6 swarfref43_proper.bits6 (fun HT_ HW_ => ?_)
      generalize wr.drew = w23 at BK688 HB HR689_1 HR691_1 HR693_1 hx689_0 hx689_1 hx689_2 hx691_0 hx691_1 hx691_2 hx693_0 hx693_1 hx693_2 hHeld ⊢
      refine yp 0 18 ?_
      refine yp 2 20 ?_
      refine yt 1 19 hHeld ?_
      refine yp 3 21 ?_
      refine yt 4 22 hHeld ?_
      refine yo 5 (some 23) (fun K hK => ?_)
      refine goes_ Try.func82 (by kernel_rfl) rfl #[.agg #[.bool ((rd_T32 l0_0 x3_1).f0), .slice A689_1 ((rd_T32 l0_0 x3_1).f1).length c689_1, .string ((rd_T32 l0_0 x3_1).f2)]] (by rfl) rfl rfl (by (try simp only [List.map_toArray, List.map_cons, List.map_nil]); first | done | rfl | (simp only [List.length_drop, List.length_take]; rfl) | (simp only [HQA693_1.out, HQc693_1.out]; rfl) | (simp only [HQA691_1.out, HQc691_1.out]; rfl) | (simp only [HQA691_1.out, HQc691_1.out, HQA693_1.out, HQc693_1.out]; rfl)) ?_
      with_reducible refine (swarfref43_Return.calls k1 ((rd_T32 l0_0 x3_1).f0) _ _ ((rd_T32 l0_0 x3_1).f1) ((rd_T32 l0_0 x3_1).f2) false _ ?side1 ?side2 A9.out).mono ?_
      (case side1 => exact yC HR689_1.out)
      (case side2 => exact HC689_1.out)
      rintro e w24 ⟨rfl, hb⟩
      refine ⟨_, rfl, ?_⟩
      replace BK688 := Aside0.mk (blk_below (g := gb688) yK hb)
      replace HB := Aside0.mk (below_step yB hb)
      (try clear hb)
      refine hK.out _ _ ⟨(blk_cell BK688.out 0).trans rfl, (blk_cell BK688.out 1).trans rfl, (yM HB.out hw689_0), (yM HB.out hw689_1), (yM HB.out hw689_2), (yM HB.out hw691_0), (yM HB.out hw691_1), (yM HB.out hw691_2), (yM HB.out hw693_0), (yM HB.out hw693_1), (yM HB.out hw693_2)⟩ (fun hHeld => ?_)
      clear hK K
      refine yn 23 ?_
      refine yp 6 24 ?_
      refine yp 7 25 ?_
      refine yp 9 27 ?_
      refine yt 8 26 hHeld ?_
      refine yp 10 28 ?_
      refine yt 11 29 hHeld ?_
      refine yo 12 (some 30) (fun K hK => ?_)
      refine goes_ Try.func83 (by kernel_rfl) rfl #[.agg #[.bool ((rd_T32 l0_0 x3_1).f0), .slice A691_1 ((rd_T32 l0_0 x3_1).f1).length c691_1, .string ((rd_T32 l0_0 x3_1).f2)], .int .u8 79] (by rfl) rfl rfl (by (try simp only [List.map_toArray, List.map_cons, List.map_nil]); first | done | rfl | (simp only [List.length_drop, List.length_take]; rfl) | (simp only [HQA693_1.out, HQc693_1.out]; rfl) | (simp only [HQA691_1.out, HQc691_1.out]; rfl) | (simp only [HQA691_1.out, HQc691_1.out, HQA693_1.out, HQc693_1.out]; rfl)) ?_
      with_reducible refine (swarfref43_letter.calls k1 ((rd_T32 l0_0 x3_1).f0) _ _ ((rd_T32 l0_0 x3_1).f1) ((rd_T32 l0_0 x3_1).f2) 79 false _ ?side1 ?side2 A14.out).mono ?_
      (case side1 => exact yC HR691_1.out)
      (case side2 => exact HC691_1.out)
      rintro e w25 ⟨rfl, hb⟩
      refine ⟨_, rfl, ?_⟩
      replace BK688 := Aside0.mk (blk_below (g := gb688) yK hb)
      replace HB := Aside0.mk (below_step yB hb)
      (try clear hb)
      refine hK.out _ _ ⟨(blk_cell BK688.out 0).trans rfl, (blk_cell BK688.out 1).trans rfl, (yM HB.out hw689_0), (yM HB.out hw689_1), (yM HB.out hw689_2), (yM HB.out hw691_0), (yM HB.out hw691_1), (yM HB.out hw691_2), (yM HB.out hw693_0), (yM HB.out hw693_1), (yM HB.out hw693_2)⟩ (fun hHeld => ?_)
      clear hK K
      refine yn 30 ?_
      refine yp 13 31 ?_
      refine yp 14 32 ?_
      refine yp 15 33 ?_
      refine yp 17 35 ?_
      refine yp 21 39 ?_
      refine yp 22 40 ?_
      refine yt 16 34 hHeld ?_
      refine yp 18 36 ?_
      refine yt 19 37 hHeld ?_
      refine yt 23 41 hHeld ?_
      refine yp 24 42 ?_
      refine yp 25 43 ?_
      refine yp 26 44 ?_
      refine yo 20 (some 38) (fun K hK => ?_)
      refine goes_ Try.func81 (by kernel_rfl) rfl #[.agg #[.bool ((rd_T32 l0_0 x3_1).f0), .slice A693_1 ((rd_T32 l0_0 x3_1).f1).length c693_1, .string ((rd_T32 l0_0 x3_1).f2)]] (by rfl) rfl rfl (by (try simp only [List.map_toArray, List.map_cons, List.map_nil]); first | done | rfl | (simp only [List.length_drop, List.length_take]; rfl) | (simp only [HQA693_1.out, HQc693_1.out]; rfl) | (simp only [HQA691_1.out, HQc691_1.out]; rfl) | (simp only [HQA691_1.out, HQc691_1.out, HQA693_1.out, HQc693_1.out]; rfl)) ?_
      with_reducible refine (swarfref43_End.calls k1 ((rd_T32 l0_0 x3_1).f0) _ _ ((rd_T32 l0_0 x3_1).f1) ((rd_T32 l0_0 x3_1).f2) t694 _ ?side1 ?side2 A20.out).mono ?_
      (case side1 => exact yC HR693_1.out)
      (case side2 => exact HC693_1.out)
      rintro e w26 ⟨rfl, hb⟩
      refine ⟨_, rfl, ?_⟩
      replace BK688 := Aside0.mk (blk_below (g := gb688) yK hb)
      replace HB := Aside0.mk (below_step yB hb)
      (try clear hb)
      refine hK.out _ _ ⟨(blk_cell BK688.out 0).trans rfl, (blk_cell BK688.out 1).trans rfl, (yM HB.out hw689_0), (yM HB.out hw689_1), (yM HB.out hw689_2), (yM HB.out hw691_0), (yM HB.out hw691_1), (yM HB.out hw691_2), (yM HB.out hw693_0), (yM HB.out hw693_1), (yM HB.out hw693_2)⟩ (fun hHeld => ?_)
      clear hK K
      refine yn 38 ?_
      refine yp 27 45 ?_
      refine yp 28 46 ?_
      refine done_ (done_of HT_.out (by kernel_rfl)) ?_
      try go_wp2
      go_ret
      exact ⟨yE, yB⟩
     rw [if_neg c21] at H
     have c21b0 : (t694 != (x3_1 == (wrap64 ((l0_0.length : Int) - 1)))) = false := by simpa using c21
     (try (have c21b1 : decide (t694 = (x3_1 == (wrap64 ((l0_0.length : Int) - 1)))) = true := by simpa using c21))
     (try (have c21b2 : (t694 == (x3_1 == (wrap64 ((l0_0.length : Int) - 1)))) = true := by simpa using c21))
     clear c21
     have H' := Aside0.mk H
     clear H
     have hcz27_0 := yZ0 BK688.out
     have hcz27_1 := yZ1 BK688.out
     have hfz27_0 := blk_frozen BK688.out 0
     have hfz27_1 := blk_frozen BK688.out 1
     try go_wp2
     replace BK688 := Aside0.mk (blk_drew BK688.out)
     replace HB := Aside0.mk (below_drew1 HB.out)
     have p689 : 0 ≤ (x3_1 : Int) := yD
     have q689 : x3_1 < (l0_0.length : Int) := yD
     obtain ⟨ad689, A689_1, c689_1, e689, hx689_0, hx689_1, hx689_2, hl689_1, hi689_1⟩ := at_T32 HR0_0.out x3_1 p689 q689
     have hw689_2 := hx689_2
     have hw689_1 := hx689_1
     have hw689_0 := hx689_0
     cases e689
     replace hx689_0 := yM HB.out hx689_0
     replace hx689_1 := yM HB.out hx689_1
     replace hx689_2 := yM HB.out hx689_2
     have HR689_1 := Aside0.mk hi689_1
     have HC689_1 := Aside0.mk hl689_1
     clear hi689_1 hl689_1
     replace p689 := eq_true p689
     replace q689 := eq_true q689
     have p691 : 0 ≤ (x3_1 : Int) := yD
     have q691 : x3_1 < (l0_0.length : Int) := yD
     obtain ⟨ad691, A691_1, c691_1, e691, hx691_0, hx691_1, hx691_2, hl691_1, hi691_1⟩ := at_T32 HR0_0.out x3_1 p691 q691
     have hw691_2 := hx691_2
     have hw691_1 := hx691_1
     have hw691_0 := hx691_0
     obtain rfl : ad689 = ad691 := (by injection e691)
     have HQA691_1 := Aside0.mk (show A691_1 = A689_1 from by first | (have e_ := Option.some.inj (hw689_1.symm.trans hw691_1); injection e_ with e1_ e2_ e3_; exact e1_.symm) | (have e_ := Option.some.inj (hx689_1.symm.trans hx691_1); injection e_ with e1_ e2_ e3_; exact e1_.symm))
     have HQc691_1 := Aside0.mk (show c691_1 = c689_1 from by first | (have e_ := Option.some.inj (hw689_1.symm.trans hw691_1); injection e_ with e1_ e2_ e3_; exact e3_.symm) | (have e_ := Option.some.inj (hx689_1.symm.trans hx691_1); injection e_ with e1_ e2_ e3_; exact e3_.symm))
     replace hx691_0 := yM HB.out hx691_0
     replace hx691_1 := yM HB.out hx691_1
     replace hx691_2 := yM HB.out hx691_2
     have HR691_1 := Aside0.mk hi691_1
     have HC691_1 := Aside0.mk hl691_1
     clear hi691_1 hl691_1
     replace p691 := eq_true p691
     replace q691 := eq_true q691
     have p693 : 0 ≤ (x3_1 : Int) := yD
     have q693 : x3_1 < (l0_0.length : Int) := yD
     obtain ⟨ad693, A693_1, c693_1, e693, hx693_0, hx693_1, hx693_2, hl693_1, hi693_1⟩ := at_T32 HR0_0.out x3_1 p693 q693
     have hw693_2 := hx693_2
     have hw693_1 := hx693_1
     have hw693_0 := hx693_0
     obtain rfl : ad689 = ad693 := (by injection e693)
     have HQA693_1 := Aside0.mk (show A693_1 = A689_1 from by first | (have e_ := Option.some.inj (hw689_1.symm.trans hw693_1); injection e_ with e1_ e2_ e3_; exact e1_.symm) | (have e_ := Option.some.inj (hx689_1.symm.trans hx693_1); injection e_ with e1_ e2_ e3_; exact e1_.symm))
     have HQc693_1 := Aside0.mk (show c693_1 = c689_1 from by first | (have e_ := Option.some.inj (hw689_1.symm.trans hw693_1); injection e_ with e1_ e2_ e3_; exact e3_.symm) | (have e_ := Option.some.inj (hx689_1.symm.trans hx693_1); injection e_ with e1_ e2_ e3_; exact e3_.symm))
     replace hx693_0 := yM HB.out hx693_0
     replace hx693_1 := yM HB.out hx693_1
     replace hx693_2 := yM HB.out hx693_2
     have HR693_1 := Aside0.mk hi693_1
     have HC693_1 := Aside0.mk hl693_1
     clear hi693_1 hl693_1
     replace p693 := eq_true p693
     replace q693 := eq_true q693
     refine start_ (n := 29) (S := fun w' => w'.cell? ⟨gb688, 0, none⟩ = some (.slice (some ad689) l0_0.length c0_0) ∧ w'.cell? ⟨gb688, 1, none⟩ = some (.slice A0_1 l0_1.length c0_1) ∧ w'.cell? (ad689.add ((x3_1).toNat * 3)) = some (.bool ((rd_T32 l0_0 x3_1).f0)) ∧ w'.cell? ⟨(ad689.add ((x3_1).toNat * 3)).block, (ad689.add ((x3_1).toNat * 3)).off + 1, none⟩ = some (.slice A689_1 ((rd_T32 l0_0 x3_1).f1).length c689_1) ∧ w'.cell? ⟨(ad689.add ((x3_1).toNat * 3)).block, (ad689.add ((x3_1).toNat * 3)).off + 2, none⟩ = some (.string ((rd_T32 l0_0 x3_1).f2)) ∧ w'.cell? (ad689.add ((x3_1).toNat * 3)) = some (.bool ((rd_T32 l0_0 x3_1).f0)) ∧ w'.cell? ⟨(ad689.add ((x3_1).toNat * 3)).block, (ad689.add ((x3_1).toNat * 3)).off + 1, none⟩ = some (.slice A691_1 ((rd_T32 l0_0 x3_1).f1).length c691_1) ∧ w'.cell? ⟨(ad689.add ((x3_1).toNat * 3)).block, (ad689.add ((x3_1).toNat * 3)).off + 2, none⟩ = some (.string ((rd_T32 l0_0 x3_1).f2)) ∧ w'.cell? (ad689.add ((x3_1).toNat * 3)) = some (.bool ((rd_T32 l0_0 x3_1).f0)) ∧ w'.cell? ⟨(ad689.add ((x3_1).toNat * 3)).block, (ad689.add ((x3_1).toNat * 3)).off + 1, none⟩ = some (.slice A693_1 ((rd_T32 l0_0 x3_1).f1).length c693_1) ∧ w'.cell? ⟨(ad689.add ((x3_1).toNat * 3)).block, (ad689.add ((x3_1).toNat * 3)).off + 2, none⟩ = some (.string ((rd_T32 l0_0 x3_1).f2))) (ds := []) #[false, false, false, false, false, false, false, false, false, false, false, false, false, false, false, false, false, false, false, false, false, false, false, false, false, false, false, false, false] (by kernel_rfl) rfl rfl ⟨(blk_cell BK688.out 0).trans rfl, (blk_cell BK688.out 1).trans rfl, (yM HB.out hw689_0), (yM HB.out hw689_1), (yM HB.out hw689_2), (yM HB.out hw691_0), (yM HB.out hw691_1), (yM HB.out hw691_2), (yM HB.out hw693_0), (yM HB.out hw693_1), (yM HB.out hw693_2)⟩ (fun hHeld => ?_); refine with_tabW swarfref43_proper.tab6 swarfref43_proper.bits6 (fun HT_ HW_ => ?_)
     generalize wr.drew = w28 at BK688 HB HR689_1 HR691_1 HR693_1 hx689_0 hx689_1 hx689_2 hx691_0 hx691_1 hx691_2 hx693_0 hx693_1 hx693_2 hHeld ⊢
     refine yp 0 18 ?_
     refine yp 2 20 ?_
     refine yt 1 19 hHeld ?_
     refine yp 3 21 ?_
     refine yt 4 22 hHeld ?_
     refine yo 5 (some 23) (fun K hK => ?_)
     refine goes_ Try.func82 (by kernel_rfl) rfl #[.agg #[.bool ((rd_T32 l0_0 x3_1).f0), .slice A689_1 ((rd_T32 l0_0 x3_1).f1).length c689_1, .string ((rd_T32 l0_0 x3_1).f2)]] (by rfl) rfl rfl (by (try simp only [List.map_toArray, List.map_cons, List.map_nil]); first | done | rfl | (simp only [List.length_drop, List.length_take]; rfl) | (simp only [HQA693_1.out, HQc693_1.out]; rfl) | (simp only [HQA691_1.out, HQc691_1.out]; rfl) | (simp only [HQA691_1.out, HQc691_1.out, HQA693_1.out, HQc693_1.out]; rfl)) ?_
     with_reducible refine (swarfref43_Return.calls k1 ((rd_T32 l0_0 x3_1).f0) _ _ ((rd_T32 l0_0 x3_1).f1) ((rd_T32 l0_0 x3_1).f2) false _ ?side1 ?side2 A9.out).mono ?_
     (case side1 => exact yC HR689_1.out)
     (case side2 => exact HC689_1.out)
     rintro e w29 ⟨rfl, hb⟩
     refine ⟨_, rfl, ?_⟩
     replace BK688 := Aside0.mk (blk_below (g := gb688) yK hb)
     replace HB := Aside0.mk (below_step yB hb)
     (try clear hb)
     refine hK.out _ _ ⟨(blk_cell BK688.out 0).trans rfl, (blk_cell BK688.out 1).trans rfl, (yM HB.out hw689_0), (yM HB.out hw689_1), (yM HB.out hw689_2), (yM HB.out hw691_0), (yM HB.out hw691_1), (yM HB.out hw691_2), (yM HB.out hw693_0), (yM HB.out hw693_1), (yM HB.out hw693_2)⟩ (fun hHeld => ?_)
     clear hK K
     refine yn 23 ?_
     refine yp 6 24 ?_
     refine yp 7 25 ?_
     refine yp 9 27 ?_
     refine yt 8 26 hHeld ?_
     refine yp 10 28 ?_
     refine yt 11 29 hHeld ?_
     refine yo 12 (some 30) (fun K hK => ?_)
     refine goes_ Try.func83 (by kernel_rfl) rfl #[.agg #[.bool ((rd_T32 l0_0 x3_1).f0), .slice A691_1 ((rd_T32 l0_0 x3_1).f1).length c691_1, .string ((rd_T32 l0_0 x3_1).f2)], .int .u8 79] (by rfl) rfl rfl (by (try simp only [List.map_toArray, List.map_cons, List.map_nil]); first | done | rfl | (simp only [List.length_drop, List.length_take]; rfl) | (simp only [HQA693_1.out, HQc693_1.out]; rfl) | (simp only [HQA691_1.out, HQc691_1.out]; rfl) | (simp only [HQA691_1.out, HQc691_1.out, HQA693_1.out, HQc693_1.out]; rfl)) ?_
     with_reducible refine (swarfref43_letter.calls k1 ((rd_T32 l0_0 x3_1).f0) _ _ ((rd_T32 l0_0 x3_1).f1) ((rd_T32 l0_0 x3_1).f2) 79 false _ ?side1 ?side2 A14.out).mono ?_
     (case side1 => exact yC HR691_1.out)
     (case side2 => exact HC691_1.out)
     rintro e w30 ⟨rfl, hb⟩
     refine ⟨_, rfl, ?_⟩
     replace BK688 := Aside0.mk (blk_below (g := gb688) yK hb)
     replace HB := Aside0.mk (below_step yB hb)
     (try clear hb)
     refine hK.out _ _ ⟨(blk_cell BK688.out 0).trans rfl, (blk_cell BK688.out 1).trans rfl, (yM HB.out hw689_0), (yM HB.out hw689_1), (yM HB.out hw689_2), (yM HB.out hw691_0), (yM HB.out hw691_1), (yM HB.out hw691_2), (yM HB.out hw693_0), (yM HB.out hw693_1), (yM HB.out hw693_2)⟩ (fun hHeld => ?_)
     clear hK K
     refine yn 30 ?_
     refine yp 13 31 ?_
     refine yp 14 32 ?_
     refine yp 15 33 ?_
     refine yp 17 35 ?_
     refine yp 21 39 ?_
     refine yp 22 40 ?_
     refine yt 16 34 hHeld ?_
     refine yp 18 36 ?_
     refine yt 19 37 hHeld ?_
     refine yt 23 41 hHeld ?_
     refine yp 24 42 ?_
     refine yp 25 43 ?_
     refine yp 26 44 ?_
     refine yo 20 (some 38) (fun K hK => ?_)
     refine goes_ Try.func81 (by kernel_rfl) rfl #[.agg #[.bool ((rd_T32 l0_0 x3_1).f0), .slice A693_1 ((rd_T32 l0_0 x3_1).f1).length c693_1, .string ((rd_T32 l0_0 x3_1).f2)]] (by rfl) rfl rfl (by (try simp only [List.map_toArray, List.map_cons, List.map_nil]); first | done | rfl | (simp only [List.length_drop, List.length_take]; rfl) | (simp only [HQA693_1.out, HQc693_1.out]; rfl) | (simp only [HQA691_1.out, HQc691_1.out]; rfl) | (simp only [HQA691_1.out, HQc691_1.out, HQA693_1.out, HQc693_1.out]; rfl)) ?_
     with_reducible refine (swarfref43_End.calls k1 ((rd_T32 l0_0 x3_1).f0) _ _ ((rd_T32 l0_0 x3_1).f1) ((rd_T32 l0_0 x3_1).f2) t694 _ ?side1 ?side2 A20.out).mono ?_
     (case side1 => exact yC HR693_1.out)
     (case side2 => exact HC693_1.out)
     rintro e w31 ⟨rfl, hb⟩
     refine ⟨_, rfl, ?_⟩
     replace BK688 := Aside0.mk (blk_below (g := gb688) yK hb)
     replace HB := Aside0.mk (below_step yB hb)
     (try clear hb)
     refine hK.out _ _ ⟨(blk_cell BK688.out 0).trans rfl, (blk_cell BK688.out 1).trans rfl, (yM HB.out hw689_0), (yM HB.out hw689_1), (yM HB.out hw689_2), (yM HB.out hw691_0), (yM HB.out hw691_1), (yM HB.out hw691_2), (yM HB.out hw693_0), (yM HB.out hw693_1), (yM HB.out hw693_2)⟩ (fun hHeld => ?_)
     clear hK K
     refine yn 38 ?_
     refine yp 27 45 ?_
     refine yp 28 46 ?_
     refine done_ (done_of HT_.out (by kernel_rfl)) ?_
     try go_wp2
     go_roundg k1
     case measure => have := HK1.out; omega
     case rel => exact ⟨(wrap64 (x3_1 + 1)), yS, H', ⟨by have := HK1.out; omega⟩, ⟨by refine yH ?_; exact BK688.out⟩, ⟨yB⟩⟩
    rw [if_neg c8] at H
    exact absurd H (by simp)
   rw [if_neg c7] at H
   have c7b0 := decide_eq_false c7
   clear c7
   have H' := Aside0.mk H
   clear H
   have hcz32_0 := yZ0 BK688.out
   have hcz32_1 := yZ1 BK688.out
   have hfz32_0 := blk_frozen BK688.out 0
   have hfz32_1 := blk_frozen BK688.out 1
   go_wp2
   go_loopg [4] k1 (fun kq v4 w' => ∃ (x4_2 : Int), v4 = .int .i64 x4_2 ∧ Aside0 (swarfref43_proper.l1 kq x4_2 l0_0 l0_1 = some r) ∧ Aside0 (kq ≤ k1) ∧ Aside0 (w'.heap[gb688]? = some (.cells #[(.slice A0_0 l0_0.length c0_0), (.slice A0_1 l0_1.length c0_1)] 48 (0, 0))) ∧ Aside0 (Below w.heap.size w w'))
   case atStart => exact ⟨(0), yS, H', ⟨Nat.le_refl _⟩, ⟨by refine yH ?_; exact BK688.out⟩, ⟨yB⟩⟩
   case round =>
    clear H'
    try clear c2
    try clear p2
    try clear c6
    try clear p6
    try clear q6
    try clear hx6
    try clear c7
    try clear c7b0
    try clear c8
    try clear c21
    try clear c21b0
    try clear c21b1
    try clear c21b2
    try clear hcz27_0
    try clear hcz27_1
    try clear hcz32_0
    try clear hcz32_1
    try clear hfz27_0
    try clear hfz27_1
    try clear hfz32_0
    try clear hfz32_1
    try clear hx689_0
    try clear hx689_1
    try clear hx689_2
    try clear hx691_0
    try clear hx691_1
    try clear hx691_2
    try clear hx693_0
    try clear hx693_1
    try clear hx693_2
    try clear p689
    try clear p691
    try clear p693
    try clear q689
    try clear q691
    try clear q693
    obtain ⟨x4_2, rfl, HA, HK2, BK688, HB⟩ := hrel
    cases gk with
    | zero => exact absurd HA.out (by simp [swarfref43_proper.l1])
    | succ k2 =>
     have H := HA.out
     clear HA
     simp only [swarfref43_proper.l1] at H
     by_cases c33 : x4_2 < (l0_1.length : Int)
     ·rw [if_pos c33] at H
      have c33b0 := decide_eq_true c33
      clear c33
      by_cases c34 : 0 ≤ x4_2
      ·rw [if_pos c34] at H
       have c34b0 := decide_eq_true c34
       clear c34
       have HC35 := Aside0.mk H
       clear H
       have hcz36_0 := yZ0 BK688.out
       have hcz36_1 := yZ1 BK688.out
       have hfz36_0 := blk_frozen BK688.out 0
       have hfz36_1 := blk_frozen BK688.out 1
       have p695 : 0 ≤ (x4_2 : Int) := yD
       have q695 : x4_2 < (l0_1.length : Int) := yD
       obtain ⟨ad695, A695_1, c695_1, e695, hx695_0, hx695_1, hl695_1, hi695_1⟩ := at_T58 HR0_1.out x4_2 p695 q695
       cases e695
       replace hx695_0 := yM HB.out hx695_0
       replace hx695_1 := yM HB.out hx695_1
       have HR695_1 := Aside0.mk hi695_1
       have HC695_1 := Aside0.mk hl695_1
       clear hi695_1 hl695_1
       replace p695 := eq_true p695
       replace q695 := eq_true q695
       go_upto_region 12 with (first | ((with_reducible refine gate_dst (N := 5) rfl ?_); (try (refine gate_guard (by rfl) ?_; dsimp only)); refine yX 5 #[.int .i64 0, .slice none 0 0] 58 ?_; intro gb696 hg w37 hbox hb; have BK696 := Aside0.mk (hbox); have GE696 := Aside0.mk ((yG hg : w.heap.size ≤ gb696)); replace HB := Aside0.mk (below_step yB hb); have NB688_696 := Aside0.mk ((yJ hg yK : gb688 ≠ gb696)); have NB696_688 := Aside0.mk ((yI hg yK : gb696 ≠ gb688)); replace BK688 := Aside0.mk (blk_below (g := gb688) yK hb); clear hb hbox hg; have hnb38 := NB696_688.out; have hnc38 := NB688_696.out; have hcz39_0 := yZ0 BK696.out; have hcz39_1 := yZ1 BK696.out; have hfz39_0 := blk_frozen BK696.out 0; have hfz39_1 := blk_frozen BK696.out 1))
       (try simp only [Act.put, List.setIfInBounds_toArray, List.set_cons_zero, List.set_cons_succ])
       go_cut [74] (fun v74 wc => ∃ (kq : Nat) (x74_34 : Bool), v74 = .bool x74_34 ∧ Aside0 (swarfref43_proper.j2 kq x4_2 x74_34 l0_0 l0_1 ((rd_T58 l0_1 x4_2).f0) ((rd_T58 l0_1 x4_2).f1) = some r) ∧ Aside0 (kq ≤ k2) ∧ Aside0 (wc.heap[gb688]? = some (.cells #[(.slice A0_0 l0_0.length c0_0), (.slice (some ad695) l0_1.length c0_1)] 48 (0, 0))) ∧ Aside0 (wc.heap[gb696]? = some (.cells #[.int .i64 ((rd_T58 l0_1 x4_2).f0), (.slice A695_1 ((rd_T58 l0_1 x4_2).f1).length c695_1)] 58 (0, 0))) ∧ Aside0 (Below w.heap.size w wc))
       case first =>
        have H := HC35.out
        clear HC35
        by_cases c40 : ((rd_T58 l0_1 x4_2).f0) < 1
        ·rw [if_pos c40] at H
         have c40b0 := decide_eq_true c40
         clear c40
         (first | rw [c40b0] | (simp only [i64_w, i32_w]; rw [c40b0]) | skip)
         have H' := Aside0.mk H
         clear H
         have hnb41 := NB696_688.out
         have hnc41 := NB688_696.out
         have hcz42_0 := yZ0 BK696.out
         have hcz42_1 := yZ1 BK696.out
         have hfz42_0 := blk_frozen BK696.out 0
         have hfz42_1 := blk_frozen BK696.out 1
         go_wp2
         go_meet
         case rel => exact ⟨_, (true), yS, H', ⟨by have := HK1.out; have := HK2.out; first | omega | exact Nat.le_refl _⟩, ⟨by refine yH ?_; refine blk_far ?_ NB688_696.out _; refine yH ?_; refine blk_far ?_ NB688_696.out _; refine yH ?_; exact BK688.out⟩, ⟨by refine yH ?_; refine blk_put (cs := #[.int .i64 ((rd_T58 l0_1 x4_2).f0), .slice none 0 0]) ?_ 1 _ rfl; refine yH ?_; refine blk_put (cs := #[.int .i64 0, .slice none 0 0]) ?_ 0 _ rfl; refine yH ?_; exact BK696.out⟩, ⟨yB⟩⟩
        rw [if_neg c40] at H
        have c40b0 := decide_eq_false c40
        clear c40
        (first | rw [c40b0] | (simp only [i64_w, i32_w]; rw [c40b0]) | skip)
        by_cases c43 : ((rd_T58 l0_1 x4_2).f0) > 9999
        ·rw [if_pos c43] at H
         have c43b0 := decide_eq_true c43
         clear c43
         have H' := Aside0.mk H
         clear H
         have hnb44 := NB696_688.out
         have hnc44 := NB688_696.out
         have hcz45_0 := yZ0 BK696.out
         have hcz45_1 := yZ1 BK696.out
         have hfz45_0 := blk_frozen BK696.out 0
         have hfz45_1 := blk_frozen BK696.out 1
         go_wp2
         go_meet
         case rel => exact ⟨_, (true), yS, H', ⟨by have := HK1.out; have := HK2.out; first | omega | exact Nat.le_refl _⟩, ⟨by refine yH ?_; refine blk_far ?_ NB688_696.out _; refine yH ?_; refine blk_far ?_ NB688_696.out _; refine yH ?_; exact BK688.out⟩, ⟨by refine yH ?_; refine blk_put (cs := #[.int .i64 ((rd_T58 l0_1 x4_2).f0), .slice none 0 0]) ?_ 1 _ rfl; refine yH ?_; refine blk_put (cs := #[.int .i64 0, .slice none 0 0]) ?_ 0 _ rfl; refine yH ?_; exact BK696.out⟩, ⟨yB⟩⟩
        rw [if_neg c43] at H
        have c43b0 := decide_eq_false c43
        clear c43
        replace H := Option.bind_eq_some_iff.mp H
        obtain ⟨t697, A460, H⟩ := H
        have A46 := Aside0.mk A460
        clear A460
        have H' := Aside0.mk H
        clear H
        have hnb47 := NB696_688.out
        have hnc47 := NB688_696.out
        have hcz48_0 := yZ0 BK696.out
        have hcz48_1 := yZ1 BK696.out
        have hfz48_0 := blk_frozen BK696.out 0
        have hfz48_1 := blk_frozen BK696.out 1
        have hcz49_0 := yZ0 BK688.out
        have hcz49_1 := yZ1 BK688.out
        have hfz49_0 := blk_frozen BK688.out 0
        have hfz49_1 := blk_frozen BK688.out 1
        go_wp2_with (first | (go_at_call 30; (with_reducible refine (swarfref43_Find.calls k2 _ _ l0_0 _ _ l0_1 ((rd_T58 l0_1 x4_2).f0) t697 _ ?side1 ?side2 ?side3 ?side4 A46.out).mono ?_); (case side1 => exact Kd.C_below HR0_0.out yB); (case side2 => exact HC0_0.out); (case side3 => exact Kd.C_below HR0_1.out yB); (case side4 => exact HC0_1.out); rintro e w50 ⟨rfl, hb⟩; replace BK688 := Aside0.mk (blk_below (g := gb688) (o := .cells #[.slice A0_0 l0_0.length c0_0, .slice (some ad695) l0_1.length c0_1] 48 (0, 0)) (by refine yH ?_; refine blk_far ?_ NB688_696.out _; refine yH ?_; refine blk_far ?_ NB688_696.out _; refine yH ?_; exact BK688.out) hb); replace BK696 := Aside0.mk (blk_below (g := gb696) (o := .cells #[.int .i64 ((rd_T58 l0_1 x4_2).f0), .slice A695_1 ((rd_T58 l0_1 x4_2).f1).length c695_1] 58 (0, 0)) (by refine yH ?_; refine blk_put (cs := #[.int .i64 ((rd_T58 l0_1 x4_2).f0), .slice none 0 0]) ?_ 1 _ rfl; refine yH ?_; refine blk_put (cs := #[.int .i64 0, .slice none 0 0]) ?_ 0 _ rfl; refine yH ?_; exact BK696.out) hb); replace HB := Aside0.mk (below_step yB hb); (try clear hb)))
        go_meet
        case rel => exact ⟨_, (decide (t697 < x4_2)), yS, H', ⟨by have := HK1.out; have := HK2.out; first | omega | exact Nat.le_refl _⟩, ⟨by refine yH ?_; exact BK688.out⟩, ⟨by refine yH ?_; exact BK696.out⟩, ⟨yB⟩⟩
       case rest =>
        clear HC35
        try clear c2
        try clear p2
        try clear c3
        try clear c4
        try clear c6
        try clear p6
        try clear q6
        try clear hx6
        try clear c7
        try clear c7b0
        try clear c8
        try clear c21
        try clear c21b0
        try clear c21b1
        try clear c21b2
        try clear c33
        try clear c33b0
        try clear c34
        try clear c34b0
        try clear c38
        try clear c40
        try clear c40b0
        try clear c41
        try clear c43
        try clear c43b0
        try clear c44
        try clear c47
        try clear hcz27_0
        try clear hcz27_1
        try clear hcz32_0
        try clear hcz32_1
        try clear hcz36_0
        try clear hcz36_1
        try clear hcz39_0
        try clear hcz39_1
        try clear hcz42_0
        try clear hcz42_1
        try clear hcz45_0
        try clear hcz45_1
        try clear hcz48_0
        try clear hcz48_1
        try clear hcz49_0
        try clear hcz49_1
        try clear hfz27_0
        try clear hfz27_1
        try clear hfz32_0
        try clear hfz32_1
        try clear hfz36_0
        try clear hfz36_1
        try clear hfz39_0
        try clear hfz39_1
        try clear hfz42_0
        try clear hfz42_1
        try clear hfz45_0
        try clear hfz45_1
        try clear hfz48_0
        try clear hfz48_1
        try clear hfz49_0
        try clear hfz49_1
        try clear hx689_0
        try clear hx689_1
        try clear hx689_2
        try clear hx691_0
        try clear hx691_1
        try clear hx691_2
        try clear hx693_0
        try clear hx693_1
        try clear hx693_2
        try clear hx695_0
        try clear hx695_1
        try clear p2
        try clear p6
        try clear p689
        try clear p691
        try clear p693
        try clear p695
        try clear q6
        try clear q689
        try clear q691
        try clear q693
        try clear q695
        obtain ⟨kq, x74_34, rfl, HA, HJ34, BK688, BK696, HB⟩ := hcut
        cases kq with
        | zero => exact absurd HA.out (by simp [swarfref43_proper.j2])
        | succ kj34 =>
         have H := HA.out
         clear HA
         simp only [swarfref43_proper.j2] at H
         by_cases c51 : x74_34 = true
         ·subst c51
          rw [if_pos rfl] at H
          obtain rfl := Option.some.inj H
          go_wp2
          go_ret
          exact ⟨yE, yB⟩
         replace c51 := Bool.eq_false_iff.mpr c51
         subst c51
         replace H : (swarfref43_proper.l2 kj34 x4_2 0 l0_0 l0_1 ((rd_T58 l0_1 x4_2).f0) ((rd_T58 l0_1 x4_2).f1)) = some r := by rw [if_neg (show ¬ (false = true) by decide)] at H; exact H
         have H' := Aside0.mk H
         clear H
         go_wp2
         go_loopg [6] kj34 (fun kq v6 w' => ∃ (x6_4 : Int), v6 = .int .i64 x6_4 ∧ Aside0 (swarfref43_proper.l2 kq x4_2 x6_4 l0_0 l0_1 ((rd_T58 l0_1 x4_2).f0) ((rd_T58 l0_1 x4_2).f1) = some r) ∧ Aside0 (kq ≤ kj34) ∧ Aside0 (w'.heap[gb688]? = some (.cells #[(.slice A0_0 l0_0.length c0_0), (.slice (some ad695) l0_1.length c0_1)] 48 (0, 0))) ∧ Aside0 (w'.heap[gb696]? = some (.cells #[.int .i64 ((rd_T58 l0_1 x4_2).f0), (.slice A695_1 ((rd_T58 l0_1 x4_2).f1).length c695_1)] 58 (0, 0))) ∧ Aside0 (Below w.heap.size w w'))
         case atStart => exact ⟨(0), yS, H', ⟨Nat.le_refl _⟩, ⟨by refine yH ?_; exact BK688.out⟩, ⟨by refine yH ?_; exact BK696.out⟩, ⟨yB⟩⟩
         case round =>
          clear H'
          try clear c2
          try clear p2
          try clear c3
          try clear c4
          try clear c5
          try clear c6
          try clear p6
          try clear q6
          try clear hx6
          try clear c7
          try clear c7b0
          try clear c8
          try clear c21
          try clear c21b0
          try clear c21b1
          try clear c21b2
          try clear c33
          try clear c33b0
          try clear c34
          try clear c34b0
          try clear c38
          try clear c40
          try clear c40b0
          try clear c41
          try clear c43
          try clear c43b0
          try clear c44
          try clear c47
          try clear c51
          try clear hcz27_0
          try clear hcz27_1
          try clear hcz32_0
          try clear hcz32_1
          try clear hcz36_0
          try clear hcz36_1
          try clear hcz39_0
          try clear hcz39_1
          try clear hcz42_0
          try clear hcz42_1
          try clear hcz45_0
          try clear hcz45_1
          try clear hcz48_0
          try clear hcz48_1
          try clear hcz49_0
          try clear hcz49_1
          try clear hfz27_0
          try clear hfz27_1
          try clear hfz32_0
          try clear hfz32_1
          try clear hfz36_0
          try clear hfz36_1
          try clear hfz39_0
          try clear hfz39_1
          try clear hfz42_0
          try clear hfz42_1
          try clear hfz45_0
          try clear hfz45_1
          try clear hfz48_0
          try clear hfz48_1
          try clear hfz49_0
          try clear hfz49_1
          try clear hx689_0
          try clear hx689_1
          try clear hx689_2
          try clear hx691_0
          try clear hx691_1
          try clear hx691_2
          try clear hx693_0
          try clear hx693_1
          try clear hx693_2
          try clear hx695_0
          try clear hx695_1
          try clear p2
          try clear p6
          try clear p689
          try clear p691
          try clear p693
          try clear p695
          try clear q6
          try clear q689
          try clear q691
          try clear q693
          try clear q695
          obtain ⟨x6_4, rfl, HA, HK4, BK688, BK696, HB⟩ := hrel
          cases gk with
          | zero => exact absurd HA.out (by simp [swarfref43_proper.l2])
          | succ k4 =>
           have H := HA.out
           clear HA
           simp only [swarfref43_proper.l2] at H
           by_cases c52 : x6_4 < (((rd_T58 l0_1 x4_2).f1).length : Int)
           ·rw [if_pos c52] at H
            have c52b0 := decide_eq_true c52
            clear c52
            by_cases c53 : 0 ≤ x6_4
            ·rw [if_pos c53] at H
             have c53b0 := decide_eq_true c53
             clear c53
             replace H := Option.bind_eq_some_iff.mp H
             obtain ⟨t699, A540, H⟩ := H
             have A54 := Aside0.mk A540
             clear A540
             by_cases c55 : t699 = true
             ·subst c55
              rw [if_pos rfl] at H
              obtain rfl := Option.some.inj H
              have hnb56 := NB696_688.out
              have hnc56 := NB688_696.out
              have hcz57_0 := yZ0 BK696.out
              have hcz57_1 := yZ1 BK696.out
              have hfz57_0 := blk_frozen BK696.out 0
              have hfz57_1 := blk_frozen BK696.out 1
              have p698 : 0 ≤ (x6_4 : Int) := yD
              have q698 : x6_4 < (((rd_T58 l0_1 x4_2).f1).length : Int) := yD
              obtain ⟨ad698, A698_1, c698_1, e698, hx698_0, hx698_1, hx698_2, hl698_1, hi698_1⟩ := at_T32 HR695_1.out x6_4 p698 q698
              cases e698
              replace hx698_0 := yM HB.out hx698_0
              replace hx698_1 := yM HB.out hx698_1
              replace hx698_2 := yM HB.out hx698_2
              have HR698_1 := Aside0.mk hi698_1
              have HC698_1 := Aside0.mk hl698_1
              clear hi698_1 hl698_1
              replace p698 := eq_true p698
              replace q698 := eq_true q698
              go_wp2_with (first | ((with_reducible refine gate_callee (f := 82) rfl ?_); refine goesL_ (some 87) rfl rfl Try.func82 (by kernel_rfl) rfl #[.agg #[.bool ((rd_T32 ((rd_T58 l0_1 x4_2).f1) x6_4).f0), .slice A698_1 ((rd_T32 ((rd_T58 l0_1 x4_2).f1) x6_4).f1).length c698_1, .string ((rd_T32 ((rd_T58 l0_1 x4_2).f1) x6_4).f2)]] rfl yQ ?_; (with_reducible refine (swarfref43_Return.calls k4 ((rd_T32 ((rd_T58 l0_1 x4_2).f1) x6_4).f0) _ _ ((rd_T32 ((rd_T58 l0_1 x4_2).f1) x6_4).f1) ((rd_T32 ((rd_T58 l0_1 x4_2).f1) x6_4).f2) true _ ?side1 ?side2 A54.out).mono ?_); (case side1 => exact yC HR698_1.out); (case side2 => exact HC698_1.out); rintro e w58 ⟨rfl, hb⟩; refine ⟨_, rfl, ?_⟩; replace BK688 := Aside0.mk (blk_below (g := gb688) yK hb); replace BK696 := Aside0.mk (blk_below (g := gb696) yK hb); replace HB := Aside0.mk (below_step yB hb); (try clear hb)))
              go_ret
              exact ⟨yE, yB⟩
             replace c55 := Bool.eq_false_iff.mpr c55
             subst c55
             replace H : ((swarfref43_letter.f k4 ((rd_T32 ((rd_T58 l0_1 x4_2).f1) x6_4).f0) ((rd_T32 ((rd_T58 l0_1 x4_2).f1) x6_4).f1) ((rd_T32 ((rd_T58 l0_1 x4_2).f1) x6_4).f2) 79).bind fun t701 => (if t701 = true then (some false) else ((swarfref43_End.f k4 ((rd_T32 ((rd_T58 l0_1 x4_2).f1) x6_4).f0) ((rd_T32 ((rd_T58 l0_1 x4_2).f1) x6_4).f1) ((rd_T32 ((rd_T58 l0_1 x4_2).f1) x6_4).f2)).bind fun t703 => (if t703 = true then (some false) else (swarfref43_proper.l2 k4 x4_2 (wrap64 (x6_4 + 1)) l0_0 l0_1 ((rd_T58 l0_1 x4_2).f0) ((rd_T58 l0_1 x4_2).f1)))))) = some r := by rw [if_neg (show ¬ (false = true) by decide)] at H; exact H
             replace H := Option.bind_eq_some_iff.mp H
             obtain ⟨t701, A590, H⟩ := H
             have A59 := Aside0.mk A590
             clear A590
             by_cases c60 : t701 = true
             ·subst c60
              rw [if_pos rfl] at H
              obtain rfl := Option.some.inj H
              have hnb61 := NB696_688.out
              have hnc61 := NB688_696.out
              have hcz62_0 := yZ0 BK696.out
              have hcz62_1 := yZ1 BK696.out
              have hfz62_0 := blk_frozen BK696.out 0
              have hfz62_1 := blk_frozen BK696.out 1
              have p698 : 0 ≤ (x6_4 : Int) := yD
              have q698 : x6_4 < (((rd_T58 l0_1 x4_2).f1).length : Int) := yD
              obtain ⟨ad698, A698_1, c698_1, e698, hx698_0, hx698_1, hx698_2, hl698_1, hi698_1⟩ := at_T32 HR695_1.out x6_4 p698 q698
              cases e698
              replace hx698_0 := yM HB.out hx698_0
              replace hx698_1 := yM HB.out hx698_1
              replace hx698_2 := yM HB.out hx698_2
              have HR698_1 := Aside0.mk hi698_1
              have HC698_1 := Aside0.mk hl698_1
              clear hi698_1 hl698_1
              replace p698 := eq_true p698
              replace q698 := eq_true q698
              go_wp2_with (first | ((with_reducible refine gate_callee (f := 82) rfl ?_); refine goesL_ (some 87) rfl rfl Try.func82 (by kernel_rfl) rfl #[.agg #[.bool ((rd_T32 ((rd_T58 l0_1 x4_2).f1) x6_4).f0), .slice A698_1 ((rd_T32 ((rd_T58 l0_1 x4_2).f1) x6_4).f1).length c698_1, .string ((rd_T32 ((rd_T58 l0_1 x4_2).f1) x6_4).f2)]] rfl yQ ?_; (with_reducible refine (swarfref43_Return.calls k4 ((rd_T32 ((rd_T58 l0_1 x4_2).f1) x6_4).f0) _ _ ((rd_T32 ((rd_T58 l0_1 x4_2).f1) x6_4).f1) ((rd_T32 ((rd_T58 l0_1 x4_2).f1) x6_4).f2) false _ ?side1 ?side2 A54.out).mono ?_); (case side1 => exact yC HR698_1.out); (case side2 => exact HC698_1.out); rintro e w63 ⟨rfl, hb⟩; refine ⟨_, rfl, ?_⟩; replace BK688 := Aside0.mk (blk_below (g := gb688) yK hb); replace BK696 := Aside0.mk (blk_below (g := gb696) yK hb); replace HB := Aside0.mk (below_step yB hb); (try clear hb); have hcz64_0 := yZ0 BK696.out; have hcz64_1 := yZ1 BK696.out; have hfz64_0 := blk_frozen BK696.out 0; have hfz64_1 := blk_frozen BK696.out 1; have p700 : 0 ≤ (x6_4 : Int) := yD; have q700 : x6_4 < (((rd_T58 l0_1 x4_2).f1).length : Int) := yD; obtain ⟨ad700, A700_1, c700_1, e700, hx700_0, hx700_1, hx700_2, hl700_1, hi700_1⟩ := at_T32 HR695_1.out x6_4 p700 q700; obtain rfl : ad698 = ad700 := (by injection e700); replace hx700_0 := yM HB.out hx700_0; replace hx700_1 := yM HB.out hx700_1; replace hx700_2 := yM HB.out hx700_2; have HR700_1 := Aside0.mk hi700_1; have HC700_1 := Aside0.mk hl700_1; clear hi700_1 hl700_1; replace p700 := eq_true p700; replace q700 := eq_true q700) | (go_at_call 83; (with_reducible refine (swarfref43_letter.calls k4 ((rd_T32 ((rd_T58 l0_1 x4_2).f1) x6_4).f0) _ _ ((rd_T32 ((rd_T58 l0_1 x4_2).f1) x6_4).f1) ((rd_T32 ((rd_T58 l0_1 x4_2).f1) x6_4).f2) 79 true _ ?side1 ?side2 A59.out).mono ?_); (case side1 => exact yC HR700_1.out); (case side2 => exact HC700_1.out); rintro e w65 ⟨rfl, hb⟩; replace BK688 := Aside0.mk (blk_below (g := gb688) yK hb); replace BK696 := Aside0.mk (blk_below (g := gb696) yK hb); replace HB := Aside0.mk (below_step yB hb); (try clear hb)))
              go_ret
              exact ⟨yE, yB⟩
             replace c60 := Bool.eq_false_iff.mpr c60
             subst c60
             replace H : ((swarfref43_End.f k4 ((rd_T32 ((rd_T58 l0_1 x4_2).f1) x6_4).f0) ((rd_T32 ((rd_T58 l0_1 x4_2).f1) x6_4).f1) ((rd_T32 ((rd_T58 l0_1 x4_2).f1) x6_4).f2)).bind fun t703 => (if t703 = true then (some false) else (swarfref43_proper.l2 k4 x4_2 (wrap64 (x6_4 + 1)) l0_0 l0_1 ((rd_T58 l0_1 x4_2).f0) ((rd_T58 l0_1 x4_2).f1)))) = some r := by rw [if_neg (show ¬ (false = true) by decide)] at H; exact H
             replace H := Option.bind_eq_some_iff.mp H
             obtain ⟨t703, A660, H⟩ := H
             have A66 := Aside0.mk A660
             clear A660
             by_cases c67 : t703 = true
             ·subst c67
              rw [if_pos rfl] at H
              obtain rfl := Option.some.inj H
              have hnb68 := NB696_688.out
              have hnc68 := NB688_696.out
              have hcz69_0 := yZ0 BK696.out
              have hcz69_1 := yZ1 BK696.out
              have hfz69_0 := blk_frozen BK696.out 0
              have hfz69_1 := blk_frozen BK696.out 1
              have p698 : 0 ≤ (x6_4 : Int) := yD
              have q698 : x6_4 < (((rd_T58 l0_1 x4_2).f1).length : Int) := yD
              obtain ⟨ad698, A698_1, c698_1, e698, hx698_0, hx698_1, hx698_2, hl698_1, hi698_1⟩ := at_T32 HR695_1.out x6_4 p698 q698
              cases e698
              replace hx698_0 := yM HB.out hx698_0
              replace hx698_1 := yM HB.out hx698_1
              replace hx698_2 := yM HB.out hx698_2
              have HR698_1 := Aside0.mk hi698_1
              have HC698_1 := Aside0.mk hl698_1
              clear hi698_1 hl698_1
              replace p698 := eq_true p698
              replace q698 := eq_true q698
              go_wp2_with (first | ((with_reducible refine gate_callee (f := 82) rfl ?_); refine goesL_ (some 87) rfl rfl Try.func82 (by kernel_rfl) rfl #[.agg #[.bool ((rd_T32 ((rd_T58 l0_1 x4_2).f1) x6_4).f0), .slice A698_1 ((rd_T32 ((rd_T58 l0_1 x4_2).f1) x6_4).f1).length c698_1, .string ((rd_T32 ((rd_T58 l0_1 x4_2).f1) x6_4).f2)]] rfl yQ ?_; (with_reducible refine (swarfref43_Return.calls k4 ((rd_T32 ((rd_T58 l0_1 x4_2).f1) x6_4).f0) _ _ ((rd_T32 ((rd_T58 l0_1 x4_2).f1) x6_4).f1) ((rd_T32 ((rd_T58 l0_1 x4_2).f1) x6_4).f2) false _ ?side1 ?side2 A54.out).mono ?_); (case side1 => exact yC HR698_1.out); (case side2 => exact HC698_1.out); rintro e w70 ⟨rfl, hb⟩; refine ⟨_, rfl, ?_⟩; replace BK688 := Aside0.mk (blk_below (g := gb688) yK hb); replace BK696 := Aside0.mk (blk_below (g := gb696) yK hb); replace HB := Aside0.mk (below_step yB hb); (try clear hb); have hcz71_0 := yZ0 BK696.out; have hcz71_1 := yZ1 BK696.out; have hfz71_0 := blk_frozen BK696.out 0; have hfz71_1 := blk_frozen BK696.out 1; have p700 : 0 ≤ (x6_4 : Int) := yD; have q700 : x6_4 < (((rd_T58 l0_1 x4_2).f1).length : Int) := yD; obtain ⟨ad700, A700_1, c700_1, e700, hx700_0, hx700_1, hx700_2, hl700_1, hi700_1⟩ := at_T32 HR695_1.out x6_4 p700 q700; obtain rfl : ad698 = ad700 := (by injection e700); replace hx700_0 := yM HB.out hx700_0; replace hx700_1 := yM HB.out hx700_1; replace hx700_2 := yM HB.out hx700_2; have HR700_1 := Aside0.mk hi700_1; have HC700_1 := Aside0.mk hl700_1; clear hi700_1 hl700_1; replace p700 := eq_true p700; replace q700 := eq_true q700) | (go_at_call 83; (with_reducible refine (swarfref43_letter.calls k4 ((rd_T32 ((rd_T58 l0_1 x4_2).f1) x6_4).f0) _ _ ((rd_T32 ((rd_T58 l0_1 x4_2).f1) x6_4).f1) ((rd_T32 ((rd_T58 l0_1 x4_2).f1) x6_4).f2) 79 false _ ?side1 ?side2 A59.out).mono ?_); (case side1 => exact yC HR700_1.out); (case side2 => exact HC700_1.out); rintro e w72 ⟨rfl, hb⟩; replace BK688 := Aside0.mk (blk_below (g := gb688) yK hb); replace BK696 := Aside0.mk (blk_below (g := gb696) yK hb); replace HB := Aside0.mk (below_step yB hb); (try clear hb); have hcz73_0 := yZ0 BK696.out; have hcz73_1 := yZ1 BK696.out; have hfz73_0 := blk_frozen BK696.out 0; have hfz73_1 := blk_frozen BK696.out 1; have p702 : 0 ≤ (x6_4 : Int) := yD; have q702 : x6_4 < (((rd_T58 l0_1 x4_2).f1).length : Int) := yD; obtain ⟨ad702, A702_1, c702_1, e702, hx702_0, hx702_1, hx702_2, hl702_1, hi702_1⟩ := at_T32 HR695_1.out x6_4 p702 q702; obtain rfl : ad698 = ad702 := (by injection e702); replace hx702_0 := yM HB.out hx702_0; replace hx702_1 := yM HB.out hx702_1; replace hx702_2 := yM HB.out hx702_2; have HR702_1 := Aside0.mk hi702_1; have HC702_1 := Aside0.mk hl702_1; clear hi702_1 hl702_1; replace p702 := eq_true p702; replace q702 := eq_true q702) | (go_at_call 81; (with_reducible refine (swarfref43_End.calls k4 ((rd_T32 ((rd_T58 l0_1 x4_2).f1) x6_4).f0) _ _ ((rd_T32 ((rd_T58 l0_1 x4_2).f1) x6_4).f1) ((rd_T32 ((rd_T58 l0_1 x4_2).f1) x6_4).f2) true _ ?side1 ?side2 A66.out).mono ?_); (case side1 => exact yC HR702_1.out); (case side2 => exact HC702_1.out); rintro e w74 ⟨rfl, hb⟩; replace BK688 := Aside0.mk (blk_below (g := gb688) yK hb); replace BK696 := Aside0.mk (blk_below (g := gb696) yK hb); replace HB := Aside0.mk (below_step yB hb); (try clear hb)))
              go_ret
              exact ⟨yE, yB⟩
             replace c67 := Bool.eq_false_iff.mpr c67
             subst c67
             replace H : (swarfref43_proper.l2 k4 x4_2 (wrap64 (x6_4 + 1)) l0_0 l0_1 ((rd_T58 l0_1 x4_2).f0) ((rd_T58 l0_1 x4_2).f1)) = some r := by rw [if_neg (show ¬ (false = true) by decide)] at H; exact H
             have H' := Aside0.mk H
             clear H
             have hnb75 := NB696_688.out
             have hnc75 := NB688_696.out
             have hcz76_0 := yZ0 BK696.out
             have hcz76_1 := yZ1 BK696.out
             have hfz76_0 := blk_frozen BK696.out 0
             have hfz76_1 := blk_frozen BK696.out 1
             have p698 : 0 ≤ (x6_4 : Int) := yD
             have q698 : x6_4 < (((rd_T58 l0_1 x4_2).f1).length : Int) := yD
             obtain ⟨ad698, A698_1, c698_1, e698, hx698_0, hx698_1, hx698_2, hl698_1, hi698_1⟩ := at_T32 HR695_1.out x6_4 p698 q698
             cases e698
             replace hx698_0 := yM HB.out hx698_0
             replace hx698_1 := yM HB.out hx698_1
             replace hx698_2 := yM HB.out hx698_2
             have HR698_1 := Aside0.mk hi698_1
             have HC698_1 := Aside0.mk hl698_1
             clear hi698_1 hl698_1
             replace p698 := eq_true p698
             replace q698 := eq_true q698
             go_wp2_with (first | ((with_reducible refine gate_callee (f := 82) rfl ?_); refine goesL_ (some 87) rfl rfl Try.func82 (by kernel_rfl) rfl #[.agg #[.bool ((rd_T32 ((rd_T58 l0_1 x4_2).f1) x6_4).f0), .slice A698_1 ((rd_T32 ((rd_T58 l0_1 x4_2).f1) x6_4).f1).length c698_1, .string ((rd_T32 ((rd_T58 l0_1 x4_2).f1) x6_4).f2)]] rfl yQ ?_; (with_reducible refine (swarfref43_Return.calls k4 ((rd_T32 ((rd_T58 l0_1 x4_2).f1) x6_4).f0) _ _ ((rd_T32 ((rd_T58 l0_1 x4_2).f1) x6_4).f1) ((rd_T32 ((rd_T58 l0_1 x4_2).f1) x6_4).f2) false _ ?side1 ?side2 A54.out).mono ?_); (case side1 => exact yC HR698_1.out); (case side2 => exact HC698_1.out); rintro e w77 ⟨rfl, hb⟩; refine ⟨_, rfl, ?_⟩; replace BK688 := Aside0.mk (blk_below (g := gb688) yK hb); replace BK696 := Aside0.mk (blk_below (g := gb696) yK hb); replace HB := Aside0.mk (below_step yB hb); (try clear hb); have hcz78_0 := yZ0 BK696.out; have hcz78_1 := yZ1 BK696.out; have hfz78_0 := blk_frozen BK696.out 0; have hfz78_1 := blk_frozen BK696.out 1; have p700 : 0 ≤ (x6_4 : Int) := yD; have q700 : x6_4 < (((rd_T58 l0_1 x4_2).f1).length : Int) := yD; obtain ⟨ad700, A700_1, c700_1, e700, hx700_0, hx700_1, hx700_2, hl700_1, hi700_1⟩ := at_T32 HR695_1.out x6_4 p700 q700; obtain rfl : ad698 = ad700 := (by injection e700); replace hx700_0 := yM HB.out hx700_0; replace hx700_1 := yM HB.out hx700_1; replace hx700_2 := yM HB.out hx700_2; have HR700_1 := Aside0.mk hi700_1; have HC700_1 := Aside0.mk hl700_1; clear hi700_1 hl700_1; replace p700 := eq_true p700; replace q700 := eq_true q700) | (go_at_call 83; (with_reducible refine (swarfref43_letter.calls k4 ((rd_T32 ((rd_T58 l0_1 x4_2).f1) x6_4).f0) _ _ ((rd_T32 ((rd_T58 l0_1 x4_2).f1) x6_4).f1) ((rd_T32 ((rd_T58 l0_1 x4_2).f1) x6_4).f2) 79 false _ ?side1 ?side2 A59.out).mono ?_); (case side1 => exact yC HR700_1.out); (case side2 => exact HC700_1.out); rintro e w79 ⟨rfl, hb⟩; replace BK688 := Aside0.mk (blk_below (g := gb688) yK hb); replace BK696 := Aside0.mk (blk_below (g := gb696) yK hb); replace HB := Aside0.mk (below_step yB hb); (try clear hb); have hcz80_0 := yZ0 BK696.out; have hcz80_1 := yZ1 BK696.out; have hfz80_0 := blk_frozen BK696.out 0; have hfz80_1 := blk_frozen BK696.out 1; have p702 : 0 ≤ (x6_4 : Int) := yD; have q702 : x6_4 < (((rd_T58 l0_1 x4_2).f1).length : Int) := yD; obtain ⟨ad702, A702_1, c702_1, e702, hx702_0, hx702_1, hx702_2, hl702_1, hi702_1⟩ := at_T32 HR695_1.out x6_4 p702 q702; obtain rfl : ad698 = ad702 := (by injection e702); replace hx702_0 := yM HB.out hx702_0; replace hx702_1 := yM HB.out hx702_1; replace hx702_2 := yM HB.out hx702_2; have HR702_1 := Aside0.mk hi702_1; have HC702_1 := Aside0.mk hl702_1; clear hi702_1 hl702_1; replace p702 := eq_true p702; replace q702 := eq_true q702) | (go_at_call 81; (with_reducible refine (swarfref43_End.calls k4 ((rd_T32 ((rd_T58 l0_1 x4_2).f1) x6_4).f0) _ _ ((rd_T32 ((rd_T58 l0_1 x4_2).f1) x6_4).f1) ((rd_T32 ((rd_T58 l0_1 x4_2).f1) x6_4).f2) false _ ?side1 ?side2 A66.out).mono ?_); (case side1 => exact yC HR702_1.out); (case side2 => exact HC702_1.out); rintro e w81 ⟨rfl, hb⟩; replace BK688 := Aside0.mk (blk_below (g := gb688) yK hb); replace BK696 := Aside0.mk (blk_below (g := gb696) yK hb); replace HB := Aside0.mk (below_step yB hb); (try clear hb)))
             go_roundg k4
             case measure => have := HK1.out; have := HK2.out; have := HJ34.out; have := HK4.out; omega
             case rel => exact ⟨(wrap64 (x6_4 + 1)), yS, H', ⟨by have := HK1.out; have := HK2.out; have := HJ34.out; have := HK4.out; omega⟩, ⟨by refine yH ?_; exact BK688.out⟩, ⟨by refine yH ?_; exact BK696.out⟩, ⟨yB⟩⟩
            rw [if_neg c53] at H
            exact absurd H (by simp)
           rw [if_neg c52] at H
           have c52b0 := decide_eq_false c52
           clear c52
           have H' := Aside0.mk H
           clear H
           have hnb82 := NB696_688.out
           have hnc82 := NB688_696.out
           have hcz83_0 := yZ0 BK696.out
           have hcz83_1 := yZ1 BK696.out
           have hfz83_0 := blk_frozen BK696.out 0
           have hfz83_1 := blk_frozen BK696.out 1
           go_wp2
           go_roundg k4
           case measure => have := HK1.out; have := HK2.out; have := HJ34.out; have := HK4.out; omega
           case rel => exact ⟨(wrap64 (x4_2 + 1)), yS, H', ⟨by have := HK1.out; have := HK2.out; have := HJ34.out; have := HK4.out; omega⟩, ⟨by refine yH ?_; exact BK688.out⟩, ⟨yB⟩⟩
      rw [if_neg c34] at H
      exact absurd H (by simp)
     rw [if_neg c33] at H
     have c33b0 := decide_eq_false c33
     clear c33
     obtain rfl := Option.some.inj H
     have hcz84_0 := yZ0 BK688.out
     have hcz84_1 := yZ1 BK688.out
     have hfz84_0 := blk_frozen BK688.out 0
     have hfz84_1 := blk_frozen BK688.out 1
     go_wp2
     go_ret
     exact ⟨yE, yB⟩
end Go.Proofs.Ytehkhbnhmehobaa.P
namespace Go.Proofs.Ytehkhbnhmehobaa.P
open Go.RowKit Go.Proofs.YtehkhbnhmehobaaW.PrintWords Go.Proofs.YtehkhbnhmehobaaW.PrintLast Go.Proofs.YtehkhbnhmehobaaW.PrintMore
set_option linter.unusedVariables false
set_option linter.unusedSimpArgs false
def idxS {α : Type} (q : α → Bool) : List α → Int → Int
  | [], _ => -1
  | x :: l, i => if q x = true then i else idxS q l (i + 1)
theorem idx_ev {α : Type} {P : Nat → α → Option Bool} {q : α → Bool} : ∀ (l : List α) (i : Int), (∀ x ∈ l, Ev (fun k => P k x) (q x)) → Ev (fun k => idxF (P k) l i) (idxS q l i)
  | [], i, h => Ev.some
  | x :: l, i, h => by
    unfold idxS
    refine Ev.bind (h x List.mem_cons_self) ?_
    cases hq : q x with
    | true => exact Ev.pos rfl Ev.some
    | false => exact Ev.neg (by decide) (idx_ev l (i + 1) (fun y hy => h y (List.mem_cons_of_mem _ hy)))
theorem idxS_at {α : Type} {q : α → Bool} {b : α} (c : List α) (hb : q b = true) : ∀ (a : List α) (i : Int), (∀ x ∈ a, q x = false) → idxS q (a ++ b :: c) i = i + (a.length : Int)
  | [], i, h => by rw [List.nil_append, idxS, if_pos hb]; simp
  | x :: a, i, h => by
    rw [List.cons_append, idxS, if_neg (by rw [h x List.mem_cons_self]; decide), idxS_at c hb a (i + 1) (fun y hy => h y (List.mem_cons_of_mem _ hy))]
    simp only [List.length_cons]
    omega
theorem idxS_none {α : Type} {q : α → Bool} : ∀ (a : List α) (i : Int), (∀ x ∈ a, q x = false) → idxS q a i = -1
  | [], i, h => rfl
  | x :: a, i, h => by rw [idxS, if_neg (by rw [h x List.mem_cons_self]; decide), idxS_none a (i + 1) (fun y hy => h y (List.mem_cons_of_mem _ hy))]
theorem Ev.map {α β : Type} {g : Nat → Option α} {v : α} (f : α → β) (h : Ev g v) : Ev (fun k => (g k).map f) (f v) := by
  obtain ⟨k0, hk⟩ := h
  exact ⟨k0, fun k h => by show (g k).map f = _; rw [hk k h]; rfl⟩
theorem marks_ev (l : List Bk) (h : ∀ b ∈ l, b.f1.length ≤ 1000000) (hm : ∀ b ∈ l, markS b.f1 = false) : Ev (fun k => ContainsFunc_marked.f k l) false := by
  unfold ContainsFunc_marked.f
  have h1 := idx_ev (P := fun k (x : Bk) => subprogram_marked.f k x.f0 x.f1 x.f2) (q := fun x => markS x.f1) l 0 (fun x hx => marked_ev _ _ _ (h x hx))
  rw [idxS_none l 0 hm] at h1
  exact Ev.map (fun i => decide (i ≥ 0)) h1
theorem joinT_len : ∀ (s : List Rb), (∀ x ∈ s, ∀ b ∈ x.f1, goodB b) → ∀ b ∈ joinT s, b.f1.length ≤ 1000000
  | [], _, b, hb => by cases hb
  | x :: s, h, b, hb => by
    unfold joinT at hb
    rcases List.mem_cons.mp hb with rfl | hb
    · simp [oB]
    rcases List.mem_append.mp hb with hb | hb
    · exact (h x List.mem_cons_self b hb).len
    rcases List.mem_cons.mp hb with rfl | hb
    · simp [mB]
    exact joinT_len s (fun y hy => h y (List.mem_cons_of_mem _ hy)) b hb
theorem joinT_size : ∀ (s : List Rb), (∀ x ∈ s, x.f1.length ≤ 40) → (joinT s).length ≤ 42 * s.length
  | [], _ => by simp [joinT]
  | x :: s, h => by
    have h1 := joinT_size s (fun y hy => h y (List.mem_cons_of_mem _ hy))
    have h2 := h x List.mem_cons_self
    simp only [joinT, List.length_cons, List.length_append]
    omega
theorem repL_false : ∀ (l p : List Sb), (p ++ l).Pairwise (fun a b => a.f0 ≠ b.f0) → repL p l = false
  | [], p, _ => rfl
  | x :: l, p, h => by
    rw [repL, if_neg, repL_false l (p ++ [x]) (by simpa using h)]
    rw [List.any_eq_true]
    rintro ⟨y, hy, he⟩
    exact (List.pairwise_append.mp h).2.2 y hy x List.mem_cons_self (by simpa using he : x.f0 = y.f0).symm
structure ProperP (m : List Bk) (s : List Rb) : Prop where
  ne : 1 ≤ m.length
  main : ∀ (j : Nat) (h : j < m.length), hasS m[j].f1 77 99000 = false ∧ anyS m[j].f1 79 = false ∧ hasS m[j].f1 77 30000 = decide (j + 1 = m.length)
  sub : ∀ (j : Nat) (h : j < s.length), 1 ≤ s[j].f0 ∧ s[j].f0 ≤ 9999 ∧ (∀ (i : Nat) (h2 : i < j), s[i].f0 ≠ s[j].f0) ∧ ∀ b ∈ s[j].f1, markS b.f1 = false
section
variable {m : List Bk} {s : List Rb} (hg : goodP m s) (hp : ProperP m s)
include hp
theorem split_main : m = m.take (m.length - 1) ++ [m[m.length - 1]'(by have := hp.ne; omega)] := by
  have h := List.take_append_drop (m.length - 1) m
  rw [List.drop_eq_getElem_cons (show m.length - 1 < m.length by have := hp.ne; omega), List.drop_eq_nil_of_le (by omega)] at h
  exact h.symm
theorem main_marks : ∀ b ∈ m.take (m.length - 1), markS b.f1 = false := by
  intro b hb
  obtain ⟨j, hj, rfl⟩ := List.getElem_of_mem hb
  rw [List.length_take] at hj
  have := hp.main j (by omega)
  rw [List.getElem_take]
  unfold markS
  rw [this.1, this.2.1, this.2.2, decide_eq_false (by omega)]
  rfl
include hg
theorem endI_ev : Ev (fun k => IndexFunc_end.f k (m ++ joinT s)) ((m.length - 1 : Nat) : Int) := by
  unfold IndexFunc_end.f
  have h1 := idx_ev (P := fun k (x : Bk) => subprogram_Split_1.f k x.f0 x.f1 x.f2) (q := fun x => hasS x.f1 77 30000) (m ++ joinT s) 0 (fun x hx => by
    unfold subprogram_Split_1.f
    refine Ev.bind (has_ev _ _ _ _ _ ?_) Ev.some
    rcases List.mem_append.mp hx with hx | hx
    · exact (hg.1.2 x hx).len
    exact joinT_len s (fun y hy => (hg.2.2 y hy).2) x hx)
  have h2 := idxS_at (q := fun x : Bk => hasS x.f1 77 30000) (b := m[m.length - 1]'(by have := hp.ne; omega)) (joinT s) (by have h := (hp.main (m.length - 1) (by have := hp.ne; omega)).2.2; rw [h]; exact decide_eq_true (by have := hp.ne; omega)) (m.take (m.length - 1)) 0 (fun x hx => by
    obtain ⟨j, hj, rfl⟩ := List.getElem_of_mem hx
    rw [List.length_take] at hj
    rw [List.getElem_take, (hp.main j (by omega)).2.2]
    exact decide_eq_false (by omega))
  have e : m ++ joinT s = m.take (m.length - 1) ++ m[m.length - 1]'(by have := hp.ne; omega) :: joinT s := (congrArg (· ++ joinT s) (split_main hp)).trans (by rw [List.append_assoc]; rfl)
  rw [e, h2] at h1
  rw [e]
  rw [List.length_take, show ((0 : Int) + ((min (m.length - 1) m.length : Nat) : Int)) = ((m.length - 1 : Nat) : Int) by omega] at h1
  exact h1
theorem ordered_ev : Ev (fun k => subprogram_ordered.f k m (s.map sOf)) true := by
  have hn := hp.ne
  have hl : m.length ≤ 40 := hg.1.1
  have hlast : rd_T32 m ((m.length - 1 : Nat) : Int) = m[m.length - 1]'(by omega) := rd_T32_at (by omega)
  have hgl : (m[m.length - 1]'(by omega)).f1.length ≤ 1000000 := (hg.1.2 _ (List.getElem_mem _)).len
  have hm := hp.main (m.length - 1) (by omega)
  rw [decide_eq_true (show m.length - 1 + 1 = m.length by omega)] at hm
  unfold subprogram_ordered.f
  rw [show ((m.length : Int) - 1) = ((m.length : Int) - ((1 : Nat) : Int)) from rfl, wsub (a := m.length) (b := 1) hn (by omega), hlast]
  refine Ev.neg (by omega) (Ev.pos (by omega) (Ev.pos (by omega) (Ev.bind (has_ev _ _ _ _ _ hgl) ?_)))
  rw [hm.2.2]
  refine Ev.pos rfl (Ev.bind (Codes_ev _ _ _ _ hgl) ?_)
  have hc := codesS_pos (m[m.length - 1]'(by omega)).f1 79
  rw [hm.2.1] at hc
  refine Ev.neg (of_decide_eq_false hc) (Ev.bind (has_ev _ _ _ _ _ hgl) ?_)
  rw [hm.1]
  refine Ev.neg (by decide) (Ev.pos (by omega) ?_)
  rw [Int.toNat_natCast]
  refine Ev.bind (marks_ev _ (fun b hb => (hg.1.2 b (List.mem_of_mem_take hb)).len) (main_marks hp)) (Ev.neg (by decide) ?_)
  have h1 := idx_ev (P := fun k (x : Sb) => subprogram_ordered_1.f k x.f0 x.f1) (q := fun _ => false) (s.map sOf) 0 (fun x hx => by
    obtain ⟨y, hy, rfl⟩ := List.mem_map.mp hx
    obtain ⟨j, hj, rfl⟩ := List.getElem_of_mem hy
    unfold subprogram_ordered_1.f
    exact Ev.bind (marks_ev _ (fun b hb => ((hg.2.2 _ hy).2 b hb).len) (hp.sub j hj).2.2.2) Ev.some)
  rw [idxS_none _ 0 (fun _ _ => rfl)] at h1
  unfold ContainsFunc_ordered.f
  exact Ev.bind (Ev.map (fun i => decide (i ≥ 0)) h1) Ev.some
end
theorem whole_num {n : Int} (h1 : 1 ≤ n) (h2 : n ≤ 9999) : wholeT (wrap64 (1000 * n)) = (n, true) := by
  have e : wrap64 (1000 * n) = 1000 * n := by unfold wrap64; omega
  rw [e]
  unfold wholeT
  have e1 : Int.tdiv (1000 * n) 1000 = n := Int.mul_tdiv_cancel_left n (by decide)
  have e2 : Int.tmod (1000 * n) 1000 = 0 := Int.mul_tmod_right 1000 n
  have e3 : wrap64 n = n := by unfold wrap64; omega
  rw [e1, e2, e3, decide_eq_true ⟨rfl, h1, h2⟩]
theorem begin_ev (n : Int) (h1 : 1 ≤ n) (h2 : n ≤ 9999) : subprogram_beginning.f (oB n).f0 (oB n).f1 (oB n).f2 = some (n, true) := by
  unfold subprogram_beginning.f subprogram_plain.f oB
  simp [rd_T78, whole_eq, whole_num h1 h2]
theorem back_ev2 (x : Rb) (c : List Bk) (hx : goodL x.f1) (hm : ∀ b ∈ x.f1, markS b.f1 = false) (hc : ∀ b ∈ c, b.f1.length ≤ 1000000) : Ev (fun k => IndexFunc_back.f k (oB x.f0 :: (x.f1 ++ mB :: c))) ((x.f1.length + 1 : Nat) : Int) := by
  unfold IndexFunc_back.f
  have key : ∀ b : Bk, b.f1.length ≤ 1000000 → ∃ r, Ev (fun k => subprogram_Split_2.f k b.f0 b.f1 b.f2) r ∧ (hasS b.f1 77 99000 = false → r = false) ∧ (b = mB → r = true) := by
    intro b hb
    unfold subprogram_Split_2.f
    obtain ⟨p, hp⟩ : ∃ p, subprogram_plain.f b.f0 b.f1 b.f2 = some p := by
      unfold subprogram_plain.f
      split
      · split
        · exact ⟨_, rfl⟩
        exact ⟨_, rfl⟩
      exact ⟨_, rfl⟩
    rw [hp]
    cases p with
    | false =>
      refine ⟨false, Ev.bind Ev.some (Ev.neg (by decide) Ev.some), fun _ => rfl, fun e => ?_⟩
      subst e
      simp [subprogram_plain.f, mB] at hp
    | true => exact ⟨hasS b.f1 77 99000, Ev.bind Ev.some (Ev.pos rfl (Ev.bind (has_ev _ _ _ _ _ hb) Ev.some)), fun h => h, fun e => by subst e; decide⟩
  have cl : ∀ b : Bk, ∃ r, b.f1.length ≤ 1000000 → Ev (fun k => subprogram_Split_2.f k b.f0 b.f1 b.f2) r ∧ (hasS b.f1 77 99000 = false → r = false) ∧ (b = mB → r = true) := fun b => by
    by_cases hb : b.f1.length ≤ 1000000
    · obtain ⟨r, h⟩ := key b hb
      exact ⟨r, fun _ => h⟩
    exact ⟨false, fun h => absurd h hb⟩
  obtain ⟨q, hq⟩ := Classical.axiomOfChoice cl
  have h1 := idx_ev (P := fun k (x : Bk) => subprogram_Split_2.f k x.f0 x.f1 x.f2) (q := q) (oB x.f0 :: (x.f1 ++ mB :: c)) 0 (fun b hb => by
    refine (hq b ?_).1
    rcases List.mem_cons.mp hb with rfl | hb
    · simp [oB]
    rcases List.mem_append.mp hb with hb | hb
    · exact (hx.2 b hb).len
    rcases List.mem_cons.mp hb with rfl | hb
    · simp [mB]
    exact hc b hb)
  have h2 := idxS_at (q := q) (b := mB) c ((hq mB (by simp [mB])).2.2 rfl) (oB x.f0 :: x.f1) 0 (fun b hb => by
    rcases List.mem_cons.mp hb with rfl | hb
    · exact (hq _ (by simp [oB])).2.1 (by simp [oB, hasS])
    refine (hq b (hx.2 b hb).len).2.1 ?_
    have := hm b hb
    unfold markS at this
    simp only [Bool.or_eq_false_iff] at this
    exact this.2.2)
  rw [show oB x.f0 :: (x.f1 ++ mB :: c) = (oB x.f0 :: x.f1) ++ mB :: c from rfl, h2] at h1
  rw [show ((0 : Int) + ((oB x.f0 :: x.f1).length : Int)) = ((x.f1.length + 1 : Nat) : Int) by simp] at h1
  exact h1
section
variable {m : List Bk} {s : List Rb} (hg : goodP m s) (hp : ProperP m s)
include hg hp
theorem split_l0 : ∀ (n j : Nat), j + n = s.length → Ev (fun k => subprogram_Split.l0 k (joinT (s.drop j)) m ((s.take j).map sOf)) (m, s.map sOf, 0) := by
  intro n
  induction n with
  | zero =>
    intro j hj
    refine Ev.step (fun k => by rw [subprogram_Split.l0]) ?_
    rw [List.drop_eq_nil_of_le (by omega), List.take_of_length_le (by omega)]
    refine Ev.neg (by simp [joinT]) (Ev.bind (ordered_ev hg hp) (Ev.pos rfl ?_))
    have hr : subprogram_repeated.f (s.map sOf) = some false := by
      unfold subprogram_repeated.f
      rw [repL_false]
      rw [List.nil_append, List.pairwise_map, List.pairwise_iff_getElem]
      intro a b ha hb hab
      exact (hp.sub b hb).2.2.1 a hab
    rw [hr]
    exact Ev.bind Ev.some (Ev.neg (by decide) Ev.some)
  | succ n ih =>
    intro j hj
    have h0 := ih (j + 1) (by omega)
    have hs := hp.sub j (by omega)
    have hgx := hg.2.2 _ (List.getElem_mem (l := s) (n := j) (by omega))
    have hl := hgx.1
    have hsz := joinT_size (s.drop (j + 1)) (fun x hx => (hg.2.2 x (List.mem_of_mem_drop hx)).1)
    have hs12 := hg.2.1
    rw [List.length_drop] at hsz
    refine Ev.step (fun k => by rw [subprogram_Split.l0]) ?_
    rw [List.drop_eq_getElem_cons (show j < s.length by omega), joinT]
    have hr0 : rd_T32 (oB (s[j]'(by omega)).f0 :: ((s[j]'(by omega)).f1 ++ mB :: joinT (s.drop (j + 1)))) 0 = oB (s[j]'(by omega)).f0 := rfl
    have hlen : (oB (s[j]'(by omega)).f0 :: ((s[j]'(by omega)).f1 ++ mB :: joinT (s.drop (j + 1)))).length = (s[j]'(by omega)).f1.length + (joinT (s.drop (j + 1))).length + 2 := by simp; omega
    rw [hr0, begin_ev _ hs.1 hs.2.1, hlen]
    refine Ev.pos (by omega) (Ev.pos (by omega) (Ev.bind Ev.some (Ev.bind (back_ev2 _ _ hgx hs.2.2.2 (joinT_len _ (fun x hx => (hg.2.2 x (List.mem_of_mem_drop hx)).2))) (Ev.pos rfl (Ev.neg (by omega) (Ev.pos (by omega) (Ev.pos (by omega) ?_)))))))
    have et : ((oB (s[j]'(by omega)).f0 :: ((s[j]'(by omega)).f1 ++ mB :: joinT (s.drop (j + 1)))).take ((((s[j]'(by omega)).f1.length + 1 : Nat) : Int)).toNat).drop 1 = (s[j]'(by omega)).f1 := by
      rw [Int.toNat_natCast, List.take_succ_cons, List.drop_succ_cons, List.drop_zero, List.take_left']
      rfl
    have ed : (oB (s[j]'(by omega)).f0 :: ((s[j]'(by omega)).f1 ++ mB :: joinT (s.drop (j + 1)))).drop ((((s[j]'(by omega)).f1.length + 1 + 1 : Nat) : Int)).toNat = joinT (s.drop (j + 1)) := by
      rw [Int.toNat_natCast, List.drop_succ_cons, List.drop_append, List.drop_eq_nil_of_le (by omega), List.nil_append, show (s[j]'(by omega)).f1.length + 1 - (s[j]'(by omega)).f1.length = 1 by omega]
      rfl
    have hc : Clone_Block.f (s[j]'(by omega)).f1 = some (s[j]'(by omega)).f1 := by unfold Clone_Block.f; rw [if_pos (by omega)]
    rw [et, hc, wrapI (by omega), ed]
    have ea : (s.take (j + 1)).map sOf = (s.take j).map sOf ++ [(⟨(s[j]'(by omega)).f0, (s[j]'(by omega)).f1⟩ : Sb)] := by
      rw [List.take_succ_eq_append_getElem (show j < s.length by omega), List.map_append]
      rfl
    rw [ea] at h0
    exact Ev.bind Ev.some (Ev.pos (by simp; omega) (Ev.pos (by omega) (Ev.pos (by omega) h0)))
theorem split_ev : Ev (fun k => subprogram_Split.f k (m ++ joinT s)) (m, s.map sOf, 0) := by
  have hn := hp.ne
  have hl : m.length ≤ 40 := hg.1.1
  unfold subprogram_Split.f
  refine Ev.bind (endI_ev hg hp) (Ev.neg (by omega) ?_)
  rw [wrapI (by omega), show m.length - 1 + 1 = m.length by omega, Int.toNat_natCast, List.take_left', List.drop_left']
  have hc : Clone_Block.f m = some m := by unfold Clone_Block.f; rw [if_pos (by omega)]
  rw [hc]
  refine Ev.pos (by omega) (Ev.pos (by simp; omega) (Ev.bind Ev.some ?_))
  have h := split_l0 hg hp s.length 0 (by omega)
  simpa using h
  all_goals rfl
end
end Go.Proofs.Ytehkhbnhmehobaa.P
namespace Go.Proofs.Ytehkhbnhmehobaa.P
open Go.RowKit Go.Proofs.YtehkhbnhmehobaaW.PrintWords Go.Proofs.YtehkhbnhmehobaaW.PrintLast Go.Proofs.YtehkhbnhmehobaaW.PrintMore
attribute [local go_sem] max2_int min2_int max_two min_two max_three min_three max_four min_four
set_option linter.unusedVariables false
set_option linter.unusedSimpArgs false
def swarfref43_blocks.l0 : Nat → List (S32) → Int → List (S32) → List (S58) → Option ((List (S32)))
 | 0, _, _, _, _ => none
 | k + 1, x3, x4, x705000, x705001 => if x4 < (x705001.length : Int) then (if 0 ≤ x4 then (if x3.length + ((rd_T58 x705001 x4).f1).length < 2932031007402 then (swarfref43_blocks.l0 k (x3 ++ ((rd_T58 x705001 x4).f1)) (wrap64 (x4 + 1)) x705000 x705001) else (none)) else (none)) else (some x3)
def swarfref43_blocks.f (k : Nat) (l0_0 : List (S32)) (l0_1 : List (S58)) : Option ((List (S32))) := (some (([] : List (S32)) : List (S32))).bind fun y705 => (if y705.length + l0_0.length < 2932031007402 then (swarfref43_blocks.l0 k (y705 ++ l0_0) 0 l0_0 l0_1) else (none))
set_option maxHeartbeats 8000000 in
set_option maxRecDepth 100000 in
theorem swarfref43_blocks.calls (k : Nat) (P0_0_ : Nat → Prop) (A0_0 : Option Addr) (c0_0 : Nat) (l0_0 : List (S32)) (P0_1_ : Nat → Prop) (A0_1 : Option Addr) (c0_1 : Nat) (l0_1 : List (S58)) (r : List (S32)) (w : World) (hs0_0 : Kd.V k32 32 w w.heap.size (fun k_ => P0_0_ k_) (.slice A0_0 l0_0.length c0_0) l0_0) (hs0_1 : Kd.V k58 58 w w.heap.size (fun k_ => P0_1_ k_) (.slice A0_1 l0_1.length c0_1) l0_1) (h : swarfref43_blocks.f k l0_0 l0_1 = some r) :
  Calls Try.prog 71 #[.agg #[.slice A0_0 l0_0.length c0_0, .slice A0_1 l0_1.length c0_1]] w fun e w' => ∃ v0_ : Value, e = .returned (v0_) ∧ Kd.N k32 32 w' w.heap.size (fun k_ => ((P0_0_ k_ ∨ P0_1_ k_) ∨ w.heap.size ≤ k_)) v0_ r ∧ Below w.heap.size w w' := by
 have hu48 := Try.underlying48
 have HO0_0 := Aside0.mk (show Kd.V k32 32 w w.heap.size (fun k_ => ((P0_0_ k_ ∨ P0_1_ k_) ∨ w.heap.size ≤ k_)) (.slice A0_0 l0_0.length c0_0) l0_0 from Kd.V_mono hs0_0 (fun k_ hk => .inl (.inl hk)))
 have HO0_1 := Aside0.mk (show Kd.V k58 58 w w.heap.size (fun k_ => ((P0_0_ k_ ∨ P0_1_ k_) ∨ w.heap.size ≤ k_)) (.slice A0_1 l0_1.length c0_1) l0_1 from Kd.V_mono hs0_1 (fun k_ hk => .inl (.inr hk)))
 have HB := Aside0.mk (Below.refl w.heap.size w)
 have H : ((some (([] : List (S32)) : List (S32))).bind fun y705 => (if y705.length + l0_0.length < 2932031007402 then (swarfref43_blocks.l0 k (y705 ++ l0_0) 0 l0_0 l0_1) else (none))) = some r := h
 clear h
 obtain ⟨y705, hy705⟩ : ∃ y_ : List (S32), y_ = (([] : List (S32))) := ⟨_, rfl⟩
 replace H : (if y705.length + l0_0.length < 2932031007402 then (swarfref43_blocks.l0 k (y705 ++ l0_0) 0 l0_0 l0_1) else (none)) = some r := by first | (rw [hy705]; with_reducible exact H) | (have H2_ := (Option.bind_some _ _).symm.trans H; rw [hy705]; with_reducible exact H2_) | (have H2_ := (Option.bind_some _ _).symm.trans H; with_reducible exact H2_) | with_reducible exact H | (rw [hy705]; exact H) | exact H
 have Ny705 := Aside0.mk hy705
 clear hy705
 by_cases c2 : y705.length + l0_0.length < 2932031007402
 ·rw [if_pos c2] at H
  have LMc2 := Aside0.mk c2
  clear c2
  obtain ⟨y708, hy708⟩ : ∃ y_ : List (S32), y_ = (y705 ++ l0_0) := ⟨_, rfl⟩
  replace H : (swarfref43_blocks.l0 k y708 0 l0_0 l0_1) = some r := by first | (rw [hy708]; with_reducible exact H) | (have H2_ := (Option.bind_some _ _).symm.trans H; rw [hy708]; with_reducible exact H2_) | (have H2_ := (Option.bind_some _ _).symm.trans H; with_reducible exact H2_) | with_reducible exact H | (rw [hy708]; exact H) | exact H
  have Ny708 := Aside0.mk hy708
  clear hy708
  have H' := Aside0.mk H
  clear H
  go_enter Try.func71, Try.ntmps71
  go_wp2_with (first | ((with_reducible refine gate_dst (N := 1) rfl ?_); refine yX 1 #[.slice A0_0 l0_0.length c0_0, .slice A0_1 l0_1.length c0_1] 48 ?_; intro gb704 hg w3 hbox hb; replace HO0_0 := Aside0.mk (Kd.V_below (Kd.V_elderB (yV HO0_0.out) gb704 (Nat.le_of_eq hg.symm)) hb); replace HO0_1 := Aside0.mk (Kd.V_below (Kd.V_elderB (yV HO0_1.out) gb704 (Nat.le_of_eq hg.symm)) hb); have BK704 := Aside0.mk (hbox); have GE704 := Aside0.mk ((yG hg : w.heap.size ≤ gb704)); replace HB := Aside0.mk (below_step yB hb); clear hb hbox hg) | ((with_reducible refine gate_dst (N := 5) rfl ?_); refine Kd.N_lit k32 _ 32 ?hg (N' := 5) ?hd (xs := ([] : List (S32))) (inner := []) (ok := (fun k_ => ((P0_0_ k_ ∨ P0_1_ k_) ∨ w.heap.size ≤ k_) ∧ k_ ≠ gb704)) (okp := (fun k_ => ((P0_0_ k_ ∨ P0_1_ k_) ∨ w.heap.size ≤ k_) ∧ k_ ≠ gb704)) ?hr ?hp (fun _ hk => hk) ((show ∀ k_, w3.heap.size ≤ k_ → (fun k_ => ((P0_0_ k_ ∨ P0_1_ k_) ∨ w.heap.size ≤ k_) ∧ k_ ≠ gb704) k_ from fun k_ hk => ⟨(.inr (Nat.le_trans (below_size yB) hk)), Kd.freshB (g := gb704) yK k_ hk⟩) _ (Nat.le_refl _)) (Below.refl _ _) (Nat.le_refl _) (by simp) ?_; (case hd => rfl); (case hg => rfl); (case hr => first | (go_simp; done) | (go_simp; rfl)); (case hp => exact (Reps.none _ _)); intro v706 w4 ho5 hb hg_ hnew_; clear hg_ hnew_; (first | rw [← Ny705.out] at ho5 | (simp only [Int.reduceToNat] at ho5; rw [← Ny705.out] at ho5)); replace HO0_0 := Aside0.mk (Kd.V_elder' (yV HO0_0.out) (Kd.N_base ho5) hb); replace HO0_1 := Aside0.mk (Kd.V_elder' (yV HO0_1.out) (Kd.N_base ho5) hb); have HO707 := Aside0.mk (Kd.N_lower ho5 (below_size yB)); replace BK704 := Aside0.mk (blk_below (g := gb704) yK hb); replace HB := Aside0.mk (below_step yB hb); clear hb ho5; have hcz6_0 := yZ0 BK704.out; have hcz6_1 := yZ1 BK704.out; have hfz6_0 := blk_frozen BK704.out 0; have hfz6_1 := blk_frozen BK704.out 1) | ((with_reducible refine gate_builtin (b := .append) (xs := #[.tmp 5, .tmp 7]) rfl ?_); at_builtin; refine Kd.N_append_rows k32 (w0 := w) w.heap.size rfl (.tmp 5) (.tmp 7) 35 32 (.agg #[(.bool false), (.slice none 0 0), (.string ⟨#[]⟩)]) 48 rfl Try.underlying35 info32 rfl (by decide) (by omega) v706 y705 l0_0 _ _ _ (fun k_ => ((P0_0_ k_ ∨ P0_1_ k_) ∨ w.heap.size ≤ k_) ∧ k_ ≠ gb704) (fun k_ => ((fun k_ => ((P0_0_ k_ ∨ P0_1_ k_) ∨ w.heap.size ≤ k_) ∧ k_ ≠ gb704)) k_ ∧ some k_ ≠ (v706 : Value).ownBlock) rfl rfl ?aO ?aR (fun _ hk => hk) ?aF ?aB ?aS ?aL ?_; (case aR => exact (by skip; exact Kd.V_F (Kd.V_mono (ok' := (fun k_ => ((fun k_ => ((P0_0_ k_ ∨ P0_1_ k_) ∨ w.heap.size ≤ k_) ∧ k_ ≠ gb704)) k_ ∧ some k_ ≠ (v706 : Value).ownBlock)) (HO0_0.out) (fun k_ hk => ⟨⟨hk.1.1, hk.1.2⟩, hk.2⟩)))); (case aB => exact yB); (case aF => exact (fun k_ hk => ⟨(.inr (Nat.le_trans (below_size yB) hk)), Kd.freshB (g := gb704) yK k_ hk⟩)); (case aO => exact (yN HO707.out)); (case aS => exact (below_size yB)); (case aL => have := LMc2.out; omega); intro v709 w7 ho hb hg hat; rw [← Ny708.out] at ho; have n0_ := Aside0.mk (Kd.V_afterv (ok := (fun k_ => ((P0_0_ k_ ∨ P0_1_ k_) ∨ w.heap.size ≤ k_) ∧ k_ ≠ gb704)) (yV HO0_0.out) hg hat); have n1_ := Aside0.mk (Kd.V_afterv (ok := (fun k_ => ((P0_0_ k_ ∨ P0_1_ k_) ∨ w.heap.size ≤ k_) ∧ k_ ≠ gb704)) (yV HO0_1.out) hg hat); have n2_ := Aside0.mk (blk_grown (g := gb704) yK hg (Kd.N_ne HO707.out BK704.out (by decide))); have n3_ := Aside0.mk (hb); have n4_ := Aside0.mk (ho); clear HO0_0; clear HO0_1; clear BK704; clear HB; clear HO707; have HO0_0 := n0_; have HO0_1 := n1_; have BK704 := n2_; have HB := n3_; have HO710 := n4_; clear n0_ n1_ n2_ n3_ n4_; clear ho hb hg hat))
  go_loopg [3, 4] k (fun kq v3 v4 w' => ∃ (x3_1 : List (S32)) (x4_1 : Int), v4 = .int .i64 x4_1 ∧ Aside0 (swarfref43_blocks.l0 kq x3_1 x4_1 l0_0 l0_1 = some r) ∧ Aside0 (kq ≤ k) ∧ Aside0 (Kd.N k32 32 w' w.heap.size (fun k_ => ((P0_0_ k_ ∨ P0_1_ k_) ∨ w.heap.size ≤ k_) ∧ k_ ≠ gb704) v3 x3_1) ∧ Aside0 (Kd.V k32 32 w' w.heap.size (fun k_ => ((P0_0_ k_ ∨ P0_1_ k_) ∨ w.heap.size ≤ k_) ∧ some k_ ≠ (v3 : Value).ownBlock ∧ k_ ≠ gb704) (.slice A0_0 l0_0.length c0_0) l0_0) ∧ Aside0 (Kd.V k58 58 w' w.heap.size (fun k_ => ((P0_0_ k_ ∨ P0_1_ k_) ∨ w.heap.size ≤ k_) ∧ some k_ ≠ (v3 : Value).ownBlock ∧ k_ ≠ gb704) (.slice A0_1 l0_1.length c0_1) l0_1) ∧ Aside0 (w'.heap[gb704]? = some (.cells #[(.slice A0_0 l0_0.length c0_0), (.slice A0_1 l0_1.length c0_1)] 48 (0, 0))) ∧ Aside0 (Below w.heap.size w w'))
  case atStart => exact ⟨(y708), (0), yS, H', ⟨Nat.le_refl _⟩, ⟨by refine yN ?_; exact HO710.out⟩, ⟨by refine yV ?_; exact Kd.V_mono HO0_0.out (fun _ hk => ⟨hk.1.1, ⟨hk.2, hk.1.2⟩⟩)⟩, ⟨by refine yV ?_; exact Kd.V_mono HO0_1.out (fun _ hk => ⟨hk.1.1, ⟨hk.2, hk.1.2⟩⟩)⟩, ⟨by refine yH ?_; exact BK704.out⟩, ⟨yB⟩⟩
  case round =>
   clear H'
   try clear c2
   try clear p2
   try clear c7
   try clear hcz6_0
   try clear hcz6_1
   try clear hfz6_0
   try clear hfz6_1
   obtain ⟨x3_1, x4_1, rfl, HA, HK1, HO_3, HO_705000, HO_705001, BK704, HB⟩ := hrel
   cases gk with
   | zero => exact absurd HA.out (by simp [swarfref43_blocks.l0])
   | succ k1 =>
    have H := HA.out
    clear HA
    simp only [swarfref43_blocks.l0] at H
    by_cases c8 : x4_1 < (l0_1.length : Int)
    ·rw [if_pos c8] at H
     have c8b0 := decide_eq_true c8
     clear c8
     by_cases c9 : 0 ≤ x4_1
     ·rw [if_pos c9] at H
      have c9b0 := decide_eq_true c9
      clear c9
      by_cases c10 : x3_1.length + ((rd_T58 l0_1 x4_1).f1).length < 2932031007402
      ·rw [if_pos c10] at H
       have LMc10 := Aside0.mk c10
       clear c10
       obtain ⟨y712, hy712⟩ : ∃ y_ : List (S32), y_ = (x3_1 ++ ((rd_T58 l0_1 x4_1).f1)) := ⟨_, rfl⟩
       replace H : (swarfref43_blocks.l0 k1 y712 (wrap64 (x4_1 + 1)) l0_0 l0_1) = some r := by first | (rw [hy712]; with_reducible exact H) | (have H2_ := (Option.bind_some _ _).symm.trans H; rw [hy712]; with_reducible exact H2_) | (have H2_ := (Option.bind_some _ _).symm.trans H; with_reducible exact H2_) | with_reducible exact H | (rw [hy712]; exact H) | exact H
       have Ny712 := Aside0.mk hy712
       clear hy712
       have H' := Aside0.mk H
       clear H
       have hcz11_0 := yZ0 BK704.out
       have hcz11_1 := yZ1 BK704.out
       have hfz11_0 := blk_frozen BK704.out 0
       have hfz11_1 := blk_frozen BK704.out 1
       have p711 : 0 ≤ (x4_1 : Int) := yD
       have q711 : x4_1 < (l0_1.length : Int) := yD
       obtain ⟨ad711, A711_1, c711_1, e711, hx711_0, hx711_1, hl711_1, hi711_1⟩ := at_T58 (Kd.V_reads' HO_705001.out).2.2 x4_1 p711 q711
       cases e711
       obtain ⟨ce711, hce711, hMe711, hcc711⟩ := Kd.V_get HO_705001.out z58 x4_1 p711 (by first | exact q711 | exact yD | (have e_ := (Kd.V_reads' HO_705001.out).1; omega))
       obtain ⟨ua711_1, uc711_1, rfl, ul711_1, ge711_1⟩ := k58_openF hMe711
       have hv711_1 := hcc711 1 _ rfl
       rw [add_field _ _ 1 (by omega)] at hv711_1
       replace hv711_1 := Option.some.inj (hv711_1.symm.trans hx711_1)
       injection hv711_1 with hva_ hvn_ hvc_
       rw [hva_] at ge711_1
       rw [hvc_] at ul711_1
       have HL711_1 := Aside0.mk (show Kd.V k32 32 _ w.heap.size _ _ ((rd_T58 l0_1 x4_1).f1) from Kd.V_mk ul711_1 ge711_1)
       clear hva_ hvn_ hvc_ ge711_1 ul711_1
       clear hcc711 hce711
       have HR711_1 := Aside0.mk hi711_1
       have HC711_1 := Aside0.mk hl711_1
       clear hi711_1 hl711_1
       replace p711 := eq_true p711
       replace q711 := eq_true q711
       go_wp2_with (first | ((with_reducible refine gate_builtin (b := .append) (xs := #[.tmp 16, .tmp 22]) rfl ?_); at_builtin; refine Kd.N_append_rows k32 (w0 := w) w.heap.size rfl (.tmp 16) (.tmp 22) 35 32 (.agg #[(.bool false), (.slice none 0 0), (.string ⟨#[]⟩)]) 48 rfl Try.underlying35 info32 rfl (by decide) (by omega) u3 x3_1 ((rd_T58 l0_1 x4_1).f1) _ _ _ (fun k_ => ((P0_0_ k_ ∨ P0_1_ k_) ∨ w.heap.size ≤ k_) ∧ k_ ≠ gb704) (fun k_ => ((fun k_ => ((P0_0_ k_ ∨ P0_1_ k_) ∨ w.heap.size ≤ k_) ∧ k_ ≠ gb704)) k_ ∧ some k_ ≠ (u3 : Value).ownBlock) rfl rfl ?aO ?aR (fun _ hk => hk) ?aF ?aB ?aS ?aL ?_; (case aR => exact (by skip; exact Kd.V_F (Kd.V_mono (ok' := (fun k_ => ((fun k_ => ((P0_0_ k_ ∨ P0_1_ k_) ∨ w.heap.size ≤ k_) ∧ k_ ≠ gb704)) k_ ∧ some k_ ≠ (u3 : Value).ownBlock)) (HL711_1.out) (fun k_ hk => ⟨⟨hk.1, hk.2.2⟩, hk.2.1⟩)))); (case aB => exact yB); (case aF => exact (fun k_ hk => ⟨(.inr (Nat.le_trans (below_size yB) hk)), Kd.freshB (g := gb704) yK k_ hk⟩)); (case aO => exact (yN HO_3.out)); (case aS => exact (below_size yB)); (case aL => have := LMc10.out; omega); intro v713 w12 ho hb hg hat; rw [← Ny712.out] at ho; have n0_ := Aside0.mk (Kd.V_afterv (ok := (fun k_ => ((P0_0_ k_ ∨ P0_1_ k_) ∨ w.heap.size ≤ k_) ∧ k_ ≠ gb704)) (yV (Kd.V_mono HO_705000.out (fun _ hk => ⟨⟨hk.1, hk.2.2⟩, hk.2.1⟩))) hg hat); have n1_ := Aside0.mk (Kd.V_afterv (ok := (fun k_ => ((P0_0_ k_ ∨ P0_1_ k_) ∨ w.heap.size ≤ k_) ∧ k_ ≠ gb704)) (yV (Kd.V_mono HO_705001.out (fun _ hk => ⟨⟨hk.1, hk.2.2⟩, hk.2.1⟩))) hg hat); have n2_ := Aside0.mk (blk_grown (g := gb704) yK hg (Kd.N_ne HO_3.out BK704.out (by decide))); have n3_ := Aside0.mk (Kd.V_afterv (ok := (fun k_ => ((P0_0_ k_ ∨ P0_1_ k_) ∨ w.heap.size ≤ k_) ∧ k_ ≠ gb704)) (yV (Kd.V_mono HL711_1.out (fun _ hk => ⟨⟨hk.1, hk.2.2⟩, hk.2.1⟩))) hg hat); have n4_ := Aside0.mk (hb); have n5_ := Aside0.mk (ho); clear HO_705000; clear HO_705001; clear BK704; clear HL711_1; clear HB; clear HO_3; have HO_705000 := n0_; have HO_705001 := n1_; have BK704 := n2_; have HL711_1 := n3_; have HB := n4_; have HO714 := n5_; clear n0_ n1_ n2_ n3_ n4_ n5_; clear ho hb hg hat))
       go_roundg k1
       case measure => have := HK1.out; omega
       case rel => exact ⟨(y712), (wrap64 (x4_1 + 1)), yS, H', ⟨by have := HK1.out; omega⟩, ⟨by refine yN ?_; exact HO714.out⟩, ⟨by refine yV ?_; exact Kd.V_mono HO_705000.out (fun _ hk => ⟨hk.1.1, ⟨hk.2, hk.1.2⟩⟩)⟩, ⟨by refine yV ?_; exact Kd.V_mono HO_705001.out (fun _ hk => ⟨hk.1.1, ⟨hk.2, hk.1.2⟩⟩)⟩, ⟨by refine yH ?_; exact BK704.out⟩, ⟨yB⟩⟩
      rw [if_neg c10] at H
      exact absurd H (by simp)
     rw [if_neg c9] at H
     exact absurd H (by simp)
    rw [if_neg c8] at H
    have c8b0 := decide_eq_false c8
    clear c8
    obtain rfl := Option.some.inj H
    have hcz13_0 := yZ0 BK704.out
    have hcz13_1 := yZ1 BK704.out
    have hfz13_0 := blk_frozen BK704.out 0
    have hfz13_1 := blk_frozen BK704.out 1
    go_wp2
    go_ret
    exact ⟨_, yE, by refine yN ?_; exact Kd.N_mono HO_3.out (fun _ hk => hk.1), yB⟩
 rw [if_neg c2] at H
 exact absurd H (by simp)
def swarfref43_sum.f (a0 : Int) (a1 : Int) : Option (Int) := some (mn 20001 (wrap64 (a0 + a1)))
set_option maxHeartbeats 8000000 in
set_option maxRecDepth 100000 in
theorem swarfref43_sum.calls (a0 : Int) (a1 : Int) (r : Int) (w : World) (h : swarfref43_sum.f a0 a1 = some r) :
  Calls Try.prog 99 #[.int .i64 a0, .int .i64 a1] w fun e w' => e = .returned (.int .i64 r) ∧ Below w.heap.size w w' := by
 have HB := Aside0.mk (Below.refl w.heap.size w)
 have H : (some (mn 20001 (wrap64 (a0 + a1)))) = some r := h
 clear h
 obtain ⟨ji3, hji3⟩ : ∃ j_ : Int, (mn 20001 (wrap64 (a0 + a1))) = j_ := ⟨_, rfl⟩
 replace H : (some ji3) = some r := by first | (rw [hji3] at H; exact H) | (simp only [hji3] at H ⊢; exact H)
 (try (have hji3h : ji3 ≤ 20001 := by (rw [← hji3]; unfold mn; (repeat' split) <;> omega)))
 (try (have hji3g : ji3 ≤ 64 := by omega))
 have hji3_ : (if (wrap64 (a0 + a1)) < 20001 then (wrap64 (a0 + a1)) else 20001) = ji3 := hji3
 obtain rfl := Option.some.inj H
 go_enter Try.func99, Try.ntmps99
 go_wp2
 go_ret
 exact ⟨by first | rfl | (simp [errW_none, errW_some] <;> rfl) | (simp only [← hji3]; first | rfl | (simp [errW_none, errW_some] <;> rfl)) | (simp [*, errW_none, errW_some] <;> rfl), yB⟩
def swarfref43_measure.l0 : Nat → List (S32) → List Int → List Int → Int → Int → Int → List (S32) → List (S58) → Option (Int × Int × Bool)
 | 0, _, _, _, _, _, _, _, _ => none
 | k + 1, x1, x2, x3, x11, x12, x13, x716000, x716001 => if x13 < (x1.length : Int) then (if 0 ≤ x13 then ((swarfref43_Call.f k ((rd_T32 x1 x13).f0) ((rd_T32 x1 x13).f1) ((rd_T32 x1 x13).f2)).bind fun bt717 => (if bt717.2.2.1 = true then ((swarfref43_Find.f k x716000 x716001 bt717.1).bind fun t722 => (if 0 ≤ t722 then (if t722 < (x2.length : Int) then (if (rd x2 t722) < 0 then (some (0, 0, false)) else ((swarfref43_sum.f x11 (mn 20001 (wrap64 ((rd x2 t722) * bt717.2.1)))).bind fun t725 => (if t722 < (x3.length : Int) then (swarfref43_measure.l0 k x1 x2 x3 t725 (mx x12 (wrap64 ((rd x3 t722) + 1))) (wrap64 (x13 + 1)) x716000 x716001) else (none)))) else (none)) else (none))) else ((swarfref43_sum.f x11 1).bind fun t721 => (swarfref43_measure.l0 k x1 x2 x3 t721 x12 (wrap64 (x13 + 1)) x716000 x716001)))) else (none)) else (some (x11, x12, true))
def swarfref43_measure.f (k : Nat) (l0_0 : List (S32)) (l0_1 : List (S58)) (l1 : List (S32)) (l2 : List Int) (l3 : List Int) : Option (Int × Int × Bool) := swarfref43_measure.l0 k l1 l2 l3 0 0 0 l0_0 l0_1
set_option maxHeartbeats 8000000 in
set_option maxRecDepth 100000 in
theorem swarfref43_measure.calls (k : Nat) (A0_0 : Option Addr) (c0_0 : Nat) (l0_0 : List (S32)) (A0_1 : Option Addr) (c0_1 : Nat) (l0_1 : List (S58)) (A1 : Option Addr) (c1 : Nat) (l1 : List (S32)) (A2 : Option Addr) (c2 : Nat) (l2 : List Int) (A3 : Option Addr) (c3 : Nat) (l3 : List Int) (r1 : Int) (r2 : Int) (r3 : Bool) (w : World) (hr0_0 : Kd.C k32 w A0_0 l0_0.length l0_0) (hc0_0 : l0_0.length ≤ c0_0) (hr0_1 : Kd.C k58 w A0_1 l0_1.length l0_1) (hc0_1 : l0_1.length ≤ c0_1) (hr1 : Kd.C k32 w A1 l1.length l1) (hc1 : l1.length ≤ c1) (hr2 : Kd.C (Kd.int .i64) w A2 l2.length l2) (hc2 : l2.length ≤ c2) (hr3 : Kd.C (Kd.int .i64) w A3 l3.length l3) (hc3 : l3.length ≤ c3) (h : swarfref43_measure.f k l0_0 l0_1 l1 l2 l3 = some (r1, r2, r3)) :
  Calls Try.prog 72 #[.agg #[.slice A0_0 l0_0.length c0_0, .slice A0_1 l0_1.length c0_1], .slice A1 l1.length c1, .slice A2 l2.length c2, .slice A3 l3.length c3] w fun e w' => e = .returned (.tuple #[.int .i64 r1, .int .i64 r2, .bool r3]) ∧ Below w.heap.size w w' := by
 have hu48 := Try.underlying48
 have hu32 := Try.underlying32
 have HR0_0 := Aside0.mk hr0_0
 have HC0_0 := Aside0.mk hc0_0
 clear hr0_0 hc0_0
 have HR0_1 := Aside0.mk hr0_1
 have HC0_1 := Aside0.mk hc0_1
 clear hr0_1 hc0_1
 have HR1 := Aside0.mk hr1
 have HC1 := Aside0.mk hc1
 clear hr1 hc1
 have HR2 := Aside0.mk hr2
 have HC2 := Aside0.mk hc2
 clear hr2 hc2
 have HR3 := Aside0.mk hr3
 have HC3 := Aside0.mk hc3
 clear hr3 hc3
 have HB := Aside0.mk (Below.refl w.heap.size w)
 have H : (swarfref43_measure.l0 k l1 l2 l3 0 0 0 l0_0 l0_1) = some (r1, r2, r3) := h
 clear h
 have H' := Aside0.mk H
 clear H
 go_enter Try.func72, Try.ntmps72
 go_wp2_with (first | ((with_reducible refine gate_dst (N := 4) rfl ?_); refine yX 4 #[.slice A0_0 l0_0.length c0_0, .slice A0_1 l0_1.length c0_1] 48 ?_; intro gb715 hg w5 hbox hb; have BK715 := Aside0.mk (hbox); have GE715 := Aside0.mk ((yG hg : w.heap.size ≤ gb715)); replace HB := Aside0.mk (below_step yB hb); clear hb hbox hg))
 go_loopg [11, 12, 13] k (fun kq v11 v12 v13 w' => ∃ (x11_1 : Int) (x12_1 : Int) (x13_1 : Int), v11 = .int .i64 x11_1 ∧ v12 = .int .i64 x12_1 ∧ v13 = .int .i64 x13_1 ∧ Aside0 (swarfref43_measure.l0 kq l1 l2 l3 x11_1 x12_1 x13_1 l0_0 l0_1 = some (r1, r2, r3)) ∧ Aside0 (kq ≤ k) ∧ Aside0 (w'.heap[gb715]? = some (.cells #[(.slice A0_0 l0_0.length c0_0), (.slice A0_1 l0_1.length c0_1)] 48 (0, 0))) ∧ Aside0 (Below w.heap.size w w'))
 case atStart => exact ⟨(0), (0), (0), yS, yS, yS, H', ⟨Nat.le_refl _⟩, ⟨by refine yH ?_; exact BK715.out⟩, ⟨yB⟩⟩
 case round =>
  clear H'
  try clear c1
  try clear c2
  try clear p2
  try clear c3
  obtain ⟨x11_1, x12_1, x13_1, rfl, rfl, rfl, HA, HK1, BK715, HB⟩ := hrel
  cases gk with
  | zero => exact absurd HA.out (by simp [swarfref43_measure.l0])
  | succ k1 =>
   have H := HA.out
   clear HA
   simp only [swarfref43_measure.l0] at H
   by_cases c6 : x13_1 < (l1.length : Int)
   ·rw [if_pos c6] at H
    have c6b0 := decide_eq_true c6
    clear c6
    by_cases c7 : 0 ≤ x13_1
    ·rw [if_pos c7] at H
     have c7b0 := decide_eq_true c7
     clear c7
     replace H := Option.bind_eq_some_iff.mp H
     obtain ⟨⟨t717, t718, t719, t720⟩, A80, H⟩ := H
     have A8 := Aside0.mk A80
     clear A80
     by_cases c9 : t719 = true
     ·subst c9
      rw [if_pos rfl] at H
      replace H := Option.bind_eq_some_iff.mp H
      obtain ⟨t722, A100, H⟩ := H
      have A10 := Aside0.mk A100
      clear A100
      by_cases c11 : 0 ≤ t722
      ·rw [if_pos c11] at H
       have c11b0 := decide_eq_true c11
       clear c11
       by_cases c12 : t722 < (l2.length : Int)
       ·rw [if_pos c12] at H
        have c12b0 := decide_eq_true c12
        clear c12
        by_cases c13 : (rd l2 t722) < 0
        ·rw [if_pos c13] at H
         have c13b0 := decide_eq_true c13
         clear c13
         simp only [Option.some.injEq, Prod.mk.injEq] at H
         obtain ⟨rfl, rfl, rfl⟩ := H
         have p716 : 0 ≤ (x13_1 : Int) := yD
         have q716 : x13_1 < (l1.length : Int) := yD
         obtain ⟨ad716, A716_1, c716_1, e716, hx716_0, hx716_1, hx716_2, hl716_1, hi716_1⟩ := at_T32 HR1.out x13_1 p716 q716
         cases e716
         replace hx716_0 := yM HB.out hx716_0
         replace hx716_1 := yM HB.out hx716_1
         replace hx716_2 := yM HB.out hx716_2
         have HR716_1 := Aside0.mk hi716_1
         have HC716_1 := Aside0.mk hl716_1
         clear hi716_1 hl716_1
         replace p716 := eq_true p716
         replace q716 := eq_true q716
         go_wp2_with (first | ((with_reducible refine gate_callee (f := 26) rfl ?_); refine goesL_ (some 30) rfl rfl Try.func26 (by kernel_rfl) rfl #[.agg #[.bool ((rd_T32 l1 x13_1).f0), .slice A716_1 ((rd_T32 l1 x13_1).f1).length c716_1, .string ((rd_T32 l1 x13_1).f2)]] rfl yQ ?_; (with_reducible refine (swarfref43_Call.calls k1 ((rd_T32 l1 x13_1).f0) _ _ ((rd_T32 l1 x13_1).f1) ((rd_T32 l1 x13_1).f2) t717 t718 true t720 _ ?side1 ?side2 A8.out).mono ?_); (case side1 => exact yC HR716_1.out); (case side2 => exact HC716_1.out); rintro e w14 ⟨rfl, hb⟩; refine ⟨_, rfl, ?_⟩; replace BK715 := Aside0.mk (blk_below (g := gb715) yK hb); replace HB := Aside0.mk (below_step yB hb); (try clear hb); have hcz15_0 := yZ0 BK715.out; have hcz15_1 := yZ1 BK715.out; have hfz15_0 := blk_frozen BK715.out 0; have hfz15_1 := blk_frozen BK715.out 1) | ((with_reducible refine gate_callee (f := 30) rfl ?_); refine goesL_ (some 41) rfl rfl Try.func30 (by kernel_rfl) rfl #[.agg #[.slice A0_0 l0_0.length c0_0, .slice A0_1 l0_1.length c0_1], .int .i64 t717] rfl yQ ?_; (with_reducible refine (swarfref43_Find.calls k1 _ _ l0_0 _ _ l0_1 t717 t722 _ ?side1 ?side2 ?side3 ?side4 A10.out).mono ?_); (case side1 => exact yC HR0_0.out); (case side2 => exact HC0_0.out); (case side3 => exact yC HR0_1.out); (case side4 => exact HC0_1.out); rintro e w16 ⟨rfl, hb⟩; refine ⟨_, rfl, ?_⟩; replace BK715 := Aside0.mk (blk_below (g := gb715) yK hb); replace HB := Aside0.mk (below_step yB hb); (try clear hb); have p723 : 0 ≤ (t722 : Int) := yD; have q723 : t722 < (l2.length : Int) := yD; obtain ⟨ad723, e723, hx723_0⟩ := Kd.at_int HR2.out t722 p723 q723; cases e723; replace hx723_0 := yM HB.out hx723_0; replace p723 := eq_true p723; replace q723 := eq_true q723))
         go_ret3
         exact ⟨yE, yB⟩
        rw [if_neg c13] at H
        have c13b0 := decide_eq_false c13
        clear c13
        obtain ⟨ji17, hji17⟩ : ∃ j_ : Int, (mn 20001 (wrap64 ((rd l2 t722) * t718))) = j_ := ⟨_, rfl⟩
        replace H : ((swarfref43_sum.f x11_1 (ji17)).bind fun t725 => (if t722 < (l3.length : Int) then (swarfref43_measure.l0 k1 l1 l2 l3 t725 (mx x12_1 (wrap64 ((rd l3 t722) + 1))) (wrap64 (x13_1 + 1)) l0_0 l0_1) else (none))) = some (r1, r2, r3) := by first | (rw [hji17] at H; exact H) | (simp only [hji17] at H ⊢; exact H)
        (try rw [hji17] at A8)
        (try rw [hji17] at A10)
        have hji17_ : (if (wrap64 ((rd l2 t722) * t718)) < 20001 then (wrap64 ((rd l2 t722) * t718)) else 20001) = ji17 := hji17
        replace H := Option.bind_eq_some_iff.mp H
        obtain ⟨t725, A180, H⟩ := H
        have A18 := Aside0.mk A180
        clear A180
        by_cases c19 : t722 < (l3.length : Int)
        ·rw [if_pos c19] at H
         have c19b0 := decide_eq_true c19
         clear c19
         obtain ⟨ji20, hji20⟩ : ∃ j_ : Int, (mx x12_1 (wrap64 ((rd l3 t722) + 1))) = j_ := ⟨_, rfl⟩
         replace H : (swarfref43_measure.l0 k1 l1 l2 l3 t725 ji20 (wrap64 (x13_1 + 1)) l0_0 l0_1) = some (r1, r2, r3) := by first | (rw [hji20] at H; exact H) | (simp only [hji20] at H ⊢; exact H)
         (try rw [hji20] at A8)
         (try rw [hji20] at A10)
         (try rw [hji20] at A18)
         have hji20_ : (if x12_1 < (wrap64 ((rd l3 t722) + 1)) then (wrap64 ((rd l3 t722) + 1)) else x12_1) = ji20 := hji20
         have H' := Aside0.mk H
         clear H
         have p716 : 0 ≤ (x13_1 : Int) := yD
         have q716 : x13_1 < (l1.length : Int) := yD
         obtain ⟨ad716, A716_1, c716_1, e716, hx716_0, hx716_1, hx716_2, hl716_1, hi716_1⟩ := at_T32 HR1.out x13_1 p716 q716
         cases e716
         replace hx716_0 := yM HB.out hx716_0
         replace hx716_1 := yM HB.out hx716_1
         replace hx716_2 := yM HB.out hx716_2
         have HR716_1 := Aside0.mk hi716_1
         have HC716_1 := Aside0.mk hl716_1
         clear hi716_1 hl716_1
         replace p716 := eq_true p716
         replace q716 := eq_true q716
         go_wp2_with (first | ((with_reducible refine gate_callee (f := 26) rfl ?_); refine goesL_ (some 30) rfl rfl Try.func26 (by kernel_rfl) rfl #[.agg #[.bool ((rd_T32 l1 x13_1).f0), .slice A716_1 ((rd_T32 l1 x13_1).f1).length c716_1, .string ((rd_T32 l1 x13_1).f2)]] rfl yQ ?_; (with_reducible refine (swarfref43_Call.calls k1 ((rd_T32 l1 x13_1).f0) _ _ ((rd_T32 l1 x13_1).f1) ((rd_T32 l1 x13_1).f2) t717 t718 true t720 _ ?side1 ?side2 A8.out).mono ?_); (case side1 => exact yC HR716_1.out); (case side2 => exact HC716_1.out); rintro e w21 ⟨rfl, hb⟩; refine ⟨_, rfl, ?_⟩; replace BK715 := Aside0.mk (blk_below (g := gb715) yK hb); replace HB := Aside0.mk (below_step yB hb); (try clear hb); have hcz22_0 := yZ0 BK715.out; have hcz22_1 := yZ1 BK715.out; have hfz22_0 := blk_frozen BK715.out 0; have hfz22_1 := blk_frozen BK715.out 1) | ((with_reducible refine gate_callee (f := 30) rfl ?_); refine goesL_ (some 41) rfl rfl Try.func30 (by kernel_rfl) rfl #[.agg #[.slice A0_0 l0_0.length c0_0, .slice A0_1 l0_1.length c0_1], .int .i64 t717] rfl yQ ?_; (with_reducible refine (swarfref43_Find.calls k1 _ _ l0_0 _ _ l0_1 t717 t722 _ ?side1 ?side2 ?side3 ?side4 A10.out).mono ?_); (case side1 => exact yC HR0_0.out); (case side2 => exact HC0_0.out); (case side3 => exact yC HR0_1.out); (case side4 => exact HC0_1.out); rintro e w23 ⟨rfl, hb⟩; refine ⟨_, rfl, ?_⟩; replace BK715 := Aside0.mk (blk_below (g := gb715) yK hb); replace HB := Aside0.mk (below_step yB hb); (try clear hb); have p723 : 0 ≤ (t722 : Int) := yD; have q723 : t722 < (l2.length : Int) := yD; obtain ⟨ad723, e723, hx723_0⟩ := Kd.at_int HR2.out t722 p723 q723; cases e723; replace hx723_0 := yM HB.out hx723_0; replace p723 := eq_true p723; replace q723 := eq_true q723; have p724 : 0 ≤ (t722 : Int) := yD; have q724 : t722 < (l2.length : Int) := yD; obtain ⟨ad724, e724, hx724_0⟩ := Kd.at_int HR2.out t722 p724 q724; obtain rfl : ad723 = ad724 := (by injection e724); replace hx724_0 := yM HB.out hx724_0; replace p724 := eq_true p724; replace q724 := eq_true q724) | ((with_reducible refine gate_callee (f := 99) rfl ?_); refine goesL_ (some 55) rfl rfl Try.func99 (by kernel_rfl) rfl #[.int .i64 x11_1, .int .i64 ji17] rfl (by (try simp only [List.map_toArray, List.map_cons, List.map_nil]); first | done | (simp only [hji17]; rfl) | rfl | (simp only [List.length_drop, List.length_take]; rfl)) ?_; (with_reducible refine (swarfref43_sum.calls x11_1 ji17 t725 _ A18.out).mono ?_); rintro e w24 ⟨rfl, hb⟩; refine ⟨_, rfl, ?_⟩; replace BK715 := Aside0.mk (blk_below (g := gb715) yK hb); replace HB := Aside0.mk (below_step yB hb); (try clear hb); have p726 : 0 ≤ (t722 : Int) := yD; have q726 : t722 < (l3.length : Int) := yD; obtain ⟨ad726, e726, hx726_0⟩ := Kd.at_int HR3.out t722 p726 q726; cases e726; replace hx726_0 := yM HB.out hx726_0; replace p726 := eq_true p726; replace q726 := eq_true q726))
         go_roundg k1
         case measure => have := HK1.out; omega
         case rel => exact ⟨(t725), (ji20), (wrap64 (x13_1 + 1)), yS, (by first | rfl | (simp; done) | (simp only [← hji20] <;> (first | rfl | simp)) | (simp [*]; done)), yS, H', ⟨by have := HK1.out; omega⟩, ⟨by refine yH ?_; exact BK715.out⟩, ⟨yB⟩⟩
        rw [if_neg c19] at H
        exact absurd H (by simp)
       rw [if_neg c12] at H
       exact absurd H (by simp)
      rw [if_neg c11] at H
      exact absurd H (by simp)
     replace c9 := Bool.eq_false_iff.mpr c9
     subst c9
     replace H : ((swarfref43_sum.f x11_1 1).bind fun t721 => (swarfref43_measure.l0 k1 l1 l2 l3 t721 x12_1 (wrap64 (x13_1 + 1)) l0_0 l0_1)) = some (r1, r2, r3) := by rw [if_neg (show ¬ (false = true) by decide)] at H; exact H
     replace H := Option.bind_eq_some_iff.mp H
     obtain ⟨t721, A250, H⟩ := H
     have A25 := Aside0.mk A250
     clear A250
     have H' := Aside0.mk H
     clear H
     have p716 : 0 ≤ (x13_1 : Int) := yD
     have q716 : x13_1 < (l1.length : Int) := yD
     obtain ⟨ad716, A716_1, c716_1, e716, hx716_0, hx716_1, hx716_2, hl716_1, hi716_1⟩ := at_T32 HR1.out x13_1 p716 q716
     cases e716
     replace hx716_0 := yM HB.out hx716_0
     replace hx716_1 := yM HB.out hx716_1
     replace hx716_2 := yM HB.out hx716_2
     have HR716_1 := Aside0.mk hi716_1
     have HC716_1 := Aside0.mk hl716_1
     clear hi716_1 hl716_1
     replace p716 := eq_true p716
     replace q716 := eq_true q716
     go_wp2_with (first | ((with_reducible refine gate_callee (f := 26) rfl ?_); refine goesL_ (some 30) rfl rfl Try.func26 (by kernel_rfl) rfl #[.agg #[.bool ((rd_T32 l1 x13_1).f0), .slice A716_1 ((rd_T32 l1 x13_1).f1).length c716_1, .string ((rd_T32 l1 x13_1).f2)]] rfl yQ ?_; (with_reducible refine (swarfref43_Call.calls k1 ((rd_T32 l1 x13_1).f0) _ _ ((rd_T32 l1 x13_1).f1) ((rd_T32 l1 x13_1).f2) t717 t718 false t720 _ ?side1 ?side2 A8.out).mono ?_); (case side1 => exact yC HR716_1.out); (case side2 => exact HC716_1.out); rintro e w26 ⟨rfl, hb⟩; refine ⟨_, rfl, ?_⟩; replace BK715 := Aside0.mk (blk_below (g := gb715) yK hb); replace HB := Aside0.mk (below_step yB hb); (try clear hb)) | ((with_reducible refine gate_callee (f := 99) rfl ?_); refine goesL_ (some 38) rfl rfl Try.func99 (by kernel_rfl) rfl #[.int .i64 x11_1, .int .i64 1] rfl yQ ?_; (with_reducible refine (swarfref43_sum.calls x11_1 1 t721 _ A25.out).mono ?_); rintro e w27 ⟨rfl, hb⟩; refine ⟨_, rfl, ?_⟩; replace BK715 := Aside0.mk (blk_below (g := gb715) yK hb); replace HB := Aside0.mk (below_step yB hb); (try clear hb)))
     go_roundg k1
     case measure => have := HK1.out; omega
     case rel => exact ⟨(t721), (x12_1), (wrap64 (x13_1 + 1)), yS, yS, yS, H', ⟨by have := HK1.out; omega⟩, ⟨by refine yH ?_; exact BK715.out⟩, ⟨yB⟩⟩
    rw [if_neg c7] at H
    exact absurd H (by simp)
   rw [if_neg c6] at H
   have c6b0 := decide_eq_false c6
   clear c6
   simp only [Option.some.injEq, Prod.mk.injEq] at H
   obtain ⟨rfl, rfl, rfl⟩ := H
   go_wp2
   go_ret3
   exact ⟨yE, yB⟩
end Go.Proofs.Ytehkhbnhmehobaa.P
