/- A part of the proof of SubprogramCall. -/

import Derived.Test.YtehkhbnhmehobaaCSubprogramCall1
import Derived.Test.YtehkhbnhmehobaaCSubprogramCall2
import Derived.Test.YtehkhbnhmehobaaCSubprogramCall3
import Derived.Test.YtehkhbnhmehobaaCSubprogramCall4
namespace Go.Proofs.Ytehkhbnhmehobaa.P
open Go.RowKit Go.Proofs.YtehkhbnhmehobaaW.PrintWords Go.Proofs.YtehkhbnhmehobaaW.PrintLast Go.Proofs.YtehkhbnhmehobaaW.PrintMore
attribute [local go_sem] max2_int min2_int max_two min_two max_three min_three max_four min_four
set_option linter.unusedVariables false
set_option linter.unusedSimpArgs false
def subprogram_Split.l0 : Nat → List (S32) → List (S32) → List (S81) → Option ((List (S32)) × (List (S81)) × Int)
 | 0, _, _, _ => none
 | k + 1, x6, x466000, x466001 => if (x6.length : Int) > 0 then (if 0 < (x6.length : Int) then ((subprogram_beginning.f ((rd_T32 x6 0).f0) ((rd_T32 x6 0).f1) ((rd_T32 x6 0).f2)).bind fun bt472 => ((IndexFunc_back.f k x6).bind fun t474 => (if bt472.2 = true then (if t474 < 0 then (some (([] : List (S32)), ([] : List (S81)), 1)) else (if 1 ≤ t474 then (if t474 ≤ (x6.length : Int) then ((Clone_Block.f ((x6.take (t474 : Int).toNat).drop 1)).bind fun t480 => (if x466001.length < 4398046511104 then (if 0 ≤ (wrap64 (t474 + 1)) then (if (wrap64 (t474 + 1)) ≤ (x6.length : Int) then (subprogram_Split.l0 k (x6.drop ((wrap64 (t474 + 1)) : Int).toNat) x466000 (x466001 ++ [(⟨bt472.1, t480⟩ : S81)])) else (none)) else (none)) else (none))) else (none)) else (none))) else (some (([] : List (S32)), ([] : List (S81)), 1))))) else (none)) else ((subprogram_ordered.f k x466000 x466001).bind fun t491 => (if t491 = true then ((subprogram_repeated.f x466001).bind fun t492 => (if t492 = true then (some (([] : List (S32)), ([] : List (S81)), 5)) else (some (x466000, x466001, 0)))) else (some (([] : List (S32)), ([] : List (S81)), 1))))
def subprogram_Split.f (k : Nat) (l0 : List (S32)) : Option ((List (S32)) × (List (S81)) × Int) := (IndexFunc_end.f k l0).bind fun t456 => (if t456 < 0 then (some (([] : List (S32)), ([] : List (S81)), 1)) else (if 0 ≤ (wrap64 (t456 + 1)) then (if (wrap64 (t456 + 1)) ≤ (l0.length : Int) then ((Clone_Block.f (l0.take ((wrap64 (t456 + 1)) : Int).toNat)).bind fun t462 => (subprogram_Split.l0 k (l0.drop ((wrap64 (t456 + 1)) : Int).toNat) t462 ([] : List (S81)))) else (none)) else (none)))
theorem subprogram_Split.mono_l : ∀ k, (∀ y0 y1 y2, LeO (subprogram_Split.l0 k y0 y1 y2) (subprogram_Split.l0 (k + 1) y0 y1 y2))
 | 0 => fun _ _ _ r h => by simp [subprogram_Split.l0] at h
 | k + 1 => by
  have ih0 := subprogram_Split.mono_l k
  ·intro y0 y1 y2
   unfold subprogram_Split.l0
   repeat' first
   | (with_reducible exact ih0 _ _ _)
   | (with_reducible exact IndexFunc_back.mono _ _)
   | (with_reducible exact IndexFunc_end.mono _ _)
   | (with_reducible exact subprogram_ordered.mono _ _ _)
   | (with_reducible exact LeO.refl _)
   | (with_reducible exact LeO.none _)
   | (with_reducible refine LeO.ite ?_ ?_)
   | (with_reducible refine LeO.bind ?_ (fun _ => ?_))
   | exact ih0 _ _ _
   | exact IndexFunc_back.mono _ _
   | exact IndexFunc_end.mono _ _
   | exact subprogram_ordered.mono _ _ _
   | exact LeO.none _
   | refine LeO.ite ?_ ?_
   | refine LeO.bind ?_ (fun _ => ?_)
theorem subprogram_Split.mono : ∀ a0 k, LeO (subprogram_Split.f k a0) (subprogram_Split.f (k + 1) a0) := by
 intro a0 k
 have ih0 := subprogram_Split.mono_l k
 unfold subprogram_Split.f
 repeat' first
   | (with_reducible exact ih0 _ _ _)
   | (with_reducible exact IndexFunc_back.mono _ _)
   | (with_reducible exact IndexFunc_end.mono _ _)
   | (with_reducible exact subprogram_ordered.mono _ _ _)
   | (with_reducible exact LeO.refl _)
   | (with_reducible exact LeO.none _)
   | (with_reducible refine LeO.ite ?_ ?_)
   | (with_reducible refine LeO.bind ?_ (fun _ => ?_))
   | exact ih0 _ _ _
   | exact IndexFunc_back.mono _ _
   | exact IndexFunc_end.mono _ _
   | exact subprogram_ordered.mono _ _ _
   | exact LeO.none _
   | refine LeO.ite ?_ ?_
   | refine LeO.bind ?_ (fun _ => ?_)
def subprogram_Split.T11 : Bool × List (List Nat × List Nat) := (true, [([], []), ([0], [0]), ([], []), ([], []), ([], []), ([3, 4], [3, 4]), ([5], [5]), ([2, 6], [2, 6]), ([7], [7]), ([1, 8, 6], [1, 8]), ([0, 1, 2, 3, 4, 5, 6, 7, 8, 9], []), ([10, 9, 9, 0, 1, 2, 3, 4, 5, 6, 7, 8, 9], [9, 10])])
def subprogram_Split.B11 : List Nat := [0, 1, 0, 0, 0, 24, 56, 124, 252, 511, 1023, 2047]
theorem subprogram_Split.tab11 : rtab .any (opsOf Try.f45 11) = subprogram_Split.T11 := by kernel_rfl
theorem subprogram_Split.bits11 : waitsOk subprogram_Split.T11.2 subprogram_Split.B11 = true := by kernel_rfl
set_option maxHeartbeats 8000000 in
set_option maxRecDepth 100000 in
theorem subprogram_Split.calls (k : Nat) (P0_ : Nat → Prop) (A0 : Option Addr) (c0 : Nat) (l0 : List (S32)) (r1 : List (S32)) (r2 : List (S81)) (r3 : Int) (w : World) (hs0 : Kd.V k32 32 w w.heap.size (fun k_ => P0_ k_) (.slice A0 l0.length c0) l0) (h : subprogram_Split.f k l0 = some (r1, r2, r3)) :
  Calls Try.prog 45 #[.slice A0 l0.length c0] w fun e w' => ∃ v0_ v1_ : Value, e = .returned (.tuple #[.agg #[v0_, v1_], .int .i64 r3]) ∧ Kd.N k32 32 w' w.heap.size (fun k_ => (P0_ k_ ∨ w.heap.size ≤ k_) ∧ some k_ ≠ (v1_ : Value).ownBlock) v0_ r1 ∧ Kd.N k81 81 w' w.heap.size (fun k_ => (P0_ k_ ∨ w.heap.size ≤ k_) ∧ some k_ ≠ (v0_ : Value).ownBlock) v1_ r2 ∧ Below w.heap.size w w' := by
 have hu54 := Try.underlying54
 have hu32 := Try.underlying32
 have hu81 := Try.underlying81
 have HO0 := Aside0.mk (show Kd.V k32 32 w w.heap.size (fun k_ => (P0_ k_ ∨ w.heap.size ≤ k_)) (.slice A0 l0.length c0) l0 from Kd.V_mono hs0 (fun k_ hk => .inl hk))
 have HB := Aside0.mk (Below.refl w.heap.size w)
 have H : ((IndexFunc_end.f k l0).bind fun t456 => (if t456 < 0 then (some (([] : List (S32)), ([] : List (S81)), 1)) else (if 0 ≤ (wrap64 (t456 + 1)) then (if (wrap64 (t456 + 1)) ≤ (l0.length : Int) then ((Clone_Block.f (l0.take ((wrap64 (t456 + 1)) : Int).toNat)).bind fun t462 => (subprogram_Split.l0 k (l0.drop ((wrap64 (t456 + 1)) : Int).toNat) t462 ([] : List (S81)))) else (none)) else (none)))) = some (r1, r2, r3) := h
 clear h
 replace H := Option.bind_eq_some_iff.mp H
 obtain ⟨t456, A20, H⟩ := H
 replace H : (if t456 < 0 then (some (([] : List (S32)), ([] : List (S81)), 1)) else (if 0 ≤ (wrap64 (t456 + 1)) then (if (wrap64 (t456 + 1)) ≤ (l0.length : Int) then ((Clone_Block.f (l0.take ((wrap64 (t456 + 1)) : Int).toNat)).bind fun t462 => (subprogram_Split.l0 k (l0.drop ((wrap64 (t456 + 1)) : Int).toNat) t462 ([] : List (S81)))) else (none)) else (none))) = some (r1, r2, r3) := H
 have A2 := Aside0.mk A20
 clear A20
 by_cases c3 : t456 < 0
 ·rw [if_pos c3] at H
  have c3b0 : decide (t456 < 0) = true := decide_eq_true c3
  clear c3
  simp only [Option.some.injEq, Prod.mk.injEq] at H
  obtain ⟨rfl, rfl, rfl⟩ := H
  go_enter Try.func45, Try.ntmps45
  go_wp2_with (first | ((with_reducible refine gate_dst (N := 2) rfl ?_); refine box_event ?hg (N := 2) ?hd (cs := #[.slice none 0 0, .slice none 0 0]) (t := 54) ?hr ?_; (case hd => rfl); (case hg => rfl); (case hr => first | (go_simp; done) | (go_simp; rfl)); intro gb455 hg w4 hbox hb; have n0_ := Aside0.mk (Kd.V_below (Kd.V_elderB (by (with_reducible repeat (first | apply Kd.V_alloc | apply Kd.V_drewN | apply Kd.V_drew)); exact HO0.out) gb455 (Nat.le_of_eq hg.symm)) hb); have n1_ := Aside0.mk (below_step (by repeat (first | (with_reducible first | exact HB.out | apply below_alloc | apply pw_below_drewN | apply below_drew1) | exact HB.out)) hb); have n2_ := Aside0.mk (hbox); have n3_ := Aside0.mk ((by rw [hg]; exact (below_size (by repeat (first | (with_reducible first | exact HB.out | apply below_alloc | apply pw_below_drewN | apply below_drew1) | exact HB.out))) : w.heap.size ≤ gb455)); have n4_ := Aside0.mk ((by rw [hg]; exact (below_size (by repeat (first | (with_reducible first | exact HB.out | apply below_alloc | apply pw_below_drewN | apply below_drew1) | exact HB.out))) : w.heap.size ≤ gb455)); clear HO0; clear HB; have HO0 := n0_; have HB := n1_; have BK455 := n2_; have GW455 := n3_; have GE455 := n4_; clear n0_ n1_ n2_ n3_ n4_; clear hb hbox hg) | ((with_reducible refine gate_callee (f := 73) rfl ?_); refine goesL_ (some 11) rfl rfl Try.func73 (by kernel_rfl) rfl #[.slice A0 l0.length c0, .func (.func 75) #[] #[]] rfl (by (try simp only [List.map_toArray, List.map_cons, List.map_nil]); first | done | rfl | (simp only [List.length_drop, List.length_take]; rfl)) ?_; (with_reducible refine (IndexFunc_end.calls k _ _ l0  t456 _ ?side1 ?side2 A2.out).mono ?_); (case side1 => repeat (first | exact (Kd.V_reads' HO0.out).2.2 | (with_reducible refine Kd.C_alloc ?_ _) | (with_reducible refine Kd.C_drewN ?_ _) | (with_reducible refine Kd.C_drew ?_))); (case side2 => exact (Kd.V_reads' HO0.out).2.1); rintro e w5 ⟨rfl, hb⟩; refine ⟨_, rfl, ?_⟩; have n0_ := Aside0.mk (Kd.V_below (by (with_reducible repeat (first | apply Kd.V_alloc | apply Kd.V_drewN | apply Kd.V_drew)); exact HO0.out) hb); have n1_ := Aside0.mk (blk_below (g := gb455) (o := .cells #[.slice none 0 0, .slice none 0 0] 54 (0, 0)) (by (with_reducible repeat (first | refine blk_drewN ?_ _ | refine blk_drew ?_ | refine blk_alloc ?_ _)); exact BK455.out) hb); have n2_ := Aside0.mk (below_step (by repeat (first | (with_reducible first | exact HB.out | apply below_alloc | apply pw_below_drewN | apply below_drew1 | refine below_set ?_ GE455.out) | exact HB.out)) hb); clear HO0; clear BK455; clear HB; have HO0 := n0_; have BK455 := n1_; have HB := n2_; clear n0_ n1_ n2_; (try clear hb); (try clear hb2); (try clear hk); (try clear hi); have hcz6_0 : w5.cell? ⟨gb455, 0, none⟩ = some (.slice none 0 0) := (blk_cell BK455.out 0).trans rfl; have hcz6_1 : w5.cell? ⟨gb455, 1, none⟩ = some (.slice none 0 0) := (blk_cell BK455.out 1).trans rfl; have hfz6_0 := blk_frozen BK455.out 0; have hfz6_1 := blk_frozen BK455.out 1))
  refine bodyPost_ret (results_ct rfl _ _ gb455 54 #[.slice none 0 0, .slice none 0 0] (0, 0) _ rfl (by (with_reducible repeat (first | refine blk_drewN ?_ _ | refine blk_drew ?_ | refine blk_alloc ?_ _)); refine blk_put (cs := #[.slice none 0 0, .slice none 0 0]) ?_ 1 _ rfl; (with_reducible repeat (first | refine blk_drewN ?_ _ | refine blk_drew ?_ | refine blk_alloc ?_ _)); refine blk_put (cs := #[.slice none 0 0, .slice none 0 0]) ?_ 0 _ rfl; (with_reducible repeat (first | refine blk_drewN ?_ _ | refine blk_drew ?_ | refine blk_alloc ?_ _)); exact BK455.out) Try.underlying54 rfl (by kernel_rfl)) rfl ?_
  exact ⟨_, _, by first | rfl | (simp [errW_none, errW_some] <;> rfl) | (simp [*, errW_none, errW_some] <;> rfl), by first | exact Kd.S_nil _ _ _ _ _ | exact Kd.N_nil _ _ _ _ _ | exact Kd.V_nil _ _ _ _ _ | exact Kd.Q_nil _ _ _ _ _ | exact Kd.R_nil _ _ _ _ _, by first | exact Kd.R_nil _ _ _ _ _ | exact Kd.N_nil _ _ _ _ _ | exact Kd.V_nil _ _ _ _ _ | exact Kd.Q_nil _ _ _ _ _ | exact Kd.S_nil _ _ _ _ _, by repeat (first | (with_reducible first | exact HB.out | apply below_alloc | apply pw_below_drewN | apply below_drew1 | refine below_set ?_ GE455.out) | exact HB.out)⟩
 ·rw [if_neg c3] at H
  have c3b0 : decide (t456 < 0) = false := decide_eq_false c3
  clear c3
  obtain ⟨ji7, hji7⟩ : ∃ j_ : Int, (wrap64 (t456 + 1)) = j_ := ⟨_, rfl⟩
  replace H : (if 0 ≤ (ji7) then (if (ji7) ≤ (l0.length : Int) then ((Clone_Block.f (l0.take ((ji7) : Int).toNat)).bind fun t462 => (subprogram_Split.l0 k (l0.drop ((ji7) : Int).toNat) t462 ([] : List (S81)))) else (none)) else (none)) = some (r1, r2, r3) := by first | (rw [hji7] at H; exact H) | (simp only [hji7] at H ⊢; exact H)
  (try rw [hji7] at A2)
  have hji7w : (IntKind.i64.wrap (t456 + 1)) = ji7 := (i64_w _).trans hji7
  by_cases c8 : 0 ≤ (ji7)
  ·rw [if_pos c8] at H
   have c8b0 := eq_true c8
   have c8b1 : decide (0 ≤ (ji7)) = true := decide_eq_true c8
   clear c8
   by_cases c9 : (ji7) ≤ (l0.length : Int)
   ·rw [if_pos c9] at H
    have c9b0 := eq_true c9
    have c9b1 : decide ((ji7) ≤ (l0.length : Int)) = true := decide_eq_true c9
    clear c9
    obtain ⟨y457, hy457⟩ : ∃ y_ : List (S32), y_ = (l0.take ((ji7) : Int).toNat) := ⟨_, rfl⟩
    replace H : ((Clone_Block.f y457).bind fun t462 => (subprogram_Split.l0 k (l0.drop ((ji7) : Int).toNat) t462 ([] : List (S81)))) = some (r1, r2, r3) := by first | (rw [hy457]; with_reducible exact H) | (have H2_ := (Option.bind_some _ _).symm.trans H; rw [hy457]; with_reducible exact H2_) | (have H2_ := (Option.bind_some _ _).symm.trans H; with_reducible exact H2_) | with_reducible exact H | (rw [hy457]; exact H) | exact H
    have Ny457 := Aside0.mk hy457
    clear hy457
    replace H := Option.bind_eq_some_iff.mp H
    obtain ⟨t462, A100, H⟩ := H
    replace H : (subprogram_Split.l0 k (l0.drop ((ji7) : Int).toNat) t462 ([] : List (S81))) = some (r1, r2, r3) := H
    have A10 := Aside0.mk A100
    clear A100
    have c11b0 := eq_true (of_decide_eq_true (by first | (with_reducible assumption) | assumption) : 0 ≤ (ji7))
    have c12b0 := eq_true (of_decide_eq_true (by first | (with_reducible assumption) | assumption) : (ji7) ≤ (l0.length : Int))
    obtain ⟨y466, hy466⟩ : ∃ y_ : List (S32), y_ = (l0.drop ((ji7) : Int).toNat) := ⟨_, rfl⟩
    replace H : (subprogram_Split.l0 k y466 t462 ([] : List (S81))) = some (r1, r2, r3) := by first | (rw [hy466]; with_reducible exact H) | (have H2_ := (Option.bind_some _ _).symm.trans H; rw [hy466]; with_reducible exact H2_) | (have H2_ := (Option.bind_some _ _).symm.trans H; with_reducible exact H2_) | with_reducible exact H | (rw [hy466]; exact H) | exact H
    have Ny466 := Aside0.mk hy466
    clear hy466
    have H' := Aside0.mk H
    clear H
    go_enter Try.func45, Try.ntmps45
    go_wp2_with (first | ((with_reducible refine gate_dst (N := 2) rfl ?_); refine box_event ?hg (N := 2) ?hd (cs := #[.slice none 0 0, .slice none 0 0]) (t := 54) ?hr ?_; (case hd => rfl); (case hg => rfl); (case hr => first | (go_simp; done) | (go_simp; rfl)); intro gb455 hg w13 hbox hb; have n0_ := Aside0.mk (Kd.V_below (Kd.V_elderB (by (with_reducible repeat (first | apply Kd.V_alloc | apply Kd.V_drewN | apply Kd.V_drew)); exact HO0.out) gb455 (Nat.le_of_eq hg.symm)) hb); have n1_ := Aside0.mk (below_step (by repeat (first | (with_reducible first | exact HB.out | apply below_alloc | apply pw_below_drewN | apply below_drew1) | exact HB.out)) hb); have n2_ := Aside0.mk (hbox); have n3_ := Aside0.mk ((by rw [hg]; exact (below_size (by repeat (first | (with_reducible first | exact HB.out | apply below_alloc | apply pw_below_drewN | apply below_drew1) | exact HB.out))) : w.heap.size ≤ gb455)); have n4_ := Aside0.mk ((by rw [hg]; exact (below_size (by repeat (first | (with_reducible first | exact HB.out | apply below_alloc | apply pw_below_drewN | apply below_drew1) | exact HB.out))) : w.heap.size ≤ gb455)); clear HO0; clear HB; have HO0 := n0_; have HB := n1_; have BK455 := n2_; have GW455 := n3_; have GE455 := n4_; clear n0_ n1_ n2_ n3_ n4_; clear hb hbox hg) | ((with_reducible refine gate_callee (f := 73) rfl ?_); refine goesL_ (some 11) rfl rfl Try.func73 (by kernel_rfl) rfl #[.slice A0 l0.length c0, .func (.func 75) #[] #[]] rfl (by (try simp only [List.map_toArray, List.map_cons, List.map_nil]); first | done | rfl | (simp only [List.length_drop, List.length_take]; rfl)) ?_; (with_reducible refine (IndexFunc_end.calls k _ _ l0  t456 _ ?side1 ?side2 A2.out).mono ?_); (case side1 => repeat (first | exact (Kd.V_reads' HO0.out).2.2 | (with_reducible refine Kd.C_alloc ?_ _) | (with_reducible refine Kd.C_drewN ?_ _) | (with_reducible refine Kd.C_drew ?_))); (case side2 => exact (Kd.V_reads' HO0.out).2.1); rintro e w14 ⟨rfl, hb⟩; refine ⟨_, rfl, ?_⟩; have n0_ := Aside0.mk (Kd.V_below (by (with_reducible repeat (first | apply Kd.V_alloc | apply Kd.V_drewN | apply Kd.V_drew)); exact HO0.out) hb); have n1_ := Aside0.mk (blk_below (g := gb455) (o := .cells #[.slice none 0 0, .slice none 0 0] 54 (0, 0)) (by (with_reducible repeat (first | refine blk_drewN ?_ _ | refine blk_drew ?_ | refine blk_alloc ?_ _)); exact BK455.out) hb); have n2_ := Aside0.mk (below_step (by repeat (first | (with_reducible first | exact HB.out | apply below_alloc | apply pw_below_drewN | apply below_drew1 | refine below_set ?_ GE455.out) | exact HB.out)) hb); clear HO0; clear BK455; clear HB; have HO0 := n0_; have BK455 := n1_; have HB := n2_; clear n0_ n1_ n2_; (try clear hb); (try clear hb2); (try clear hk); (try clear hi); have q15 : ((ji7) : Int) ≤ ((l0.length : Int) : Int) := of_decide_eq_true (by first | (with_reducible assumption) | assumption); obtain ⟨i015, hi015, _, hsz15, _⟩ := info_parts info32; have hroom15 : l0.length ≤ c0 := (Kd.V_reads' HO0.out).2.1; have hC15 : Kd.F k32 _ _ A0 l0.length l0 := (Kd.V_at (base := w.heap.size) HO0.out).2.2; have hcut15 := cut_to (P := Try.prog) 35 32 .i64 Try.underlying35 hi015 A0 l0.length c0 (ji7) (of_decide_eq_true (by first | (with_reducible assumption) | assumption)) q15 hroom15; have hr15 := Kd.F_take (m := ((ji7) : Int).toNat) hC15 (by omega); have hy15 : y457.length = ((ji7) : Int).toNat := (by rw [Ny457.out, List.length_take]; omega); rw [← Ny457.out] at hr15; rw [← hy15] at hcut15; have HO461 := Aside0.mk (show Kd.V k32 32 _ w.heap.size _ (.slice A0 y457.length c0) y457 from Kd.V_mk (by omega) hr15); have HC461 := Aside0.mk (show y457.length ≤ c0 from by omega); clear hr15 hC15 hroom15 hi015 hsz15; have KY15 := Aside0.mk hy15; clear hy15; replace q15 := eq_true q15) | ((with_reducible refine gate_callee (f := 33) rfl ?_); refine goesL_ (some 19) rfl rfl Try.func33 (by kernel_rfl) rfl #[.slice A0 y457.length c0] rfl (by (try simp only [List.map_toArray, List.map_cons, List.map_nil]); first | done | rfl | (simp only [List.length_drop, List.length_take]; rfl)) ?_; (with_reducible refine (Clone_Block.calls (fun k_ => ((P0_ k_ ∨ w.heap.size ≤ k_) ∧ k_ ≠ gb455)) _ _ y457 t462 _ ?side1 A10.out).mono ?_); (case side1 => exact HO461.out); rintro e w16 ⟨v463, rfl, ho0, hb⟩; refine ⟨_, rfl, ?_⟩; have n0_ := Aside0.mk (Kd.V_elder' (by (with_reducible repeat (first | apply Kd.V_alloc | apply Kd.V_drewN | apply Kd.V_drew)); exact HO0.out) (by first | exact Kd.N_base ho0 | exact Kd.S_base ho0) hb); have n1_ := Aside0.mk (Kd.V_elder' (by (with_reducible repeat (first | apply Kd.V_alloc | apply Kd.V_drewN | apply Kd.V_drew)); exact HO461.out) (by first | exact Kd.N_base ho0 | exact Kd.S_base ho0) hb); have n2_ := Aside0.mk (Kd.N_lower (Kd.N_mono (ok' := fun k_ => (P0_ k_ ∨ w.heap.size ≤ k_) ∧ k_ ≠ gb455) ho0 (fun k_ hk_ => ⟨Or.elim hk_ (fun hs_ => hs_.1) (fun hn_ => (.inr (Nat.le_trans (below_size (by repeat (first | (with_reducible first | exact HB.out | apply below_alloc | apply pw_below_drewN | apply below_drew1 | refine below_set ?_ GE455.out) | exact HB.out))) hn_))), Or.elim hk_ (fun hs_ => hs_.2) (fun hn_ => (Kd.freshB (g := gb455) (o := .cells #[.slice none 0 0, .slice none 0 0] 54 (0, 0)) (by (with_reducible repeat (first | refine blk_drewN ?_ _ | refine blk_drew ?_ | refine blk_alloc ?_ _)); exact BK455.out) k_ hn_))⟩)) (below_size (by repeat (first | (with_reducible first | exact HB.out | apply below_alloc | apply pw_below_drewN | apply below_drew1 | refine below_set ?_ GE455.out) | exact HB.out)))); have n3_ := Aside0.mk (blk_below (g := gb455) (o := .cells #[.slice none 0 0, .slice none 0 0] 54 (0, 0)) (by (with_reducible repeat (first | refine blk_drewN ?_ _ | refine blk_drew ?_ | refine blk_alloc ?_ _)); exact BK455.out) hb); have n4_ := Aside0.mk (below_step (by repeat (first | (with_reducible first | exact HB.out | apply below_alloc | apply pw_below_drewN | apply below_drew1 | refine below_set ?_ GE455.out) | exact HB.out)) hb); clear HO0; clear HO461; clear BK455; clear HB; have HO0 := n0_; have HO461 := n1_; have HO464 := n2_; have BK455 := n3_; have HB := n4_; clear n0_ n1_ n2_ n3_ n4_; (try clear hb); (try clear hb2); (try clear hk); (try clear hi); (try clear ho0); obtain ⟨Ao17, co17, eo17⟩ := Kd.N_slice HO464.out; subst eo17) | ((with_reducible refine gate_dst (N := 5) rfl ?_); refine box_event ?hg (N := 5) ?hd (cs := #[.slice none 0 0, .slice none 0 0]) (t := 54) ?hr ?_; (case hd => rfl); (case hg => rfl); (case hr => first | (go_simp; done) | (go_simp; rfl)); intro gb465 hg w18 hbox hb; have n0_ := Aside0.mk (Kd.V_below (Kd.V_elderB (by (with_reducible repeat (first | apply Kd.V_alloc | apply Kd.V_drewN | apply Kd.V_drew)); exact HO0.out) gb465 (Nat.le_of_eq hg.symm)) hb); have n1_ := Aside0.mk (Kd.V_below (Kd.V_elderB (by (with_reducible repeat (first | apply Kd.V_alloc | apply Kd.V_drewN | apply Kd.V_drew)); exact HO461.out) gb465 (Nat.le_of_eq hg.symm)) hb); have n2_ := Aside0.mk (Kd.N_below (Kd.N_elderB (by (with_reducible repeat (first | apply Kd.N_alloc | apply Kd.N_drewN | apply Kd.N_drew)); exact HO464.out) gb465 (Nat.le_of_eq hg.symm)) hb); have n3_ := Aside0.mk (blk_below (g := gb455) (o := .cells #[.slice none 0 0, .slice none 0 0] 54 (0, 0)) (by (with_reducible repeat (first | refine blk_drewN ?_ _ | refine blk_drew ?_ | refine blk_alloc ?_ _)); exact BK455.out) hb); have n4_ := Aside0.mk (below_step (by repeat (first | (with_reducible first | exact HB.out | apply below_alloc | apply pw_below_drewN | apply below_drew1 | refine below_set ?_ GE455.out) | exact HB.out)) hb); have n5_ := Aside0.mk (hbox); have n6_ := Aside0.mk ((by rw [hg]; exact (below_size (by repeat (first | (with_reducible first | exact HB.out | apply below_alloc | apply pw_below_drewN | apply below_drew1 | refine below_set ?_ GE455.out) | exact HB.out))) : w.heap.size ≤ gb465)); have n7_ := Aside0.mk ((by rw [hg]; exact (below_size (by repeat (first | (with_reducible first | exact HB.out | apply below_alloc | apply pw_below_drewN | apply below_drew1 | refine below_set ?_ GE455.out) | exact HB.out))) : w.heap.size ≤ gb465)); have n8_ := Aside0.mk ((by rw [hg]; exact Nat.ne_of_lt (blk_lt (g := gb455) (o := .cells #[.slice none 0 0, .slice none 0 0] 54 (0, 0)) (by (with_reducible repeat (first | refine blk_drewN ?_ _ | refine blk_drew ?_ | refine blk_alloc ?_ _)); exact BK455.out)) : gb455 ≠ gb465)); have n9_ := Aside0.mk ((by rw [hg]; exact Nat.ne_of_gt (blk_lt (g := gb455) (o := .cells #[.slice none 0 0, .slice none 0 0] 54 (0, 0)) (by (with_reducible repeat (first | refine blk_drewN ?_ _ | refine blk_drew ?_ | refine blk_alloc ?_ _)); exact BK455.out)) : gb465 ≠ gb455)); clear HO0; clear HO461; clear HO464; clear BK455; clear HB; have HO0 := n0_; have HO461 := n1_; have HO464 := n2_; have BK455 := n3_; have HB := n4_; have BK465 := n5_; have GW465 := n6_; have GE465 := n7_; have NB455_465 := n8_; have NB465_455 := n9_; clear n0_ n1_ n2_ n3_ n4_ n5_ n6_ n7_ n8_ n9_; clear hb hbox hg; have hnb19 := NB465_455.out; have hnc19 := NB455_465.out; have hcz20_0 : w18.cell? ⟨gb465, 0, none⟩ = some (.slice none 0 0) := (blk_cell BK465.out 0).trans rfl; have hcz20_1 : w18.cell? ⟨gb465, 1, none⟩ = some (.slice none 0 0) := (blk_cell BK465.out 1).trans rfl; have hfz20_0 := blk_frozen BK465.out 0; have hfz20_1 := blk_frozen BK465.out 1) | ((with_reducible refine gate_store (t := 54) (p := 5) rfl ?_); refine store_event (t := 54) (p := 5) (v := ?vo_w21) (w1 := ((w18.setCell ⟨gb465, 0, none⟩ (.slice Ao17 t462.length co17)).setCell ⟨gb465, 1, none⟩ (.slice none 0 0))) ?hg ?ho ?hn ?hr ?_; (case ho => rfl); (case hg => rfl); (case hn => rfl); (case hr => first | (go_simp; done) | (go_simp; rfl)); intro w21 hw; have n0_ : Aside0 (Kd.V k32 32 w21 w.heap.size (fun k_ => (P0_ k_ ∨ w.heap.size ≤ k_) ∧ some k_ ≠ (.slice Ao17 t462.length co17 : Value).ownBlock ∧ k_ ≠ gb455 ∧ k_ ≠ gb465) (.slice A0 l0.length c0) l0) := ⟨(by rw [hw]; exact (by (with_reducible repeat (first | apply Kd.V_alloc | apply Kd.V_drewN | apply Kd.V_drew)); exact Kd.V_mono (Kd.V_far (p := ⟨gb465, 1, none⟩) (Kd.V_far (p := ⟨gb465, 0, none⟩) (Kd.V_mono HO0.out (fun k_ hk => (⟨hk, hk.2⟩ : _ ∧ k_ ≠ gb465))) (fun _ hk => hk.2) (.slice Ao17 t462.length co17)) (fun _ hk => hk.2) (.slice none 0 0)) (fun _ hk => ⟨hk.1.1.1.1, ⟨hk.1.1.2, ⟨hk.1.1.1.2, hk.1.2⟩⟩⟩)))⟩; have n1_ : Aside0 (Kd.V k32 32 w21 w.heap.size (fun k_ => (P0_ k_ ∨ w.heap.size ≤ k_) ∧ some k_ ≠ (.slice Ao17 t462.length co17 : Value).ownBlock ∧ k_ ≠ gb455 ∧ k_ ≠ gb465) (.slice A0 y457.length c0) y457) := ⟨(by rw [hw]; exact (by (with_reducible repeat (first | apply Kd.V_alloc | apply Kd.V_drewN | apply Kd.V_drew)); exact Kd.V_mono (Kd.V_far (p := ⟨gb465, 1, none⟩) (Kd.V_far (p := ⟨gb465, 0, none⟩) (Kd.V_mono HO461.out (fun k_ hk => (⟨hk, hk.2⟩ : _ ∧ k_ ≠ gb465))) (fun _ hk => hk.2) (.slice Ao17 t462.length co17)) (fun _ hk => hk.2) (.slice none 0 0)) (fun _ hk => ⟨hk.1.1.1.1, ⟨hk.1.1.2, ⟨hk.1.1.1.2, hk.1.2⟩⟩⟩)))⟩; have n2_ : Aside0 (Kd.N k32 32 w21 w.heap.size (fun k_ => (P0_ k_ ∨ w.heap.size ≤ k_) ∧ k_ ≠ gb455 ∧ k_ ≠ gb465) (.slice Ao17 t462.length co17) t462) := ⟨(by rw [hw]; exact (by (with_reducible repeat (first | apply Kd.N_alloc | apply Kd.N_drewN | apply Kd.N_drew)); exact Kd.N_mono (Kd.N_far (p := ⟨gb465, 1, none⟩) (Kd.N_far (p := ⟨gb465, 0, none⟩) (Kd.N_mono HO464.out (fun k_ hk => (⟨hk, hk.2⟩ : _ ∧ k_ ≠ gb465))) (fun _ hk => hk.2) (.slice Ao17 t462.length co17)) (fun _ hk => hk.2) (.slice none 0 0)) (fun _ hk => ⟨hk.1.1.1, ⟨hk.1.1.2, hk.1.2⟩⟩)))⟩; have n3_ : Aside0 (w21.heap[gb455]? = some (.cells #[.slice none 0 0, .slice none 0 0] 54 (0, 0))) := ⟨(by rw [hw]; exact (by (with_reducible repeat (first | refine blk_drewN ?_ _ | refine blk_drew ?_ | refine blk_alloc ?_ _)); refine blk_far ?_ NB455_465.out _; (with_reducible repeat (first | refine blk_drewN ?_ _ | refine blk_drew ?_ | refine blk_alloc ?_ _)); refine blk_far ?_ NB455_465.out _; (with_reducible repeat (first | refine blk_drewN ?_ _ | refine blk_drew ?_ | refine blk_alloc ?_ _)); exact BK455.out))⟩; have n4_ : Aside0 (w21.heap[gb465]? = some (.cells #[.slice Ao17 t462.length co17, .slice none 0 0] 54 (0, 0))) := ⟨(by rw [hw]; exact (by (with_reducible repeat (first | refine blk_drewN ?_ _ | refine blk_drew ?_ | refine blk_alloc ?_ _)); refine blk_put (cs := #[.slice Ao17 t462.length co17, .slice none 0 0]) ?_ 1 _ rfl; (with_reducible repeat (first | refine blk_drewN ?_ _ | refine blk_drew ?_ | refine blk_alloc ?_ _)); refine blk_put (cs := #[.slice none 0 0, .slice none 0 0]) ?_ 0 _ rfl; (with_reducible repeat (first | refine blk_drewN ?_ _ | refine blk_drew ?_ | refine blk_alloc ?_ _)); exact BK465.out))⟩; have n5_ : Aside0 (Below w.heap.size w w21) := ⟨(by rw [hw]; exact (by repeat (first | (with_reducible first | exact HB.out | apply below_alloc | apply pw_below_drewN | apply below_drew1 | refine below_set ?_ GE455.out | refine below_set ?_ GE465.out) | exact HB.out)))⟩; clear hw; clear HO0; clear HO461; clear HO464; clear BK455; clear BK465; clear HB; have HO0 := n0_; have HO461 := n1_; have HO464 := n2_; have BK455 := n3_; have BK465 := n4_; have HB := n5_; clear n0_ n1_ n2_ n3_ n4_ n5_; have q22 : ((ji7) : Int) ≤ ((l0.length : Int) : Int) := of_decide_eq_true (by first | (with_reducible assumption) | assumption); obtain ⟨i022, hi022, _, hsz22, _⟩ := info_parts info32; have hroom22 : l0.length ≤ c0 := (Kd.V_reads' HO0.out).2.1; have hC22 : Kd.F k32 _ _ A0 l0.length l0 := (Kd.V_at (base := w.heap.size) HO0.out).2.2; have q022 : (0 : Int) ≤ ((ji7) : Int) := of_decide_eq_true (by first | (with_reducible assumption) | assumption); have hcut22 := cut_from (P := Try.prog) 35 32 .i64 Try.underlying35 hi022 3 hsz22 A0 l0.length c0 (ji7) q022 q22; have hr22 := Kd.F_cut (m := ((ji7) : Int).toNat) (c := c0) hC22 (by omega) hroom22; obtain ⟨A22, hA22⟩ : ∃ A1, A1 = (if c0 = ((ji7) : Int).toNat then A0 else (A0 : Option Addr).map (·.add (((ji7) : Int).toNat * 3))) := ⟨_, rfl⟩; obtain ⟨c22, hc22⟩ : ∃ c1, c1 = c0 - ((ji7) : Int).toNat := ⟨_, rfl⟩; have hy22 : y466.length = l0.length - ((ji7) : Int).toNat := (by rw [Ny466.out, List.length_drop] <;> omega); rw [show (l0).drop ((ji7) : Int).toNat = y466 from Ny466.out.symm] at hr22; replace hr22 : Kd.F k32 _ _ A22 y466.length y466 := (by rw [hA22]; exact hr22); rw [← hy22, ← hA22, ← hc22] at hcut22; have HO470 := Aside0.mk (show Kd.V k32 32 _ w.heap.size _ (.slice A22 y466.length c22) y466 from Kd.V_mk (by rw [hy22, hc22]; exact Nat.sub_le_sub_right hroom22 _) hr22); have HC470 := Aside0.mk (show y466.length ≤ c22 from by rw [hy22, hc22]; exact Nat.sub_le_sub_right hroom22 _); clear hr22 hC22 hroom22 hi022 hsz22 hc22; have KY22 := Aside0.mk hy22; have KA22 := Aside0.mk hA22; clear hy22 hA22; replace q22 := eq_true q22))
    go_loopg [6] k (fun kq v6 w' => ∃ (x6_1 : List (S32)) (x466001_1 : List (S81)) (u466001 : Value), Aside0 (subprogram_Split.l0 kq x6_1 t462 x466001_1 = some (r1, r2, r3)) ∧ Aside0 (kq ≤ k) ∧ Aside0 (Kd.V k32 32 w' w.heap.size (fun k_ => (P0_ k_ ∨ w.heap.size ≤ k_) ∧ some k_ ≠ ((.slice Ao17 t462.length co17) : Value).ownBlock ∧ some k_ ≠ (u466001 : Value).ownBlock ∧ k_ ≠ gb455 ∧ k_ ≠ gb465) v6 x6_1) ∧ Aside0 (Kd.N k32 32 w' w.heap.size (fun k_ => (P0_ k_ ∨ w.heap.size ≤ k_) ∧ some k_ ≠ (u466001 : Value).ownBlock ∧ k_ ≠ gb455 ∧ k_ ≠ gb465) (.slice Ao17 t462.length co17) t462) ∧ Aside0 (Kd.N k81 81 w' w.heap.size (fun k_ => (P0_ k_ ∨ w.heap.size ≤ k_) ∧ some k_ ≠ ((.slice Ao17 t462.length co17) : Value).ownBlock ∧ k_ ≠ gb455 ∧ k_ ≠ gb465) u466001 x466001_1) ∧ Aside0 (w'.heap[gb455]? = some (.cells #[(.slice none 0 0), (.slice none 0 0)] 54 (0, 0))) ∧ Aside0 (w'.heap[gb465]? = some (.cells #[(.slice Ao17 t462.length co17), u466001] 54 (0, 0))) ∧ Aside0 (Below w.heap.size w w'))
    case atStart => exact ⟨(y466), (([] : List (S81))), (.slice none 0 0), H', ⟨Nat.le_refl _⟩, ⟨by (with_reducible repeat (first | apply Kd.V_alloc | apply Kd.V_drewN | apply Kd.V_drew)); exact Kd.V_mono HO470.out (fun _ hk => ⟨hk.1, ⟨hk.2.1, ⟨(by simp [Value.ownBlock]), ⟨hk.2.2.1, hk.2.2.2⟩⟩⟩⟩)⟩, ⟨by (with_reducible repeat (first | apply Kd.N_alloc | apply Kd.N_drewN | apply Kd.N_drew)); exact Kd.N_mono HO464.out (fun _ hk => ⟨hk.1, ⟨(by simp [Value.ownBlock]), ⟨hk.2.1, hk.2.2⟩⟩⟩)⟩, ⟨by first | exact Kd.R_nil _ _ _ _ _ | exact Kd.N_nil _ _ _ _ _ | exact Kd.V_nil _ _ _ _ _ | exact Kd.Q_nil _ _ _ _ _ | exact Kd.S_nil _ _ _ _ _⟩, ⟨by (with_reducible repeat (first | refine blk_drewN ?_ _ | refine blk_drew ?_ | refine blk_alloc ?_ _)); exact BK455.out⟩, ⟨by (with_reducible repeat (first | refine blk_drewN ?_ _ | refine blk_drew ?_ | refine blk_alloc ?_ _)); exact BK465.out⟩, ⟨by repeat (first | (with_reducible first | exact HB.out | apply below_alloc | apply pw_below_drewN | apply below_drew1 | refine below_set ?_ GE455.out | refine below_set ?_ GE465.out) | exact HB.out)⟩⟩
    case round =>
     clear H'
     try clear c1
     try clear q1
     try clear c2
     try clear p2
     try clear q2
     try clear c3
     try clear c3b0
     try clear c4
     try clear p6
     try clear c7
     try clear c8
     try clear c8b0
     try clear c8b1
     try clear c9
     try clear c9b0
     try clear c9b1
     try clear c11
     try clear c11b0
     try clear c12
     try clear c12b0
     try clear q15
     try clear c19
     try clear c22
     try clear q22
     try clear hcz20_0
     try clear hcz20_1
     try clear hcz6_0
     try clear hcz6_1
     try clear hfz20_0
     try clear hfz20_1
     try clear hfz6_0
     try clear hfz6_1
     try clear q022
     try clear q15
     try clear q22
     obtain ⟨x6_1, x466001_1, u466001, HA, HK1, HO_6, HO_466000, HO_466001, BK455, BK465, HB⟩ := hrel
     cases gk with
     | zero => exact absurd HA.out (by simp [subprogram_Split.l0])
     | succ k1 =>
      have H := HA.out
      clear HA
      simp only [subprogram_Split.l0] at H
      by_cases c23 : (x6_1.length : Int) > 0
      ·rw [if_pos c23] at H
       have c23b0 : decide (0 < (x6_1.length : Int)) = true := decide_eq_true c23
       have c23b1 : decide (0 < x6_1.length) = true := decide_eq_true (by omega)
       clear c23
       by_cases c24 : 0 < (x6_1.length : Int)
       ·rw [if_pos c24] at H
        have c24b0 : decide (0 < (x6_1.length : Int)) = true := decide_eq_true c24
        have c24b1 : decide (0 < x6_1.length) = true := decide_eq_true (by omega)
        clear c24
        replace H := Option.bind_eq_some_iff.mp H
        obtain ⟨⟨t472, t473⟩, A250, H⟩ := H
        replace H : ((IndexFunc_back.f k1 x6_1).bind fun t474 => (if t473 = true then (if t474 < 0 then (some (([] : List (S32)), ([] : List (S81)), 1)) else (if 1 ≤ t474 then (if t474 ≤ (x6_1.length : Int) then ((Clone_Block.f ((x6_1.take (t474 : Int).toNat).drop 1)).bind fun t480 => (if x466001_1.length < 4398046511104 then (if 0 ≤ (wrap64 (t474 + 1)) then (if (wrap64 (t474 + 1)) ≤ (x6_1.length : Int) then (subprogram_Split.l0 k1 (x6_1.drop ((wrap64 (t474 + 1)) : Int).toNat) t462 (x466001_1 ++ [(⟨t472, t480⟩ : S81)])) else (none)) else (none)) else (none))) else (none)) else (none))) else (some (([] : List (S32)), ([] : List (S81)), 1)))) = some (r1, r2, r3) := H
        have A25 := Aside0.mk A250
        clear A250
        replace H := Option.bind_eq_some_iff.mp H
        obtain ⟨t474, A260, H⟩ := H
        replace H : (if t473 = true then (if t474 < 0 then (some (([] : List (S32)), ([] : List (S81)), 1)) else (if 1 ≤ t474 then (if t474 ≤ (x6_1.length : Int) then ((Clone_Block.f ((x6_1.take (t474 : Int).toNat).drop 1)).bind fun t480 => (if x466001_1.length < 4398046511104 then (if 0 ≤ (wrap64 (t474 + 1)) then (if (wrap64 (t474 + 1)) ≤ (x6_1.length : Int) then (subprogram_Split.l0 k1 (x6_1.drop ((wrap64 (t474 + 1)) : Int).toNat) t462 (x466001_1 ++ [(⟨t472, t480⟩ : S81)])) else (none)) else (none)) else (none))) else (none)) else (none))) else (some (([] : List (S32)), ([] : List (S81)), 1))) = some (r1, r2, r3) := H
        have A26 := Aside0.mk A260
        clear A260
        by_cases c27 : t473 = true
        ·subst c27
         have H1 : (if t474 < 0 then (some (([] : List (S32)), ([] : List (S81)), 1)) else (if 1 ≤ t474 then (if t474 ≤ (x6_1.length : Int) then ((Clone_Block.f ((x6_1.take (t474 : Int).toNat).drop 1)).bind fun t480 => (if x466001_1.length < 4398046511104 then (if 0 ≤ (wrap64 (t474 + 1)) then (if (wrap64 (t474 + 1)) ≤ (x6_1.length : Int) then (subprogram_Split.l0 k1 (x6_1.drop ((wrap64 (t474 + 1)) : Int).toNat) t462 (x466001_1 ++ [(⟨t472, t480⟩ : S81)])) else (none)) else (none)) else (none))) else (none)) else (none))) = some (r1, r2, r3) := by rw [if_pos rfl] at H; exact H
         clear H
         have H := H1
         clear H1
         by_cases c28 : t474 < 0
         ·rw [if_pos c28] at H
          have c28b0 : decide (t474 < 0) = true := decide_eq_true c28
          clear c28
          simp only [Option.some.injEq, Prod.mk.injEq] at H
          obtain ⟨rfl, rfl, rfl⟩ := H
          obtain ⟨Ao29, co29, eo29⟩ := Kd.V_slice HO_6.out
          subst eo29
          have p471 : 0 ≤ (0 : Int) := (by omega)
          have q471 : 0 < (x6_1.length : Int) := of_decide_eq_true (by first | (with_reducible assumption) | assumption)
          obtain ⟨ad471, A471_1, c471_1, e471, hx471_0, hx471_1, hx471_2, hl471_1, hi471_1⟩ := at_T32 (Kd.V_reads' HO_6.out).2.2 0 p471 q471
          cases e471
          obtain ⟨ce471, hce471, hMe471, hcc471⟩ := Kd.V_get HO_6.out z32 0 p471 (by first | exact q471 | exact of_decide_eq_true (by first | (with_reducible assumption) | assumption) | (have e_ := (Kd.V_reads' HO_6.out).1; omega))
          obtain ⟨ua471_1, uc471_1, rfl, ul471_1, ge471_1⟩ := k32_openF hMe471
          have hv471_1 := hcc471 1 _ rfl
          rw [add_field _ _ 1 (by omega)] at hv471_1
          replace hv471_1 := Option.some.inj (hv471_1.symm.trans hx471_1)
          injection hv471_1 with hva_ hvn_ hvc_
          rw [hva_] at ge471_1
          rw [hvc_] at ul471_1
          have HL471_1 := Aside0.mk (show Kd.V k78 78 _ w.heap.size _ _ ((rd_T32 x6_1 0).f1) from Kd.V_mk ul471_1 ge471_1)
          clear hva_ hvn_ hvc_ ge471_1 ul471_1
          clear hcc471 hce471
          have qi471 : (0 < x6_1.length) = True := eq_true (by omega)
          (try rw [show ((0 : Int)).toNat = 0 from rfl] at hx471_0)
          (try rw [show 0 * 3 = 0 from rfl] at hx471_0)
          (try rw [Addr.add_zero'] at hx471_0)
          (try rw [show ((0 : Int)).toNat = 0 from rfl] at hx471_1)
          (try rw [show 0 * 3 = 0 from rfl] at hx471_1)
          (try rw [Addr.add_zero'] at hx471_1)
          (try rw [show ((0 : Int)).toNat = 0 from rfl] at hx471_2)
          (try rw [show 0 * 3 = 0 from rfl] at hx471_2)
          (try rw [Addr.add_zero'] at hx471_2)
          have HR471_1 := Aside0.mk hi471_1
          have HC471_1 := Aside0.mk hl471_1
          clear hi471_1 hl471_1
          replace p471 := eq_true p471
          replace q471 := eq_true q471
          go_wp2_with (first | ((with_reducible refine gate_callee (f := 76) rfl ?_); refine goesL_ (some 32) rfl rfl Try.func76 (by kernel_rfl) rfl #[.agg #[.bool ((rd_T32 x6_1 0).f0), .slice A471_1 ((rd_T32 x6_1 0).f1).length c471_1, .string ((rd_T32 x6_1 0).f2)]] rfl (by (try simp only [List.map_toArray, List.map_cons, List.map_nil]); first | done | rfl | (simp only [List.length_drop, List.length_take]; rfl)) ?_; (with_reducible refine (subprogram_beginning.calls ((rd_T32 x6_1 0).f0) _ _ ((rd_T32 x6_1 0).f1) ((rd_T32 x6_1 0).f2) t472 true _ ?side1 ?side2 A25.out).mono ?_); (case side1 => repeat (first | exact (by repeat (first | (with_reducible exact HR471_1.out) | (with_reducible refine Kd.C_alloc ?_ _) | (with_reducible refine Kd.C_drewN ?_ _) | (with_reducible refine Kd.C_drew ?_) | exact HR471_1.out)) | (with_reducible refine Kd.C_alloc ?_ _) | (with_reducible refine Kd.C_drewN ?_ _) | (with_reducible refine Kd.C_drew ?_))); (case side2 => exact HC471_1.out); rintro e w30 ⟨rfl, hb⟩; refine ⟨_, rfl, ?_⟩; have n0_ := Aside0.mk (Kd.V_below (by (with_reducible repeat (first | apply Kd.V_alloc | apply Kd.V_drewN | apply Kd.V_drew)); exact HO_6.out) hb); have n1_ := Aside0.mk (Kd.N_below (by (with_reducible repeat (first | apply Kd.N_alloc | apply Kd.N_drewN | apply Kd.N_drew)); exact HO_466000.out) hb); have n2_ := Aside0.mk (Kd.N_below (by (with_reducible repeat (first | apply Kd.N_alloc | apply Kd.N_drewN | apply Kd.N_drew)); exact HO_466001.out) hb); have n3_ := Aside0.mk (Kd.V_below (by (with_reducible repeat (first | apply Kd.V_alloc | apply Kd.V_drewN | apply Kd.V_drew)); exact HL471_1.out) hb); have n4_ := Aside0.mk (blk_below (g := gb455) (o := .cells #[.slice none 0 0, .slice none 0 0] 54 (0, 0)) (by (with_reducible repeat (first | refine blk_drewN ?_ _ | refine blk_drew ?_ | refine blk_alloc ?_ _)); exact BK455.out) hb); have n5_ := Aside0.mk (blk_below (g := gb465) (o := .cells #[.slice Ao17 t462.length co17, u466001] 54 (0, 0)) (by (with_reducible repeat (first | refine blk_drewN ?_ _ | refine blk_drew ?_ | refine blk_alloc ?_ _)); exact BK465.out) hb); have n6_ := Aside0.mk (Kd.C_below (by repeat (first | (with_reducible exact HR471_1.out) | (with_reducible refine Kd.C_alloc ?_ _) | (with_reducible refine Kd.C_drewN ?_ _) | (with_reducible refine Kd.C_drew ?_) | exact HR471_1.out)) hb); have n7_ := Aside0.mk (below_step (by repeat (first | (with_reducible first | exact HB.out | apply below_alloc | apply pw_below_drewN | apply below_drew1 | refine below_set ?_ GE455.out | refine below_set ?_ GE465.out) | exact HB.out)) hb); clear HO_6; clear HO_466000; clear HO_466001; clear HL471_1; clear BK455; clear BK465; clear HR471_1; clear HB; have HO_6 := n0_; have HO_466000 := n1_; have HO_466001 := n2_; have HL471_1 := n3_; have BK455 := n4_; have BK465 := n5_; have HR471_1 := n6_; have HB := n7_; clear n0_ n1_ n2_ n3_ n4_ n5_ n6_ n7_; (try clear hb); (try clear hb2); (try clear hk); (try clear hi)) | ((with_reducible refine gate_callee (f := 73) rfl ?_); refine goesL_ (some 36) rfl rfl Try.func73 (by kernel_rfl) rfl #[.slice (some ad471) x6_1.length co29, .func (.func 77) #[] #[]] rfl (by (try simp only [List.map_toArray, List.map_cons, List.map_nil]); first | done | rfl | (simp only [List.length_drop, List.length_take]; rfl)) ?_; (with_reducible refine (IndexFunc_back.calls k1 _ _ x6_1  t474 _ ?side1 ?side2 A26.out).mono ?_); (case side1 => repeat (first | exact (Kd.V_reads' HO_6.out).2.2 | (with_reducible refine Kd.C_alloc ?_ _) | (with_reducible refine Kd.C_drewN ?_ _) | (with_reducible refine Kd.C_drew ?_))); (case side2 => exact (Kd.V_reads' HO_6.out).2.1); rintro e w31 ⟨rfl, hb⟩; refine ⟨_, rfl, ?_⟩; have n0_ := Aside0.mk (Kd.V_below (by (with_reducible repeat (first | apply Kd.V_alloc | apply Kd.V_drewN | apply Kd.V_drew)); exact HO_6.out) hb); have n1_ := Aside0.mk (Kd.N_below (by (with_reducible repeat (first | apply Kd.N_alloc | apply Kd.N_drewN | apply Kd.N_drew)); exact HO_466000.out) hb); have n2_ := Aside0.mk (Kd.N_below (by (with_reducible repeat (first | apply Kd.N_alloc | apply Kd.N_drewN | apply Kd.N_drew)); exact HO_466001.out) hb); have n3_ := Aside0.mk (Kd.V_below (by (with_reducible repeat (first | apply Kd.V_alloc | apply Kd.V_drewN | apply Kd.V_drew)); exact HL471_1.out) hb); have n4_ := Aside0.mk (blk_below (g := gb455) (o := .cells #[.slice none 0 0, .slice none 0 0] 54 (0, 0)) (by (with_reducible repeat (first | refine blk_drewN ?_ _ | refine blk_drew ?_ | refine blk_alloc ?_ _)); exact BK455.out) hb); have n5_ := Aside0.mk (blk_below (g := gb465) (o := .cells #[.slice Ao17 t462.length co17, u466001] 54 (0, 0)) (by (with_reducible repeat (first | refine blk_drewN ?_ _ | refine blk_drew ?_ | refine blk_alloc ?_ _)); exact BK465.out) hb); have n6_ := Aside0.mk (Kd.C_below (by repeat (first | (with_reducible exact HR471_1.out) | (with_reducible refine Kd.C_alloc ?_ _) | (with_reducible refine Kd.C_drewN ?_ _) | (with_reducible refine Kd.C_drew ?_) | exact HR471_1.out)) hb); have n7_ := Aside0.mk (below_step (by repeat (first | (with_reducible first | exact HB.out | apply below_alloc | apply pw_below_drewN | apply below_drew1 | refine below_set ?_ GE455.out | refine below_set ?_ GE465.out) | exact HB.out)) hb); clear HO_6; clear HO_466000; clear HO_466001; clear HL471_1; clear BK455; clear BK465; clear HR471_1; clear HB; have HO_6 := n0_; have HO_466000 := n1_; have HO_466001 := n2_; have HL471_1 := n3_; have BK455 := n4_; have BK465 := n5_; have HR471_1 := n6_; have HB := n7_; clear n0_ n1_ n2_ n3_ n4_ n5_ n6_ n7_; (try clear hb); (try clear hb2); (try clear hk); (try clear hi); have hnb32 := NB455_465.out; have hnc32 := NB465_455.out; have hcz33_0 : w31.cell? ⟨gb455, 0, none⟩ = some (.slice none 0 0) := (blk_cell BK455.out 0).trans rfl; have hcz33_1 : w31.cell? ⟨gb455, 1, none⟩ = some (.slice none 0 0) := (blk_cell BK455.out 1).trans rfl; have hfz33_0 := blk_frozen BK455.out 0; have hfz33_1 := blk_frozen BK455.out 1))
          refine bodyPost_ret (results_ct rfl _ _ gb455 54 #[.slice none 0 0, .slice none 0 0] (0, 0) _ rfl (by (with_reducible repeat (first | refine blk_drewN ?_ _ | refine blk_drew ?_ | refine blk_alloc ?_ _)); refine blk_put (cs := #[.slice none 0 0, .slice none 0 0]) ?_ 1 _ rfl; (with_reducible repeat (first | refine blk_drewN ?_ _ | refine blk_drew ?_ | refine blk_alloc ?_ _)); refine blk_put (cs := #[.slice none 0 0, .slice none 0 0]) ?_ 0 _ rfl; (with_reducible repeat (first | refine blk_drewN ?_ _ | refine blk_drew ?_ | refine blk_alloc ?_ _)); exact BK455.out) Try.underlying54 rfl (by kernel_rfl)) rfl ?_
          exact ⟨_, _, by first | rfl | (simp [errW_none, errW_some] <;> rfl) | (simp only [← hji7]; first | rfl | (simp [errW_none, errW_some] <;> rfl)) | (simp [*, errW_none, errW_some] <;> rfl), by first | exact Kd.S_nil _ _ _ _ _ | exact Kd.N_nil _ _ _ _ _ | exact Kd.V_nil _ _ _ _ _ | exact Kd.Q_nil _ _ _ _ _ | exact Kd.R_nil _ _ _ _ _, by first | exact Kd.R_nil _ _ _ _ _ | exact Kd.N_nil _ _ _ _ _ | exact Kd.V_nil _ _ _ _ _ | exact Kd.Q_nil _ _ _ _ _ | exact Kd.S_nil _ _ _ _ _, by repeat (first | (with_reducible first | exact HB.out | apply below_alloc | apply pw_below_drewN | apply below_drew1 | refine below_set ?_ GE455.out | refine below_set ?_ GE465.out) | exact HB.out)⟩
         ·rw [if_neg c28] at H
          have c28b0 : decide (t474 < 0) = false := decide_eq_false c28
          clear c28
          by_cases c34 : 1 ≤ t474
          ·rw [if_pos c34] at H
           have c34b0 := eq_true c34
           have c34b1 : decide (1 ≤ t474) = true := decide_eq_true c34
           clear c34
           by_cases c35 : t474 ≤ (x6_1.length : Int)
           ·rw [if_pos c35] at H
            have c35b0 := eq_true c35
            have c35b1 : decide (t474 ≤ (x6_1.length : Int)) = true := decide_eq_true c35
            clear c35
            obtain ⟨y475, hy475⟩ : ∃ y_ : List (S32), y_ = ((x6_1.take (t474 : Int).toNat).drop 1) := ⟨_, rfl⟩
            replace H : ((Clone_Block.f y475).bind fun t480 => (if x466001_1.length < 4398046511104 then (if 0 ≤ (wrap64 (t474 + 1)) then (if (wrap64 (t474 + 1)) ≤ (x6_1.length : Int) then (subprogram_Split.l0 k1 (x6_1.drop ((wrap64 (t474 + 1)) : Int).toNat) t462 (x466001_1 ++ [(⟨t472, t480⟩ : S81)])) else (none)) else (none)) else (none))) = some (r1, r2, r3) := by first | (rw [hy475]; with_reducible exact H) | (have H2_ := (Option.bind_some _ _).symm.trans H; rw [hy475]; with_reducible exact H2_) | (have H2_ := (Option.bind_some _ _).symm.trans H; with_reducible exact H2_) | with_reducible exact H | (rw [hy475]; exact H) | exact H
            have Ny475 := Aside0.mk hy475
            clear hy475
            replace H := Option.bind_eq_some_iff.mp H
            obtain ⟨t480, A360, H⟩ := H
            replace H : (if x466001_1.length < 4398046511104 then (if 0 ≤ (wrap64 (t474 + 1)) then (if (wrap64 (t474 + 1)) ≤ (x6_1.length : Int) then (subprogram_Split.l0 k1 (x6_1.drop ((wrap64 (t474 + 1)) : Int).toNat) t462 (x466001_1 ++ [(⟨t472, t480⟩ : S81)])) else (none)) else (none)) else (none)) = some (r1, r2, r3) := H
            have A36 := Aside0.mk A360
            clear A360
            by_cases c37 : x466001_1.length < 4398046511104
            ·rw [if_pos c37] at H
             have LMc37 := Aside0.mk c37
             clear c37
             obtain ⟨y483, hy483⟩ : ∃ y_ : List (S81), y_ = (x466001_1 ++ [(⟨t472, t480⟩ : S81)]) := ⟨_, rfl⟩
             replace H : (if 0 ≤ (wrap64 (t474 + 1)) then (if (wrap64 (t474 + 1)) ≤ (x6_1.length : Int) then (subprogram_Split.l0 k1 (x6_1.drop ((wrap64 (t474 + 1)) : Int).toNat) t462 y483) else (none)) else (none)) = some (r1, r2, r3) := by first | (rw [hy483]; with_reducible exact H) | (have H2_ := (Option.bind_some _ _).symm.trans H; rw [hy483]; with_reducible exact H2_) | (have H2_ := (Option.bind_some _ _).symm.trans H; with_reducible exact H2_) | with_reducible exact H | (rw [hy483]; exact H) | exact H
             have Ny483 := Aside0.mk hy483
             clear hy483
             obtain ⟨ji38, hji38⟩ : ∃ j_ : Int, (wrap64 (t474 + 1)) = j_ := ⟨_, rfl⟩
             replace H : (if 0 ≤ (ji38) then (if (ji38) ≤ (x6_1.length : Int) then (subprogram_Split.l0 k1 (x6_1.drop ((ji38) : Int).toNat) t462 y483) else (none)) else (none)) = some (r1, r2, r3) := by first | (rw [hji38] at H; exact H) | (simp only [hji38] at H ⊢; exact H)
             (try rw [hji38] at A25)
             (try rw [hji38] at A26)
             (try rw [hji38] at A36)
             have hji38w : (IntKind.i64.wrap (t474 + 1)) = ji38 := (i64_w _).trans hji38
             by_cases c39 : 0 ≤ (ji38)
             ·rw [if_pos c39] at H
              have c39b0 := eq_true c39
              have c39b1 : decide (0 ≤ (ji38)) = true := decide_eq_true c39
              clear c39
              by_cases c40 : (ji38) ≤ (x6_1.length : Int)
              ·rw [if_pos c40] at H
               have c40b0 := eq_true c40
               have c40b1 : decide ((ji38) ≤ (x6_1.length : Int)) = true := decide_eq_true c40
               clear c40
               obtain ⟨y486, hy486⟩ : ∃ y_ : List (S32), y_ = (x6_1.drop ((ji38) : Int).toNat) := ⟨_, rfl⟩
               replace H : (subprogram_Split.l0 k1 y486 t462 y483) = some (r1, r2, r3) := by first | (rw [hy486]; with_reducible exact H) | (have H2_ := (Option.bind_some _ _).symm.trans H; rw [hy486]; with_reducible exact H2_) | (have H2_ := (Option.bind_some _ _).symm.trans H; with_reducible exact H2_) | with_reducible exact H | (rw [hy486]; exact H) | exact H
               have Ny486 := Aside0.mk hy486
               clear hy486
               have H' := Aside0.mk H
               clear H
               obtain ⟨Ao41, co41, eo41⟩ := Kd.V_slice HO_6.out
               subst eo41
               have p471 : 0 ≤ (0 : Int) := (by omega)
               have q471 : 0 < (x6_1.length : Int) := of_decide_eq_true (by first | (with_reducible assumption) | assumption)
               obtain ⟨ad471, A471_1, c471_1, e471, hx471_0, hx471_1, hx471_2, hl471_1, hi471_1⟩ := at_T32 (Kd.V_reads' HO_6.out).2.2 0 p471 q471
               cases e471
               obtain ⟨ce471, hce471, hMe471, hcc471⟩ := Kd.V_get HO_6.out z32 0 p471 (by first | exact q471 | exact of_decide_eq_true (by first | (with_reducible assumption) | assumption) | (have e_ := (Kd.V_reads' HO_6.out).1; omega))
               obtain ⟨ua471_1, uc471_1, rfl, ul471_1, ge471_1⟩ := k32_openF hMe471
               have hv471_1 := hcc471 1 _ rfl
               rw [add_field _ _ 1 (by omega)] at hv471_1
               replace hv471_1 := Option.some.inj (hv471_1.symm.trans hx471_1)
               injection hv471_1 with hva_ hvn_ hvc_
               rw [hva_] at ge471_1
               rw [hvc_] at ul471_1
               have HL471_1 := Aside0.mk (show Kd.V k78 78 _ w.heap.size _ _ ((rd_T32 x6_1 0).f1) from Kd.V_mk ul471_1 ge471_1)
               clear hva_ hvn_ hvc_ ge471_1 ul471_1
               clear hcc471 hce471
               have qi471 : (0 < x6_1.length) = True := eq_true (by omega)
               (try rw [show ((0 : Int)).toNat = 0 from rfl] at hx471_0)
               (try rw [show 0 * 3 = 0 from rfl] at hx471_0)
               (try rw [Addr.add_zero'] at hx471_0)
               (try rw [show ((0 : Int)).toNat = 0 from rfl] at hx471_1)
               (try rw [show 0 * 3 = 0 from rfl] at hx471_1)
               (try rw [Addr.add_zero'] at hx471_1)
               (try rw [show ((0 : Int)).toNat = 0 from rfl] at hx471_2)
               (try rw [show 0 * 3 = 0 from rfl] at hx471_2)
               (try rw [Addr.add_zero'] at hx471_2)
               have HR471_1 := Aside0.mk hi471_1
               have HC471_1 := Aside0.mk hl471_1
               clear hi471_1 hl471_1
               replace p471 := eq_true p471
               replace q471 := eq_true q471
               try go_wp2_with (first | ((with_reducible refine gate_callee (f := 76) rfl ?_); refine goesL_ (some 32) rfl rfl Try.func76 (by kernel_rfl) rfl #[.agg #[.bool ((rd_T32 x6_1 0).f0), .slice A471_1 ((rd_T32 x6_1 0).f1).length c471_1, .string ((rd_T32 x6_1 0).f2)]] rfl (by (try simp only [List.map_toArray, List.map_cons, List.map_nil]); first | done | rfl | (simp only [List.length_drop, List.length_take]; rfl)) ?_; (with_reducible refine (subprogram_beginning.calls ((rd_T32 x6_1 0).f0) _ _ ((rd_T32 x6_1 0).f1) ((rd_T32 x6_1 0).f2) t472 true _ ?side1 ?side2 A25.out).mono ?_); (case side1 => repeat (first | exact (by repeat (first | (with_reducible exact HR471_1.out) | (with_reducible refine Kd.C_alloc ?_ _) | (with_reducible refine Kd.C_drewN ?_ _) | (with_reducible refine Kd.C_drew ?_) | exact HR471_1.out)) | (with_reducible refine Kd.C_alloc ?_ _) | (with_reducible refine Kd.C_drewN ?_ _) | (with_reducible refine Kd.C_drew ?_))); (case side2 => exact HC471_1.out); rintro e w42 ⟨rfl, hb⟩; refine ⟨_, rfl, ?_⟩; have n0_ := Aside0.mk (Kd.V_below (by (with_reducible repeat (first | apply Kd.V_alloc | apply Kd.V_drewN | apply Kd.V_drew)); exact HO_6.out) hb); have n1_ := Aside0.mk (Kd.N_below (by (with_reducible repeat (first | apply Kd.N_alloc | apply Kd.N_drewN | apply Kd.N_drew)); exact HO_466000.out) hb); have n2_ := Aside0.mk (Kd.N_below (by (with_reducible repeat (first | apply Kd.N_alloc | apply Kd.N_drewN | apply Kd.N_drew)); exact HO_466001.out) hb); have n3_ := Aside0.mk (Kd.V_below (by (with_reducible repeat (first | apply Kd.V_alloc | apply Kd.V_drewN | apply Kd.V_drew)); exact HL471_1.out) hb); have n4_ := Aside0.mk (blk_below (g := gb455) (o := .cells #[.slice none 0 0, .slice none 0 0] 54 (0, 0)) (by (with_reducible repeat (first | refine blk_drewN ?_ _ | refine blk_drew ?_ | refine blk_alloc ?_ _)); exact BK455.out) hb); have n5_ := Aside0.mk (blk_below (g := gb465) (o := .cells #[.slice Ao17 t462.length co17, u466001] 54 (0, 0)) (by (with_reducible repeat (first | refine blk_drewN ?_ _ | refine blk_drew ?_ | refine blk_alloc ?_ _)); exact BK465.out) hb); have n6_ := Aside0.mk (Kd.C_below (by repeat (first | (with_reducible exact HR471_1.out) | (with_reducible refine Kd.C_alloc ?_ _) | (with_reducible refine Kd.C_drewN ?_ _) | (with_reducible refine Kd.C_drew ?_) | exact HR471_1.out)) hb); have n7_ := Aside0.mk (below_step (by repeat (first | (with_reducible first | exact HB.out | apply below_alloc | apply pw_below_drewN | apply below_drew1 | refine below_set ?_ GE455.out | refine below_set ?_ GE465.out) | exact HB.out)) hb); clear HO_6; clear HO_466000; clear HO_466001; clear HL471_1; clear BK455; clear BK465; clear HR471_1; clear HB; have HO_6 := n0_; have HO_466000 := n1_; have HO_466001 := n2_; have HL471_1 := n3_; have BK455 := n4_; have BK465 := n5_; have HR471_1 := n6_; have HB := n7_; clear n0_ n1_ n2_ n3_ n4_ n5_ n6_ n7_; (try clear hb); (try clear hb2); (try clear hk); (try clear hi)) | ((with_reducible refine gate_callee (f := 73) rfl ?_); refine goesL_ (some 36) rfl rfl Try.func73 (by kernel_rfl) rfl #[.slice (some ad471) x6_1.length co41, .func (.func 77) #[] #[]] rfl (by (try simp only [List.map_toArray, List.map_cons, List.map_nil]); first | done | rfl | (simp only [List.length_drop, List.length_take]; rfl)) ?_; (with_reducible refine (IndexFunc_back.calls k1 _ _ x6_1  t474 _ ?side1 ?side2 A26.out).mono ?_); (case side1 => repeat (first | exact (Kd.V_reads' HO_6.out).2.2 | (with_reducible refine Kd.C_alloc ?_ _) | (with_reducible refine Kd.C_drewN ?_ _) | (with_reducible refine Kd.C_drew ?_))); (case side2 => exact (Kd.V_reads' HO_6.out).2.1); rintro e w43 ⟨rfl, hb⟩; refine ⟨_, rfl, ?_⟩; have n0_ := Aside0.mk (Kd.V_below (by (with_reducible repeat (first | apply Kd.V_alloc | apply Kd.V_drewN | apply Kd.V_drew)); exact HO_6.out) hb); have n1_ := Aside0.mk (Kd.N_below (by (with_reducible repeat (first | apply Kd.N_alloc | apply Kd.N_drewN | apply Kd.N_drew)); exact HO_466000.out) hb); have n2_ := Aside0.mk (Kd.N_below (by (with_reducible repeat (first | apply Kd.N_alloc | apply Kd.N_drewN | apply Kd.N_drew)); exact HO_466001.out) hb); have n3_ := Aside0.mk (Kd.V_below (by (with_reducible repeat (first | apply Kd.V_alloc | apply Kd.V_drewN | apply Kd.V_drew)); exact HL471_1.out) hb); have n4_ := Aside0.mk (blk_below (g := gb455) (o := .cells #[.slice none 0 0, .slice none 0 0] 54 (0, 0)) (by (with_reducible repeat (first | refine blk_drewN ?_ _ | refine blk_drew ?_ | refine blk_alloc ?_ _)); exact BK455.out) hb); have n5_ := Aside0.mk (blk_below (g := gb465) (o := .cells #[.slice Ao17 t462.length co17, u466001] 54 (0, 0)) (by (with_reducible repeat (first | refine blk_drewN ?_ _ | refine blk_drew ?_ | refine blk_alloc ?_ _)); exact BK465.out) hb); have n6_ := Aside0.mk (Kd.C_below (by repeat (first | (with_reducible exact HR471_1.out) | (with_reducible refine Kd.C_alloc ?_ _) | (with_reducible refine Kd.C_drewN ?_ _) | (with_reducible refine Kd.C_drew ?_) | exact HR471_1.out)) hb); have n7_ := Aside0.mk (below_step (by repeat (first | (with_reducible first | exact HB.out | apply below_alloc | apply pw_below_drewN | apply below_drew1 | refine below_set ?_ GE455.out | refine below_set ?_ GE465.out) | exact HB.out)) hb); clear HO_6; clear HO_466000; clear HO_466001; clear HL471_1; clear BK455; clear BK465; clear HR471_1; clear HB; have HO_6 := n0_; have HO_466000 := n1_; have HO_466001 := n2_; have HL471_1 := n3_; have BK455 := n4_; have BK465 := n5_; have HR471_1 := n6_; have HB := n7_; clear n0_ n1_ n2_ n3_ n4_ n5_ n6_ n7_; (try clear hb); (try clear hb2); (try clear hk); (try clear hi)))
               have n0_ := Aside0.mk (Kd.V_drew HO_6.out)
               have n1_ := Aside0.mk (Kd.N_drew HO_466000.out)
               have n2_ := Aside0.mk (Kd.N_drew HO_466001.out)
               have n3_ := Aside0.mk (Kd.V_drew HL471_1.out)
               have n4_ := Aside0.mk (blk_drew BK455.out)
               have n5_ := Aside0.mk (blk_drew BK465.out)
               have n6_ := Aside0.mk (Kd.C_drew HR471_1.out)
               have n7_ := Aside0.mk (below_drew1 HB.out)
               clear HO_6
               clear HO_466000
               clear HO_466001
               clear HL471_1
               clear BK455
               clear BK465
               clear HR471_1
               clear HB
               have HO_6 := n0_
               have HO_466000 := n1_
               have HO_466001 := n2_
               have HL471_1 := n3_
               have BK455 := n4_
               have BK465 := n5_
               have HR471_1 := n6_
               have HB := n7_
               clear n0_ n1_ n2_ n3_ n4_ n5_ n6_ n7_
               have q45 : (t474 : Int) ≤ ((x6_1.length : Int) : Int) := of_decide_eq_true (by first | (with_reducible assumption) | assumption)
               obtain ⟨i045, hi045, _, hsz45, _⟩ := info_parts info32
               have hroom45 : x6_1.length ≤ co41 := (Kd.V_reads' HO_6.out).2.1
               have hC45 : Kd.F k32 _ _ (some ad471) x6_1.length x6_1 := (Kd.V_at (base := w.heap.size) HO_6.out).2.2
               have ql45 : (1 : Int) ≤ (t474 : Int) := of_decide_eq_true (by first | (with_reducible assumption) | assumption)
               have hcut45 := cut_mid (P := Try.prog) 35 32 .i64 .i64 Try.underlying35 hi045 3 hsz45 (some ad471) x6_1.length co41 1 t474 (by omega) ql45 q45 hroom45
               have hr45 := Kd.F_mid (lo := (1 : Int).toNat) (hi := (t474 : Int).toNat) (c := co41) hC45 (by omega) (by omega) hroom45
               obtain ⟨A45, hA45⟩ : ∃ A1, A1 = (if co41 = (1 : Int).toNat then (some ad471) else ((some ad471) : Option Addr).map (·.add ((1 : Int).toNat * 3))) := ⟨_, rfl⟩
               obtain ⟨c45, hc45⟩ : ∃ c1, c1 = co41 - (1 : Int).toNat := ⟨_, rfl⟩
               have hy45 : y475.length = (t474 : Int).toNat - (1 : Int).toNat := (by rw [Ny475.out, List.length_drop, List.length_take] <;> omega)
               rw [show ((x6_1).take (t474 : Int).toNat).drop (1 : Int).toNat = y475 from Ny475.out.symm] at hr45
               replace hr45 : Kd.F k32 _ _ A45 y475.length y475 := (by rw [hA45]; exact hr45)
               rw [← hy45, ← hA45, ← hc45] at hcut45
               have HO479 := Aside0.mk (show Kd.V k32 32 _ w.heap.size _ (.slice A45 y475.length c45) y475 from Kd.V_mk (by rw [hy45, hc45]; exact Nat.sub_le_sub_right (Nat.le_trans (by omega) hroom45) _) hr45)
               have HC479 := Aside0.mk (show y475.length ≤ c45 from by rw [hy45, hc45]; exact Nat.sub_le_sub_right (Nat.le_trans (by omega) hroom45) _)
               clear hr45 hC45 hroom45 hi045 hsz45 hc45
               have KY45 := Aside0.mk hy45
               have KA45 := Aside0.mk hA45
               clear hy45 hA45
               replace q45 := eq_true q45
               refine start_ (n := 12) (S := fun w' => w'.cell? ⟨gb465, 0, none⟩ = some (.slice Ao17 t462.length co17) ∧ w'.cell? ⟨gb465, 1, none⟩ = some (u466001)) (ds := [11]) #[false, false, false, false, false, false, false, false, false, false, false, false] (by kernel_rfl) rfl rfl ⟨(blk_cell BK465.out 0).trans rfl, (blk_cell BK465.out 1).trans rfl⟩ (fun hHeld => ?_); refine with_tabW subprogram_Split.tab11 subprogram_Split.bits11 (fun HT_ HW_ => ?_)
               generalize w43.drew = w44 at HO_6 HO_466000 HO_466001 HL471_1 BK455 BK465 HR471_1 HB HO479 hHeld ⊢
               refine pure_ (i := 0) (N := some 44) (v := ?_) (a' := ?_) #[true, false, false, false, false, false, false, false, false, false, false, false] rfl rfl (any_of HT_.out (by kernel_rfl)) (fun _ _ _ h => h) (Or.inl ⟨by rfl, ?_⟩) ?_ ?_
               rotate_left
               ·intro w'
                go_simp
                with_reducible rfl
               rotate_left
               ·simp only [Act.put, List.setIfInBounds_toArray, List.set_cons_zero, List.set_cons_succ, i64_w, i32_w]
                rfl
               refine pure_ (i := 2) (N := some 46) (v := ?_) (a' := ?_) #[true, false, true, false, false, false, false, false, false, false, false, false] rfl rfl (any_of HT_.out (by kernel_rfl)) (fun _ _ _ h => h) (Or.inl ⟨by rfl, ?_⟩) ?_ ?_
               rotate_left
               ·intro w'
                go_simp
                with_reducible rfl
               rotate_left
               ·simp only [Act.put, List.setIfInBounds_toArray, List.set_cons_zero, List.set_cons_succ, i64_w, i32_w]
                rfl
               refine pure_ (i := 3) (N := some 47) (v := ?_) (a' := ?_) #[true, false, true, true, false, false, false, false, false, false, false, false] rfl rfl (any_of HT_.out (by kernel_rfl)) (fun _ _ _ h => h) (Or.inl ⟨by rfl, ?_⟩) ?_ ?_
               rotate_left
               ·intro w'
                go_simp
                with_reducible rfl
               rotate_left
               ·simp only [Act.put, List.setIfInBounds_toArray, List.set_cons_zero, List.set_cons_succ, i64_w, i32_w]
                rfl
               refine pure_ (i := 4) (N := some 48) (v := ?_) (a' := ?_) #[true, false, true, true, true, false, false, false, false, false, false, false] rfl rfl (any_of HT_.out (by kernel_rfl)) (fun _ _ _ h => h) (Or.inl ⟨by rfl, ?_⟩) ?_ ?_
               rotate_left
               ·intro w'
                go_simp
                with_reducible rfl
               rotate_left
               ·simp only [Act.put, List.setIfInBounds_toArray, List.set_cons_zero, List.set_cons_succ, i64_w, i32_w]
                rfl
               refine pure_ (i := 5) (N := some 49) (v := ?_) (a' := ?_) #[true, false, true, true, true, true, false, false, false, false, false, false] rfl rfl (any_of HT_.out (by kernel_rfl)) (fun _ _ _ h => h) (Or.inl ⟨by rfl, ?_⟩) ?_ ?_
               rotate_left
               ·intro w'
                go_simp
                with_reducible rfl
               rotate_left
               ·simp only [Act.put, List.setIfInBounds_toArray, List.set_cons_zero, List.set_cons_succ, i64_w, i32_w]
                rfl
               refine take_ (i := 1) (N := some 45) (v := ?_) (a' := ?_) #[true, true, true, true, true, true, false, false, false, false, false, false] rfl rfl (take_ofW HT_.out HW_.out (by kernel_rfl)) (fun _ _ _ h => h) (Or.inl ⟨by rfl, ?_⟩) hHeld ?_ ?_
               rotate_left
               ·rintro w' ⟨s0, s1⟩
                go_simp
                with_reducible rfl
               rotate_left
               ·simp only [Act.put, List.setIfInBounds_toArray, List.set_cons_zero, List.set_cons_succ, i64_w, i32_w]
                rfl
               refine one_ (i := 6) (N := some 50) #[true, true, true, true, true, true, true, false, false, false, false, false] rfl rfl (one_of HT_.out (by kernel_rfl)) (by decide) (fun K hK => ?_)
               refine goes_ Try.func33 (by kernel_rfl) rfl #[.slice A45 y475.length c45] (by rfl) rfl rfl (by (try simp only [List.map_toArray, List.map_cons, List.map_nil]); first | done | rfl | (simp only [List.length_drop, List.length_take]; rfl)) ?_
               with_reducible refine (Clone_Block.calls (fun k_ => ((P0_ k_ ∨ w.heap.size ≤ k_) ∧ (some k_ ≠ (.slice Ao17 t462.length co17 : Value).ownBlock ∧ (some k_ ≠ (u466001 : Value).ownBlock ∧ (k_ ≠ gb455 ∧ k_ ≠ gb465))))) _ _ y475 t480 _ ?side1 A36.out).mono ?_
               (case side1 => exact HO479.out)
               rintro e w46 ⟨v481, rfl, ho0, hb⟩
               refine ⟨_, rfl, ?_⟩
               have n0_ := Aside0.mk (Kd.V_elder' (by (with_reducible repeat (first | apply Kd.V_alloc | apply Kd.V_drewN | apply Kd.V_drew)); exact HO_6.out) (by first | exact Kd.N_base ho0 | exact Kd.S_base ho0) hb)
               have n1_ := Aside0.mk (Kd.N_elder' (by (with_reducible repeat (first | apply Kd.N_alloc | apply Kd.N_drewN | apply Kd.N_drew)); exact HO_466000.out) (by first | exact Kd.N_base ho0 | exact Kd.S_base ho0) hb)
               have n2_ := Aside0.mk (Kd.N_elder' (by (with_reducible repeat (first | apply Kd.N_alloc | apply Kd.N_drewN | apply Kd.N_drew)); exact HO_466001.out) (by first | exact Kd.N_base ho0 | exact Kd.S_base ho0) hb)
               have n3_ := Aside0.mk (Kd.V_elder' (by (with_reducible repeat (first | apply Kd.V_alloc | apply Kd.V_drewN | apply Kd.V_drew)); exact HL471_1.out) (by first | exact Kd.N_base ho0 | exact Kd.S_base ho0) hb)
               have n4_ := Aside0.mk (Kd.V_elder' (by (with_reducible repeat (first | apply Kd.V_alloc | apply Kd.V_drewN | apply Kd.V_drew)); exact HO479.out) (by first | exact Kd.N_base ho0 | exact Kd.S_base ho0) hb)
               have n5_ := Aside0.mk (Kd.N_lower (Kd.N_mono (ok' := fun k_ => (P0_ k_ ∨ w.heap.size ≤ k_) ∧ some k_ ≠ (.slice Ao17 t462.length co17 : Value).ownBlock ∧ some k_ ≠ (u466001 : Value).ownBlock ∧ k_ ≠ gb455 ∧ k_ ≠ gb465) ho0 (fun k_ hk_ => ⟨Or.elim hk_ (fun hs_ => hs_.1) (fun hn_ => (.inr (Nat.le_trans (below_size (by repeat (first | (with_reducible first | exact HB.out | apply below_alloc | apply pw_below_drewN | apply below_drew1 | refine below_set ?_ GE455.out | refine below_set ?_ GE465.out) | exact HB.out))) hn_))), Or.elim hk_ (fun hs_ => hs_.2.1) (fun hn_ => (Kd.fresh' (Kd.N_lt (by (with_reducible repeat (first | apply Kd.N_alloc | apply Kd.N_drewN | apply Kd.N_drew)); exact HO_466000.out)) k_ hn_)), Or.elim hk_ (fun hs_ => hs_.2.2.1) (fun hn_ => (Kd.fresh' (Kd.N_lt (by (with_reducible repeat (first | apply Kd.N_alloc | apply Kd.N_drewN | apply Kd.N_drew)); exact HO_466001.out)) k_ hn_)), Or.elim hk_ (fun hs_ => hs_.2.2.2.1) (fun hn_ => (Kd.freshB (g := gb455) (o := .cells #[.slice none 0 0, .slice none 0 0] 54 (0, 0)) (by (with_reducible repeat (first | refine blk_drewN ?_ _ | refine blk_drew ?_ | refine blk_alloc ?_ _)); exact BK455.out) k_ hn_)), Or.elim hk_ (fun hs_ => hs_.2.2.2.2) (fun hn_ => (Kd.freshB (g := gb465) (o := .cells #[.slice Ao17 t462.length co17, u466001] 54 (0, 0)) (by (with_reducible repeat (first | refine blk_drewN ?_ _ | refine blk_drew ?_ | refine blk_alloc ?_ _)); exact BK465.out) k_ hn_))⟩)) (below_size (by repeat (first | (with_reducible first | exact HB.out | apply below_alloc | apply pw_below_drewN | apply below_drew1 | refine below_set ?_ GE455.out | refine below_set ?_ GE465.out) | exact HB.out))))
               have n6_ := Aside0.mk (blk_below (g := gb455) (o := .cells #[.slice none 0 0, .slice none 0 0] 54 (0, 0)) (by (with_reducible repeat (first | refine blk_drewN ?_ _ | refine blk_drew ?_ | refine blk_alloc ?_ _)); exact BK455.out) hb)
               have n7_ := Aside0.mk (blk_below (g := gb465) (o := .cells #[.slice Ao17 t462.length co17, u466001] 54 (0, 0)) (by (with_reducible repeat (first | refine blk_drewN ?_ _ | refine blk_drew ?_ | refine blk_alloc ?_ _)); exact BK465.out) hb)
               have n8_ := Aside0.mk (Kd.C_below (by repeat (first | (with_reducible exact HR471_1.out) | (with_reducible refine Kd.C_alloc ?_ _) | (with_reducible refine Kd.C_drewN ?_ _) | (with_reducible refine Kd.C_drew ?_) | exact HR471_1.out)) hb)
               have n9_ := Aside0.mk (below_step (by repeat (first | (with_reducible first | exact HB.out | apply below_alloc | apply pw_below_drewN | apply below_drew1 | refine below_set ?_ GE455.out | refine below_set ?_ GE465.out) | exact HB.out)) hb)
               clear HO_6
               clear HO_466000
               clear HO_466001
               clear HL471_1
               clear HO479
               clear BK455
               clear BK465
               clear HR471_1
               clear HB
               have HO_6 := n0_
               have HO_466000 := n1_
               have HO_466001 := n2_
               have HL471_1 := n3_
               have HO479 := n4_
               have HO482 := n5_
               have BK455 := n6_
               have BK465 := n7_
               have HR471_1 := n8_
               have HB := n9_
               clear n0_ n1_ n2_ n3_ n4_ n5_ n6_ n7_ n8_ n9_
               (try clear hb)
               (try clear hb2)
               (try clear hk)
               (try clear hi)
               (try clear ho0)
               obtain ⟨Ao47, co47, eo47⟩ := Kd.N_slice HO482.out
               (first | subst eo47 | (injection eo47 with f1_ f2_ f3_; have f4_ := f1_.symm; have f5_ := f3_.symm; clear f1_ f2_ f3_; subst f4_; subst f5_))
               refine hK.out _ _ ⟨(blk_cell BK465.out 0).trans rfl, (blk_cell BK465.out 1).trans rfl⟩ (fun hHeld => ?_)
               clear hK K
               refine norm_ (a' := ?_) ?_ ?_
               rotate_left
               ·show Act.put _ (some 50) _ = _
                simp only [Act.put, List.setIfInBounds_toArray, List.set_cons_zero, List.set_cons_succ, i64_w, i32_w]
                rfl
               refine pure_ (i := 7) (N := some 51) (v := ?_) (a' := ?_) #[true, true, true, true, true, true, true, true, false, false, false, false] rfl rfl (any_of HT_.out (by kernel_rfl)) (fun _ _ _ h => h) (Or.inl ⟨by rfl, ?_⟩) ?_ ?_
               rotate_left
               ·intro w'
                go_simp
                with_reducible rfl
               rotate_left
               ·simp only [Act.put, List.setIfInBounds_toArray, List.set_cons_zero, List.set_cons_succ, i64_w, i32_w]
                rfl
               refine one_ (i := 8) (N := some 52) #[true, true, true, true, true, true, true, true, true, false, false, false] rfl rfl (one_of HT_.out (by kernel_rfl)) (by decide) (fun K hK => ?_)
               refine value_ (w1 := ?_) (v := ?_) (by rfl) rfl ?_ ?_
               rotate_left 2
               ·go_simp
                constructor
                ·rfl
                ·rfl
               refine hK.out _ _ ⟨(blk_cell (blk_alloc BK465.out _) 0).trans rfl, (blk_cell (blk_alloc BK465.out _) 1).trans rfl⟩ (fun hHeld => ?_)
               clear hK K
               refine norm_ (a' := ?_) ?_ ?_
               rotate_left
               ·show Act.put _ (some 52) _ = _
                simp only [Act.put, List.setIfInBounds_toArray, List.set_cons_zero, List.set_cons_succ, i64_w, i32_w]
                rfl
               refine one_ (i := 9) (N := some 53) #[true, true, true, true, true, true, true, true, true, true, false, false] rfl rfl (one_of HT_.out (by kernel_rfl)) (by decide) (fun K hK => ?_)
               refine Kd.N_append_step k81 (w0 := w) w.heap.size (by rfl) (.tmp 45) (.tmp 52) 52 81 (.agg #[(.int .i64 0), (.slice none 0 0)]) 32 rfl Try.underlying52 info81 rfl (by decide) (by omega) u466001 x466001_1 (⟨t472, t480⟩ : S81) [.int .i64 t472, .slice Ao47 t480.length co47] (fun k_ => (P0_ k_ ∨ w.heap.size ≤ k_) ∧ some k_ ≠ (.slice Ao17 t462.length co17 : Value).ownBlock ∧ k_ ≠ gb455 ∧ k_ ≠ gb465) (fun k_ => ((fun k_ => (P0_ k_ ∨ w.heap.size ≤ k_) ∧ some k_ ≠ (.slice Ao17 t462.length co17 : Value).ownBlock ∧ k_ ≠ gb455 ∧ k_ ≠ gb465)) k_ ∧ some k_ ≠ (u466001 : Value).ownBlock) rfl rfl ?aP (fun _ hk => hk) ?aF ?aO ?aB ?aS ?aL ?_
               (case aP => exact (k81_mkF _ _ (⟨t472, t480⟩ : S81) (Kd.N_reads' (Kd.N_mono (ok' := (fun k_ => ((fun k_ => (P0_ k_ ∨ w.heap.size ≤ k_) ∧ some k_ ≠ (.slice Ao17 t462.length co17 : Value).ownBlock ∧ k_ ≠ gb455 ∧ k_ ≠ gb465)) k_ ∧ some k_ ≠ (u466001 : Value).ownBlock)) (HO482.out) (fun k_ hk => ⟨⟨hk.1, ⟨hk.2.1, ⟨hk.2.2.2.1, hk.2.2.2.2⟩⟩⟩, hk.2.2.1⟩))).2.1 (Kd.N_F (Kd.N_mono (ok' := (fun k_ => ((fun k_ => (P0_ k_ ∨ w.heap.size ≤ k_) ∧ some k_ ≠ (.slice Ao17 t462.length co17 : Value).ownBlock ∧ k_ ≠ gb455 ∧ k_ ≠ gb465)) k_ ∧ some k_ ≠ (u466001 : Value).ownBlock)) (HO482.out) (fun k_ hk => ⟨⟨hk.1, ⟨hk.2.1, ⟨hk.2.2.2.1, hk.2.2.2.2⟩⟩⟩, hk.2.2.1⟩)))))
               (case aB => exact (by repeat (first | (with_reducible first | exact HB.out | apply below_alloc | apply pw_below_drewN | apply below_drew1 | refine below_set ?_ GE455.out | refine below_set ?_ GE465.out) | exact HB.out)))
               (case aF => exact (fun k_ hk => ⟨(.inr (Nat.le_trans (below_size (by repeat (first | (with_reducible first | exact HB.out | apply below_alloc | apply pw_below_drewN | apply below_drew1 | refine below_set ?_ GE455.out | refine below_set ?_ GE465.out) | exact HB.out))) hk)), Kd.fresh' (Kd.N_lt (by (with_reducible repeat (first | apply Kd.N_alloc | apply Kd.N_drewN | apply Kd.N_drew)); exact HO_466000.out)) k_ hk, Kd.freshB (g := gb455) (o := .cells #[.slice none 0 0, .slice none 0 0] 54 (0, 0)) (by (with_reducible repeat (first | refine blk_drewN ?_ _ | refine blk_drew ?_ | refine blk_alloc ?_ _)); exact BK455.out) k_ hk, Kd.freshB (g := gb465) (o := .cells #[.slice Ao17 t462.length co17, u466001] 54 (0, 0)) (by (with_reducible repeat (first | refine blk_drewN ?_ _ | refine blk_drew ?_ | refine blk_alloc ?_ _)); exact BK465.out) k_ hk⟩))
               (case aO => exact (by (with_reducible repeat (first | apply Kd.N_alloc | apply Kd.N_drewN | apply Kd.N_drew)); exact Kd.N_mono HO_466001.out (fun _ hk => ⟨hk.1.1, ⟨hk.1.2.1, ⟨hk.1.2.2.1, hk.1.2.2.2⟩⟩⟩)))
               (case aS => exact (below_size (by repeat (first | (with_reducible first | exact HB.out | apply below_alloc | apply pw_below_drewN | apply below_drew1 | refine below_set ?_ GE455.out | refine below_set ?_ GE465.out) | exact HB.out))))
               (case aL => have := LMc37.out; omega)
               intro v484 w48 ho hb hg hat
               rw [← Ny483.out] at ho
               have n0_ := Aside0.mk (Kd.V_afterv (ok := (fun k_ => (P0_ k_ ∨ w.heap.size ≤ k_) ∧ some k_ ≠ (.slice Ao17 t462.length co17 : Value).ownBlock ∧ some k_ ≠ (.slice Ao47 t480.length co47 : Value).ownBlock ∧ k_ ≠ gb455 ∧ k_ ≠ gb465)) (by (with_reducible repeat (first | apply Kd.V_alloc | apply Kd.V_drewN | apply Kd.V_drew)); exact Kd.V_mono HO_6.out (fun _ hk => ⟨⟨hk.1.1, ⟨hk.1.2.1, ⟨hk.2, ⟨hk.1.2.2.2.1, hk.1.2.2.2.2⟩⟩⟩⟩, hk.1.2.2.1⟩)) hg hat)
               have n1_ := Aside0.mk (Kd.N_afterv (ok := (fun k_ => (P0_ k_ ∨ w.heap.size ≤ k_) ∧ some k_ ≠ (.slice Ao47 t480.length co47 : Value).ownBlock ∧ k_ ≠ gb455 ∧ k_ ≠ gb465)) (by (with_reducible repeat (first | apply Kd.N_alloc | apply Kd.N_drewN | apply Kd.N_drew)); exact Kd.N_mono HO_466000.out (fun _ hk => ⟨⟨hk.1.1, ⟨hk.2, ⟨hk.1.2.2.1, hk.1.2.2.2⟩⟩⟩, hk.1.2.1⟩)) hg hat)
               have n2_ := Aside0.mk (blk_grown (g := gb455) (o := .cells #[.slice none 0 0, .slice none 0 0] 54 (0, 0)) (by (with_reducible repeat (first | refine blk_drewN ?_ _ | refine blk_drew ?_ | refine blk_alloc ?_ _)); exact BK455.out) hg (Kd.N_ne HO_466001.out BK455.out (by decide)))
               have n3_ := Aside0.mk (blk_grown (g := gb465) (o := .cells #[.slice Ao17 t462.length co17, u466001] 54 (0, 0)) (by (with_reducible repeat (first | refine blk_drewN ?_ _ | refine blk_drew ?_ | refine blk_alloc ?_ _)); exact BK465.out) hg (Kd.N_ne HO_466001.out BK465.out (by decide)))
               have n4_ := Aside0.mk (Kd.V_afterv (ok := (fun k_ => (P0_ k_ ∨ w.heap.size ≤ k_) ∧ some k_ ≠ (.slice Ao17 t462.length co17 : Value).ownBlock ∧ some k_ ≠ (.slice Ao47 t480.length co47 : Value).ownBlock ∧ k_ ≠ gb455 ∧ k_ ≠ gb465)) (by (with_reducible repeat (first | apply Kd.V_alloc | apply Kd.V_drewN | apply Kd.V_drew)); exact Kd.V_mono HL471_1.out (fun _ hk => ⟨⟨hk.1.1, ⟨hk.1.2.1, ⟨hk.2, ⟨hk.1.2.2.2.1, hk.1.2.2.2.2⟩⟩⟩⟩, hk.1.2.2.1⟩)) hg hat)
               have n5_ := Aside0.mk (Kd.V_afterv (ok := (fun k_ => (P0_ k_ ∨ w.heap.size ≤ k_) ∧ some k_ ≠ (.slice Ao17 t462.length co17 : Value).ownBlock ∧ some k_ ≠ (.slice Ao47 t480.length co47 : Value).ownBlock ∧ k_ ≠ gb455 ∧ k_ ≠ gb465)) (by (with_reducible repeat (first | apply Kd.V_alloc | apply Kd.V_drewN | apply Kd.V_drew)); exact Kd.V_mono HO479.out (fun _ hk => ⟨⟨hk.1.1, ⟨hk.1.2.1, ⟨hk.2, ⟨hk.1.2.2.2.1, hk.1.2.2.2.2⟩⟩⟩⟩, hk.1.2.2.1⟩)) hg hat)
               have n6_ := Aside0.mk (hb)
               have n7_ := Aside0.mk (ho)
               clear HO_6
               clear HO_466000
               clear BK455
               clear BK465
               clear HL471_1
               clear HO479
               clear HB
               clear HO_466001
               clear HO482
               have HO_6 := n0_
               have HO_466000 := n1_
               have BK455 := n2_
               have BK465 := n3_
               have HL471_1 := n4_
               have HO479 := n5_
               have HB := n6_
               have HO485 := n7_
               clear n0_ n1_ n2_ n3_ n4_ n5_ n6_ n7_
               clear ho hb hg hat
               obtain ⟨Ao49, co49, eo49⟩ := Kd.N_slice HO485.out
               (first | subst eo49 | (injection eo49 with f1_ f2_ f3_; have f4_ := f1_.symm; have f5_ := f3_.symm; clear f1_ f2_ f3_; subst f4_; subst f5_))
               refine hK.out _ _ ⟨(blk_cell BK465.out 0).trans rfl, (blk_cell BK465.out 1).trans rfl⟩ (fun hHeld => ?_)
               clear hK K
               refine norm_ (a' := ?_) ?_ ?_
               rotate_left
               ·show Act.put _ (some 53) _ = _
                simp only [Act.put, List.setIfInBounds_toArray, List.set_cons_zero, List.set_cons_succ, i64_w, i32_w]
                rfl
               refine pure_ (i := 10) (N := some 54) (v := ?_) (a' := ?_) #[true, true, true, true, true, true, true, true, true, true, true, false] rfl rfl (any_of HT_.out (by kernel_rfl)) (fun _ _ _ h => h) (Or.inl ⟨by rfl, ?_⟩) ?_ ?_
               rotate_left
               ·intro w'
                go_simp
                with_reducible rfl
               rotate_left
               ·simp only [Act.put, List.setIfInBounds_toArray, List.set_cons_zero, List.set_cons_succ, i64_w, i32_w]
                rfl
               refine last_ (i := 11) (N := none) #[true, true, true, true, true, true, true, true, true, true, true, true] rfl rfl (one_of HT_.out (by kernel_rfl)) (by decide) (fun K hK => ?_)
               have hs50 : w48.cell? ⟨gb465, 1, none⟩ = some (u466001) := (blk_cell BK465.out 1).trans rfl
               have hfs50 := blk_frozen BK465.out 1
               have hns50_0 := NB455_465.out
               have hms50_0 := NB465_455.out
               refine skip_ (w1 := ?_) (by rfl) rfl ?_ ?_
               rotate_left
               ·go_simp
                rfl
               refine hK.out _ _ ?_
               clear hK K
               refine done_ (done_of HT_.out (by kernel_rfl)) ?_
               have n0_ : Aside0 (Kd.V k32 32 (w48.setCell ⟨gb465, 1, none⟩ (.slice Ao49 y483.length co49)) w.heap.size (fun k_ => (P0_ k_ ∨ w.heap.size ≤ k_) ∧ some k_ ≠ (.slice Ao17 t462.length co17 : Value).ownBlock ∧ some k_ ≠ (.slice Ao49 y483.length co49 : Value).ownBlock ∧ k_ ≠ gb455 ∧ k_ ≠ gb465) (.slice (some ad471) x6_1.length co41) x6_1) := ⟨by (with_reducible repeat (first | apply Kd.V_alloc | apply Kd.V_drewN | apply Kd.V_drew)); exact Kd.V_mono (Kd.V_far (p := ⟨gb465, 1, none⟩) (Kd.V_mono HO_6.out (fun k_ hk => (⟨hk, hk.1.2.2.2.2⟩ : _ ∧ k_ ≠ gb465))) (fun _ hk => hk.2) (.slice Ao49 y483.length co49)) (fun _ hk => ⟨hk.1.1.1, ⟨hk.1.1.2.1, ⟨hk.1.2, ⟨hk.1.1.2.2.2.1, hk.1.1.2.2.2.2⟩⟩⟩⟩)⟩
               have n1_ : Aside0 (Kd.N k32 32 (w48.setCell ⟨gb465, 1, none⟩ (.slice Ao49 y483.length co49)) w.heap.size (fun k_ => (P0_ k_ ∨ w.heap.size ≤ k_) ∧ some k_ ≠ (.slice Ao49 y483.length co49 : Value).ownBlock ∧ k_ ≠ gb455 ∧ k_ ≠ gb465) (.slice Ao17 t462.length co17) t462) := ⟨by (with_reducible repeat (first | apply Kd.N_alloc | apply Kd.N_drewN | apply Kd.N_drew)); exact Kd.N_mono (Kd.N_far (p := ⟨gb465, 1, none⟩) (Kd.N_mono HO_466000.out (fun k_ hk => (⟨hk, hk.1.2.2.2⟩ : _ ∧ k_ ≠ gb465))) (fun _ hk => hk.2) (.slice Ao49 y483.length co49)) (fun _ hk => ⟨hk.1.1.1, ⟨hk.1.2, ⟨hk.1.1.2.2.1, hk.1.1.2.2.2⟩⟩⟩)⟩
               have n2_ : Aside0 (Kd.V k78 78 (w48.setCell ⟨gb465, 1, none⟩ (.slice Ao49 y483.length co49)) w.heap.size (fun k_ => (P0_ k_ ∨ w.heap.size ≤ k_) ∧ some k_ ≠ (.slice Ao17 t462.length co17 : Value).ownBlock ∧ some k_ ≠ (.slice Ao49 y483.length co49 : Value).ownBlock ∧ k_ ≠ gb455 ∧ k_ ≠ gb465) (.slice A471_1 ((rd_T32 x6_1 0).f1).length c471_1) ((rd_T32 x6_1 0).f1)) := ⟨by (with_reducible repeat (first | apply Kd.V_alloc | apply Kd.V_drewN | apply Kd.V_drew)); exact Kd.V_mono (Kd.V_far (p := ⟨gb465, 1, none⟩) (Kd.V_mono HL471_1.out (fun k_ hk => (⟨hk, hk.1.2.2.2.2⟩ : _ ∧ k_ ≠ gb465))) (fun _ hk => hk.2) (.slice Ao49 y483.length co49)) (fun _ hk => ⟨hk.1.1.1, ⟨hk.1.1.2.1, ⟨hk.1.2, ⟨hk.1.1.2.2.2.1, hk.1.1.2.2.2.2⟩⟩⟩⟩)⟩
               have n3_ : Aside0 (Kd.V k32 32 (w48.setCell ⟨gb465, 1, none⟩ (.slice Ao49 y483.length co49)) w.heap.size (fun k_ => (P0_ k_ ∨ w.heap.size ≤ k_) ∧ some k_ ≠ (.slice Ao17 t462.length co17 : Value).ownBlock ∧ some k_ ≠ (.slice Ao49 y483.length co49 : Value).ownBlock ∧ k_ ≠ gb455 ∧ k_ ≠ gb465) (.slice A45 y475.length c45) y475) := ⟨by (with_reducible repeat (first | apply Kd.V_alloc | apply Kd.V_drewN | apply Kd.V_drew)); exact Kd.V_mono (Kd.V_far (p := ⟨gb465, 1, none⟩) (Kd.V_mono HO479.out (fun k_ hk => (⟨hk, hk.1.2.2.2.2⟩ : _ ∧ k_ ≠ gb465))) (fun _ hk => hk.2) (.slice Ao49 y483.length co49)) (fun _ hk => ⟨hk.1.1.1, ⟨hk.1.1.2.1, ⟨hk.1.2, ⟨hk.1.1.2.2.2.1, hk.1.1.2.2.2.2⟩⟩⟩⟩)⟩
               have n4_ : Aside0 (Kd.N k81 81 (w48.setCell ⟨gb465, 1, none⟩ (.slice Ao49 y483.length co49)) w.heap.size (fun k_ => (P0_ k_ ∨ w.heap.size ≤ k_) ∧ some k_ ≠ (.slice Ao17 t462.length co17 : Value).ownBlock ∧ k_ ≠ gb455 ∧ k_ ≠ gb465) (.slice Ao49 y483.length co49) y483) := ⟨by (with_reducible repeat (first | apply Kd.N_alloc | apply Kd.N_drewN | apply Kd.N_drew)); exact Kd.N_mono (Kd.N_far (p := ⟨gb465, 1, none⟩) (Kd.N_mono HO485.out (fun k_ hk => (⟨hk, hk.2.2.2⟩ : _ ∧ k_ ≠ gb465))) (fun _ hk => hk.2) (.slice Ao49 y483.length co49)) (fun _ hk => ⟨hk.1.1, ⟨hk.1.2.1, ⟨hk.1.2.2.1, hk.1.2.2.2⟩⟩⟩)⟩
               have n5_ : Aside0 ((w48.setCell ⟨gb465, 1, none⟩ (.slice Ao49 y483.length co49)).heap[gb455]? = some (.cells #[.slice none 0 0, .slice none 0 0] 54 (0, 0))) := ⟨by (with_reducible repeat (first | refine blk_drewN ?_ _ | refine blk_drew ?_ | refine blk_alloc ?_ _)); refine blk_far ?_ NB455_465.out _; (with_reducible repeat (first | refine blk_drewN ?_ _ | refine blk_drew ?_ | refine blk_alloc ?_ _)); exact BK455.out⟩
               have n6_ : Aside0 ((w48.setCell ⟨gb465, 1, none⟩ (.slice Ao49 y483.length co49)).heap[gb465]? = some (.cells #[.slice Ao17 t462.length co17, .slice Ao49 y483.length co49] 54 (0, 0))) := ⟨by (with_reducible repeat (first | refine blk_drewN ?_ _ | refine blk_drew ?_ | refine blk_alloc ?_ _)); refine blk_put (cs := #[.slice Ao17 t462.length co17, u466001]) ?_ 1 _ rfl; (with_reducible repeat (first | refine blk_drewN ?_ _ | refine blk_drew ?_ | refine blk_alloc ?_ _)); exact BK465.out⟩
               have n7_ : Aside0 (Below w.heap.size w (w48.setCell ⟨gb465, 1, none⟩ (.slice Ao49 y483.length co49))) := ⟨by repeat (first | (with_reducible first | exact HB.out | apply below_alloc | apply pw_below_drewN | apply below_drew1 | refine below_set ?_ GE455.out | refine below_set ?_ GE465.out) | exact HB.out)⟩
               (try clear HO_6)
               (try clear HO_466000)
               (try clear HL471_1)
               (try clear HO479)
               (try clear HO485)
               (try clear BK455)
               (try clear BK465)
               (try clear HB)
               generalize (w48.setCell ⟨gb465, 1, none⟩ (.slice Ao49 y483.length co49)) = w51 at n0_ n1_ n2_ n3_ n4_ n5_ n6_ n7_ ⊢
               have HO_6 := n0_
               have HO_466000 := n1_
               have HL471_1 := n2_
               have HO479 := n3_
               have HO485 := n4_
               have BK455 := n5_
               have BK465 := n6_
               have HB := n7_
               clear n0_ n1_ n2_ n3_ n4_ n5_ n6_ n7_
               have q52 : ((ji38) : Int) ≤ ((x6_1.length : Int) : Int) := of_decide_eq_true (by first | (with_reducible assumption) | assumption)
               obtain ⟨i052, hi052, _, hsz52, _⟩ := info_parts info32
               have hroom52 : x6_1.length ≤ co41 := (Kd.V_reads' HO_6.out).2.1
               have hC52 : Kd.F k32 _ _ (some ad471) x6_1.length x6_1 := (Kd.V_at (base := w.heap.size) HO_6.out).2.2
               have q052 : (0 : Int) ≤ ((ji38) : Int) := of_decide_eq_true (by first | (with_reducible assumption) | assumption)
               have hcut52 := cut_from (P := Try.prog) 35 32 .i64 Try.underlying35 hi052 3 hsz52 (some ad471) x6_1.length co41 (ji38) q052 q52
               have hr52 := Kd.F_cut (m := ((ji38) : Int).toNat) (c := co41) hC52 (by omega) hroom52
               obtain ⟨A52, hA52⟩ : ∃ A1, A1 = (if co41 = ((ji38) : Int).toNat then (some ad471) else ((some ad471) : Option Addr).map (·.add (((ji38) : Int).toNat * 3))) := ⟨_, rfl⟩
               obtain ⟨c52, hc52⟩ : ∃ c1, c1 = co41 - ((ji38) : Int).toNat := ⟨_, rfl⟩
               have hy52 : y486.length = x6_1.length - ((ji38) : Int).toNat := (by rw [Ny486.out, List.length_drop] <;> omega)
               rw [show (x6_1).drop ((ji38) : Int).toNat = y486 from Ny486.out.symm] at hr52
               replace hr52 : Kd.F k32 _ _ A52 y486.length y486 := (by rw [hA52]; exact hr52)
               rw [← hy52, ← hA52, ← hc52] at hcut52
               have HO490 := Aside0.mk (show Kd.V k32 32 _ w.heap.size _ (.slice A52 y486.length c52) y486 from Kd.V_mk (by rw [hy52, hc52]; exact Nat.sub_le_sub_right hroom52 _) hr52)
               have HC490 := Aside0.mk (show y486.length ≤ c52 from by rw [hy52, hc52]; exact Nat.sub_le_sub_right hroom52 _)
               clear hr52 hC52 hroom52 hi052 hsz52 hc52
               have KY52 := Aside0.mk hy52
               have KA52 := Aside0.mk hA52
               clear hy52 hA52
               replace q52 := eq_true q52
               try go_wp2
               go_roundg k1
               case measure => have := HK1.out; omega
               case rel => exact ⟨(y486), (y483), (.slice Ao49 y483.length co49), H', ⟨by have := HK1.out; omega⟩, ⟨by (with_reducible repeat (first | apply Kd.V_alloc | apply Kd.V_drewN | apply Kd.V_drew)); exact HO490.out⟩, ⟨by (with_reducible repeat (first | apply Kd.N_alloc | apply Kd.N_drewN | apply Kd.N_drew)); exact HO_466000.out⟩, ⟨by (with_reducible repeat (first | apply Kd.N_alloc | apply Kd.N_drewN | apply Kd.N_drew)); exact HO485.out⟩, ⟨by (with_reducible repeat (first | refine blk_drewN ?_ _ | refine blk_drew ?_ | refine blk_alloc ?_ _)); exact BK455.out⟩, ⟨by (with_reducible repeat (first | refine blk_drewN ?_ _ | refine blk_drew ?_ | refine blk_alloc ?_ _)); exact BK465.out⟩, ⟨by repeat (first | (with_reducible first | exact HB.out | apply below_alloc | apply pw_below_drewN | apply below_drew1 | refine below_set ?_ GE455.out | refine below_set ?_ GE465.out) | exact HB.out)⟩⟩
              ·rw [if_neg c40] at H
               exact absurd H (by simp)
             ·rw [if_neg c39] at H
              exact absurd H (by simp)
            ·rw [if_neg c37] at H
             exact absurd H (by simp)
           ·rw [if_neg c35] at H
            exact absurd H (by simp)
          ·rw [if_neg c34] at H
           exact absurd H (by simp)
        ·replace c27 := Bool.eq_false_iff.mpr c27
         subst c27
         have H1 : (some (([] : List (S32)), ([] : List (S81)), 1)) = some (r1, r2, r3) := by rw [if_neg (show ¬ (false = true) by decide)] at H; exact H
         clear H
         have H := H1
         clear H1
         simp only [Option.some.injEq, Prod.mk.injEq] at H
         obtain ⟨rfl, rfl, rfl⟩ := H
         obtain ⟨Ao53, co53, eo53⟩ := Kd.V_slice HO_6.out
         subst eo53
         have p471 : 0 ≤ (0 : Int) := (by omega)
         have q471 : 0 < (x6_1.length : Int) := of_decide_eq_true (by first | (with_reducible assumption) | assumption)
         obtain ⟨ad471, A471_1, c471_1, e471, hx471_0, hx471_1, hx471_2, hl471_1, hi471_1⟩ := at_T32 (Kd.V_reads' HO_6.out).2.2 0 p471 q471
         cases e471
         obtain ⟨ce471, hce471, hMe471, hcc471⟩ := Kd.V_get HO_6.out z32 0 p471 (by first | exact q471 | exact of_decide_eq_true (by first | (with_reducible assumption) | assumption) | (have e_ := (Kd.V_reads' HO_6.out).1; omega))
         obtain ⟨ua471_1, uc471_1, rfl, ul471_1, ge471_1⟩ := k32_openF hMe471
         have hv471_1 := hcc471 1 _ rfl
         rw [add_field _ _ 1 (by omega)] at hv471_1
         replace hv471_1 := Option.some.inj (hv471_1.symm.trans hx471_1)
         injection hv471_1 with hva_ hvn_ hvc_
         rw [hva_] at ge471_1
         rw [hvc_] at ul471_1
         have HL471_1 := Aside0.mk (show Kd.V k78 78 _ w.heap.size _ _ ((rd_T32 x6_1 0).f1) from Kd.V_mk ul471_1 ge471_1)
         clear hva_ hvn_ hvc_ ge471_1 ul471_1
         clear hcc471 hce471
         have qi471 : (0 < x6_1.length) = True := eq_true (by omega)
         (try rw [show ((0 : Int)).toNat = 0 from rfl] at hx471_0)
         (try rw [show 0 * 3 = 0 from rfl] at hx471_0)
         (try rw [Addr.add_zero'] at hx471_0)
         (try rw [show ((0 : Int)).toNat = 0 from rfl] at hx471_1)
         (try rw [show 0 * 3 = 0 from rfl] at hx471_1)
         (try rw [Addr.add_zero'] at hx471_1)
         (try rw [show ((0 : Int)).toNat = 0 from rfl] at hx471_2)
         (try rw [show 0 * 3 = 0 from rfl] at hx471_2)
         (try rw [Addr.add_zero'] at hx471_2)
         have HR471_1 := Aside0.mk hi471_1
         have HC471_1 := Aside0.mk hl471_1
         clear hi471_1 hl471_1
         replace p471 := eq_true p471
         replace q471 := eq_true q471
         go_wp2_with (first | ((with_reducible refine gate_callee (f := 76) rfl ?_); refine goesL_ (some 32) rfl rfl Try.func76 (by kernel_rfl) rfl #[.agg #[.bool ((rd_T32 x6_1 0).f0), .slice A471_1 ((rd_T32 x6_1 0).f1).length c471_1, .string ((rd_T32 x6_1 0).f2)]] rfl (by (try simp only [List.map_toArray, List.map_cons, List.map_nil]); first | done | rfl | (simp only [List.length_drop, List.length_take]; rfl)) ?_; (with_reducible refine (subprogram_beginning.calls ((rd_T32 x6_1 0).f0) _ _ ((rd_T32 x6_1 0).f1) ((rd_T32 x6_1 0).f2) t472 false _ ?side1 ?side2 A25.out).mono ?_); (case side1 => repeat (first | exact (by repeat (first | (with_reducible exact HR471_1.out) | (with_reducible refine Kd.C_alloc ?_ _) | (with_reducible refine Kd.C_drewN ?_ _) | (with_reducible refine Kd.C_drew ?_) | exact HR471_1.out)) | (with_reducible refine Kd.C_alloc ?_ _) | (with_reducible refine Kd.C_drewN ?_ _) | (with_reducible refine Kd.C_drew ?_))); (case side2 => exact HC471_1.out); rintro e w54 ⟨rfl, hb⟩; refine ⟨_, rfl, ?_⟩; have n0_ := Aside0.mk (Kd.V_below (by (with_reducible repeat (first | apply Kd.V_alloc | apply Kd.V_drewN | apply Kd.V_drew)); exact HO_6.out) hb); have n1_ := Aside0.mk (Kd.N_below (by (with_reducible repeat (first | apply Kd.N_alloc | apply Kd.N_drewN | apply Kd.N_drew)); exact HO_466000.out) hb); have n2_ := Aside0.mk (Kd.N_below (by (with_reducible repeat (first | apply Kd.N_alloc | apply Kd.N_drewN | apply Kd.N_drew)); exact HO_466001.out) hb); have n3_ := Aside0.mk (Kd.V_below (by (with_reducible repeat (first | apply Kd.V_alloc | apply Kd.V_drewN | apply Kd.V_drew)); exact HL471_1.out) hb); have n4_ := Aside0.mk (blk_below (g := gb455) (o := .cells #[.slice none 0 0, .slice none 0 0] 54 (0, 0)) (by (with_reducible repeat (first | refine blk_drewN ?_ _ | refine blk_drew ?_ | refine blk_alloc ?_ _)); exact BK455.out) hb); have n5_ := Aside0.mk (blk_below (g := gb465) (o := .cells #[.slice Ao17 t462.length co17, u466001] 54 (0, 0)) (by (with_reducible repeat (first | refine blk_drewN ?_ _ | refine blk_drew ?_ | refine blk_alloc ?_ _)); exact BK465.out) hb); have n6_ := Aside0.mk (Kd.C_below (by repeat (first | (with_reducible exact HR471_1.out) | (with_reducible refine Kd.C_alloc ?_ _) | (with_reducible refine Kd.C_drewN ?_ _) | (with_reducible refine Kd.C_drew ?_) | exact HR471_1.out)) hb); have n7_ := Aside0.mk (below_step (by repeat (first | (with_reducible first | exact HB.out | apply below_alloc | apply pw_below_drewN | apply below_drew1 | refine below_set ?_ GE455.out | refine below_set ?_ GE465.out) | exact HB.out)) hb); clear HO_6; clear HO_466000; clear HO_466001; clear HL471_1; clear BK455; clear BK465; clear HR471_1; clear HB; have HO_6 := n0_; have HO_466000 := n1_; have HO_466001 := n2_; have HL471_1 := n3_; have BK455 := n4_; have BK465 := n5_; have HR471_1 := n6_; have HB := n7_; clear n0_ n1_ n2_ n3_ n4_ n5_ n6_ n7_; (try clear hb); (try clear hb2); (try clear hk); (try clear hi)) | ((with_reducible refine gate_callee (f := 73) rfl ?_); refine goesL_ (some 36) rfl rfl Try.func73 (by kernel_rfl) rfl #[.slice (some ad471) x6_1.length co53, .func (.func 77) #[] #[]] rfl (by (try simp only [List.map_toArray, List.map_cons, List.map_nil]); first | done | rfl | (simp only [List.length_drop, List.length_take]; rfl)) ?_; (with_reducible refine (IndexFunc_back.calls k1 _ _ x6_1  t474 _ ?side1 ?side2 A26.out).mono ?_); (case side1 => repeat (first | exact (Kd.V_reads' HO_6.out).2.2 | (with_reducible refine Kd.C_alloc ?_ _) | (with_reducible refine Kd.C_drewN ?_ _) | (with_reducible refine Kd.C_drew ?_))); (case side2 => exact (Kd.V_reads' HO_6.out).2.1); rintro e w55 ⟨rfl, hb⟩; refine ⟨_, rfl, ?_⟩; have n0_ := Aside0.mk (Kd.V_below (by (with_reducible repeat (first | apply Kd.V_alloc | apply Kd.V_drewN | apply Kd.V_drew)); exact HO_6.out) hb); have n1_ := Aside0.mk (Kd.N_below (by (with_reducible repeat (first | apply Kd.N_alloc | apply Kd.N_drewN | apply Kd.N_drew)); exact HO_466000.out) hb); have n2_ := Aside0.mk (Kd.N_below (by (with_reducible repeat (first | apply Kd.N_alloc | apply Kd.N_drewN | apply Kd.N_drew)); exact HO_466001.out) hb); have n3_ := Aside0.mk (Kd.V_below (by (with_reducible repeat (first | apply Kd.V_alloc | apply Kd.V_drewN | apply Kd.V_drew)); exact HL471_1.out) hb); have n4_ := Aside0.mk (blk_below (g := gb455) (o := .cells #[.slice none 0 0, .slice none 0 0] 54 (0, 0)) (by (with_reducible repeat (first | refine blk_drewN ?_ _ | refine blk_drew ?_ | refine blk_alloc ?_ _)); exact BK455.out) hb); have n5_ := Aside0.mk (blk_below (g := gb465) (o := .cells #[.slice Ao17 t462.length co17, u466001] 54 (0, 0)) (by (with_reducible repeat (first | refine blk_drewN ?_ _ | refine blk_drew ?_ | refine blk_alloc ?_ _)); exact BK465.out) hb); have n6_ := Aside0.mk (Kd.C_below (by repeat (first | (with_reducible exact HR471_1.out) | (with_reducible refine Kd.C_alloc ?_ _) | (with_reducible refine Kd.C_drewN ?_ _) | (with_reducible refine Kd.C_drew ?_) | exact HR471_1.out)) hb); have n7_ := Aside0.mk (below_step (by repeat (first | (with_reducible first | exact HB.out | apply below_alloc | apply pw_below_drewN | apply below_drew1 | refine below_set ?_ GE455.out | refine below_set ?_ GE465.out) | exact HB.out)) hb); clear HO_6; clear HO_466000; clear HO_466001; clear HL471_1; clear BK455; clear BK465; clear HR471_1; clear HB; have HO_6 := n0_; have HO_466000 := n1_; have HO_466001 := n2_; have HL471_1 := n3_; have BK455 := n4_; have BK465 := n5_; have HR471_1 := n6_; have HB := n7_; clear n0_ n1_ n2_ n3_ n4_ n5_ n6_ n7_; (try clear hb); (try clear hb2); (try clear hk); (try clear hi); have hnb56 := NB455_465.out; have hnc56 := NB465_455.out; have hcz57_0 : w55.cell? ⟨gb455, 0, none⟩ = some (.slice none 0 0) := (blk_cell BK455.out 0).trans rfl; have hcz57_1 : w55.cell? ⟨gb455, 1, none⟩ = some (.slice none 0 0) := (blk_cell BK455.out 1).trans rfl; have hfz57_0 := blk_frozen BK455.out 0; have hfz57_1 := blk_frozen BK455.out 1))
         refine bodyPost_ret (results_ct rfl _ _ gb455 54 #[.slice none 0 0, .slice none 0 0] (0, 0) _ rfl (by (with_reducible repeat (first | refine blk_drewN ?_ _ | refine blk_drew ?_ | refine blk_alloc ?_ _)); refine blk_put (cs := #[.slice none 0 0, .slice none 0 0]) ?_ 1 _ rfl; (with_reducible repeat (first | refine blk_drewN ?_ _ | refine blk_drew ?_ | refine blk_alloc ?_ _)); refine blk_put (cs := #[.slice none 0 0, .slice none 0 0]) ?_ 0 _ rfl; (with_reducible repeat (first | refine blk_drewN ?_ _ | refine blk_drew ?_ | refine blk_alloc ?_ _)); exact BK455.out) Try.underlying54 rfl (by kernel_rfl)) rfl ?_
         exact ⟨_, _, by first | rfl | (simp [errW_none, errW_some] <;> rfl) | (simp only [← hji7]; first | rfl | (simp [errW_none, errW_some] <;> rfl)) | (simp [*, errW_none, errW_some] <;> rfl), by first | exact Kd.S_nil _ _ _ _ _ | exact Kd.N_nil _ _ _ _ _ | exact Kd.V_nil _ _ _ _ _ | exact Kd.Q_nil _ _ _ _ _ | exact Kd.R_nil _ _ _ _ _, by first | exact Kd.R_nil _ _ _ _ _ | exact Kd.N_nil _ _ _ _ _ | exact Kd.V_nil _ _ _ _ _ | exact Kd.Q_nil _ _ _ _ _ | exact Kd.S_nil _ _ _ _ _, by repeat (first | (with_reducible first | exact HB.out | apply below_alloc | apply pw_below_drewN | apply below_drew1 | refine below_set ?_ GE455.out | refine below_set ?_ GE465.out) | exact HB.out)⟩
       ·rw [if_neg c24] at H
        exact absurd H (by simp)
      ·rw [if_neg c23] at H
       have c23b0 : decide (0 < (x6_1.length : Int)) = false := decide_eq_false c23
       have c23b1 : decide (0 < x6_1.length) = false := decide_eq_false (by omega)
       clear c23
       replace H := Option.bind_eq_some_iff.mp H
       obtain ⟨t491, A580, H⟩ := H
       replace H : (if t491 = true then ((subprogram_repeated.f x466001_1).bind fun t492 => (if t492 = true then (some (([] : List (S32)), ([] : List (S81)), 5)) else (some (t462, x466001_1, 0)))) else (some (([] : List (S32)), ([] : List (S81)), 1))) = some (r1, r2, r3) := H
       have A58 := Aside0.mk A580
       clear A580
       by_cases c59 : t491 = true
       ·subst c59
        have H1 : ((subprogram_repeated.f x466001_1).bind fun t492 => (if t492 = true then (some (([] : List (S32)), ([] : List (S81)), 5)) else (some (t462, x466001_1, 0)))) = some (r1, r2, r3) := by rw [if_pos rfl] at H; exact H
        clear H
        have H := H1
        clear H1
        replace H := Option.bind_eq_some_iff.mp H
        obtain ⟨t492, A600, H⟩ := H
        replace H : (if t492 = true then (some (([] : List (S32)), ([] : List (S81)), 5)) else (some (t462, x466001_1, 0))) = some (r1, r2, r3) := H
        have A60 := Aside0.mk A600
        clear A600
        by_cases c61 : t492 = true
        ·subst c61
         have H1 : (some (([] : List (S32)), ([] : List (S81)), 5)) = some (r1, r2, r3) := by rw [if_pos rfl] at H; exact H
         clear H
         have H := H1
         clear H1
         simp only [Option.some.injEq, Prod.mk.injEq] at H
         obtain ⟨rfl, rfl, rfl⟩ := H
         obtain ⟨Ao62, co62, eo62⟩ := Kd.V_slice HO_6.out
         subst eo62
         have hnb63 := NB465_455.out
         have hnc63 := NB455_465.out
         have hcz64_0 : wr.cell? ⟨gb465, 0, none⟩ = some (.slice Ao17 t462.length co17) := (blk_cell BK465.out 0).trans rfl
         have hcz64_1 : wr.cell? ⟨gb465, 1, none⟩ = some (u466001) := (blk_cell BK465.out 1).trans rfl
         have hfz64_0 := blk_frozen BK465.out 0
         have hfz64_1 := blk_frozen BK465.out 1
         obtain ⟨Ao65, co65, eo65⟩ := Kd.N_slice HO_466001.out
         subst eo65
         go_wp2_with (first | ((with_reducible refine gate_callee (f := 79) rfl ?_); refine goesL_ (some 60) rfl rfl Try.func79 (by kernel_rfl) rfl #[.agg #[.slice Ao17 t462.length co17, .slice Ao65 x466001_1.length co65]] rfl (by (try simp only [List.map_toArray, List.map_cons, List.map_nil]); first | done | rfl | (simp only [List.length_drop, List.length_take]; rfl)) ?_; (with_reducible refine (subprogram_ordered.calls k1 _ _ t462 _ _ x466001_1 true _ ?side1 ?side2 ?side3 ?side4 A58.out).mono ?_); (case side1 => repeat (first | exact (Kd.N_reads' HO_466000.out).2.2 | (with_reducible refine Kd.C_alloc ?_ _) | (with_reducible refine Kd.C_drewN ?_ _) | (with_reducible refine Kd.C_drew ?_))); (case side2 => exact (Kd.N_reads' HO_466000.out).2.1); (case side3 => repeat (first | exact (Kd.N_reads' HO_466001.out).2.2 | (with_reducible refine Kd.C_alloc ?_ _) | (with_reducible refine Kd.C_drewN ?_ _) | (with_reducible refine Kd.C_drew ?_))); (case side4 => exact (Kd.N_reads' HO_466001.out).2.1); rintro e w66 ⟨rfl, hb⟩; refine ⟨_, rfl, ?_⟩; have n0_ := Aside0.mk (Kd.V_below (by (with_reducible repeat (first | apply Kd.V_alloc | apply Kd.V_drewN | apply Kd.V_drew)); exact HO_6.out) hb); have n1_ := Aside0.mk (Kd.N_below (by (with_reducible repeat (first | apply Kd.N_alloc | apply Kd.N_drewN | apply Kd.N_drew)); exact HO_466000.out) hb); have n2_ := Aside0.mk (Kd.N_below (by (with_reducible repeat (first | apply Kd.N_alloc | apply Kd.N_drewN | apply Kd.N_drew)); exact HO_466001.out) hb); have n3_ := Aside0.mk (blk_below (g := gb455) (o := .cells #[.slice none 0 0, .slice none 0 0] 54 (0, 0)) (by (with_reducible repeat (first | refine blk_drewN ?_ _ | refine blk_drew ?_ | refine blk_alloc ?_ _)); exact BK455.out) hb); have n4_ := Aside0.mk (blk_below (g := gb465) (o := .cells #[.slice Ao17 t462.length co17, .slice Ao65 x466001_1.length co65] 54 (0, 0)) (by (with_reducible repeat (first | refine blk_drewN ?_ _ | refine blk_drew ?_ | refine blk_alloc ?_ _)); exact BK465.out) hb); have n5_ := Aside0.mk (below_step (by repeat (first | (with_reducible first | exact HB.out | apply below_alloc | apply pw_below_drewN | apply below_drew1 | refine below_set ?_ GE455.out | refine below_set ?_ GE465.out) | exact HB.out)) hb); clear HO_6; clear HO_466000; clear HO_466001; clear BK455; clear BK465; clear HB; have HO_6 := n0_; have HO_466000 := n1_; have HO_466001 := n2_; have BK455 := n3_; have BK465 := n4_; have HB := n5_; clear n0_ n1_ n2_ n3_ n4_ n5_; (try clear hb); (try clear hb2); (try clear hk); (try clear hi); have hcz67_0 : w66.cell? ⟨gb465, 0, none⟩ = some (.slice Ao17 t462.length co17) := (blk_cell BK465.out 0).trans rfl; have hcz67_1 : w66.cell? ⟨gb465, 1, none⟩ = some (.slice Ao65 x466001_1.length co65) := (blk_cell BK465.out 1).trans rfl; have hfz67_0 := blk_frozen BK465.out 0; have hfz67_1 := blk_frozen BK465.out 1) | ((with_reducible refine gate_callee (f := 80) rfl ?_); refine goesL_ (some 65) rfl rfl Try.func80 (by kernel_rfl) rfl #[.slice Ao65 x466001_1.length co65] rfl (by (try simp only [List.map_toArray, List.map_cons, List.map_nil]); first | done | rfl | (simp only [List.length_drop, List.length_take]; rfl)) ?_; (with_reducible refine (subprogram_repeated.calls _ _ x466001_1 true _ ?side1 ?side2 A60.out).mono ?_); (case side1 => repeat (first | exact (Kd.N_reads' HO_466001.out).2.2 | (with_reducible refine Kd.C_alloc ?_ _) | (with_reducible refine Kd.C_drewN ?_ _) | (with_reducible refine Kd.C_drew ?_))); (case side2 => exact (Kd.N_reads' HO_466001.out).2.1); rintro e w68 ⟨rfl, hb⟩; refine ⟨_, rfl, ?_⟩; have n0_ := Aside0.mk (Kd.V_below (by (with_reducible repeat (first | apply Kd.V_alloc | apply Kd.V_drewN | apply Kd.V_drew)); exact HO_6.out) hb); have n1_ := Aside0.mk (Kd.N_below (by (with_reducible repeat (first | apply Kd.N_alloc | apply Kd.N_drewN | apply Kd.N_drew)); exact HO_466000.out) hb); have n2_ := Aside0.mk (Kd.N_below (by (with_reducible repeat (first | apply Kd.N_alloc | apply Kd.N_drewN | apply Kd.N_drew)); exact HO_466001.out) hb); have n3_ := Aside0.mk (blk_below (g := gb455) (o := .cells #[.slice none 0 0, .slice none 0 0] 54 (0, 0)) (by (with_reducible repeat (first | refine blk_drewN ?_ _ | refine blk_drew ?_ | refine blk_alloc ?_ _)); exact BK455.out) hb); have n4_ := Aside0.mk (blk_below (g := gb465) (o := .cells #[.slice Ao17 t462.length co17, .slice Ao65 x466001_1.length co65] 54 (0, 0)) (by (with_reducible repeat (first | refine blk_drewN ?_ _ | refine blk_drew ?_ | refine blk_alloc ?_ _)); exact BK465.out) hb); have n5_ := Aside0.mk (below_step (by repeat (first | (with_reducible first | exact HB.out | apply below_alloc | apply pw_below_drewN | apply below_drew1 | refine below_set ?_ GE455.out | refine below_set ?_ GE465.out) | exact HB.out)) hb); clear HO_6; clear HO_466000; clear HO_466001; clear BK455; clear BK465; clear HB; have HO_6 := n0_; have HO_466000 := n1_; have HO_466001 := n2_; have BK455 := n3_; have BK465 := n4_; have HB := n5_; clear n0_ n1_ n2_ n3_ n4_ n5_; (try clear hb); (try clear hb2); (try clear hk); (try clear hi); have hcz69_0 : w68.cell? ⟨gb455, 0, none⟩ = some (.slice none 0 0) := (blk_cell BK455.out 0).trans rfl; have hcz69_1 : w68.cell? ⟨gb455, 1, none⟩ = some (.slice none 0 0) := (blk_cell BK455.out 1).trans rfl; have hfz69_0 := blk_frozen BK455.out 0; have hfz69_1 := blk_frozen BK455.out 1))
         refine bodyPost_ret (results_ct rfl _ _ gb455 54 #[.slice none 0 0, .slice none 0 0] (0, 0) _ rfl (by (with_reducible repeat (first | refine blk_drewN ?_ _ | refine blk_drew ?_ | refine blk_alloc ?_ _)); refine blk_put (cs := #[.slice none 0 0, .slice none 0 0]) ?_ 1 _ rfl; (with_reducible repeat (first | refine blk_drewN ?_ _ | refine blk_drew ?_ | refine blk_alloc ?_ _)); refine blk_put (cs := #[.slice none 0 0, .slice none 0 0]) ?_ 0 _ rfl; (with_reducible repeat (first | refine blk_drewN ?_ _ | refine blk_drew ?_ | refine blk_alloc ?_ _)); exact BK455.out) Try.underlying54 rfl (by kernel_rfl)) rfl ?_
         exact ⟨_, _, by first | rfl | (simp [errW_none, errW_some] <;> rfl) | (simp only [← hji7]; first | rfl | (simp [errW_none, errW_some] <;> rfl)) | (simp [*, errW_none, errW_some] <;> rfl), by first | exact Kd.S_nil _ _ _ _ _ | exact Kd.N_nil _ _ _ _ _ | exact Kd.V_nil _ _ _ _ _ | exact Kd.Q_nil _ _ _ _ _ | exact Kd.R_nil _ _ _ _ _, by first | exact Kd.R_nil _ _ _ _ _ | exact Kd.N_nil _ _ _ _ _ | exact Kd.V_nil _ _ _ _ _ | exact Kd.Q_nil _ _ _ _ _ | exact Kd.S_nil _ _ _ _ _, by repeat (first | (with_reducible first | exact HB.out | apply below_alloc | apply pw_below_drewN | apply below_drew1 | refine below_set ?_ GE455.out | refine below_set ?_ GE465.out) | exact HB.out)⟩
        ·replace c61 := Bool.eq_false_iff.mpr c61
         subst c61
         have H1 : (some (t462, x466001_1, 0)) = some (r1, r2, r3) := by rw [if_neg (show ¬ (false = true) by decide)] at H; exact H
         clear H
         have H := H1
         clear H1
         simp only [Option.some.injEq, Prod.mk.injEq] at H
         obtain ⟨rfl, rfl, rfl⟩ := H
         obtain ⟨Ao70, co70, eo70⟩ := Kd.V_slice HO_6.out
         subst eo70
         have hnb71 := NB465_455.out
         have hnc71 := NB455_465.out
         have hcz72_0 : wr.cell? ⟨gb465, 0, none⟩ = some (.slice Ao17 t462.length co17) := (blk_cell BK465.out 0).trans rfl
         have hcz72_1 : wr.cell? ⟨gb465, 1, none⟩ = some (u466001) := (blk_cell BK465.out 1).trans rfl
         have hfz72_0 := blk_frozen BK465.out 0
         have hfz72_1 := blk_frozen BK465.out 1
         obtain ⟨Ao73, co73, eo73⟩ := Kd.N_slice HO_466001.out
         subst eo73
         go_wp2_with (first | ((with_reducible refine gate_callee (f := 79) rfl ?_); refine goesL_ (some 60) rfl rfl Try.func79 (by kernel_rfl) rfl #[.agg #[.slice Ao17 t462.length co17, .slice Ao73 x466001_1.length co73]] rfl (by (try simp only [List.map_toArray, List.map_cons, List.map_nil]); first | done | rfl | (simp only [List.length_drop, List.length_take]; rfl)) ?_; (with_reducible refine (subprogram_ordered.calls k1 _ _ t462 _ _ x466001_1 true _ ?side1 ?side2 ?side3 ?side4 A58.out).mono ?_); (case side1 => repeat (first | exact (Kd.N_reads' HO_466000.out).2.2 | (with_reducible refine Kd.C_alloc ?_ _) | (with_reducible refine Kd.C_drewN ?_ _) | (with_reducible refine Kd.C_drew ?_))); (case side2 => exact (Kd.N_reads' HO_466000.out).2.1); (case side3 => repeat (first | exact (Kd.N_reads' HO_466001.out).2.2 | (with_reducible refine Kd.C_alloc ?_ _) | (with_reducible refine Kd.C_drewN ?_ _) | (with_reducible refine Kd.C_drew ?_))); (case side4 => exact (Kd.N_reads' HO_466001.out).2.1); rintro e w74 ⟨rfl, hb⟩; refine ⟨_, rfl, ?_⟩; have n0_ := Aside0.mk (Kd.V_below (by (with_reducible repeat (first | apply Kd.V_alloc | apply Kd.V_drewN | apply Kd.V_drew)); exact HO_6.out) hb); have n1_ := Aside0.mk (Kd.N_below (by (with_reducible repeat (first | apply Kd.N_alloc | apply Kd.N_drewN | apply Kd.N_drew)); exact HO_466000.out) hb); have n2_ := Aside0.mk (Kd.N_below (by (with_reducible repeat (first | apply Kd.N_alloc | apply Kd.N_drewN | apply Kd.N_drew)); exact HO_466001.out) hb); have n3_ := Aside0.mk (blk_below (g := gb455) (o := .cells #[.slice none 0 0, .slice none 0 0] 54 (0, 0)) (by (with_reducible repeat (first | refine blk_drewN ?_ _ | refine blk_drew ?_ | refine blk_alloc ?_ _)); exact BK455.out) hb); have n4_ := Aside0.mk (blk_below (g := gb465) (o := .cells #[.slice Ao17 t462.length co17, .slice Ao73 x466001_1.length co73] 54 (0, 0)) (by (with_reducible repeat (first | refine blk_drewN ?_ _ | refine blk_drew ?_ | refine blk_alloc ?_ _)); exact BK465.out) hb); have n5_ := Aside0.mk (below_step (by repeat (first | (with_reducible first | exact HB.out | apply below_alloc | apply pw_below_drewN | apply below_drew1 | refine below_set ?_ GE455.out | refine below_set ?_ GE465.out) | exact HB.out)) hb); clear HO_6; clear HO_466000; clear HO_466001; clear BK455; clear BK465; clear HB; have HO_6 := n0_; have HO_466000 := n1_; have HO_466001 := n2_; have BK455 := n3_; have BK465 := n4_; have HB := n5_; clear n0_ n1_ n2_ n3_ n4_ n5_; (try clear hb); (try clear hb2); (try clear hk); (try clear hi); have hcz75_0 : w74.cell? ⟨gb465, 0, none⟩ = some (.slice Ao17 t462.length co17) := (blk_cell BK465.out 0).trans rfl; have hcz75_1 : w74.cell? ⟨gb465, 1, none⟩ = some (.slice Ao73 x466001_1.length co73) := (blk_cell BK465.out 1).trans rfl; have hfz75_0 := blk_frozen BK465.out 0; have hfz75_1 := blk_frozen BK465.out 1) | ((with_reducible refine gate_callee (f := 80) rfl ?_); refine goesL_ (some 65) rfl rfl Try.func80 (by kernel_rfl) rfl #[.slice Ao73 x466001_1.length co73] rfl (by (try simp only [List.map_toArray, List.map_cons, List.map_nil]); first | done | rfl | (simp only [List.length_drop, List.length_take]; rfl)) ?_; (with_reducible refine (subprogram_repeated.calls _ _ x466001_1 false _ ?side1 ?side2 A60.out).mono ?_); (case side1 => repeat (first | exact (Kd.N_reads' HO_466001.out).2.2 | (with_reducible refine Kd.C_alloc ?_ _) | (with_reducible refine Kd.C_drewN ?_ _) | (with_reducible refine Kd.C_drew ?_))); (case side2 => exact (Kd.N_reads' HO_466001.out).2.1); rintro e w76 ⟨rfl, hb⟩; refine ⟨_, rfl, ?_⟩; have n0_ := Aside0.mk (Kd.V_below (by (with_reducible repeat (first | apply Kd.V_alloc | apply Kd.V_drewN | apply Kd.V_drew)); exact HO_6.out) hb); have n1_ := Aside0.mk (Kd.N_below (by (with_reducible repeat (first | apply Kd.N_alloc | apply Kd.N_drewN | apply Kd.N_drew)); exact HO_466000.out) hb); have n2_ := Aside0.mk (Kd.N_below (by (with_reducible repeat (first | apply Kd.N_alloc | apply Kd.N_drewN | apply Kd.N_drew)); exact HO_466001.out) hb); have n3_ := Aside0.mk (blk_below (g := gb455) (o := .cells #[.slice none 0 0, .slice none 0 0] 54 (0, 0)) (by (with_reducible repeat (first | refine blk_drewN ?_ _ | refine blk_drew ?_ | refine blk_alloc ?_ _)); exact BK455.out) hb); have n4_ := Aside0.mk (blk_below (g := gb465) (o := .cells #[.slice Ao17 t462.length co17, .slice Ao73 x466001_1.length co73] 54 (0, 0)) (by (with_reducible repeat (first | refine blk_drewN ?_ _ | refine blk_drew ?_ | refine blk_alloc ?_ _)); exact BK465.out) hb); have n5_ := Aside0.mk (below_step (by repeat (first | (with_reducible first | exact HB.out | apply below_alloc | apply pw_below_drewN | apply below_drew1 | refine below_set ?_ GE455.out | refine below_set ?_ GE465.out) | exact HB.out)) hb); clear HO_6; clear HO_466000; clear HO_466001; clear BK455; clear BK465; clear HB; have HO_6 := n0_; have HO_466000 := n1_; have HO_466001 := n2_; have BK455 := n3_; have BK465 := n4_; have HB := n5_; clear n0_ n1_ n2_ n3_ n4_ n5_; (try clear hb); (try clear hb2); (try clear hk); (try clear hi); have hcz77_0 : w76.cell? ⟨gb465, 0, none⟩ = some (.slice Ao17 t462.length co17) := (blk_cell BK465.out 0).trans rfl; have hcz77_1 : w76.cell? ⟨gb465, 1, none⟩ = some (.slice Ao73 x466001_1.length co73) := (blk_cell BK465.out 1).trans rfl; have hfz77_0 := blk_frozen BK465.out 0; have hfz77_1 := blk_frozen BK465.out 1; have hcz78_0 : w76.cell? ⟨gb455, 0, none⟩ = some (.slice none 0 0) := (blk_cell BK455.out 0).trans rfl; have hcz78_1 : w76.cell? ⟨gb455, 1, none⟩ = some (.slice none 0 0) := (blk_cell BK455.out 1).trans rfl; have hfz78_0 := blk_frozen BK455.out 0; have hfz78_1 := blk_frozen BK455.out 1))
         refine bodyPost_ret (results_ct rfl _ _ gb455 54 #[.slice Ao17 t462.length co17, .slice Ao73 x466001_1.length co73] (0, 0) _ rfl (by (with_reducible repeat (first | refine blk_drewN ?_ _ | refine blk_drew ?_ | refine blk_alloc ?_ _)); refine blk_put (cs := #[.slice Ao17 t462.length co17, .slice none 0 0]) ?_ 1 _ rfl; (with_reducible repeat (first | refine blk_drewN ?_ _ | refine blk_drew ?_ | refine blk_alloc ?_ _)); refine blk_put (cs := #[.slice none 0 0, .slice none 0 0]) ?_ 0 _ rfl; (with_reducible repeat (first | refine blk_drewN ?_ _ | refine blk_drew ?_ | refine blk_alloc ?_ _)); exact BK455.out) Try.underlying54 rfl (by kernel_rfl)) rfl ?_
         exact ⟨_, _, by first | rfl | (simp [errW_none, errW_some] <;> rfl) | (simp only [← hji7]; first | rfl | (simp [errW_none, errW_some] <;> rfl)) | (simp [*, errW_none, errW_some] <;> rfl), by (with_reducible repeat (first | apply Kd.N_alloc | apply Kd.N_drewN | apply Kd.N_drew)); exact Kd.N_mono (Kd.N_far (p := ⟨gb455, 1, none⟩) (Kd.N_far (p := ⟨gb455, 0, none⟩) (Kd.N_mono HO_466000.out (fun k_ hk => (⟨hk, hk.2.2.1⟩ : _ ∧ k_ ≠ gb455))) (fun _ hk => hk.2) (.slice Ao17 t462.length co17)) (fun _ hk => hk.2) (.slice Ao73 x466001_1.length co73)) (fun _ hk => ⟨hk.1.1, hk.1.2.1⟩), by (with_reducible repeat (first | apply Kd.N_alloc | apply Kd.N_drewN | apply Kd.N_drew)); exact Kd.N_mono (Kd.N_far (p := ⟨gb455, 1, none⟩) (Kd.N_far (p := ⟨gb455, 0, none⟩) (Kd.N_mono HO_466001.out (fun k_ hk => (⟨hk, hk.2.2.1⟩ : _ ∧ k_ ≠ gb455))) (fun _ hk => hk.2) (.slice Ao17 t462.length co17)) (fun _ hk => hk.2) (.slice Ao73 x466001_1.length co73)) (fun _ hk => ⟨hk.1.1, hk.1.2.1⟩), by repeat (first | (with_reducible first | exact HB.out | apply below_alloc | apply pw_below_drewN | apply below_drew1 | refine below_set ?_ GE455.out | refine below_set ?_ GE465.out) | exact HB.out)⟩
       ·replace c59 := Bool.eq_false_iff.mpr c59
        subst c59
        have H1 : (some (([] : List (S32)), ([] : List (S81)), 1)) = some (r1, r2, r3) := by rw [if_neg (show ¬ (false = true) by decide)] at H; exact H
        clear H
        have H := H1
        clear H1
        simp only [Option.some.injEq, Prod.mk.injEq] at H
        obtain ⟨rfl, rfl, rfl⟩ := H
        obtain ⟨Ao79, co79, eo79⟩ := Kd.V_slice HO_6.out
        subst eo79
        have hnb80 := NB465_455.out
        have hnc80 := NB455_465.out
        have hcz81_0 : wr.cell? ⟨gb465, 0, none⟩ = some (.slice Ao17 t462.length co17) := (blk_cell BK465.out 0).trans rfl
        have hcz81_1 : wr.cell? ⟨gb465, 1, none⟩ = some (u466001) := (blk_cell BK465.out 1).trans rfl
        have hfz81_0 := blk_frozen BK465.out 0
        have hfz81_1 := blk_frozen BK465.out 1
        obtain ⟨Ao82, co82, eo82⟩ := Kd.N_slice HO_466001.out
        subst eo82
        go_wp2_with (first | ((with_reducible refine gate_callee (f := 79) rfl ?_); refine goesL_ (some 60) rfl rfl Try.func79 (by kernel_rfl) rfl #[.agg #[.slice Ao17 t462.length co17, .slice Ao82 x466001_1.length co82]] rfl (by (try simp only [List.map_toArray, List.map_cons, List.map_nil]); first | done | rfl | (simp only [List.length_drop, List.length_take]; rfl)) ?_; (with_reducible refine (subprogram_ordered.calls k1 _ _ t462 _ _ x466001_1 false _ ?side1 ?side2 ?side3 ?side4 A58.out).mono ?_); (case side1 => repeat (first | exact (Kd.N_reads' HO_466000.out).2.2 | (with_reducible refine Kd.C_alloc ?_ _) | (with_reducible refine Kd.C_drewN ?_ _) | (with_reducible refine Kd.C_drew ?_))); (case side2 => exact (Kd.N_reads' HO_466000.out).2.1); (case side3 => repeat (first | exact (Kd.N_reads' HO_466001.out).2.2 | (with_reducible refine Kd.C_alloc ?_ _) | (with_reducible refine Kd.C_drewN ?_ _) | (with_reducible refine Kd.C_drew ?_))); (case side4 => exact (Kd.N_reads' HO_466001.out).2.1); rintro e w83 ⟨rfl, hb⟩; refine ⟨_, rfl, ?_⟩; have n0_ := Aside0.mk (Kd.V_below (by (with_reducible repeat (first | apply Kd.V_alloc | apply Kd.V_drewN | apply Kd.V_drew)); exact HO_6.out) hb); have n1_ := Aside0.mk (Kd.N_below (by (with_reducible repeat (first | apply Kd.N_alloc | apply Kd.N_drewN | apply Kd.N_drew)); exact HO_466000.out) hb); have n2_ := Aside0.mk (Kd.N_below (by (with_reducible repeat (first | apply Kd.N_alloc | apply Kd.N_drewN | apply Kd.N_drew)); exact HO_466001.out) hb); have n3_ := Aside0.mk (blk_below (g := gb455) (o := .cells #[.slice none 0 0, .slice none 0 0] 54 (0, 0)) (by (with_reducible repeat (first | refine blk_drewN ?_ _ | refine blk_drew ?_ | refine blk_alloc ?_ _)); exact BK455.out) hb); have n4_ := Aside0.mk (blk_below (g := gb465) (o := .cells #[.slice Ao17 t462.length co17, .slice Ao82 x466001_1.length co82] 54 (0, 0)) (by (with_reducible repeat (first | refine blk_drewN ?_ _ | refine blk_drew ?_ | refine blk_alloc ?_ _)); exact BK465.out) hb); have n5_ := Aside0.mk (below_step (by repeat (first | (with_reducible first | exact HB.out | apply below_alloc | apply pw_below_drewN | apply below_drew1 | refine below_set ?_ GE455.out | refine below_set ?_ GE465.out) | exact HB.out)) hb); clear HO_6; clear HO_466000; clear HO_466001; clear BK455; clear BK465; clear HB; have HO_6 := n0_; have HO_466000 := n1_; have HO_466001 := n2_; have BK455 := n3_; have BK465 := n4_; have HB := n5_; clear n0_ n1_ n2_ n3_ n4_ n5_; (try clear hb); (try clear hb2); (try clear hk); (try clear hi); have hcz84_0 : w83.cell? ⟨gb455, 0, none⟩ = some (.slice none 0 0) := (blk_cell BK455.out 0).trans rfl; have hcz84_1 : w83.cell? ⟨gb455, 1, none⟩ = some (.slice none 0 0) := (blk_cell BK455.out 1).trans rfl; have hfz84_0 := blk_frozen BK455.out 0; have hfz84_1 := blk_frozen BK455.out 1))
        refine bodyPost_ret (results_ct rfl _ _ gb455 54 #[.slice none 0 0, .slice none 0 0] (0, 0) _ rfl (by (with_reducible repeat (first | refine blk_drewN ?_ _ | refine blk_drew ?_ | refine blk_alloc ?_ _)); refine blk_put (cs := #[.slice none 0 0, .slice none 0 0]) ?_ 1 _ rfl; (with_reducible repeat (first | refine blk_drewN ?_ _ | refine blk_drew ?_ | refine blk_alloc ?_ _)); refine blk_put (cs := #[.slice none 0 0, .slice none 0 0]) ?_ 0 _ rfl; (with_reducible repeat (first | refine blk_drewN ?_ _ | refine blk_drew ?_ | refine blk_alloc ?_ _)); exact BK455.out) Try.underlying54 rfl (by kernel_rfl)) rfl ?_
        exact ⟨_, _, by first | rfl | (simp [errW_none, errW_some] <;> rfl) | (simp only [← hji7]; first | rfl | (simp [errW_none, errW_some] <;> rfl)) | (simp [*, errW_none, errW_some] <;> rfl), by first | exact Kd.S_nil _ _ _ _ _ | exact Kd.N_nil _ _ _ _ _ | exact Kd.V_nil _ _ _ _ _ | exact Kd.Q_nil _ _ _ _ _ | exact Kd.R_nil _ _ _ _ _, by first | exact Kd.R_nil _ _ _ _ _ | exact Kd.N_nil _ _ _ _ _ | exact Kd.V_nil _ _ _ _ _ | exact Kd.Q_nil _ _ _ _ _ | exact Kd.S_nil _ _ _ _ _, by repeat (first | (with_reducible first | exact HB.out | apply below_alloc | apply pw_below_drewN | apply below_drew1 | refine below_set ?_ GE455.out | refine below_set ?_ GE465.out) | exact HB.out)⟩
   ·rw [if_neg c9] at H
    exact absurd H (by simp)
  ·rw [if_neg c8] at H
   exact absurd H (by simp)
end Go.Proofs.Ytehkhbnhmehobaa.P
namespace Go.Proofs.Ytehkhbnhmehobaa.P
open Go.RowKit Go.Proofs.YtehkhbnhmehobaaW.PrintWords Go.Proofs.YtehkhbnhmehobaaW.PrintLast Go.Proofs.YtehkhbnhmehobaaW.PrintMore
attribute [local go_sem] max2_int min2_int max_two min_two max_three min_three max_four min_four
set_option linter.unusedVariables false
set_option linter.unusedSimpArgs false
def subprogram_foldable.f (k : Nat) (a0_0 : Bool) (l0_1 : List (S78)) (a0_2 : ByteArray) : Option (Bool) := (subprogram_marked.f k a0_0 l0_1 a0_2).bind fun t399 => (if t399 = true then (some false) else ((block_Codes.f k a0_0 l0_1 a0_2 78).bind fun t400 => (if (t400.length : Int) = 0 then ((subprogram_has.f k a0_0 l0_1 a0_2 77 98000).bind fun t403 => (some (!t403))) else (some false))))
theorem subprogram_foldable.mono : ∀ a0 a1 a2 k, LeO (subprogram_foldable.f k a0 a1 a2) (subprogram_foldable.f (k + 1) a0 a1 a2) := by
 intro a0 a1 a2 k
 unfold subprogram_foldable.f
 repeat' first
   | (with_reducible exact block_Codes.mono _ _ _ _ _)
   | (with_reducible exact subprogram_has.mono _ _ _ _ _ _)
   | (with_reducible exact subprogram_marked.mono _ _ _ _)
   | (with_reducible exact LeO.refl _)
   | (with_reducible exact LeO.none _)
   | (with_reducible refine LeO.ite ?_ ?_)
   | (with_reducible refine LeO.bind ?_ (fun _ => ?_))
   | exact block_Codes.mono _ _ _ _ _
   | exact subprogram_has.mono _ _ _ _ _ _
   | exact subprogram_marked.mono _ _ _ _
   | exact LeO.none _
   | refine LeO.ite ?_ ?_
   | refine LeO.bind ?_ (fun _ => ?_)
set_option maxHeartbeats 8000000 in
set_option maxRecDepth 100000 in
theorem subprogram_foldable.calls (k : Nat) (a0_0 : Bool) (A0_1 : Option Addr) (c0_1 : Nat) (l0_1 : List (S78)) (a0_2 : ByteArray) (r : Bool) (w : World) (hr0_1 : Kd.C k78 w A0_1 l0_1.length l0_1) (hc0_1 : l0_1.length ≤ c0_1) (h : subprogram_foldable.f k a0_0 l0_1 a0_2 = some r) :
  Calls Try.prog 96 #[.agg #[.bool a0_0, .slice A0_1 l0_1.length c0_1, .string a0_2]] w fun e w' => e = .returned (.bool r) ∧ Below w.heap.size w w' := by
 have hu32 := Try.underlying32
 have HR0_1 := Aside0.mk hr0_1
 have HC0_1 := Aside0.mk hc0_1
 clear hr0_1 hc0_1
 have HB := Aside0.mk (Below.refl w.heap.size w)
 have H : ((subprogram_marked.f k a0_0 l0_1 a0_2).bind fun t399 => (if t399 = true then (some false) else ((block_Codes.f k a0_0 l0_1 a0_2 78).bind fun t400 => (if (t400.length : Int) = 0 then ((subprogram_has.f k a0_0 l0_1 a0_2 77 98000).bind fun t403 => (some (!t403))) else (some false))))) = some r := h
 clear h
 replace H := Option.bind_eq_some_iff.mp H
 obtain ⟨t399, A20, H⟩ := H
 replace H : (if t399 = true then (some false) else ((block_Codes.f k a0_0 l0_1 a0_2 78).bind fun t400 => (if (t400.length : Int) = 0 then ((subprogram_has.f k a0_0 l0_1 a0_2 77 98000).bind fun t403 => (some (!t403))) else (some false)))) = some r := H
 have A2 := Aside0.mk A20
 clear A20
 by_cases c3 : t399 = true
 ·subst c3
  have H1 : (some false) = some r := by rw [if_pos rfl] at H; exact H
  clear H
  have H := H1
  clear H1
  obtain rfl := Option.some.inj H
  go_enter Try.func96, Try.ntmps96
  go_wp2_with (first | ((with_reducible refine gate_dst (N := 1) rfl ?_); (try (refine gate_guard (by rfl) ?_; dsimp only)); refine box_event ?hg (N := 1) ?hd (cs := #[.bool a0_0, .slice A0_1 l0_1.length c0_1, .string a0_2]) (t := 32) ?hr ?_; (case hd => rfl); (case hg => rfl); (case hr => first | (go_simp; done) | (go_simp; rfl)); intro gb398 hg w4 hbox hb; have n0_ := Aside0.mk (below_step (by repeat (first | (with_reducible first | exact HB.out | apply below_alloc | apply pw_below_drewN | apply below_drew1) | exact HB.out)) hb); have n1_ := Aside0.mk (hbox); have n2_ := Aside0.mk ((by rw [hg]; exact (below_size (by repeat (first | (with_reducible first | exact HB.out | apply below_alloc | apply pw_below_drewN | apply below_drew1) | exact HB.out))) : w.heap.size ≤ gb398)); have n3_ := Aside0.mk ((by rw [hg]; exact (below_size (by repeat (first | (with_reducible first | exact HB.out | apply below_alloc | apply pw_below_drewN | apply below_drew1) | exact HB.out))) : w.heap.size ≤ gb398)); clear HB; have HB := n0_; have BK398 := n1_; have GW398 := n2_; have GE398 := n3_; clear n0_ n1_ n2_ n3_; clear hb hbox hg; have hcz5_0 : w4.cell? ⟨gb398, 0, none⟩ = some (.bool a0_0) := (blk_cell BK398.out 0).trans rfl; have hcz5_1 : w4.cell? ⟨gb398, 1, none⟩ = some (.slice A0_1 l0_1.length c0_1) := (blk_cell BK398.out 1).trans rfl; have hcz5_2 : w4.cell? ⟨gb398, 2, none⟩ = some (.string a0_2) := (blk_cell BK398.out 2).trans rfl; have hfz5_0 := blk_frozen BK398.out 0; have hfz5_1 := blk_frozen BK398.out 1; have hfz5_2 := blk_frozen BK398.out 2) | ((with_reducible refine gate_callee (f := 100) rfl ?_); refine goesL_ (some 4) rfl rfl Try.func100 (by kernel_rfl) rfl #[.agg #[.bool a0_0, .slice A0_1 l0_1.length c0_1, .string a0_2]] rfl (by (try simp only [List.map_toArray, List.map_cons, List.map_nil]); first | done | rfl | (simp only [List.length_drop, List.length_take]; rfl)) ?_; (with_reducible refine (subprogram_marked.calls k a0_0 _ _ l0_1 a0_2 true _ ?side1 ?side2 A2.out).mono ?_); (case side1 => repeat (first | exact (Kd.C_below HR0_1.out HB.out) | (with_reducible refine Kd.C_alloc ?_ _) | (with_reducible refine Kd.C_drewN ?_ _) | (with_reducible refine Kd.C_drew ?_))); (case side2 => exact HC0_1.out); rintro e w6 ⟨rfl, hb⟩; refine ⟨_, rfl, ?_⟩; have n0_ := Aside0.mk (blk_below (g := gb398) (o := .cells #[.bool a0_0, .slice A0_1 l0_1.length c0_1, .string a0_2] 32 (0, 0)) (by (with_reducible repeat (first | refine blk_drewN ?_ _ | refine blk_drew ?_ | refine blk_alloc ?_ _)); exact BK398.out) hb); have n1_ := Aside0.mk (below_step (by repeat (first | (with_reducible first | exact HB.out | apply below_alloc | apply pw_below_drewN | apply below_drew1 | refine below_set ?_ GE398.out) | exact HB.out)) hb); clear BK398; clear HB; have BK398 := n0_; have HB := n1_; clear n0_ n1_; (try clear hb); (try clear hb2); (try clear hk); (try clear hi)))
  go_ret
  exact ⟨by first | rfl | (simp [errW_none, errW_some] <;> rfl) | (simp [*, errW_none, errW_some] <;> rfl), by repeat (first | (with_reducible first | exact HB.out | apply below_alloc | apply pw_below_drewN | apply below_drew1 | refine below_set ?_ GE398.out) | exact HB.out)⟩
 ·replace c3 := Bool.eq_false_iff.mpr c3
  subst c3
  have H1 : ((block_Codes.f k a0_0 l0_1 a0_2 78).bind fun t400 => (if (t400.length : Int) = 0 then ((subprogram_has.f k a0_0 l0_1 a0_2 77 98000).bind fun t403 => (some (!t403))) else (some false))) = some r := by rw [if_neg (show ¬ (false = true) by decide)] at H; exact H
  clear H
  have H := H1
  clear H1
  replace H := Option.bind_eq_some_iff.mp H
  obtain ⟨t400, A70, H⟩ := H
  replace H : (if (t400.length : Int) = 0 then ((subprogram_has.f k a0_0 l0_1 a0_2 77 98000).bind fun t403 => (some (!t403))) else (some false)) = some r := H
  have A7 := Aside0.mk A70
  clear A70
  by_cases c8 : (t400.length : Int) = 0
  ·rw [if_pos c8] at H
   have c8b0 : ((t400.length : Int) == 0) = true := beq_iff_eq.mpr c8
   have c8b1 : ((t400.length : Int) != 0) = false := bne_eq_false_iff_eq.mpr c8
   clear c8
   replace H := Option.bind_eq_some_iff.mp H
   obtain ⟨t403, A90, H⟩ := H
   replace H : (some (!t403)) = some r := H
   have A9 := Aside0.mk A90
   clear A90
   obtain rfl := Option.some.inj H
   go_enter Try.func96, Try.ntmps96
   go_wp2_with (first | ((with_reducible refine gate_dst (N := 1) rfl ?_); (try (refine gate_guard (by rfl) ?_; dsimp only)); refine box_event ?hg (N := 1) ?hd (cs := #[.bool a0_0, .slice A0_1 l0_1.length c0_1, .string a0_2]) (t := 32) ?hr ?_; (case hd => rfl); (case hg => rfl); (case hr => first | (go_simp; done) | (go_simp; rfl)); intro gb398 hg w10 hbox hb; have n0_ := Aside0.mk (below_step (by repeat (first | (with_reducible first | exact HB.out | apply below_alloc | apply pw_below_drewN | apply below_drew1) | exact HB.out)) hb); have n1_ := Aside0.mk (hbox); have n2_ := Aside0.mk ((by rw [hg]; exact (below_size (by repeat (first | (with_reducible first | exact HB.out | apply below_alloc | apply pw_below_drewN | apply below_drew1) | exact HB.out))) : w.heap.size ≤ gb398)); have n3_ := Aside0.mk ((by rw [hg]; exact (below_size (by repeat (first | (with_reducible first | exact HB.out | apply below_alloc | apply pw_below_drewN | apply below_drew1) | exact HB.out))) : w.heap.size ≤ gb398)); clear HB; have HB := n0_; have BK398 := n1_; have GW398 := n2_; have GE398 := n3_; clear n0_ n1_ n2_ n3_; clear hb hbox hg; have hcz11_0 : w10.cell? ⟨gb398, 0, none⟩ = some (.bool a0_0) := (blk_cell BK398.out 0).trans rfl; have hcz11_1 : w10.cell? ⟨gb398, 1, none⟩ = some (.slice A0_1 l0_1.length c0_1) := (blk_cell BK398.out 1).trans rfl; have hcz11_2 : w10.cell? ⟨gb398, 2, none⟩ = some (.string a0_2) := (blk_cell BK398.out 2).trans rfl; have hfz11_0 := blk_frozen BK398.out 0; have hfz11_1 := blk_frozen BK398.out 1; have hfz11_2 := blk_frozen BK398.out 2) | ((with_reducible refine gate_callee (f := 100) rfl ?_); refine goesL_ (some 4) rfl rfl Try.func100 (by kernel_rfl) rfl #[.agg #[.bool a0_0, .slice A0_1 l0_1.length c0_1, .string a0_2]] rfl (by (try simp only [List.map_toArray, List.map_cons, List.map_nil]); first | done | rfl | (simp only [List.length_drop, List.length_take]; rfl)) ?_; (with_reducible refine (subprogram_marked.calls k a0_0 _ _ l0_1 a0_2 false _ ?side1 ?side2 A2.out).mono ?_); (case side1 => repeat (first | exact (Kd.C_below HR0_1.out HB.out) | (with_reducible refine Kd.C_alloc ?_ _) | (with_reducible refine Kd.C_drewN ?_ _) | (with_reducible refine Kd.C_drew ?_))); (case side2 => exact HC0_1.out); rintro e w12 ⟨rfl, hb⟩; refine ⟨_, rfl, ?_⟩; have n0_ := Aside0.mk (blk_below (g := gb398) (o := .cells #[.bool a0_0, .slice A0_1 l0_1.length c0_1, .string a0_2] 32 (0, 0)) (by (with_reducible repeat (first | refine blk_drewN ?_ _ | refine blk_drew ?_ | refine blk_alloc ?_ _)); exact BK398.out) hb); have n1_ := Aside0.mk (below_step (by repeat (first | (with_reducible first | exact HB.out | apply below_alloc | apply pw_below_drewN | apply below_drew1 | refine below_set ?_ GE398.out) | exact HB.out)) hb); clear BK398; clear HB; have BK398 := n0_; have HB := n1_; clear n0_ n1_; (try clear hb); (try clear hb2); (try clear hk); (try clear hi); have hcz13_0 : w12.cell? ⟨gb398, 0, none⟩ = some (.bool a0_0) := (blk_cell BK398.out 0).trans rfl; have hcz13_1 : w12.cell? ⟨gb398, 1, none⟩ = some (.slice A0_1 l0_1.length c0_1) := (blk_cell BK398.out 1).trans rfl; have hcz13_2 : w12.cell? ⟨gb398, 2, none⟩ = some (.string a0_2) := (blk_cell BK398.out 2).trans rfl; have hfz13_0 := blk_frozen BK398.out 0; have hfz13_1 := blk_frozen BK398.out 1; have hfz13_2 := blk_frozen BK398.out 2) | (go_at_call 93; (with_reducible refine (block_Codes.calls k a0_0 _ _ l0_1 a0_2 78 t400 _ ?side1 ?side2 A7.out).mono ?_); (case side1 => repeat (first | exact (Kd.C_below HR0_1.out HB.out) | (with_reducible refine Kd.C_alloc ?_ _) | (with_reducible refine Kd.C_drewN ?_ _) | (with_reducible refine Kd.C_drew ?_))); (case side2 => exact HC0_1.out); rintro e w14 ⟨v401, rfl, ho0, hb⟩; have n0_ := Aside0.mk (Kd.R_lower ho0 (below_size (by repeat (first | (with_reducible first | exact HB.out | apply below_alloc | apply pw_below_drewN | apply below_drew1 | refine below_set ?_ GE398.out) | exact HB.out)))); have n1_ := Aside0.mk (blk_below (g := gb398) (o := .cells #[.bool a0_0, .slice A0_1 l0_1.length c0_1, .string a0_2] 32 (0, 0)) (by (with_reducible repeat (first | refine blk_drewN ?_ _ | refine blk_drew ?_ | refine blk_alloc ?_ _)); exact BK398.out) hb); have n2_ := Aside0.mk (below_step (by repeat (first | (with_reducible first | exact HB.out | apply below_alloc | apply pw_below_drewN | apply below_drew1 | refine below_set ?_ GE398.out) | exact HB.out)) hb); clear BK398; clear HB; have HO402 := n0_; have BK398 := n1_; have HB := n2_; clear n0_ n1_ n2_; (try clear hb); (try clear hb2); (try clear hk); (try clear hi); (try clear ho0); obtain ⟨Ao15, co15, eo15⟩ := Kd.R_slice HO402.out; subst eo15; have hcz16_0 : w14.cell? ⟨gb398, 0, none⟩ = some (.bool a0_0) := (blk_cell BK398.out 0).trans rfl; have hcz16_1 : w14.cell? ⟨gb398, 1, none⟩ = some (.slice A0_1 l0_1.length c0_1) := (blk_cell BK398.out 1).trans rfl; have hcz16_2 : w14.cell? ⟨gb398, 2, none⟩ = some (.string a0_2) := (blk_cell BK398.out 2).trans rfl; have hfz16_0 := blk_frozen BK398.out 0; have hfz16_1 := blk_frozen BK398.out 1; have hfz16_2 := blk_frozen BK398.out 2) | (go_at_call 58; (with_reducible refine (subprogram_has.calls k a0_0 _ _ l0_1 a0_2 77 98000 t403 _ ?side1 ?side2 A9.out).mono ?_); (case side1 => repeat (first | exact (Kd.C_below HR0_1.out HB.out) | (with_reducible refine Kd.C_alloc ?_ _) | (with_reducible refine Kd.C_drewN ?_ _) | (with_reducible refine Kd.C_drew ?_))); (case side2 => exact HC0_1.out); rintro e w17 ⟨rfl, hb⟩; have n0_ := Aside0.mk (Kd.R_below (by (with_reducible repeat (first | apply Kd.R_alloc | apply Kd.R_drewN | apply Kd.R_drew)); exact HO402.out) hb); have n1_ := Aside0.mk (blk_below (g := gb398) (o := .cells #[.bool a0_0, .slice A0_1 l0_1.length c0_1, .string a0_2] 32 (0, 0)) (by (with_reducible repeat (first | refine blk_drewN ?_ _ | refine blk_drew ?_ | refine blk_alloc ?_ _)); exact BK398.out) hb); have n2_ := Aside0.mk (below_step (by repeat (first | (with_reducible first | exact HB.out | apply below_alloc | apply pw_below_drewN | apply below_drew1 | refine below_set ?_ GE398.out) | exact HB.out)) hb); clear HO402; clear BK398; clear HB; have HO402 := n0_; have BK398 := n1_; have HB := n2_; clear n0_ n1_ n2_; (try clear hb); (try clear hb2); (try clear hk); (try clear hi)))
   go_ret
   exact ⟨by first | rfl | (simp [errW_none, errW_some] <;> rfl) | (simp [*, errW_none, errW_some] <;> rfl), by repeat (first | (with_reducible first | exact HB.out | apply below_alloc | apply pw_below_drewN | apply below_drew1 | refine below_set ?_ GE398.out) | exact HB.out)⟩
  ·rw [if_neg c8] at H
   have c8b0 : ((t400.length : Int) == 0) = false := beq_eq_false_iff_ne.mpr c8
   have c8b1 : ((t400.length : Int) != 0) = true := bne_iff_ne.mpr c8
   have c8b2 : ¬ (t400 = []) := fun h_ => c8 (by rw [h_]; rfl)
   obtain rfl := Option.some.inj H
   go_enter Try.func96, Try.ntmps96
   go_wp2_with (first | ((with_reducible refine gate_dst (N := 1) rfl ?_); (try (refine gate_guard (by rfl) ?_; dsimp only)); refine box_event ?hg (N := 1) ?hd (cs := #[.bool a0_0, .slice A0_1 l0_1.length c0_1, .string a0_2]) (t := 32) ?hr ?_; (case hd => rfl); (case hg => rfl); (case hr => first | (go_simp; done) | (go_simp; rfl)); intro gb398 hg w18 hbox hb; have n0_ := Aside0.mk (below_step (by repeat (first | (with_reducible first | exact HB.out | apply below_alloc | apply pw_below_drewN | apply below_drew1) | exact HB.out)) hb); have n1_ := Aside0.mk (hbox); have n2_ := Aside0.mk ((by rw [hg]; exact (below_size (by repeat (first | (with_reducible first | exact HB.out | apply below_alloc | apply pw_below_drewN | apply below_drew1) | exact HB.out))) : w.heap.size ≤ gb398)); have n3_ := Aside0.mk ((by rw [hg]; exact (below_size (by repeat (first | (with_reducible first | exact HB.out | apply below_alloc | apply pw_below_drewN | apply below_drew1) | exact HB.out))) : w.heap.size ≤ gb398)); clear HB; have HB := n0_; have BK398 := n1_; have GW398 := n2_; have GE398 := n3_; clear n0_ n1_ n2_ n3_; clear hb hbox hg; have hcz19_0 : w18.cell? ⟨gb398, 0, none⟩ = some (.bool a0_0) := (blk_cell BK398.out 0).trans rfl; have hcz19_1 : w18.cell? ⟨gb398, 1, none⟩ = some (.slice A0_1 l0_1.length c0_1) := (blk_cell BK398.out 1).trans rfl; have hcz19_2 : w18.cell? ⟨gb398, 2, none⟩ = some (.string a0_2) := (blk_cell BK398.out 2).trans rfl; have hfz19_0 := blk_frozen BK398.out 0; have hfz19_1 := blk_frozen BK398.out 1; have hfz19_2 := blk_frozen BK398.out 2) | ((with_reducible refine gate_callee (f := 100) rfl ?_); refine goesL_ (some 4) rfl rfl Try.func100 (by kernel_rfl) rfl #[.agg #[.bool a0_0, .slice A0_1 l0_1.length c0_1, .string a0_2]] rfl (by (try simp only [List.map_toArray, List.map_cons, List.map_nil]); first | done | rfl | (simp only [List.length_drop, List.length_take]; rfl)) ?_; (with_reducible refine (subprogram_marked.calls k a0_0 _ _ l0_1 a0_2 false _ ?side1 ?side2 A2.out).mono ?_); (case side1 => repeat (first | exact (Kd.C_below HR0_1.out HB.out) | (with_reducible refine Kd.C_alloc ?_ _) | (with_reducible refine Kd.C_drewN ?_ _) | (with_reducible refine Kd.C_drew ?_))); (case side2 => exact HC0_1.out); rintro e w20 ⟨rfl, hb⟩; refine ⟨_, rfl, ?_⟩; have n0_ := Aside0.mk (blk_below (g := gb398) (o := .cells #[.bool a0_0, .slice A0_1 l0_1.length c0_1, .string a0_2] 32 (0, 0)) (by (with_reducible repeat (first | refine blk_drewN ?_ _ | refine blk_drew ?_ | refine blk_alloc ?_ _)); exact BK398.out) hb); have n1_ := Aside0.mk (below_step (by repeat (first | (with_reducible first | exact HB.out | apply below_alloc | apply pw_below_drewN | apply below_drew1 | refine below_set ?_ GE398.out) | exact HB.out)) hb); clear BK398; clear HB; have BK398 := n0_; have HB := n1_; clear n0_ n1_; (try clear hb); (try clear hb2); (try clear hk); (try clear hi); have hcz21_0 : w20.cell? ⟨gb398, 0, none⟩ = some (.bool a0_0) := (blk_cell BK398.out 0).trans rfl; have hcz21_1 : w20.cell? ⟨gb398, 1, none⟩ = some (.slice A0_1 l0_1.length c0_1) := (blk_cell BK398.out 1).trans rfl; have hcz21_2 : w20.cell? ⟨gb398, 2, none⟩ = some (.string a0_2) := (blk_cell BK398.out 2).trans rfl; have hfz21_0 := blk_frozen BK398.out 0; have hfz21_1 := blk_frozen BK398.out 1; have hfz21_2 := blk_frozen BK398.out 2) | (go_at_call 93; (with_reducible refine (block_Codes.calls k a0_0 _ _ l0_1 a0_2 78 t400 _ ?side1 ?side2 A7.out).mono ?_); (case side1 => repeat (first | exact (Kd.C_below HR0_1.out HB.out) | (with_reducible refine Kd.C_alloc ?_ _) | (with_reducible refine Kd.C_drewN ?_ _) | (with_reducible refine Kd.C_drew ?_))); (case side2 => exact HC0_1.out); rintro e w22 ⟨v401, rfl, ho0, hb⟩; have n0_ := Aside0.mk (Kd.R_lower ho0 (below_size (by repeat (first | (with_reducible first | exact HB.out | apply below_alloc | apply pw_below_drewN | apply below_drew1 | refine below_set ?_ GE398.out) | exact HB.out)))); have n1_ := Aside0.mk (blk_below (g := gb398) (o := .cells #[.bool a0_0, .slice A0_1 l0_1.length c0_1, .string a0_2] 32 (0, 0)) (by (with_reducible repeat (first | refine blk_drewN ?_ _ | refine blk_drew ?_ | refine blk_alloc ?_ _)); exact BK398.out) hb); have n2_ := Aside0.mk (below_step (by repeat (first | (with_reducible first | exact HB.out | apply below_alloc | apply pw_below_drewN | apply below_drew1 | refine below_set ?_ GE398.out) | exact HB.out)) hb); clear BK398; clear HB; have HO402 := n0_; have BK398 := n1_; have HB := n2_; clear n0_ n1_ n2_; (try clear hb); (try clear hb2); (try clear hk); (try clear hi); (try clear ho0); obtain ⟨Ao23, co23, eo23⟩ := Kd.R_slice HO402.out; subst eo23))
   go_ret
   exact ⟨by first | rfl | (simp [errW_none, errW_some] <;> rfl) | (simp [*, errW_none, errW_some] <;> rfl), by repeat (first | (with_reducible first | exact HB.out | apply below_alloc | apply pw_below_drewN | apply below_drew1 | refine below_set ?_ GE398.out) | exact HB.out)⟩
end Go.Proofs.Ytehkhbnhmehobaa.P
namespace Go.Proofs.Ytehkhbnhmehobaa.P
open Go.RowKit Go.Proofs.YtehkhbnhmehobaaW.PrintWords Go.Proofs.YtehkhbnhmehobaaW.PrintLast Go.Proofs.YtehkhbnhmehobaaW.PrintMore
attribute [local go_sem] max2_int min2_int max_two min_two max_three min_three max_four min_four
set_option linter.unusedVariables false
set_option linter.unusedSimpArgs false
attribute [local go_sem high] eqA25 eqA78
def api_Word_112.l0 : Nat → List (S78) → List (S78) → Int → Int → Option (Bool)
 | 0, _, _, _, _ => none
 | k + 1, x0, x1, x12, x13 => if x13 < x12 then (if 0 ≤ x13 then (if x13 < (x0.length : Int) then (if x13 < (x1.length : Int) then (if (!(((rd_T78 x0 x13).f0) == ((rd_T78 x1 x13).f0)) || (!(((rd_T78 x0 x13).f1) == ((rd_T78 x1 x13).f1)))) = true then (some false) else (api_Word_112.l0 k x0 x1 x12 (wrap64 (x13 + 1)))) else (none)) else (none)) else (none)) else (some true)
def api_Word_112.f (k : Nat) (l0 : List (S78)) (l1 : List (S78)) : Option (Bool) := if (l0.length : Int) = (l1.length : Int) then (api_Word_112.l0 k l0 l1 (l0.length : Int) 0) else (some false)
theorem api_Word_112.mono_l : ∀ k, (∀ y0 y1 y2 y3, LeO (api_Word_112.l0 k y0 y1 y2 y3) (api_Word_112.l0 (k + 1) y0 y1 y2 y3))
 | 0 => fun _ _ _ _ r h => by simp [api_Word_112.l0] at h
 | k + 1 => by
  have ih0 := api_Word_112.mono_l k
  ·intro y0 y1 y2 y3
   unfold api_Word_112.l0
   repeat' first
   | (with_reducible exact ih0 _ _ _ _)
   | (with_reducible exact LeO.refl _)
   | (with_reducible exact LeO.none _)
   | (with_reducible refine LeO.ite ?_ ?_)
   | (with_reducible refine LeO.bind ?_ (fun _ => ?_))
   | exact ih0 _ _ _ _
   | exact LeO.none _
   | refine LeO.ite ?_ ?_
   | refine LeO.bind ?_ (fun _ => ?_)
theorem api_Word_112.mono : ∀ a0 a1 k, LeO (api_Word_112.f k a0 a1) (api_Word_112.f (k + 1) a0 a1) := by
 intro a0 a1 k
 have ih0 := api_Word_112.mono_l k
 unfold api_Word_112.f
 repeat' first
   | (with_reducible exact ih0 _ _ _ _)
   | (with_reducible exact LeO.refl _)
   | (with_reducible exact LeO.none _)
   | (with_reducible refine LeO.ite ?_ ?_)
   | (with_reducible refine LeO.bind ?_ (fun _ => ?_))
   | exact ih0 _ _ _ _
   | exact LeO.none _
   | refine LeO.ite ?_ ?_
   | refine LeO.bind ?_ (fun _ => ?_)
set_option maxHeartbeats 8000000 in
set_option maxRecDepth 100000 in
theorem api_Word_112.calls (k : Nat) (A0 : Option Addr) (c0 : Nat) (l0 : List (S78)) (A1 : Option Addr) (c1 : Nat) (l1 : List (S78)) (r : Bool) (w : World) (hr0 : Kd.C k78 w A0 l0.length l0) (hc0 : l0.length ≤ c0) (hr1 : Kd.C k78 w A1 l1.length l1) (hc1 : l1.length ≤ c1) (h : api_Word_112.f k l0 l1 = some r) :
  Calls Try.prog 112 #[.slice A0 l0.length c0, .slice A1 l1.length c1] w fun e w' => e = .returned (.bool r) ∧ Drawn0 w w' := by
 have hu78 := Try.underlying78
 have HR0 := Aside0.mk hr0
 have HC0 := Aside0.mk hc0
 clear hr0 hc0
 have HR1 := Aside0.mk hr1
 have HC1 := Aside0.mk hc1
 clear hr1 hc1
 have H : (if (l0.length : Int) = (l1.length : Int) then (api_Word_112.l0 k l0 l1 (l0.length : Int) 0) else (some false)) = some r := h
 clear h
 by_cases c3 : (l0.length : Int) = (l1.length : Int)
 ·rw [if_pos c3] at H
  have c3b0 : ((l0.length : Int) == (l1.length : Int)) = true := beq_iff_eq.mpr c3
  have c3b1 : ((l0.length : Int) != (l1.length : Int)) = false := bne_eq_false_iff_eq.mpr c3
  have c3b2 : (l0.length == l1.length) = true := by first | simpa using c3 | (simp at c3 ⊢; omega)
  clear c3
  have H' := Aside0.mk H
  clear H
  go_enter Try.func112, Try.ntmps112
  go_wp2
  repeat (go_quiet (fail); try go_wp2)
  go_loopg [13] k (fun kq v13 w' => ∃ (x13_1 : Int), v13 = .int .i64 x13_1 ∧ Aside0 (api_Word_112.l0 kq l0 l1 (l0.length : Int) x13_1 = some r) ∧ Aside0 (kq ≤ k) ∧ Drawn0 w w')
  case atStart => exact ⟨(0), (by first | rfl | (simp; done) | (simp [*]; done)), H', ⟨Nat.le_refl _⟩, by repeat (first | exact Drawn0.refl _ | apply Drawn0.step)⟩
  case round =>
   clear H'
   try clear c1
   try clear p2
   try clear c3
   try clear c3b0
   try clear c3b1
   try clear c3b2
   obtain ⟨x13_1, rfl, HA, HK1, ⟨m1, rfl⟩⟩ := hrel
   cases gk with
   | zero => exact absurd HA.out (by simp [api_Word_112.l0])
   | succ k1 =>
    have H := HA.out
    clear HA
    simp only [api_Word_112.l0] at H
    by_cases c4 : x13_1 < (l0.length : Int)
    ·rw [if_pos c4] at H
     have c4b0 : decide (x13_1 < (l0.length : Int)) = true := decide_eq_true c4
     clear c4
     by_cases c5 : 0 ≤ x13_1
     ·rw [if_pos c5] at H
      have c5b0 : decide (0 ≤ x13_1) = true := decide_eq_true c5
      clear c5
      by_cases c6 : x13_1 < (l0.length : Int)
      ·rw [if_pos c6] at H
       have c6b0 : decide (x13_1 < (l0.length : Int)) = true := decide_eq_true c6
       clear c6
       by_cases c7 : x13_1 < (l1.length : Int)
       ·rw [if_pos c7] at H
        have c7b0 : decide (x13_1 < (l1.length : Int)) = true := decide_eq_true c7
        clear c7
        by_cases c8 : (!(((rd_T78 l0 x13_1).f0) == ((rd_T78 l1 x13_1).f0)) || (!(((rd_T78 l0 x13_1).f1) == ((rd_T78 l1 x13_1).f1)))) = true
        ·rw [if_pos c8] at H
         have c8b0 : (!(((rd_T78 l0 x13_1).f0) == ((rd_T78 l1 x13_1).f0)) || (!(((rd_T78 l0 x13_1).f1) == ((rd_T78 l1 x13_1).f1)))) = true := c8
         clear c8
         obtain rfl := Option.some.inj H
         have p404 : 0 ≤ (x13_1 : Int) := of_decide_eq_true (by first | (with_reducible assumption) | assumption)
         have q404 : x13_1 < (l0.length : Int) := of_decide_eq_true (by first | (with_reducible assumption) | assumption)
         obtain ⟨ad404, e404, hx404_0, hx404_1⟩ := at_T78 HR0.out x13_1 p404 q404
         cases e404
         replace p404 := eq_true p404
         replace q404 := eq_true q404
         have p405 : 0 ≤ (x13_1 : Int) := of_decide_eq_true (by first | (with_reducible assumption) | assumption)
         have q405 : x13_1 < (l1.length : Int) := of_decide_eq_true (by first | (with_reducible assumption) | assumption)
         obtain ⟨ad405, e405, hx405_0, hx405_1⟩ := at_T78 HR1.out x13_1 p405 q405
         cases e405
         replace p405 := eq_true p405
         replace q405 := eq_true q405
         go_wp2
         repeat (go_quiet (fail); try go_wp2)
         go_ret
         exact ⟨by first | rfl | (simp; done) | (simp [*]; done), by repeat (first | exact Drawn0.refl _ | apply Drawn0.step)⟩
        ·rw [if_neg c8] at H
         have c8b0 : (!(((rd_T78 l0 x13_1).f0) == ((rd_T78 l1 x13_1).f0)) || (!(((rd_T78 l0 x13_1).f1) == ((rd_T78 l1 x13_1).f1)))) = false := by simpa using c8
         clear c8
         have H' := Aside0.mk H
         clear H
         have p404 : 0 ≤ (x13_1 : Int) := of_decide_eq_true (by first | (with_reducible assumption) | assumption)
         have q404 : x13_1 < (l0.length : Int) := of_decide_eq_true (by first | (with_reducible assumption) | assumption)
         obtain ⟨ad404, e404, hx404_0, hx404_1⟩ := at_T78 HR0.out x13_1 p404 q404
         cases e404
         replace p404 := eq_true p404
         replace q404 := eq_true q404
         have p405 : 0 ≤ (x13_1 : Int) := of_decide_eq_true (by first | (with_reducible assumption) | assumption)
         have q405 : x13_1 < (l1.length : Int) := of_decide_eq_true (by first | (with_reducible assumption) | assumption)
         obtain ⟨ad405, e405, hx405_0, hx405_1⟩ := at_T78 HR1.out x13_1 p405 q405
         cases e405
         replace p405 := eq_true p405
         replace q405 := eq_true q405
         go_wp2
         repeat (go_quiet (fail); try go_wp2)
         go_roundg k1
         case measure => have := HK1.out; omega
         case rel => exact ⟨(wrap64 (x13_1 + 1)), (by first | rfl | (simp; done) | (simp [*]; done)), H', ⟨by have := HK1.out; omega⟩, by repeat (first | exact Drawn0.refl _ | apply Drawn0.step)⟩
       ·rw [if_neg c7] at H
        exact absurd H (by simp)
      ·rw [if_neg c6] at H
       exact absurd H (by simp)
     ·rw [if_neg c5] at H
      exact absurd H (by simp)
    ·rw [if_neg c4] at H
     have c4b0 : decide (x13_1 < (l0.length : Int)) = false := decide_eq_false c4
     clear c4
     obtain rfl := Option.some.inj H
     go_wp2
     repeat (go_quiet (fail); try go_wp2)
     go_ret
     exact ⟨by first | rfl | (simp; done) | (simp [*]; done), by repeat (first | exact Drawn0.refl _ | apply Drawn0.step)⟩
 ·rw [if_neg c3] at H
  have c3b0 : ((l0.length : Int) == (l1.length : Int)) = false := beq_eq_false_iff_ne.mpr c3
  have c3b1 : ((l0.length : Int) != (l1.length : Int)) = true := bne_iff_ne.mpr c3
  have c3b2 : (l0.length == l1.length) = false := by first | simpa using c3 | (simp at c3 ⊢; omega)
  obtain rfl := Option.some.inj H
  go_enter Try.func112, Try.ntmps112
  go_wp2
  repeat (go_quiet (fail); try go_wp2)
  go_ret
  exact ⟨by first | rfl | (simp; done) | (simp [*]; done), by repeat (first | exact Drawn0.refl _ | apply Drawn0.step)⟩
end Go.Proofs.Ytehkhbnhmehobaa.P
namespace Go.Proofs.Ytehkhbnhmehobaa.P
open Go.RowKit Go.Proofs.YtehkhbnhmehobaaW.PrintWords Go.Proofs.YtehkhbnhmehobaaW.PrintLast Go.Proofs.YtehkhbnhmehobaaW.PrintMore
attribute [local go_sem] max2_int min2_int max_two min_two max_three min_three max_four min_four
set_option linter.unusedVariables false
set_option linter.unusedSimpArgs false
def block_Equal.f (k : Nat) (a0_0 : Bool) (l0_1 : List (S78)) (a0_2 : ByteArray) (a1_0 : Bool) (l1_1 : List (S78)) (a1_2 : ByteArray) : Option (Bool) := if (a0_0 == a1_0) = true then (if a0_2.toList = a1_2.toList then ((api_Word_112.f k l0_1 l1_1).bind fun t408 => (some t408)) else (some false)) else (some false)
theorem block_Equal.mono : ∀ a0 a1 a2 a3 a4 a5 k, LeO (block_Equal.f k a0 a1 a2 a3 a4 a5) (block_Equal.f (k + 1) a0 a1 a2 a3 a4 a5) := by
 intro a0 a1 a2 a3 a4 a5 k
 unfold block_Equal.f
 repeat' first
   | (with_reducible exact api_Word_112.mono _ _ _)
   | (with_reducible exact LeO.refl _)
   | (with_reducible exact LeO.none _)
   | (with_reducible refine LeO.ite ?_ ?_)
   | (with_reducible refine LeO.bind ?_ (fun _ => ?_))
   | exact api_Word_112.mono _ _ _
   | exact LeO.none _
   | refine LeO.ite ?_ ?_
   | refine LeO.bind ?_ (fun _ => ?_)
set_option maxHeartbeats 8000000 in
set_option maxRecDepth 100000 in
theorem block_Equal.calls (k : Nat) (a0_0 : Bool) (A0_1 : Option Addr) (c0_1 : Nat) (l0_1 : List (S78)) (a0_2 : ByteArray) (a1_0 : Bool) (A1_1 : Option Addr) (c1_1 : Nat) (l1_1 : List (S78)) (a1_2 : ByteArray) (r : Bool) (w : World) (hr0_1 : Kd.C k78 w A0_1 l0_1.length l0_1) (hc0_1 : l0_1.length ≤ c0_1) (hr1_1 : Kd.C k78 w A1_1 l1_1.length l1_1) (hc1_1 : l1_1.length ≤ c1_1) (h : block_Equal.f k a0_0 l0_1 a0_2 a1_0 l1_1 a1_2 = some r) :
  Calls Try.prog 97 #[.agg #[.bool a0_0, .slice A0_1 l0_1.length c0_1, .string a0_2], .agg #[.bool a1_0, .slice A1_1 l1_1.length c1_1, .string a1_2]] w fun e w' => e = .returned (.bool r) ∧ Below w.heap.size w w' := by
 have hu32 := Try.underlying32
 have HR0_1 := Aside0.mk hr0_1
 have HC0_1 := Aside0.mk hc0_1
 clear hr0_1 hc0_1
 have HR1_1 := Aside0.mk hr1_1
 have HC1_1 := Aside0.mk hc1_1
 clear hr1_1 hc1_1
 have HB := Aside0.mk (Below.refl w.heap.size w)
 have H : (if (a0_0 == a1_0) = true then (if a0_2.toList = a1_2.toList then ((api_Word_112.f k l0_1 l1_1).bind fun t408 => (some t408)) else (some false)) else (some false)) = some r := h
 clear h
 by_cases c3 : (a0_0 == a1_0) = true
 ·rw [if_pos c3] at H
  have c3b0 : (a0_0 == a1_0) = true := c3
  (try (have c3b1 : decide (a0_0 = a1_0) = true := by simpa using c3))
  (try (have c3b2 : (a0_0 == a1_0) = true := by simpa using c3))
  clear c3
  by_cases c4 : a0_2.toList = a1_2.toList
  ·rw [if_pos c4] at H
   have c4b0 : (a0_2.toList == a1_2.toList) = true := beq_iff_eq.mpr c4
   have c4b1 : (a0_2.toList != a1_2.toList) = false := bne_eq_false_iff_eq.mpr c4
   clear c4
   replace H := Option.bind_eq_some_iff.mp H
   obtain ⟨t408, A50, H⟩ := H
   replace H : (some t408) = some r := H
   have A5 := Aside0.mk A50
   clear A50
   obtain rfl := Option.some.inj H
   go_enter Try.func97, Try.ntmps97
   go_wp2_with (first | ((with_reducible refine gate_dst (N := 2) rfl ?_); refine box_event ?hg (N := 2) ?hd (cs := #[.bool a0_0, .slice A0_1 l0_1.length c0_1, .string a0_2]) (t := 32) ?hr ?_; (case hd => rfl); (case hg => rfl); (case hr => first | (go_simp; done) | (go_simp; rfl)); intro gb406 hg w6 hbox hb; have n0_ := Aside0.mk (below_step (by repeat (first | (with_reducible first | exact HB.out | apply below_alloc | apply pw_below_drewN | apply below_drew1) | exact HB.out)) hb); have n1_ := Aside0.mk (hbox); have n2_ := Aside0.mk ((by rw [hg]; exact (below_size (by repeat (first | (with_reducible first | exact HB.out | apply below_alloc | apply pw_below_drewN | apply below_drew1) | exact HB.out))) : w.heap.size ≤ gb406)); have n3_ := Aside0.mk ((by rw [hg]; exact (below_size (by repeat (first | (with_reducible first | exact HB.out | apply below_alloc | apply pw_below_drewN | apply below_drew1) | exact HB.out))) : w.heap.size ≤ gb406)); clear HB; have HB := n0_; have BK406 := n1_; have GW406 := n2_; have GE406 := n3_; clear n0_ n1_ n2_ n3_; clear hb hbox hg) | ((with_reducible refine gate_dst (N := 3) rfl ?_); refine box_event ?hg (N := 3) ?hd (cs := #[.bool a1_0, .slice A1_1 l1_1.length c1_1, .string a1_2]) (t := 32) ?hr ?_; (case hd => rfl); (case hg => rfl); (case hr => first | (go_simp; done) | (go_simp; rfl)); intro gb407 hg w7 hbox hb; have n0_ := Aside0.mk (blk_below (g := gb406) (o := .cells #[.bool a0_0, .slice A0_1 l0_1.length c0_1, .string a0_2] 32 (0, 0)) (by (with_reducible repeat (first | refine blk_drewN ?_ _ | refine blk_drew ?_ | refine blk_alloc ?_ _)); exact BK406.out) hb); have n1_ := Aside0.mk (below_step (by repeat (first | (with_reducible first | exact HB.out | apply below_alloc | apply pw_below_drewN | apply below_drew1 | refine below_set ?_ GE406.out) | exact HB.out)) hb); have n2_ := Aside0.mk (hbox); have n3_ := Aside0.mk ((by rw [hg]; exact (below_size (by repeat (first | (with_reducible first | exact HB.out | apply below_alloc | apply pw_below_drewN | apply below_drew1 | refine below_set ?_ GE406.out) | exact HB.out))) : w.heap.size ≤ gb407)); have n4_ := Aside0.mk ((by rw [hg]; exact (below_size (by repeat (first | (with_reducible first | exact HB.out | apply below_alloc | apply pw_below_drewN | apply below_drew1 | refine below_set ?_ GE406.out) | exact HB.out))) : w.heap.size ≤ gb407)); have n5_ := Aside0.mk ((by rw [hg]; exact Nat.ne_of_lt (blk_lt (g := gb406) (o := .cells #[.bool a0_0, .slice A0_1 l0_1.length c0_1, .string a0_2] 32 (0, 0)) (by (with_reducible repeat (first | refine blk_drewN ?_ _ | refine blk_drew ?_ | refine blk_alloc ?_ _)); exact BK406.out)) : gb406 ≠ gb407)); have n6_ := Aside0.mk ((by rw [hg]; exact Nat.ne_of_gt (blk_lt (g := gb406) (o := .cells #[.bool a0_0, .slice A0_1 l0_1.length c0_1, .string a0_2] 32 (0, 0)) (by (with_reducible repeat (first | refine blk_drewN ?_ _ | refine blk_drew ?_ | refine blk_alloc ?_ _)); exact BK406.out)) : gb407 ≠ gb406)); clear BK406; clear HB; have BK406 := n0_; have HB := n1_; have BK407 := n2_; have GW407 := n3_; have GE407 := n4_; have NB406_407 := n5_; have NB407_406 := n6_; clear n0_ n1_ n2_ n3_ n4_ n5_ n6_; clear hb hbox hg; have hnb8 := NB406_407.out; have hnc8 := NB407_406.out; have hcz9_0 : w7.cell? ⟨gb406, 0, none⟩ = some (.bool a0_0) := (blk_cell BK406.out 0).trans rfl; have hcz9_1 : w7.cell? ⟨gb406, 1, none⟩ = some (.slice A0_1 l0_1.length c0_1) := (blk_cell BK406.out 1).trans rfl; have hcz9_2 : w7.cell? ⟨gb406, 2, none⟩ = some (.string a0_2) := (blk_cell BK406.out 2).trans rfl; have hfz9_0 := blk_frozen BK406.out 0; have hfz9_1 := blk_frozen BK406.out 1; have hfz9_2 := blk_frozen BK406.out 2; have hcz10_0 : w7.cell? ⟨gb407, 0, none⟩ = some (.bool a1_0) := (blk_cell BK407.out 0).trans rfl; have hcz10_1 : w7.cell? ⟨gb407, 1, none⟩ = some (.slice A1_1 l1_1.length c1_1) := (blk_cell BK407.out 1).trans rfl; have hcz10_2 : w7.cell? ⟨gb407, 2, none⟩ = some (.string a1_2) := (blk_cell BK407.out 2).trans rfl; have hfz10_0 := blk_frozen BK407.out 0; have hfz10_1 := blk_frozen BK407.out 1; have hfz10_2 := blk_frozen BK407.out 2) | (go_at_call 112; (with_reducible refine (api_Word_112.calls k _ _ l0_1 _ _ l1_1 t408 _ ?side1 ?side2 ?side3 ?side4 A5.out).mono ?_); (case side1 => repeat (first | exact (Kd.C_below HR0_1.out HB.out) | (with_reducible refine Kd.C_alloc ?_ _) | (with_reducible refine Kd.C_drewN ?_ _) | (with_reducible refine Kd.C_drew ?_))); (case side2 => exact HC0_1.out); (case side3 => repeat (first | exact (Kd.C_below HR1_1.out HB.out) | (with_reducible refine Kd.C_alloc ?_ _) | (with_reducible refine Kd.C_drewN ?_ _) | (with_reducible refine Kd.C_drew ?_))); (case side4 => exact HC1_1.out); rintro e w' ⟨rfl, ⟨nd, rfl⟩⟩))
   go_ret
   exact ⟨by first | rfl | (simp [errW_none, errW_some] <;> rfl) | (simp [*, errW_none, errW_some] <;> rfl), by repeat (first | (with_reducible first | exact HB.out | apply below_alloc | apply pw_below_drewN | apply below_drew1 | refine below_set ?_ GE406.out | refine below_set ?_ GE407.out) | exact HB.out)⟩
  ·rw [if_neg c4] at H
   have c4b0 : (a0_2.toList == a1_2.toList) = false := beq_eq_false_iff_ne.mpr c4
   have c4b1 : (a0_2.toList != a1_2.toList) = true := bne_iff_ne.mpr c4
   obtain rfl := Option.some.inj H
   go_enter Try.func97, Try.ntmps97
   go_wp2_with (first | ((with_reducible refine gate_dst (N := 2) rfl ?_); refine box_event ?hg (N := 2) ?hd (cs := #[.bool a0_0, .slice A0_1 l0_1.length c0_1, .string a0_2]) (t := 32) ?hr ?_; (case hd => rfl); (case hg => rfl); (case hr => first | (go_simp; done) | (go_simp; rfl)); intro gb406 hg w11 hbox hb; have n0_ := Aside0.mk (below_step (by repeat (first | (with_reducible first | exact HB.out | apply below_alloc | apply pw_below_drewN | apply below_drew1) | exact HB.out)) hb); have n1_ := Aside0.mk (hbox); have n2_ := Aside0.mk ((by rw [hg]; exact (below_size (by repeat (first | (with_reducible first | exact HB.out | apply below_alloc | apply pw_below_drewN | apply below_drew1) | exact HB.out))) : w.heap.size ≤ gb406)); have n3_ := Aside0.mk ((by rw [hg]; exact (below_size (by repeat (first | (with_reducible first | exact HB.out | apply below_alloc | apply pw_below_drewN | apply below_drew1) | exact HB.out))) : w.heap.size ≤ gb406)); clear HB; have HB := n0_; have BK406 := n1_; have GW406 := n2_; have GE406 := n3_; clear n0_ n1_ n2_ n3_; clear hb hbox hg) | ((with_reducible refine gate_dst (N := 3) rfl ?_); refine box_event ?hg (N := 3) ?hd (cs := #[.bool a1_0, .slice A1_1 l1_1.length c1_1, .string a1_2]) (t := 32) ?hr ?_; (case hd => rfl); (case hg => rfl); (case hr => first | (go_simp; done) | (go_simp; rfl)); intro gb407 hg w12 hbox hb; have n0_ := Aside0.mk (blk_below (g := gb406) (o := .cells #[.bool a0_0, .slice A0_1 l0_1.length c0_1, .string a0_2] 32 (0, 0)) (by (with_reducible repeat (first | refine blk_drewN ?_ _ | refine blk_drew ?_ | refine blk_alloc ?_ _)); exact BK406.out) hb); have n1_ := Aside0.mk (below_step (by repeat (first | (with_reducible first | exact HB.out | apply below_alloc | apply pw_below_drewN | apply below_drew1 | refine below_set ?_ GE406.out) | exact HB.out)) hb); have n2_ := Aside0.mk (hbox); have n3_ := Aside0.mk ((by rw [hg]; exact (below_size (by repeat (first | (with_reducible first | exact HB.out | apply below_alloc | apply pw_below_drewN | apply below_drew1 | refine below_set ?_ GE406.out) | exact HB.out))) : w.heap.size ≤ gb407)); have n4_ := Aside0.mk ((by rw [hg]; exact (below_size (by repeat (first | (with_reducible first | exact HB.out | apply below_alloc | apply pw_below_drewN | apply below_drew1 | refine below_set ?_ GE406.out) | exact HB.out))) : w.heap.size ≤ gb407)); have n5_ := Aside0.mk ((by rw [hg]; exact Nat.ne_of_lt (blk_lt (g := gb406) (o := .cells #[.bool a0_0, .slice A0_1 l0_1.length c0_1, .string a0_2] 32 (0, 0)) (by (with_reducible repeat (first | refine blk_drewN ?_ _ | refine blk_drew ?_ | refine blk_alloc ?_ _)); exact BK406.out)) : gb406 ≠ gb407)); have n6_ := Aside0.mk ((by rw [hg]; exact Nat.ne_of_gt (blk_lt (g := gb406) (o := .cells #[.bool a0_0, .slice A0_1 l0_1.length c0_1, .string a0_2] 32 (0, 0)) (by (with_reducible repeat (first | refine blk_drewN ?_ _ | refine blk_drew ?_ | refine blk_alloc ?_ _)); exact BK406.out)) : gb407 ≠ gb406)); clear BK406; clear HB; have BK406 := n0_; have HB := n1_; have BK407 := n2_; have GW407 := n3_; have GE407 := n4_; have NB406_407 := n5_; have NB407_406 := n6_; clear n0_ n1_ n2_ n3_ n4_ n5_ n6_; clear hb hbox hg; have hnb13 := NB406_407.out; have hnc13 := NB407_406.out; have hcz14_0 : w12.cell? ⟨gb406, 0, none⟩ = some (.bool a0_0) := (blk_cell BK406.out 0).trans rfl; have hcz14_1 : w12.cell? ⟨gb406, 1, none⟩ = some (.slice A0_1 l0_1.length c0_1) := (blk_cell BK406.out 1).trans rfl; have hcz14_2 : w12.cell? ⟨gb406, 2, none⟩ = some (.string a0_2) := (blk_cell BK406.out 2).trans rfl; have hfz14_0 := blk_frozen BK406.out 0; have hfz14_1 := blk_frozen BK406.out 1; have hfz14_2 := blk_frozen BK406.out 2; have hcz15_0 : w12.cell? ⟨gb407, 0, none⟩ = some (.bool a1_0) := (blk_cell BK407.out 0).trans rfl; have hcz15_1 : w12.cell? ⟨gb407, 1, none⟩ = some (.slice A1_1 l1_1.length c1_1) := (blk_cell BK407.out 1).trans rfl; have hcz15_2 : w12.cell? ⟨gb407, 2, none⟩ = some (.string a1_2) := (blk_cell BK407.out 2).trans rfl; have hfz15_0 := blk_frozen BK407.out 0; have hfz15_1 := blk_frozen BK407.out 1; have hfz15_2 := blk_frozen BK407.out 2))
   go_ret
   exact ⟨by first | rfl | (simp [errW_none, errW_some] <;> rfl) | (simp [*, errW_none, errW_some] <;> rfl), by repeat (first | (with_reducible first | exact HB.out | apply below_alloc | apply pw_below_drewN | apply below_drew1 | refine below_set ?_ GE406.out | refine below_set ?_ GE407.out) | exact HB.out)⟩
 ·rw [if_neg c3] at H
  have c3b0 : (a0_0 == a1_0) = false := by simpa using c3
  (try (have c3b1 : decide (a0_0 = a1_0) = false := by simpa using c3))
  (try (have c3b2 : (a0_0 == a1_0) = false := by simpa using c3))
  (try (have c3b3 : ¬ (a0_0 = a1_0) := by simpa using c3))
  clear c3
  obtain rfl := Option.some.inj H
  go_enter Try.func97, Try.ntmps97
  go_wp2_with (first | ((with_reducible refine gate_dst (N := 2) rfl ?_); refine box_event ?hg (N := 2) ?hd (cs := #[.bool a0_0, .slice A0_1 l0_1.length c0_1, .string a0_2]) (t := 32) ?hr ?_; (case hd => rfl); (case hg => rfl); (case hr => first | (go_simp; done) | (go_simp; rfl)); intro gb406 hg w16 hbox hb; have n0_ := Aside0.mk (below_step (by repeat (first | (with_reducible first | exact HB.out | apply below_alloc | apply pw_below_drewN | apply below_drew1) | exact HB.out)) hb); have n1_ := Aside0.mk (hbox); have n2_ := Aside0.mk ((by rw [hg]; exact (below_size (by repeat (first | (with_reducible first | exact HB.out | apply below_alloc | apply pw_below_drewN | apply below_drew1) | exact HB.out))) : w.heap.size ≤ gb406)); have n3_ := Aside0.mk ((by rw [hg]; exact (below_size (by repeat (first | (with_reducible first | exact HB.out | apply below_alloc | apply pw_below_drewN | apply below_drew1) | exact HB.out))) : w.heap.size ≤ gb406)); clear HB; have HB := n0_; have BK406 := n1_; have GW406 := n2_; have GE406 := n3_; clear n0_ n1_ n2_ n3_; clear hb hbox hg) | ((with_reducible refine gate_dst (N := 3) rfl ?_); refine box_event ?hg (N := 3) ?hd (cs := #[.bool a1_0, .slice A1_1 l1_1.length c1_1, .string a1_2]) (t := 32) ?hr ?_; (case hd => rfl); (case hg => rfl); (case hr => first | (go_simp; done) | (go_simp; rfl)); intro gb407 hg w17 hbox hb; have n0_ := Aside0.mk (blk_below (g := gb406) (o := .cells #[.bool a0_0, .slice A0_1 l0_1.length c0_1, .string a0_2] 32 (0, 0)) (by (with_reducible repeat (first | refine blk_drewN ?_ _ | refine blk_drew ?_ | refine blk_alloc ?_ _)); exact BK406.out) hb); have n1_ := Aside0.mk (below_step (by repeat (first | (with_reducible first | exact HB.out | apply below_alloc | apply pw_below_drewN | apply below_drew1 | refine below_set ?_ GE406.out) | exact HB.out)) hb); have n2_ := Aside0.mk (hbox); have n3_ := Aside0.mk ((by rw [hg]; exact (below_size (by repeat (first | (with_reducible first | exact HB.out | apply below_alloc | apply pw_below_drewN | apply below_drew1 | refine below_set ?_ GE406.out) | exact HB.out))) : w.heap.size ≤ gb407)); have n4_ := Aside0.mk ((by rw [hg]; exact (below_size (by repeat (first | (with_reducible first | exact HB.out | apply below_alloc | apply pw_below_drewN | apply below_drew1 | refine below_set ?_ GE406.out) | exact HB.out))) : w.heap.size ≤ gb407)); have n5_ := Aside0.mk ((by rw [hg]; exact Nat.ne_of_lt (blk_lt (g := gb406) (o := .cells #[.bool a0_0, .slice A0_1 l0_1.length c0_1, .string a0_2] 32 (0, 0)) (by (with_reducible repeat (first | refine blk_drewN ?_ _ | refine blk_drew ?_ | refine blk_alloc ?_ _)); exact BK406.out)) : gb406 ≠ gb407)); have n6_ := Aside0.mk ((by rw [hg]; exact Nat.ne_of_gt (blk_lt (g := gb406) (o := .cells #[.bool a0_0, .slice A0_1 l0_1.length c0_1, .string a0_2] 32 (0, 0)) (by (with_reducible repeat (first | refine blk_drewN ?_ _ | refine blk_drew ?_ | refine blk_alloc ?_ _)); exact BK406.out)) : gb407 ≠ gb406)); clear BK406; clear HB; have BK406 := n0_; have HB := n1_; have BK407 := n2_; have GW407 := n3_; have GE407 := n4_; have NB406_407 := n5_; have NB407_406 := n6_; clear n0_ n1_ n2_ n3_ n4_ n5_ n6_; clear hb hbox hg; have hnb18 := NB406_407.out; have hnc18 := NB407_406.out; have hcz19_0 : w17.cell? ⟨gb406, 0, none⟩ = some (.bool a0_0) := (blk_cell BK406.out 0).trans rfl; have hcz19_1 : w17.cell? ⟨gb406, 1, none⟩ = some (.slice A0_1 l0_1.length c0_1) := (blk_cell BK406.out 1).trans rfl; have hcz19_2 : w17.cell? ⟨gb406, 2, none⟩ = some (.string a0_2) := (blk_cell BK406.out 2).trans rfl; have hfz19_0 := blk_frozen BK406.out 0; have hfz19_1 := blk_frozen BK406.out 1; have hfz19_2 := blk_frozen BK406.out 2; have hcz20_0 : w17.cell? ⟨gb407, 0, none⟩ = some (.bool a1_0) := (blk_cell BK407.out 0).trans rfl; have hcz20_1 : w17.cell? ⟨gb407, 1, none⟩ = some (.slice A1_1 l1_1.length c1_1) := (blk_cell BK407.out 1).trans rfl; have hcz20_2 : w17.cell? ⟨gb407, 2, none⟩ = some (.string a1_2) := (blk_cell BK407.out 2).trans rfl; have hfz20_0 := blk_frozen BK407.out 0; have hfz20_1 := blk_frozen BK407.out 1; have hfz20_2 := blk_frozen BK407.out 2))
  go_ret
  exact ⟨by first | rfl | (simp [errW_none, errW_some] <;> rfl) | (simp [*, errW_none, errW_some] <;> rfl), by repeat (first | (with_reducible first | exact HB.out | apply below_alloc | apply pw_below_drewN | apply below_drew1 | refine below_set ?_ GE406.out | refine below_set ?_ GE407.out) | exact HB.out)⟩
end Go.Proofs.Ytehkhbnhmehobaa.P
namespace Go.Proofs.Ytehkhbnhmehobaa.P
open Go.RowKit Go.Proofs.YtehkhbnhmehobaaW.PrintWords Go.Proofs.YtehkhbnhmehobaaW.PrintLast Go.Proofs.YtehkhbnhmehobaaW.PrintMore
attribute [local go_sem] max2_int min2_int max_two min_two max_three min_three max_four min_four
set_option linter.unusedVariables false
set_option linter.unusedSimpArgs false
def subprogram_run.l0 : Nat → List (S32) → Int → Int → Int → Int → Option (Bool)
 | 0, _, _, _, _, _ => none
 | k + 1, x0, x1, x2, x10, x11 => if x11 < x10 then (if 0 ≤ (wrap64 (x1 + x11)) then (if (wrap64 (x1 + x11)) < (x0.length : Int) then ((subprogram_foldable.f k ((rd_T32 x0 (wrap64 (x1 + x11))).f0) ((rd_T32 x0 (wrap64 (x1 + x11))).f1) ((rd_T32 x0 (wrap64 (x1 + x11))).f2)).bind fun t410 => (if t410 = true then (if 0 ≤ (wrap64 (x2 + x11)) then (if (wrap64 (x2 + x11)) < (x0.length : Int) then ((block_Equal.f k ((rd_T32 x0 (wrap64 (x1 + x11))).f0) ((rd_T32 x0 (wrap64 (x1 + x11))).f1) ((rd_T32 x0 (wrap64 (x1 + x11))).f2) ((rd_T32 x0 (wrap64 (x2 + x11))).f0) ((rd_T32 x0 (wrap64 (x2 + x11))).f1) ((rd_T32 x0 (wrap64 (x2 + x11))).f2)).bind fun t413 => (if t413 = true then (subprogram_run.l0 k x0 x1 x2 x10 (wrap64 (x11 + 1))) else (some false))) else (none)) else (none)) else (some false))) else (none)) else (none)) else (some true)
def subprogram_run.f (k : Nat) (l0 : List (S32)) (a1 : Int) (a2 : Int) (a3 : Int) : Option (Bool) := subprogram_run.l0 k l0 a1 a2 a3 0
theorem subprogram_run.mono_l : ∀ k, (∀ y0 y1 y2 y3 y4, LeO (subprogram_run.l0 k y0 y1 y2 y3 y4) (subprogram_run.l0 (k + 1) y0 y1 y2 y3 y4))
 | 0 => fun _ _ _ _ _ r h => by simp [subprogram_run.l0] at h
 | k + 1 => by
  have ih0 := subprogram_run.mono_l k
  ·intro y0 y1 y2 y3 y4
   unfold subprogram_run.l0
   repeat' first
   | (with_reducible exact ih0 _ _ _ _ _)
   | (with_reducible exact block_Equal.mono _ _ _ _ _ _ _)
   | (with_reducible exact subprogram_foldable.mono _ _ _ _)
   | (with_reducible exact LeO.refl _)
   | (with_reducible exact LeO.none _)
   | (with_reducible refine LeO.ite ?_ ?_)
   | (with_reducible refine LeO.bind ?_ (fun _ => ?_))
   | exact ih0 _ _ _ _ _
   | exact block_Equal.mono _ _ _ _ _ _ _
   | exact subprogram_foldable.mono _ _ _ _
   | exact LeO.none _
   | refine LeO.ite ?_ ?_
   | refine LeO.bind ?_ (fun _ => ?_)
theorem subprogram_run.mono : ∀ a0 a1 a2 a3 k, LeO (subprogram_run.f k a0 a1 a2 a3) (subprogram_run.f (k + 1) a0 a1 a2 a3) := by
 intro a0 a1 a2 a3 k
 have ih0 := subprogram_run.mono_l k
 unfold subprogram_run.f
 repeat' first
   | (with_reducible exact ih0 _ _ _ _ _)
   | (with_reducible exact block_Equal.mono _ _ _ _ _ _ _)
   | (with_reducible exact subprogram_foldable.mono _ _ _ _)
   | (with_reducible exact LeO.refl _)
   | (with_reducible exact LeO.none _)
   | (with_reducible refine LeO.ite ?_ ?_)
   | (with_reducible refine LeO.bind ?_ (fun _ => ?_))
   | exact ih0 _ _ _ _ _
   | exact block_Equal.mono _ _ _ _ _ _ _
   | exact subprogram_foldable.mono _ _ _ _
   | exact LeO.none _
   | refine LeO.ite ?_ ?_
   | refine LeO.bind ?_ (fun _ => ?_)
def subprogram_run.T4 : Bool × List (List Nat × List Nat) := (true, [([], []), ([], []), ([], []), ([1, 2], [1, 2]), ([0, 3], [0, 3]), ([4], [4]), ([5], [5]), ([6], [6]), ([7, 6], [7]), ([8], [8]), ([8], [8]), ([8], [8]), ([10, 11, 8], [8, 10, 11]), ([9, 12, 8], [8, 9, 12]), ([13, 8], [8, 13]), ([8], [8]), ([8], [8]), ([8], [8]), ([16, 17, 8], [8, 16, 17]), ([15, 18, 8], [8, 15, 18]), ([19, 8], [8, 19]), ([14, 20, 8, 8], [8, 14, 20]), ([21, 8], [8, 21]), ([8, 22], [8, 22])])
def subprogram_run.B4 : List Nat := [0, 0, 0, 6, 15, 31, 63, 127, 255, 511, 511, 511, 3583, 8191, 16383, 511, 511, 511, 197119, 492031, 1016319, 2097151, 4194303, 8388607]
theorem subprogram_run.tab4 : rtab .any (opsOf Try.f68 4) = subprogram_run.T4 := by kernel_rfl
theorem subprogram_run.bits4 : waitsOk subprogram_run.T4.2 subprogram_run.B4 = true := by kernel_rfl
set_option maxHeartbeats 8000000 in
set_option maxRecDepth 100000 in
theorem subprogram_run.calls (k : Nat) (A0 : Option Addr) (c0 : Nat) (l0 : List (S32)) (a1 : Int) (a2 : Int) (a3 : Int) (r : Bool) (w : World) (hr0 : Kd.C k32 w A0 l0.length l0) (hc0 : l0.length ≤ c0) (h : subprogram_run.f k l0 a1 a2 a3 = some r) :
  Calls Try.prog 68 #[.slice A0 l0.length c0, .int .i64 a1, .int .i64 a2, .int .i64 a3] w fun e w' => e = .returned (.bool r) ∧ Below w.heap.size w w' := by
 have hu32 := Try.underlying32
 have HR0 := Aside0.mk hr0
 have HC0 := Aside0.mk hc0
 clear hr0 hc0
 have HB := Aside0.mk (Below.refl w.heap.size w)
 have H : (subprogram_run.l0 k l0 a1 a2 a3 0) = some r := h
 clear h
 have H' := Aside0.mk H
 clear H
 go_enter Try.func68, Try.ntmps68
 go_wp2
 go_loopg [11] k (fun kq v11 w' => ∃ (x11_1 : Int), v11 = .int .i64 x11_1 ∧ Aside0 (subprogram_run.l0 kq l0 a1 a2 a3 x11_1 = some r) ∧ Aside0 (kq ≤ k) ∧ Aside0 (Below w.heap.size w w'))
 case atStart => exact ⟨(0), (by first | rfl | (simp; done) | (simp [*]; done)), H', ⟨Nat.le_refl _⟩, ⟨by repeat (first | (with_reducible first | exact HB.out | apply below_alloc | apply pw_below_drewN | apply below_drew1) | exact HB.out)⟩⟩
 case round =>
  clear H'
  try clear p2
  obtain ⟨x11_1, rfl, HA, HK1, HB⟩ := hrel
  cases gk with
  | zero => exact absurd HA.out (by simp [subprogram_run.l0])
  | succ k1 =>
   have H := HA.out
   clear HA
   simp only [subprogram_run.l0] at H
   by_cases c5 : x11_1 < a3
   ·rw [if_pos c5] at H
    have c5b0 : decide (x11_1 < a3) = true := decide_eq_true c5
    clear c5
    obtain ⟨ji6, hji6⟩ : ∃ j_ : Int, (wrap64 (a1 + x11_1)) = j_ := ⟨_, rfl⟩
    replace H : (if 0 ≤ (ji6) then (if (ji6) < (l0.length : Int) then ((subprogram_foldable.f k1 ((rd_T32 l0 (ji6)).f0) ((rd_T32 l0 (ji6)).f1) ((rd_T32 l0 (ji6)).f2)).bind fun t410 => (if t410 = true then (if 0 ≤ (wrap64 (a2 + x11_1)) then (if (wrap64 (a2 + x11_1)) < (l0.length : Int) then ((block_Equal.f k1 ((rd_T32 l0 (ji6)).f0) ((rd_T32 l0 (ji6)).f1) ((rd_T32 l0 (ji6)).f2) ((rd_T32 l0 (wrap64 (a2 + x11_1))).f0) ((rd_T32 l0 (wrap64 (a2 + x11_1))).f1) ((rd_T32 l0 (wrap64 (a2 + x11_1))).f2)).bind fun t413 => (if t413 = true then (subprogram_run.l0 k1 l0 a1 a2 a3 (wrap64 (x11_1 + 1))) else (some false))) else (none)) else (none)) else (some false))) else (none)) else (none)) = some r := by first | (rw [hji6] at H; exact H) | (simp only [hji6] at H ⊢; exact H)
    have hji6w : (IntKind.i64.wrap (a1 + x11_1)) = ji6 := (i64_w _).trans hji6
    by_cases c7 : 0 ≤ (ji6)
    ·rw [if_pos c7] at H
     have c7b0 : decide (0 ≤ (ji6)) = true := decide_eq_true c7
     clear c7
     by_cases c8 : (ji6) < (l0.length : Int)
     ·rw [if_pos c8] at H
      have c8b0 : decide ((ji6) < (l0.length : Int)) = true := decide_eq_true c8
      clear c8
      replace H := Option.bind_eq_some_iff.mp H
      obtain ⟨t410, A90, H⟩ := H
      replace H : (if t410 = true then (if 0 ≤ (wrap64 (a2 + x11_1)) then (if (wrap64 (a2 + x11_1)) < (l0.length : Int) then ((block_Equal.f k1 ((rd_T32 l0 (ji6)).f0) ((rd_T32 l0 (ji6)).f1) ((rd_T32 l0 (ji6)).f2) ((rd_T32 l0 (wrap64 (a2 + x11_1))).f0) ((rd_T32 l0 (wrap64 (a2 + x11_1))).f1) ((rd_T32 l0 (wrap64 (a2 + x11_1))).f2)).bind fun t413 => (if t413 = true then (subprogram_run.l0 k1 l0 a1 a2 a3 (wrap64 (x11_1 + 1))) else (some false))) else (none)) else (none)) else (some false)) = some r := H
      have A9 := Aside0.mk A90
      clear A90
      by_cases c10 : t410 = true
      ·subst c10
       have H1 : (if 0 ≤ (wrap64 (a2 + x11_1)) then (if (wrap64 (a2 + x11_1)) < (l0.length : Int) then ((block_Equal.f k1 ((rd_T32 l0 (ji6)).f0) ((rd_T32 l0 (ji6)).f1) ((rd_T32 l0 (ji6)).f2) ((rd_T32 l0 (wrap64 (a2 + x11_1))).f0) ((rd_T32 l0 (wrap64 (a2 + x11_1))).f1) ((rd_T32 l0 (wrap64 (a2 + x11_1))).f2)).bind fun t413 => (if t413 = true then (subprogram_run.l0 k1 l0 a1 a2 a3 (wrap64 (x11_1 + 1))) else (some false))) else (none)) else (none)) = some r := by rw [if_pos rfl] at H; exact H
       clear H
       have H := H1
       clear H1
       obtain ⟨ji11, hji11⟩ : ∃ j_ : Int, (wrap64 (a2 + x11_1)) = j_ := ⟨_, rfl⟩
       replace H : (if 0 ≤ (ji11) then (if (ji11) < (l0.length : Int) then ((block_Equal.f k1 ((rd_T32 l0 (ji6)).f0) ((rd_T32 l0 (ji6)).f1) ((rd_T32 l0 (ji6)).f2) ((rd_T32 l0 (ji11)).f0) ((rd_T32 l0 (ji11)).f1) ((rd_T32 l0 (ji11)).f2)).bind fun t413 => (if t413 = true then (subprogram_run.l0 k1 l0 a1 a2 a3 (wrap64 (x11_1 + 1))) else (some false))) else (none)) else (none)) = some r := by first | (rw [hji11] at H; exact H) | (simp only [hji11] at H ⊢; exact H)
       (try rw [hji11] at A9)
       have hji11w : (IntKind.i64.wrap (a2 + x11_1)) = ji11 := (i64_w _).trans hji11
       by_cases c12 : 0 ≤ (ji11)
       ·rw [if_pos c12] at H
        have c12b0 : decide (0 ≤ (ji11)) = true := decide_eq_true c12
        clear c12
        by_cases c13 : (ji11) < (l0.length : Int)
        ·rw [if_pos c13] at H
         have c13b0 : decide ((ji11) < (l0.length : Int)) = true := decide_eq_true c13
         clear c13
         replace H := Option.bind_eq_some_iff.mp H
         obtain ⟨t413, A140, H⟩ := H
         replace H : (if t413 = true then (subprogram_run.l0 k1 l0 a1 a2 a3 (wrap64 (x11_1 + 1))) else (some false)) = some r := H
         have A14 := Aside0.mk A140
         clear A140
         by_cases c15 : t413 = true
         ·subst c15
          have H1 : (subprogram_run.l0 k1 l0 a1 a2 a3 (wrap64 (x11_1 + 1))) = some r := by rw [if_pos rfl] at H; exact H
          clear H
          have H := H1
          clear H1
          have H' := Aside0.mk H
          clear H
          try go_wp2
          have n0_ := Aside0.mk (below_drew1 HB.out)
          clear HB
          have HB := n0_
          clear n0_
          have p409 : 0 ≤ ((ji6) : Int) := of_decide_eq_true (by first | (with_reducible assumption) | assumption)
          have q409 : (ji6) < (l0.length : Int) := of_decide_eq_true (by first | (with_reducible assumption) | assumption)
          obtain ⟨ad409, A409_1, c409_1, e409, hx409_0, hx409_1, hx409_2, hl409_1, hi409_1⟩ := at_T32 HR0.out (ji6) p409 q409
          have hw409_2 := hx409_2
          have hw409_1 := hx409_1
          have hw409_0 := hx409_0
          cases e409
          replace hx409_0 := (HB.out.cell (World.block_lt_of_cell? w _ hx409_0)).trans hx409_0
          replace hx409_1 := (HB.out.cell (World.block_lt_of_cell? w _ hx409_1)).trans hx409_1
          replace hx409_2 := (HB.out.cell (World.block_lt_of_cell? w _ hx409_2)).trans hx409_2
          have HR409_1 := Aside0.mk hi409_1
          have HC409_1 := Aside0.mk hl409_1
          clear hi409_1 hl409_1
          replace p409 := eq_true p409
          replace q409 := eq_true q409
          have p411 : 0 ≤ ((ji6) : Int) := of_decide_eq_true (by first | (with_reducible assumption) | assumption)
          have q411 : (ji6) < (l0.length : Int) := of_decide_eq_true (by first | (with_reducible assumption) | assumption)
          obtain ⟨ad411, A411_1, c411_1, e411, hx411_0, hx411_1, hx411_2, hl411_1, hi411_1⟩ := at_T32 HR0.out (ji6) p411 q411
          have hw411_2 := hx411_2
          have hw411_1 := hx411_1
          have hw411_0 := hx411_0
          obtain rfl : ad409 = ad411 := (by injection e411)
          have HQA411_1 := Aside0.mk (show A411_1 = A409_1 from by first | (have e_ := Option.some.inj (hw409_1.symm.trans hw411_1); injection e_ with e1_ e2_ e3_; exact e1_.symm) | (have e_ := Option.some.inj (hx409_1.symm.trans hx411_1); injection e_ with e1_ e2_ e3_; exact e1_.symm))
          have HQc411_1 := Aside0.mk (show c411_1 = c409_1 from by first | (have e_ := Option.some.inj (hw409_1.symm.trans hw411_1); injection e_ with e1_ e2_ e3_; exact e3_.symm) | (have e_ := Option.some.inj (hx409_1.symm.trans hx411_1); injection e_ with e1_ e2_ e3_; exact e3_.symm))
          replace hx411_0 := (HB.out.cell (World.block_lt_of_cell? w _ hx411_0)).trans hx411_0
          replace hx411_1 := (HB.out.cell (World.block_lt_of_cell? w _ hx411_1)).trans hx411_1
          replace hx411_2 := (HB.out.cell (World.block_lt_of_cell? w _ hx411_2)).trans hx411_2
          have HR411_1 := Aside0.mk hi411_1
          have HC411_1 := Aside0.mk hl411_1
          clear hi411_1 hl411_1
          replace p411 := eq_true p411
          replace q411 := eq_true q411
          have p412 : 0 ≤ ((ji11) : Int) := of_decide_eq_true (by first | (with_reducible assumption) | assumption)
          have q412 : (ji11) < (l0.length : Int) := of_decide_eq_true (by first | (with_reducible assumption) | assumption)
          obtain ⟨ad412, A412_1, c412_1, e412, hx412_0, hx412_1, hx412_2, hl412_1, hi412_1⟩ := at_T32 HR0.out (ji11) p412 q412
          have hw412_2 := hx412_2
          have hw412_1 := hx412_1
          have hw412_0 := hx412_0
          obtain rfl : ad409 = ad412 := (by injection e412)
          replace hx412_0 := (HB.out.cell (World.block_lt_of_cell? w _ hx412_0)).trans hx412_0
          replace hx412_1 := (HB.out.cell (World.block_lt_of_cell? w _ hx412_1)).trans hx412_1
          replace hx412_2 := (HB.out.cell (World.block_lt_of_cell? w _ hx412_2)).trans hx412_2
          have HR412_1 := Aside0.mk hi412_1
          have HC412_1 := Aside0.mk hl412_1
          clear hi412_1 hl412_1
          replace p412 := eq_true p412
          replace q412 := eq_true q412
          refine start_ (n := 24) (S := fun w' => w'.cell? (ad409.add (((ji6)).toNat * 3)) = some (.bool ((rd_T32 l0 (ji6)).f0)) ∧ w'.cell? ⟨(ad409.add (((ji6)).toNat * 3)).block, (ad409.add (((ji6)).toNat * 3)).off + 1, none⟩ = some (.slice A409_1 ((rd_T32 l0 (ji6)).f1).length c409_1) ∧ w'.cell? ⟨(ad409.add (((ji6)).toNat * 3)).block, (ad409.add (((ji6)).toNat * 3)).off + 2, none⟩ = some (.string ((rd_T32 l0 (ji6)).f2)) ∧ w'.cell? (ad409.add (((ji6)).toNat * 3)) = some (.bool ((rd_T32 l0 (ji6)).f0)) ∧ w'.cell? ⟨(ad409.add (((ji6)).toNat * 3)).block, (ad409.add (((ji6)).toNat * 3)).off + 1, none⟩ = some (.slice A411_1 ((rd_T32 l0 (ji6)).f1).length c411_1) ∧ w'.cell? ⟨(ad409.add (((ji6)).toNat * 3)).block, (ad409.add (((ji6)).toNat * 3)).off + 2, none⟩ = some (.string ((rd_T32 l0 (ji6)).f2)) ∧ w'.cell? (ad409.add (((ji11)).toNat * 3)) = some (.bool ((rd_T32 l0 (ji11)).f0)) ∧ w'.cell? ⟨(ad409.add (((ji11)).toNat * 3)).block, (ad409.add (((ji11)).toNat * 3)).off + 1, none⟩ = some (.slice A412_1 ((rd_T32 l0 (ji11)).f1).length c412_1) ∧ w'.cell? ⟨(ad409.add (((ji11)).toNat * 3)).block, (ad409.add (((ji11)).toNat * 3)).off + 2, none⟩ = some (.string ((rd_T32 l0 (ji11)).f2))) (ds := []) #[false, false, false, false, false, false, false, false, false, false, false, false, false, false, false, false, false, false, false, false, false, false, false, false] (by kernel_rfl) rfl rfl ⟨((HB.out.cell (World.block_lt_of_cell? w _ hw409_0)).trans hw409_0), ((HB.out.cell (World.block_lt_of_cell? w _ hw409_1)).trans hw409_1), ((HB.out.cell (World.block_lt_of_cell? w _ hw409_2)).trans hw409_2), ((HB.out.cell (World.block_lt_of_cell? w _ hw411_0)).trans hw411_0), ((HB.out.cell (World.block_lt_of_cell? w _ hw411_1)).trans hw411_1), ((HB.out.cell (World.block_lt_of_cell? w _ hw411_2)).trans hw411_2), ((HB.out.cell (World.block_lt_of_cell? w _ hw412_0)).trans hw412_0), ((HB.out.cell (World.block_lt_of_cell? w _ hw412_1)).trans hw412_1), ((HB.out.cell (World.block_lt_of_cell? w _ hw412_2)).trans hw412_2)⟩ (fun hHeld => ?_); refine with_tabW subprogram_run.tab4 subprogram_run.bits4 (fun HT_ HW_ => ?_)
          generalize wr.drew = w16 at HB HR409_1 HR411_1 HR412_1 hx409_0 hx409_1 hx409_2 hx411_0 hx411_1 hx411_2 hx412_0 hx412_1 hx412_2 hHeld ⊢
          refine pure_ (i := 0) (N := some 14) (v := ?_) (a' := ?_) #[true, false, false, false, false, false, false, false, false, false, false, false, false, false, false, false, false, false, false, false, false, false, false, false] rfl rfl (any_of HT_.out (by kernel_rfl)) (fun _ _ _ h => h) (Or.inl ⟨by rfl, ?_⟩) ?_ ?_
          rotate_left
          ·intro w'
           go_simp
           with_reducible rfl
          rotate_left
          ·simp only [Act.put, List.setIfInBounds_toArray, List.set_cons_zero, List.set_cons_succ, i64_w, i32_w]
           rfl
          refine pure_ (i := 1) (N := some 15) (v := ?_) (a' := ?_) #[true, true, false, false, false, false, false, false, false, false, false, false, false, false, false, false, false, false, false, false, false, false, false, false] rfl rfl (any_of HT_.out (by kernel_rfl)) (fun _ _ _ h => h) (Or.inl ⟨by rfl, ?_⟩) ?_ ?_
          rotate_left
          ·intro w'
           go_simp
           with_reducible rfl
          rotate_left
          ·simp only [Act.put, List.setIfInBounds_toArray, List.set_cons_zero, List.set_cons_succ, i64_w, i32_w]
           rfl
          refine pure_ (i := 2) (N := some 16) (v := ?_) (a' := ?_) #[true, true, true, false, false, false, false, false, false, false, false, false, false, false, false, false, false, false, false, false, false, false, false, false] rfl rfl (any_of HT_.out (by kernel_rfl)) (fun _ _ _ h => h) (Or.inl ⟨by rfl, ?_⟩) ?_ ?_
          rotate_left
          ·intro w'
           go_simp
           with_reducible rfl
          rotate_left
          ·simp only [Act.put, List.setIfInBounds_toArray, List.set_cons_zero, List.set_cons_succ, i64_w, i32_w]
           rfl
          refine pure_ (i := 3) (N := some 17) (v := ?_) (a' := ?_) #[true, true, true, true, false, false, false, false, false, false, false, false, false, false, false, false, false, false, false, false, false, false, false, false] rfl rfl (any_of HT_.out (by kernel_rfl)) (fun _ _ _ h => h) (Or.inl ⟨by rfl, ?_⟩) ?_ ?_
          rotate_left
          ·intro w'
           go_simp
           with_reducible rfl
          rotate_left
          ·simp only [Act.put, List.setIfInBounds_toArray, List.set_cons_zero, List.set_cons_succ, i64_w, i32_w]
           rfl
          refine pure_ (i := 4) (N := some 18) (v := ?_) (a' := ?_) #[true, true, true, true, true, false, false, false, false, false, false, false, false, false, false, false, false, false, false, false, false, false, false, false] rfl rfl (any_of HT_.out (by kernel_rfl)) (fun _ _ _ h => h) (Or.inl ⟨by rfl, ?_⟩) ?_ ?_
          rotate_left
          ·intro w'
           go_simp
           with_reducible rfl
          rotate_left
          ·simp only [Act.put, List.setIfInBounds_toArray, List.set_cons_zero, List.set_cons_succ, i64_w, i32_w]
           rfl
          refine take_ (i := 5) (N := some 19) (v := ?_) (a' := ?_) #[true, true, true, true, true, true, false, false, false, false, false, false, false, false, false, false, false, false, false, false, false, false, false, false] rfl rfl (take_ofW HT_.out HW_.out (by kernel_rfl)) (fun _ _ _ h => h) (Or.inl ⟨by rfl, ?_⟩) hHeld ?_ ?_
          rotate_left
          ·rintro w' ⟨s0, s1, s2, s3, s4, s5, s6, s7, s8⟩
           go_simp
           with_reducible rfl
          rotate_left
          ·simp only [Act.put, List.setIfInBounds_toArray, List.set_cons_zero, List.set_cons_succ, i64_w, i32_w]
           rfl
          refine one_ (i := 6) (N := some 20) #[true, true, true, true, true, true, true, false, false, false, false, false, false, false, false, false, false, false, false, false, false, false, false, false] rfl rfl (one_of HT_.out (by kernel_rfl)) (by decide) (fun K hK => ?_)
          refine goes_ Try.func96 (by kernel_rfl) rfl #[.agg #[.bool ((rd_T32 l0 (ji6)).f0), .slice A409_1 ((rd_T32 l0 (ji6)).f1).length c409_1, .string ((rd_T32 l0 (ji6)).f2)]] (by rfl) rfl rfl (by (try simp only [List.map_toArray, List.map_cons, List.map_nil]); first | done | (simp only [hji6]; rfl) | rfl | (simp only [List.length_drop, List.length_take]; rfl) | (simp only [HQA411_1.out, HQc411_1.out]; rfl) | (simp only [HQA411_1.out, HQc411_1.out, hji6]; rfl)) ?_
          with_reducible refine (subprogram_foldable.calls k1 ((rd_T32 l0 (ji6)).f0) _ _ ((rd_T32 l0 (ji6)).f1) ((rd_T32 l0 (ji6)).f2) true _ ?side1 ?side2 A9.out).mono ?_
          (case side1 => repeat (first | exact (Kd.C_below HR409_1.out HB.out) | (with_reducible refine Kd.C_alloc ?_ _) | (with_reducible refine Kd.C_drewN ?_ _) | (with_reducible refine Kd.C_drew ?_)))
          (case side2 => exact HC409_1.out)
          rintro e w17 ⟨rfl, hb⟩
          refine ⟨_, rfl, ?_⟩
          have n0_ := Aside0.mk (below_step (by repeat (first | (with_reducible first | exact HB.out | apply below_alloc | apply pw_below_drewN | apply below_drew1) | exact HB.out)) hb)
          clear HB
          have HB := n0_
          clear n0_
          (try clear hb)
          (try clear hb2)
          (try clear hk)
          (try clear hi)
          refine hK.out _ _ ⟨((HB.out.cell (World.block_lt_of_cell? w _ hw409_0)).trans hw409_0), ((HB.out.cell (World.block_lt_of_cell? w _ hw409_1)).trans hw409_1), ((HB.out.cell (World.block_lt_of_cell? w _ hw409_2)).trans hw409_2), ((HB.out.cell (World.block_lt_of_cell? w _ hw411_0)).trans hw411_0), ((HB.out.cell (World.block_lt_of_cell? w _ hw411_1)).trans hw411_1), ((HB.out.cell (World.block_lt_of_cell? w _ hw411_2)).trans hw411_2), ((HB.out.cell (World.block_lt_of_cell? w _ hw412_0)).trans hw412_0), ((HB.out.cell (World.block_lt_of_cell? w _ hw412_1)).trans hw412_1), ((HB.out.cell (World.block_lt_of_cell? w _ hw412_2)).trans hw412_2)⟩ (fun hHeld => ?_)
          clear hK K
          refine norm_ (a' := ?_) ?_ ?_
          rotate_left
          ·show Act.put _ (some 20) _ = _
           simp only [Act.put, List.setIfInBounds_toArray, List.set_cons_zero, List.set_cons_succ, i64_w, i32_w]
           rfl
          refine pure_ (i := 7) (N := some 21) (v := ?_) (a' := ?_) #[true, true, true, true, true, true, true, true, false, false, false, false, false, false, false, false, false, false, false, false, false, false, false, false] rfl rfl (any_of HT_.out (by kernel_rfl)) (fun _ _ _ h => h) (Or.inl ⟨by rfl, ?_⟩) ?_ ?_
          rotate_left
          ·intro w'
           go_simp
           with_reducible rfl
          rotate_left
          ·simp only [Act.put, List.setIfInBounds_toArray, List.set_cons_zero, List.set_cons_succ, i64_w, i32_w]
           rfl
          refine pure_ (i := 8) (N := some 22) (v := ?_) (a' := ?_) #[true, true, true, true, true, true, true, true, true, false, false, false, false, false, false, false, false, false, false, false, false, false, false, false] rfl rfl (any_of HT_.out (by kernel_rfl)) (fun _ _ _ h => h) (Or.inl ⟨by rfl, ?_⟩) ?_ ?_
          rotate_left
          ·intro w'
           go_simp
           with_reducible rfl
          rotate_left
          ·simp only [Act.put, List.setIfInBounds_toArray, List.set_cons_zero, List.set_cons_succ, i64_w, i32_w]
           rfl
          refine pure_ (i := 9) (N := some 23) (v := ?_) (a' := ?_) #[true, true, true, true, true, true, true, true, true, true, false, false, false, false, false, false, false, false, false, false, false, false, false, false] rfl rfl (any_of HT_.out (by kernel_rfl)) (fun _ _ _ h => h) (Or.inl ⟨by rfl, ?_⟩) ?_ ?_
          rotate_left
          ·intro w'
           go_simp
           with_reducible rfl
          rotate_left
          ·simp only [Act.put, List.setIfInBounds_toArray, List.set_cons_zero, List.set_cons_succ, i64_w, i32_w]
           rfl
          refine pure_ (i := 10) (N := some 24) (v := ?_) (a' := ?_) #[true, true, true, true, true, true, true, true, true, true, true, false, false, false, false, false, false, false, false, false, false, false, false, false] rfl rfl (any_of HT_.out (by kernel_rfl)) (fun _ _ _ h => h) (Or.inl ⟨by rfl, ?_⟩) ?_ ?_
          rotate_left
          ·intro w'
           go_simp
           with_reducible rfl
          rotate_left
          ·simp only [Act.put, List.setIfInBounds_toArray, List.set_cons_zero, List.set_cons_succ, i64_w, i32_w]
           rfl
          refine pure_ (i := 11) (N := some 25) (v := ?_) (a' := ?_) #[true, true, true, true, true, true, true, true, true, true, true, true, false, false, false, false, false, false, false, false, false, false, false, false] rfl rfl (any_of HT_.out (by kernel_rfl)) (fun _ _ _ h => h) (Or.inl ⟨by rfl, ?_⟩) ?_ ?_
          rotate_left
          ·intro w'
           go_simp
           with_reducible rfl
          rotate_left
          ·simp only [Act.put, List.setIfInBounds_toArray, List.set_cons_zero, List.set_cons_succ, i64_w, i32_w]
           rfl
          refine pure_ (i := 12) (N := some 26) (v := ?_) (a' := ?_) #[true, true, true, true, true, true, true, true, true, true, true, true, true, false, false, false, false, false, false, false, false, false, false, false] rfl rfl (any_of HT_.out (by kernel_rfl)) (fun _ _ _ h => h) (Or.inl ⟨by rfl, ?_⟩) ?_ ?_
          rotate_left
          ·intro w'
           go_simp
           with_reducible rfl
          rotate_left
          ·simp only [Act.put, List.setIfInBounds_toArray, List.set_cons_zero, List.set_cons_succ, i64_w, i32_w]
           rfl
          refine pure_ (i := 13) (N := some 27) (v := ?_) (a' := ?_) #[true, true, true, true, true, true, true, true, true, true, true, true, true, true, false, false, false, false, false, false, false, false, false, false] rfl rfl (any_of HT_.out (by kernel_rfl)) (fun _ _ _ h => h) (Or.inl ⟨by rfl, ?_⟩) ?_ ?_
          rotate_left
          ·intro w'
           go_simp
           with_reducible rfl
          rotate_left
          ·simp only [Act.put, List.setIfInBounds_toArray, List.set_cons_zero, List.set_cons_succ, i64_w, i32_w]
           rfl
          refine pure_ (i := 15) (N := some 29) (v := ?_) (a' := ?_) #[true, true, true, true, true, true, true, true, true, true, true, true, true, true, false, true, false, false, false, false, false, false, false, false] rfl rfl (any_of HT_.out (by kernel_rfl)) (fun _ _ _ h => h) (Or.inl ⟨by rfl, ?_⟩) ?_ ?_
          rotate_left
          ·intro w'
           go_simp
           with_reducible rfl
          rotate_left
          ·simp only [Act.put, List.setIfInBounds_toArray, List.set_cons_zero, List.set_cons_succ, i64_w, i32_w]
           rfl
          refine pure_ (i := 16) (N := some 30) (v := ?_) (a' := ?_) #[true, true, true, true, true, true, true, true, true, true, true, true, true, true, false, true, true, false, false, false, false, false, false, false] rfl rfl (any_of HT_.out (by kernel_rfl)) (fun _ _ _ h => h) (Or.inl ⟨by rfl, ?_⟩) ?_ ?_
          rotate_left
          ·intro w'
           go_simp
           with_reducible rfl
          rotate_left
          ·simp only [Act.put, List.setIfInBounds_toArray, List.set_cons_zero, List.set_cons_succ, i64_w, i32_w]
           rfl
          refine pure_ (i := 17) (N := some 31) (v := ?_) (a' := ?_) #[true, true, true, true, true, true, true, true, true, true, true, true, true, true, false, true, true, true, false, false, false, false, false, false] rfl rfl (any_of HT_.out (by kernel_rfl)) (fun _ _ _ h => h) (Or.inl ⟨by rfl, ?_⟩) ?_ ?_
          rotate_left
          ·intro w'
           go_simp
           with_reducible rfl
          rotate_left
          ·simp only [Act.put, List.setIfInBounds_toArray, List.set_cons_zero, List.set_cons_succ, i64_w, i32_w]
           rfl
          refine pure_ (i := 18) (N := some 32) (v := ?_) (a' := ?_) #[true, true, true, true, true, true, true, true, true, true, true, true, true, true, false, true, true, true, true, false, false, false, false, false] rfl rfl (any_of HT_.out (by kernel_rfl)) (fun _ _ _ h => h) (Or.inl ⟨by rfl, ?_⟩) ?_ ?_
          rotate_left
          ·intro w'
           go_simp
           with_reducible rfl
          rotate_left
          ·simp only [Act.put, List.setIfInBounds_toArray, List.set_cons_zero, List.set_cons_succ, i64_w, i32_w]
           rfl
          refine pure_ (i := 19) (N := some 33) (v := ?_) (a' := ?_) #[true, true, true, true, true, true, true, true, true, true, true, true, true, true, false, true, true, true, true, true, false, false, false, false] rfl rfl (any_of HT_.out (by kernel_rfl)) (fun _ _ _ h => h) (Or.inl ⟨by rfl, ?_⟩) ?_ ?_
          rotate_left
          ·intro w'
           go_simp
           with_reducible rfl
          rotate_left
          ·simp only [Act.put, List.setIfInBounds_toArray, List.set_cons_zero, List.set_cons_succ, i64_w, i32_w]
           rfl
          refine take_ (i := 14) (N := some 28) (v := ?_) (a' := ?_) #[true, true, true, true, true, true, true, true, true, true, true, true, true, true, true, true, true, true, true, true, false, false, false, false] rfl rfl (take_ofW HT_.out HW_.out (by kernel_rfl)) (fun _ _ _ h => h) (Or.inl ⟨by rfl, ?_⟩) hHeld ?_ ?_
          rotate_left
          ·rintro w' ⟨s0, s1, s2, s3, s4, s5, s6, s7, s8⟩
           go_simp
           with_reducible rfl
          rotate_left
          ·simp only [Act.put, List.setIfInBounds_toArray, List.set_cons_zero, List.set_cons_succ, i64_w, i32_w]
           rfl
          refine take_ (i := 20) (N := some 34) (v := ?_) (a' := ?_) #[true, true, true, true, true, true, true, true, true, true, true, true, true, true, true, true, true, true, true, true, true, false, false, false] rfl rfl (take_ofW HT_.out HW_.out (by kernel_rfl)) (fun _ _ _ h => h) (Or.inl ⟨by rfl, ?_⟩) hHeld ?_ ?_
          rotate_left
          ·rintro w' ⟨s0, s1, s2, s3, s4, s5, s6, s7, s8⟩
           go_simp
           with_reducible rfl
          rotate_left
          ·simp only [Act.put, List.setIfInBounds_toArray, List.set_cons_zero, List.set_cons_succ, i64_w, i32_w]
           rfl
          refine one_ (i := 21) (N := some 35) #[true, true, true, true, true, true, true, true, true, true, true, true, true, true, true, true, true, true, true, true, true, true, false, false] rfl rfl (one_of HT_.out (by kernel_rfl)) (by decide) (fun K hK => ?_)
          refine goes_ Try.func97 (by kernel_rfl) rfl #[.agg #[.bool ((rd_T32 l0 (ji6)).f0), .slice A411_1 ((rd_T32 l0 (ji6)).f1).length c411_1, .string ((rd_T32 l0 (ji6)).f2)], .agg #[.bool ((rd_T32 l0 (ji11)).f0), .slice A412_1 ((rd_T32 l0 (ji11)).f1).length c412_1, .string ((rd_T32 l0 (ji11)).f2)]] (by rfl) rfl rfl (by (try simp only [List.map_toArray, List.map_cons, List.map_nil]); first | done | (simp only [hji11, hji6]; rfl) | rfl | (simp only [List.length_drop, List.length_take]; rfl) | (simp only [HQA411_1.out, HQc411_1.out]; rfl) | (simp only [HQA411_1.out, HQc411_1.out, hji11, hji6]; rfl)) ?_
          with_reducible refine (block_Equal.calls k1 ((rd_T32 l0 (ji6)).f0) _ _ ((rd_T32 l0 (ji6)).f1) ((rd_T32 l0 (ji6)).f2) ((rd_T32 l0 (ji11)).f0) _ _ ((rd_T32 l0 (ji11)).f1) ((rd_T32 l0 (ji11)).f2) true _ ?side1 ?side2 ?side3 ?side4 A14.out).mono ?_
          (case side1 => repeat (first | exact (Kd.C_below HR411_1.out HB.out) | (with_reducible refine Kd.C_alloc ?_ _) | (with_reducible refine Kd.C_drewN ?_ _) | (with_reducible refine Kd.C_drew ?_)))
          (case side2 => exact HC411_1.out)
          (case side3 => repeat (first | exact (Kd.C_below HR412_1.out HB.out) | (with_reducible refine Kd.C_alloc ?_ _) | (with_reducible refine Kd.C_drewN ?_ _) | (with_reducible refine Kd.C_drew ?_)))
          (case side4 => exact HC412_1.out)
          rintro e w18 ⟨rfl, hb⟩
          refine ⟨_, rfl, ?_⟩
          have n0_ := Aside0.mk (below_step (by repeat (first | (with_reducible first | exact HB.out | apply below_alloc | apply pw_below_drewN | apply below_drew1) | exact HB.out)) hb)
          clear HB
          have HB := n0_
          clear n0_
          (try clear hb)
          (try clear hb2)
          (try clear hk)
          (try clear hi)
          refine hK.out _ _ ⟨((HB.out.cell (World.block_lt_of_cell? w _ hw409_0)).trans hw409_0), ((HB.out.cell (World.block_lt_of_cell? w _ hw409_1)).trans hw409_1), ((HB.out.cell (World.block_lt_of_cell? w _ hw409_2)).trans hw409_2), ((HB.out.cell (World.block_lt_of_cell? w _ hw411_0)).trans hw411_0), ((HB.out.cell (World.block_lt_of_cell? w _ hw411_1)).trans hw411_1), ((HB.out.cell (World.block_lt_of_cell? w _ hw411_2)).trans hw411_2), ((HB.out.cell (World.block_lt_of_cell? w _ hw412_0)).trans hw412_0), ((HB.out.cell (World.block_lt_of_cell? w _ hw412_1)).trans hw412_1), ((HB.out.cell (World.block_lt_of_cell? w _ hw412_2)).trans hw412_2)⟩ (fun hHeld => ?_)
          clear hK K
          refine norm_ (a' := ?_) ?_ ?_
          rotate_left
          ·show Act.put _ (some 35) _ = _
           simp only [Act.put, List.setIfInBounds_toArray, List.set_cons_zero, List.set_cons_succ, i64_w, i32_w]
           rfl
          refine pure_ (i := 22) (N := some 36) (v := ?_) (a' := ?_) #[true, true, true, true, true, true, true, true, true, true, true, true, true, true, true, true, true, true, true, true, true, true, true, false] rfl rfl (any_of HT_.out (by kernel_rfl)) (fun _ _ _ h => h) (Or.inl ⟨by rfl, ?_⟩) ?_ ?_
          rotate_left
          ·intro w'
           go_simp
           with_reducible rfl
          rotate_left
          ·simp only [Act.put, List.setIfInBounds_toArray, List.set_cons_zero, List.set_cons_succ, i64_w, i32_w]
           rfl
          refine pure_ (i := 23) (N := some 37) (v := ?_) (a' := ?_) #[true, true, true, true, true, true, true, true, true, true, true, true, true, true, true, true, true, true, true, true, true, true, true, true] rfl rfl (any_of HT_.out (by kernel_rfl)) (fun _ _ _ h => h) (Or.inl ⟨by rfl, ?_⟩) ?_ ?_
          rotate_left
          ·intro w'
           go_simp
           with_reducible rfl
          rotate_left
          ·simp only [Act.put, List.setIfInBounds_toArray, List.set_cons_zero, List.set_cons_succ, i64_w, i32_w]
           rfl
          refine done_ (done_of HT_.out (by kernel_rfl)) ?_
          try go_wp2
          go_roundg k1
          case measure => have := HK1.out; omega
          case rel => exact ⟨(wrap64 (x11_1 + 1)), (by first | rfl | (simp; done) | (simp [*]; done)), H', ⟨by have := HK1.out; omega⟩, ⟨by repeat (first | (with_reducible first | exact HB.out | apply below_alloc | apply pw_below_drewN | apply below_drew1) | exact HB.out)⟩⟩
         ·replace c15 := Bool.eq_false_iff.mpr c15
          subst c15
          have H1 : (some false) = some r := by rw [if_neg (show ¬ (false = true) by decide)] at H; exact H
          clear H
          have H := H1
          clear H1
          obtain rfl := Option.some.inj H
          try go_wp2
          have n0_ := Aside0.mk (below_drew1 HB.out)
          clear HB
          have HB := n0_
          clear n0_
          have p409 : 0 ≤ ((ji6) : Int) := of_decide_eq_true (by first | (with_reducible assumption) | assumption)
          have q409 : (ji6) < (l0.length : Int) := of_decide_eq_true (by first | (with_reducible assumption) | assumption)
          obtain ⟨ad409, A409_1, c409_1, e409, hx409_0, hx409_1, hx409_2, hl409_1, hi409_1⟩ := at_T32 HR0.out (ji6) p409 q409
          have hw409_2 := hx409_2
          have hw409_1 := hx409_1
          have hw409_0 := hx409_0
          cases e409
          replace hx409_0 := (HB.out.cell (World.block_lt_of_cell? w _ hx409_0)).trans hx409_0
          replace hx409_1 := (HB.out.cell (World.block_lt_of_cell? w _ hx409_1)).trans hx409_1
          replace hx409_2 := (HB.out.cell (World.block_lt_of_cell? w _ hx409_2)).trans hx409_2
          have HR409_1 := Aside0.mk hi409_1
          have HC409_1 := Aside0.mk hl409_1
          clear hi409_1 hl409_1
          replace p409 := eq_true p409
          replace q409 := eq_true q409
          have p411 : 0 ≤ ((ji6) : Int) := of_decide_eq_true (by first | (with_reducible assumption) | assumption)
          have q411 : (ji6) < (l0.length : Int) := of_decide_eq_true (by first | (with_reducible assumption) | assumption)
          obtain ⟨ad411, A411_1, c411_1, e411, hx411_0, hx411_1, hx411_2, hl411_1, hi411_1⟩ := at_T32 HR0.out (ji6) p411 q411
          have hw411_2 := hx411_2
          have hw411_1 := hx411_1
          have hw411_0 := hx411_0
          obtain rfl : ad409 = ad411 := (by injection e411)
          have HQA411_1 := Aside0.mk (show A411_1 = A409_1 from by first | (have e_ := Option.some.inj (hw409_1.symm.trans hw411_1); injection e_ with e1_ e2_ e3_; exact e1_.symm) | (have e_ := Option.some.inj (hx409_1.symm.trans hx411_1); injection e_ with e1_ e2_ e3_; exact e1_.symm))
          have HQc411_1 := Aside0.mk (show c411_1 = c409_1 from by first | (have e_ := Option.some.inj (hw409_1.symm.trans hw411_1); injection e_ with e1_ e2_ e3_; exact e3_.symm) | (have e_ := Option.some.inj (hx409_1.symm.trans hx411_1); injection e_ with e1_ e2_ e3_; exact e3_.symm))
          replace hx411_0 := (HB.out.cell (World.block_lt_of_cell? w _ hx411_0)).trans hx411_0
          replace hx411_1 := (HB.out.cell (World.block_lt_of_cell? w _ hx411_1)).trans hx411_1
          replace hx411_2 := (HB.out.cell (World.block_lt_of_cell? w _ hx411_2)).trans hx411_2
          have HR411_1 := Aside0.mk hi411_1
          have HC411_1 := Aside0.mk hl411_1
          clear hi411_1 hl411_1
          replace p411 := eq_true p411
          replace q411 := eq_true q411
          have p412 : 0 ≤ ((ji11) : Int) := of_decide_eq_true (by first | (with_reducible assumption) | assumption)
          have q412 : (ji11) < (l0.length : Int) := of_decide_eq_true (by first | (with_reducible assumption) | assumption)
          obtain ⟨ad412, A412_1, c412_1, e412, hx412_0, hx412_1, hx412_2, hl412_1, hi412_1⟩ := at_T32 HR0.out (ji11) p412 q412
          have hw412_2 := hx412_2
          have hw412_1 := hx412_1
          have hw412_0 := hx412_0
          obtain rfl : ad409 = ad412 := (by injection e412)
          replace hx412_0 := (HB.out.cell (World.block_lt_of_cell? w _ hx412_0)).trans hx412_0
          replace hx412_1 := (HB.out.cell (World.block_lt_of_cell? w _ hx412_1)).trans hx412_1
          replace hx412_2 := (HB.out.cell (World.block_lt_of_cell? w _ hx412_2)).trans hx412_2
          have HR412_1 := Aside0.mk hi412_1
          have HC412_1 := Aside0.mk hl412_1
          clear hi412_1 hl412_1
          replace p412 := eq_true p412
          replace q412 := eq_true q412
          refine start_ (n := 24) (S := fun w' => w'.cell? (ad409.add (((ji6)).toNat * 3)) = some (.bool ((rd_T32 l0 (ji6)).f0)) ∧ w'.cell? ⟨(ad409.add (((ji6)).toNat * 3)).block, (ad409.add (((ji6)).toNat * 3)).off + 1, none⟩ = some (.slice A409_1 ((rd_T32 l0 (ji6)).f1).length c409_1) ∧ w'.cell? ⟨(ad409.add (((ji6)).toNat * 3)).block, (ad409.add (((ji6)).toNat * 3)).off + 2, none⟩ = some (.string ((rd_T32 l0 (ji6)).f2)) ∧ w'.cell? (ad409.add (((ji6)).toNat * 3)) = some (.bool ((rd_T32 l0 (ji6)).f0)) ∧ w'.cell? ⟨(ad409.add (((ji6)).toNat * 3)).block, (ad409.add (((ji6)).toNat * 3)).off + 1, none⟩ = some (.slice A411_1 ((rd_T32 l0 (ji6)).f1).length c411_1) ∧ w'.cell? ⟨(ad409.add (((ji6)).toNat * 3)).block, (ad409.add (((ji6)).toNat * 3)).off + 2, none⟩ = some (.string ((rd_T32 l0 (ji6)).f2)) ∧ w'.cell? (ad409.add (((ji11)).toNat * 3)) = some (.bool ((rd_T32 l0 (ji11)).f0)) ∧ w'.cell? ⟨(ad409.add (((ji11)).toNat * 3)).block, (ad409.add (((ji11)).toNat * 3)).off + 1, none⟩ = some (.slice A412_1 ((rd_T32 l0 (ji11)).f1).length c412_1) ∧ w'.cell? ⟨(ad409.add (((ji11)).toNat * 3)).block, (ad409.add (((ji11)).toNat * 3)).off + 2, none⟩ = some (.string ((rd_T32 l0 (ji11)).f2))) (ds := []) #[false, false, false, false, false, false, false, false, false, false, false, false, false, false, false, false, false, false, false, false, false, false, false, false] (by kernel_rfl) rfl rfl ⟨((HB.out.cell (World.block_lt_of_cell? w _ hw409_0)).trans hw409_0), ((HB.out.cell (World.block_lt_of_cell? w _ hw409_1)).trans hw409_1), ((HB.out.cell (World.block_lt_of_cell? w _ hw409_2)).trans hw409_2), ((HB.out.cell (World.block_lt_of_cell? w _ hw411_0)).trans hw411_0), ((HB.out.cell (World.block_lt_of_cell? w _ hw411_1)).trans hw411_1), ((HB.out.cell (World.block_lt_of_cell? w _ hw411_2)).trans hw411_2), ((HB.out.cell (World.block_lt_of_cell? w _ hw412_0)).trans hw412_0), ((HB.out.cell (World.block_lt_of_cell? w _ hw412_1)).trans hw412_1), ((HB.out.cell (World.block_lt_of_cell? w _ hw412_2)).trans hw412_2)⟩ (fun hHeld => ?_); refine with_tabW subprogram_run.tab4 subprogram_run.bits4 (fun HT_ HW_ => ?_)
          generalize wr.drew = w19 at HB HR409_1 HR411_1 HR412_1 hx409_0 hx409_1 hx409_2 hx411_0 hx411_1 hx411_2 hx412_0 hx412_1 hx412_2 hHeld ⊢
          refine pure_ (i := 0) (N := some 14) (v := ?_) (a' := ?_) #[true, false, false, false, false, false, false, false, false, false, false, false, false, false, false, false, false, false, false, false, false, false, false, false] rfl rfl (any_of HT_.out (by kernel_rfl)) (fun _ _ _ h => h) (Or.inl ⟨by rfl, ?_⟩) ?_ ?_
          rotate_left
          ·intro w'
           go_simp
           with_reducible rfl
          rotate_left
          ·simp only [Act.put, List.setIfInBounds_toArray, List.set_cons_zero, List.set_cons_succ, i64_w, i32_w]
           rfl
          refine pure_ (i := 1) (N := some 15) (v := ?_) (a' := ?_) #[true, true, false, false, false, false, false, false, false, false, false, false, false, false, false, false, false, false, false, false, false, false, false, false] rfl rfl (any_of HT_.out (by kernel_rfl)) (fun _ _ _ h => h) (Or.inl ⟨by rfl, ?_⟩) ?_ ?_
          rotate_left
          ·intro w'
           go_simp
           with_reducible rfl
          rotate_left
          ·simp only [Act.put, List.setIfInBounds_toArray, List.set_cons_zero, List.set_cons_succ, i64_w, i32_w]
           rfl
          refine pure_ (i := 2) (N := some 16) (v := ?_) (a' := ?_) #[true, true, true, false, false, false, false, false, false, false, false, false, false, false, false, false, false, false, false, false, false, false, false, false] rfl rfl (any_of HT_.out (by kernel_rfl)) (fun _ _ _ h => h) (Or.inl ⟨by rfl, ?_⟩) ?_ ?_
          rotate_left
          ·intro w'
           go_simp
           with_reducible rfl
          rotate_left
          ·simp only [Act.put, List.setIfInBounds_toArray, List.set_cons_zero, List.set_cons_succ, i64_w, i32_w]
           rfl
          refine pure_ (i := 3) (N := some 17) (v := ?_) (a' := ?_) #[true, true, true, true, false, false, false, false, false, false, false, false, false, false, false, false, false, false, false, false, false, false, false, false] rfl rfl (any_of HT_.out (by kernel_rfl)) (fun _ _ _ h => h) (Or.inl ⟨by rfl, ?_⟩) ?_ ?_
          rotate_left
          ·intro w'
           go_simp
           with_reducible rfl
          rotate_left
          ·simp only [Act.put, List.setIfInBounds_toArray, List.set_cons_zero, List.set_cons_succ, i64_w, i32_w]
           rfl
          refine pure_ (i := 4) (N := some 18) (v := ?_) (a' := ?_) #[true, true, true, true, true, false, false, false, false, false, false, false, false, false, false, false, false, false, false, false, false, false, false, false] rfl rfl (any_of HT_.out (by kernel_rfl)) (fun _ _ _ h => h) (Or.inl ⟨by rfl, ?_⟩) ?_ ?_
          rotate_left
          ·intro w'
           go_simp
           with_reducible rfl
          rotate_left
          ·simp only [Act.put, List.setIfInBounds_toArray, List.set_cons_zero, List.set_cons_succ, i64_w, i32_w]
           rfl
          refine take_ (i := 5) (N := some 19) (v := ?_) (a' := ?_) #[true, true, true, true, true, true, false, false, false, false, false, false, false, false, false, false, false, false, false, false, false, false, false, false] rfl rfl (take_ofW HT_.out HW_.out (by kernel_rfl)) (fun _ _ _ h => h) (Or.inl ⟨by rfl, ?_⟩) hHeld ?_ ?_
          rotate_left
          ·rintro w' ⟨s0, s1, s2, s3, s4, s5, s6, s7, s8⟩
           go_simp
           with_reducible rfl
          rotate_left
          ·simp only [Act.put, List.setIfInBounds_toArray, List.set_cons_zero, List.set_cons_succ, i64_w, i32_w]
           rfl
          refine one_ (i := 6) (N := some 20) #[true, true, true, true, true, true, true, false, false, false, false, false, false, false, false, false, false, false, false, false, false, false, false, false] rfl rfl (one_of HT_.out (by kernel_rfl)) (by decide) (fun K hK => ?_)
          refine goes_ Try.func96 (by kernel_rfl) rfl #[.agg #[.bool ((rd_T32 l0 (ji6)).f0), .slice A409_1 ((rd_T32 l0 (ji6)).f1).length c409_1, .string ((rd_T32 l0 (ji6)).f2)]] (by rfl) rfl rfl (by (try simp only [List.map_toArray, List.map_cons, List.map_nil]); first | done | (simp only [hji6]; rfl) | rfl | (simp only [List.length_drop, List.length_take]; rfl) | (simp only [HQA411_1.out, HQc411_1.out]; rfl) | (simp only [HQA411_1.out, HQc411_1.out, hji6]; rfl)) ?_
          with_reducible refine (subprogram_foldable.calls k1 ((rd_T32 l0 (ji6)).f0) _ _ ((rd_T32 l0 (ji6)).f1) ((rd_T32 l0 (ji6)).f2) true _ ?side1 ?side2 A9.out).mono ?_
          (case side1 => repeat (first | exact (Kd.C_below HR409_1.out HB.out) | (with_reducible refine Kd.C_alloc ?_ _) | (with_reducible refine Kd.C_drewN ?_ _) | (with_reducible refine Kd.C_drew ?_)))
          (case side2 => exact HC409_1.out)
          rintro e w20 ⟨rfl, hb⟩
          refine ⟨_, rfl, ?_⟩
          have n0_ := Aside0.mk (below_step (by repeat (first | (with_reducible first | exact HB.out | apply below_alloc | apply pw_below_drewN | apply below_drew1) | exact HB.out)) hb)
          clear HB
          have HB := n0_
          clear n0_
          (try clear hb)
          (try clear hb2)
          (try clear hk)
          (try clear hi)
          refine hK.out _ _ ⟨((HB.out.cell (World.block_lt_of_cell? w _ hw409_0)).trans hw409_0), ((HB.out.cell (World.block_lt_of_cell? w _ hw409_1)).trans hw409_1), ((HB.out.cell (World.block_lt_of_cell? w _ hw409_2)).trans hw409_2), ((HB.out.cell (World.block_lt_of_cell? w _ hw411_0)).trans hw411_0), ((HB.out.cell (World.block_lt_of_cell? w _ hw411_1)).trans hw411_1), ((HB.out.cell (World.block_lt_of_cell? w _ hw411_2)).trans hw411_2), ((HB.out.cell (World.block_lt_of_cell? w _ hw412_0)).trans hw412_0), ((HB.out.cell (World.block_lt_of_cell? w _ hw412_1)).trans hw412_1), ((HB.out.cell (World.block_lt_of_cell? w _ hw412_2)).trans hw412_2)⟩ (fun hHeld => ?_)
          clear hK K
          refine norm_ (a' := ?_) ?_ ?_
          rotate_left
          ·show Act.put _ (some 20) _ = _
           simp only [Act.put, List.setIfInBounds_toArray, List.set_cons_zero, List.set_cons_succ, i64_w, i32_w]
           rfl
          refine pure_ (i := 7) (N := some 21) (v := ?_) (a' := ?_) #[true, true, true, true, true, true, true, true, false, false, false, false, false, false, false, false, false, false, false, false, false, false, false, false] rfl rfl (any_of HT_.out (by kernel_rfl)) (fun _ _ _ h => h) (Or.inl ⟨by rfl, ?_⟩) ?_ ?_
          rotate_left
          ·intro w'
           go_simp
           with_reducible rfl
          rotate_left
          ·simp only [Act.put, List.setIfInBounds_toArray, List.set_cons_zero, List.set_cons_succ, i64_w, i32_w]
           rfl
          refine pure_ (i := 8) (N := some 22) (v := ?_) (a' := ?_) #[true, true, true, true, true, true, true, true, true, false, false, false, false, false, false, false, false, false, false, false, false, false, false, false] rfl rfl (any_of HT_.out (by kernel_rfl)) (fun _ _ _ h => h) (Or.inl ⟨by rfl, ?_⟩) ?_ ?_
          rotate_left
          ·intro w'
           go_simp
           with_reducible rfl
          rotate_left
          ·simp only [Act.put, List.setIfInBounds_toArray, List.set_cons_zero, List.set_cons_succ, i64_w, i32_w]
           rfl
          refine pure_ (i := 9) (N := some 23) (v := ?_) (a' := ?_) #[true, true, true, true, true, true, true, true, true, true, false, false, false, false, false, false, false, false, false, false, false, false, false, false] rfl rfl (any_of HT_.out (by kernel_rfl)) (fun _ _ _ h => h) (Or.inl ⟨by rfl, ?_⟩) ?_ ?_
          rotate_left
          ·intro w'
           go_simp
           with_reducible rfl
          rotate_left
          ·simp only [Act.put, List.setIfInBounds_toArray, List.set_cons_zero, List.set_cons_succ, i64_w, i32_w]
           rfl
          refine pure_ (i := 10) (N := some 24) (v := ?_) (a' := ?_) #[true, true, true, true, true, true, true, true, true, true, true, false, false, false, false, false, false, false, false, false, false, false, false, false] rfl rfl (any_of HT_.out (by kernel_rfl)) (fun _ _ _ h => h) (Or.inl ⟨by rfl, ?_⟩) ?_ ?_
          rotate_left
          ·intro w'
           go_simp
           with_reducible rfl
          rotate_left
          ·simp only [Act.put, List.setIfInBounds_toArray, List.set_cons_zero, List.set_cons_succ, i64_w, i32_w]
           rfl
          refine pure_ (i := 11) (N := some 25) (v := ?_) (a' := ?_) #[true, true, true, true, true, true, true, true, true, true, true, true, false, false, false, false, false, false, false, false, false, false, false, false] rfl rfl (any_of HT_.out (by kernel_rfl)) (fun _ _ _ h => h) (Or.inl ⟨by rfl, ?_⟩) ?_ ?_
          rotate_left
          ·intro w'
           go_simp
           with_reducible rfl
          rotate_left
          ·simp only [Act.put, List.setIfInBounds_toArray, List.set_cons_zero, List.set_cons_succ, i64_w, i32_w]
           rfl
          refine pure_ (i := 12) (N := some 26) (v := ?_) (a' := ?_) #[true, true, true, true, true, true, true, true, true, true, true, true, true, false, false, false, false, false, false, false, false, false, false, false] rfl rfl (any_of HT_.out (by kernel_rfl)) (fun _ _ _ h => h) (Or.inl ⟨by rfl, ?_⟩) ?_ ?_
          rotate_left
          ·intro w'
           go_simp
           with_reducible rfl
          rotate_left
          ·simp only [Act.put, List.setIfInBounds_toArray, List.set_cons_zero, List.set_cons_succ, i64_w, i32_w]
           rfl
          refine pure_ (i := 13) (N := some 27) (v := ?_) (a' := ?_) #[true, true, true, true, true, true, true, true, true, true, true, true, true, true, false, false, false, false, false, false, false, false, false, false] rfl rfl (any_of HT_.out (by kernel_rfl)) (fun _ _ _ h => h) (Or.inl ⟨by rfl, ?_⟩) ?_ ?_
          rotate_left
          ·intro w'
           go_simp
           with_reducible rfl
          rotate_left
          ·simp only [Act.put, List.setIfInBounds_toArray, List.set_cons_zero, List.set_cons_succ, i64_w, i32_w]
           rfl
          refine pure_ (i := 15) (N := some 29) (v := ?_) (a' := ?_) #[true, true, true, true, true, true, true, true, true, true, true, true, true, true, false, true, false, false, false, false, false, false, false, false] rfl rfl (any_of HT_.out (by kernel_rfl)) (fun _ _ _ h => h) (Or.inl ⟨by rfl, ?_⟩) ?_ ?_
          rotate_left
          ·intro w'
           go_simp
           with_reducible rfl
          rotate_left
          ·simp only [Act.put, List.setIfInBounds_toArray, List.set_cons_zero, List.set_cons_succ, i64_w, i32_w]
           rfl
          refine pure_ (i := 16) (N := some 30) (v := ?_) (a' := ?_) #[true, true, true, true, true, true, true, true, true, true, true, true, true, true, false, true, true, false, false, false, false, false, false, false] rfl rfl (any_of HT_.out (by kernel_rfl)) (fun _ _ _ h => h) (Or.inl ⟨by rfl, ?_⟩) ?_ ?_
          rotate_left
          ·intro w'
           go_simp
           with_reducible rfl
          rotate_left
          ·simp only [Act.put, List.setIfInBounds_toArray, List.set_cons_zero, List.set_cons_succ, i64_w, i32_w]
           rfl
          refine pure_ (i := 17) (N := some 31) (v := ?_) (a' := ?_) #[true, true, true, true, true, true, true, true, true, true, true, true, true, true, false, true, true, true, false, false, false, false, false, false] rfl rfl (any_of HT_.out (by kernel_rfl)) (fun _ _ _ h => h) (Or.inl ⟨by rfl, ?_⟩) ?_ ?_
          rotate_left
          ·intro w'
           go_simp
           with_reducible rfl
          rotate_left
          ·simp only [Act.put, List.setIfInBounds_toArray, List.set_cons_zero, List.set_cons_succ, i64_w, i32_w]
           rfl
          refine pure_ (i := 18) (N := some 32) (v := ?_) (a' := ?_) #[true, true, true, true, true, true, true, true, true, true, true, true, true, true, false, true, true, true, true, false, false, false, false, false] rfl rfl (any_of HT_.out (by kernel_rfl)) (fun _ _ _ h => h) (Or.inl ⟨by rfl, ?_⟩) ?_ ?_
          rotate_left
          ·intro w'
           go_simp
           with_reducible rfl
          rotate_left
          ·simp only [Act.put, List.setIfInBounds_toArray, List.set_cons_zero, List.set_cons_succ, i64_w, i32_w]
           rfl
          refine pure_ (i := 19) (N := some 33) (v := ?_) (a' := ?_) #[true, true, true, true, true, true, true, true, true, true, true, true, true, true, false, true, true, true, true, true, false, false, false, false] rfl rfl (any_of HT_.out (by kernel_rfl)) (fun _ _ _ h => h) (Or.inl ⟨by rfl, ?_⟩) ?_ ?_
          rotate_left
          ·intro w'
           go_simp
           with_reducible rfl
          rotate_left
          ·simp only [Act.put, List.setIfInBounds_toArray, List.set_cons_zero, List.set_cons_succ, i64_w, i32_w]
           rfl
          refine take_ (i := 14) (N := some 28) (v := ?_) (a' := ?_) #[true, true, true, true, true, true, true, true, true, true, true, true, true, true, true, true, true, true, true, true, false, false, false, false] rfl rfl (take_ofW HT_.out HW_.out (by kernel_rfl)) (fun _ _ _ h => h) (Or.inl ⟨by rfl, ?_⟩) hHeld ?_ ?_
          rotate_left
          ·rintro w' ⟨s0, s1, s2, s3, s4, s5, s6, s7, s8⟩
           go_simp
           with_reducible rfl
          rotate_left
          ·simp only [Act.put, List.setIfInBounds_toArray, List.set_cons_zero, List.set_cons_succ, i64_w, i32_w]
           rfl
          refine take_ (i := 20) (N := some 34) (v := ?_) (a' := ?_) #[true, true, true, true, true, true, true, true, true, true, true, true, true, true, true, true, true, true, true, true, true, false, false, false] rfl rfl (take_ofW HT_.out HW_.out (by kernel_rfl)) (fun _ _ _ h => h) (Or.inl ⟨by rfl, ?_⟩) hHeld ?_ ?_
          rotate_left
          ·rintro w' ⟨s0, s1, s2, s3, s4, s5, s6, s7, s8⟩
           go_simp
           with_reducible rfl
          rotate_left
          ·simp only [Act.put, List.setIfInBounds_toArray, List.set_cons_zero, List.set_cons_succ, i64_w, i32_w]
           rfl
          refine one_ (i := 21) (N := some 35) #[true, true, true, true, true, true, true, true, true, true, true, true, true, true, true, true, true, true, true, true, true, true, false, false] rfl rfl (one_of HT_.out (by kernel_rfl)) (by decide) (fun K hK => ?_)
          refine goes_ Try.func97 (by kernel_rfl) rfl #[.agg #[.bool ((rd_T32 l0 (ji6)).f0), .slice A411_1 ((rd_T32 l0 (ji6)).f1).length c411_1, .string ((rd_T32 l0 (ji6)).f2)], .agg #[.bool ((rd_T32 l0 (ji11)).f0), .slice A412_1 ((rd_T32 l0 (ji11)).f1).length c412_1, .string ((rd_T32 l0 (ji11)).f2)]] (by rfl) rfl rfl (by (try simp only [List.map_toArray, List.map_cons, List.map_nil]); first | done | (simp only [hji11, hji6]; rfl) | rfl | (simp only [List.length_drop, List.length_take]; rfl) | (simp only [HQA411_1.out, HQc411_1.out]; rfl) | (simp only [HQA411_1.out, HQc411_1.out, hji11, hji6]; rfl)) ?_
          with_reducible refine (block_Equal.calls k1 ((rd_T32 l0 (ji6)).f0) _ _ ((rd_T32 l0 (ji6)).f1) ((rd_T32 l0 (ji6)).f2) ((rd_T32 l0 (ji11)).f0) _ _ ((rd_T32 l0 (ji11)).f1) ((rd_T32 l0 (ji11)).f2) false _ ?side1 ?side2 ?side3 ?side4 A14.out).mono ?_
          (case side1 => repeat (first | exact (Kd.C_below HR411_1.out HB.out) | (with_reducible refine Kd.C_alloc ?_ _) | (with_reducible refine Kd.C_drewN ?_ _) | (with_reducible refine Kd.C_drew ?_)))
          (case side2 => exact HC411_1.out)
          (case side3 => repeat (first | exact (Kd.C_below HR412_1.out HB.out) | (with_reducible refine Kd.C_alloc ?_ _) | (with_reducible refine Kd.C_drewN ?_ _) | (with_reducible refine Kd.C_drew ?_)))
          (case side4 => exact HC412_1.out)
          rintro e w21 ⟨rfl, hb⟩
          refine ⟨_, rfl, ?_⟩
          have n0_ := Aside0.mk (below_step (by repeat (first | (with_reducible first | exact HB.out | apply below_alloc | apply pw_below_drewN | apply below_drew1) | exact HB.out)) hb)
          clear HB
          have HB := n0_
          clear n0_
          (try clear hb)
          (try clear hb2)
          (try clear hk)
          (try clear hi)
          refine hK.out _ _ ⟨((HB.out.cell (World.block_lt_of_cell? w _ hw409_0)).trans hw409_0), ((HB.out.cell (World.block_lt_of_cell? w _ hw409_1)).trans hw409_1), ((HB.out.cell (World.block_lt_of_cell? w _ hw409_2)).trans hw409_2), ((HB.out.cell (World.block_lt_of_cell? w _ hw411_0)).trans hw411_0), ((HB.out.cell (World.block_lt_of_cell? w _ hw411_1)).trans hw411_1), ((HB.out.cell (World.block_lt_of_cell? w _ hw411_2)).trans hw411_2), ((HB.out.cell (World.block_lt_of_cell? w _ hw412_0)).trans hw412_0), ((HB.out.cell (World.block_lt_of_cell? w _ hw412_1)).trans hw412_1), ((HB.out.cell (World.block_lt_of_cell? w _ hw412_2)).trans hw412_2)⟩ (fun hHeld => ?_)
          clear hK K
          refine norm_ (a' := ?_) ?_ ?_
          rotate_left
          ·show Act.put _ (some 35) _ = _
           simp only [Act.put, List.setIfInBounds_toArray, List.set_cons_zero, List.set_cons_succ, i64_w, i32_w]
           rfl
          refine pure_ (i := 22) (N := some 36) (v := ?_) (a' := ?_) #[true, true, true, true, true, true, true, true, true, true, true, true, true, true, true, true, true, true, true, true, true, true, true, false] rfl rfl (any_of HT_.out (by kernel_rfl)) (fun _ _ _ h => h) (Or.inl ⟨by rfl, ?_⟩) ?_ ?_
          rotate_left
          ·intro w'
           go_simp
           with_reducible rfl
          rotate_left
          ·simp only [Act.put, List.setIfInBounds_toArray, List.set_cons_zero, List.set_cons_succ, i64_w, i32_w]
           rfl
          refine pure_ (i := 23) (N := some 37) (v := ?_) (a' := ?_) #[true, true, true, true, true, true, true, true, true, true, true, true, true, true, true, true, true, true, true, true, true, true, true, true] rfl rfl (any_of HT_.out (by kernel_rfl)) (fun _ _ _ h => h) (Or.inl ⟨by rfl, ?_⟩) ?_ ?_
          rotate_left
          ·intro w'
           go_simp
           with_reducible rfl
          rotate_left
          ·simp only [Act.put, List.setIfInBounds_toArray, List.set_cons_zero, List.set_cons_succ, i64_w, i32_w]
           rfl
          refine done_ (done_of HT_.out (by kernel_rfl)) ?_
          try go_wp2
          go_ret
          exact ⟨by first | rfl | (simp [errW_none, errW_some] <;> rfl) | (simp only [← hji6, ← hji11]; first | rfl | (simp [errW_none, errW_some] <;> rfl)) | (simp [*, errW_none, errW_some] <;> rfl), by repeat (first | (with_reducible first | exact HB.out | apply below_alloc | apply pw_below_drewN | apply below_drew1) | exact HB.out)⟩
        ·rw [if_neg c13] at H
         exact absurd H (by simp)
       ·rw [if_neg c12] at H
        exact absurd H (by simp)
      ·replace c10 := Bool.eq_false_iff.mpr c10
       subst c10
       have H1 : (some false) = some r := by rw [if_neg (show ¬ (false = true) by decide)] at H; exact H
       clear H
       have H := H1
       clear H1
       obtain rfl := Option.some.inj H
       try go_wp2
       have n0_ := Aside0.mk (below_drew1 HB.out)
       clear HB
       have HB := n0_
       clear n0_
       have p409 : 0 ≤ ((ji6) : Int) := of_decide_eq_true (by first | (with_reducible assumption) | assumption)
       have q409 : (ji6) < (l0.length : Int) := of_decide_eq_true (by first | (with_reducible assumption) | assumption)
       obtain ⟨ad409, A409_1, c409_1, e409, hx409_0, hx409_1, hx409_2, hl409_1, hi409_1⟩ := at_T32 HR0.out (ji6) p409 q409
       have hw409_2 := hx409_2
       have hw409_1 := hx409_1
       have hw409_0 := hx409_0
       cases e409
       replace hx409_0 := (HB.out.cell (World.block_lt_of_cell? w _ hx409_0)).trans hx409_0
       replace hx409_1 := (HB.out.cell (World.block_lt_of_cell? w _ hx409_1)).trans hx409_1
       replace hx409_2 := (HB.out.cell (World.block_lt_of_cell? w _ hx409_2)).trans hx409_2
       have HR409_1 := Aside0.mk hi409_1
       have HC409_1 := Aside0.mk hl409_1
       clear hi409_1 hl409_1
       replace p409 := eq_true p409
       replace q409 := eq_true q409
       refine start_ (n := 24) (S := fun w' => w'.cell? (ad409.add (((ji6)).toNat * 3)) = some (.bool ((rd_T32 l0 (ji6)).f0)) ∧ w'.cell? ⟨(ad409.add (((ji6)).toNat * 3)).block, (ad409.add (((ji6)).toNat * 3)).off + 1, none⟩ = some (.slice A409_1 ((rd_T32 l0 (ji6)).f1).length c409_1) ∧ w'.cell? ⟨(ad409.add (((ji6)).toNat * 3)).block, (ad409.add (((ji6)).toNat * 3)).off + 2, none⟩ = some (.string ((rd_T32 l0 (ji6)).f2))) (ds := []) #[false, false, false, false, false, false, false, false, false, false, false, false, false, false, false, false, false, false, false, false, false, false, false, false] (by kernel_rfl) rfl rfl ⟨((HB.out.cell (World.block_lt_of_cell? w _ hw409_0)).trans hw409_0), ((HB.out.cell (World.block_lt_of_cell? w _ hw409_1)).trans hw409_1), ((HB.out.cell (World.block_lt_of_cell? w _ hw409_2)).trans hw409_2)⟩ (fun hHeld => ?_); refine with_tabW subprogram_run.tab4 subprogram_run.bits4 (fun HT_ HW_ => ?_)
       generalize wr.drew = w22 at HB HR409_1 hx409_0 hx409_1 hx409_2 hHeld ⊢
       refine pure_ (i := 0) (N := some 14) (v := ?_) (a' := ?_) #[true, false, false, false, false, false, false, false, false, false, false, false, false, false, false, false, false, false, false, false, false, false, false, false] rfl rfl (any_of HT_.out (by kernel_rfl)) (fun _ _ _ h => h) (Or.inl ⟨by rfl, ?_⟩) ?_ ?_
       rotate_left
       ·intro w'
        go_simp
        with_reducible rfl
       rotate_left
       ·simp only [Act.put, List.setIfInBounds_toArray, List.set_cons_zero, List.set_cons_succ, i64_w, i32_w]
        rfl
       refine pure_ (i := 1) (N := some 15) (v := ?_) (a' := ?_) #[true, true, false, false, false, false, false, false, false, false, false, false, false, false, false, false, false, false, false, false, false, false, false, false] rfl rfl (any_of HT_.out (by kernel_rfl)) (fun _ _ _ h => h) (Or.inl ⟨by rfl, ?_⟩) ?_ ?_
       rotate_left
       ·intro w'
        go_simp
        with_reducible rfl
       rotate_left
       ·simp only [Act.put, List.setIfInBounds_toArray, List.set_cons_zero, List.set_cons_succ, i64_w, i32_w]
        rfl
       refine pure_ (i := 2) (N := some 16) (v := ?_) (a' := ?_) #[true, true, true, false, false, false, false, false, false, false, false, false, false, false, false, false, false, false, false, false, false, false, false, false] rfl rfl (any_of HT_.out (by kernel_rfl)) (fun _ _ _ h => h) (Or.inl ⟨by rfl, ?_⟩) ?_ ?_
       rotate_left
       ·intro w'
        go_simp
        with_reducible rfl
       rotate_left
       ·simp only [Act.put, List.setIfInBounds_toArray, List.set_cons_zero, List.set_cons_succ, i64_w, i32_w]
        rfl
       refine pure_ (i := 3) (N := some 17) (v := ?_) (a' := ?_) #[true, true, true, true, false, false, false, false, false, false, false, false, false, false, false, false, false, false, false, false, false, false, false, false] rfl rfl (any_of HT_.out (by kernel_rfl)) (fun _ _ _ h => h) (Or.inl ⟨by rfl, ?_⟩) ?_ ?_
       rotate_left
       ·intro w'
        go_simp
        with_reducible rfl
       rotate_left
       ·simp only [Act.put, List.setIfInBounds_toArray, List.set_cons_zero, List.set_cons_succ, i64_w, i32_w]
        rfl
       refine pure_ (i := 4) (N := some 18) (v := ?_) (a' := ?_) #[true, true, true, true, true, false, false, false, false, false, false, false, false, false, false, false, false, false, false, false, false, false, false, false] rfl rfl (any_of HT_.out (by kernel_rfl)) (fun _ _ _ h => h) (Or.inl ⟨by rfl, ?_⟩) ?_ ?_
       rotate_left
       ·intro w'
        go_simp
        with_reducible rfl
       rotate_left
       ·simp only [Act.put, List.setIfInBounds_toArray, List.set_cons_zero, List.set_cons_succ, i64_w, i32_w]
        rfl
       refine take_ (i := 5) (N := some 19) (v := ?_) (a' := ?_) #[true, true, true, true, true, true, false, false, false, false, false, false, false, false, false, false, false, false, false, false, false, false, false, false] rfl rfl (take_ofW HT_.out HW_.out (by kernel_rfl)) (fun _ _ _ h => h) (Or.inl ⟨by rfl, ?_⟩) hHeld ?_ ?_
       rotate_left
       ·rintro w' ⟨s0, s1, s2⟩
        go_simp
        with_reducible rfl
       rotate_left
       ·simp only [Act.put, List.setIfInBounds_toArray, List.set_cons_zero, List.set_cons_succ, i64_w, i32_w]
        rfl
       refine one_ (i := 6) (N := some 20) #[true, true, true, true, true, true, true, false, false, false, false, false, false, false, false, false, false, false, false, false, false, false, false, false] rfl rfl (one_of HT_.out (by kernel_rfl)) (by decide) (fun K hK => ?_)
       refine goes_ Try.func96 (by kernel_rfl) rfl #[.agg #[.bool ((rd_T32 l0 (ji6)).f0), .slice A409_1 ((rd_T32 l0 (ji6)).f1).length c409_1, .string ((rd_T32 l0 (ji6)).f2)]] (by rfl) rfl rfl (by (try simp only [List.map_toArray, List.map_cons, List.map_nil]); first | done | (simp only [hji6]; rfl) | rfl | (simp only [List.length_drop, List.length_take]; rfl)) ?_
       with_reducible refine (subprogram_foldable.calls k1 ((rd_T32 l0 (ji6)).f0) _ _ ((rd_T32 l0 (ji6)).f1) ((rd_T32 l0 (ji6)).f2) false _ ?side1 ?side2 A9.out).mono ?_
       (case side1 => repeat (first | exact (Kd.C_below HR409_1.out HB.out) | (with_reducible refine Kd.C_alloc ?_ _) | (with_reducible refine Kd.C_drewN ?_ _) | (with_reducible refine Kd.C_drew ?_)))
       (case side2 => exact HC409_1.out)
       rintro e w23 ⟨rfl, hb⟩
       refine ⟨_, rfl, ?_⟩
       have n0_ := Aside0.mk (below_step (by repeat (first | (with_reducible first | exact HB.out | apply below_alloc | apply pw_below_drewN | apply below_drew1) | exact HB.out)) hb)
       clear HB
       have HB := n0_
       clear n0_
       (try clear hb)
       (try clear hb2)
       (try clear hk)
       (try clear hi)
       refine hK.out _ _ ⟨((HB.out.cell (World.block_lt_of_cell? w _ hw409_0)).trans hw409_0), ((HB.out.cell (World.block_lt_of_cell? w _ hw409_1)).trans hw409_1), ((HB.out.cell (World.block_lt_of_cell? w _ hw409_2)).trans hw409_2)⟩ (fun hHeld => ?_)
       clear hK K
       refine norm_ (a' := ?_) ?_ ?_
       rotate_left
       ·show Act.put _ (some 20) _ = _
        simp only [Act.put, List.setIfInBounds_toArray, List.set_cons_zero, List.set_cons_succ, i64_w, i32_w]
        rfl
       refine pure_ (i := 7) (N := some 21) (v := ?_) (a' := ?_) #[true, true, true, true, true, true, true, true, false, false, false, false, false, false, false, false, false, false, false, false, false, false, false, false] rfl rfl (any_of HT_.out (by kernel_rfl)) (fun _ _ _ h => h) (Or.inl ⟨by rfl, ?_⟩) ?_ ?_
       rotate_left
       ·intro w'
        go_simp
        with_reducible rfl
       rotate_left
       ·simp only [Act.put, List.setIfInBounds_toArray, List.set_cons_zero, List.set_cons_succ, i64_w, i32_w]
        rfl
       refine pure_ (i := 8) (N := some 22) (v := ?_) (a' := ?_) #[true, true, true, true, true, true, true, true, true, false, false, false, false, false, false, false, false, false, false, false, false, false, false, false] rfl rfl (any_of HT_.out (by kernel_rfl)) (fun _ _ _ h => h) (Or.inl ⟨by rfl, ?_⟩) ?_ ?_
       rotate_left
       ·intro w'
        go_simp
        with_reducible rfl
       rotate_left
       ·simp only [Act.put, List.setIfInBounds_toArray, List.set_cons_zero, List.set_cons_succ, i64_w, i32_w]
        rfl
       refine pure_ (i := 9) (N := some 23) (v := undef) (a' := ?_) #[true, true, true, true, true, true, true, true, true, true, false, false, false, false, false, false, false, false, false, false, false, false, false, false] rfl rfl (any_of HT_.out (by kernel_rfl)) (fun _ _ _ h => h) (Or.inr ⟨by rfl, rfl⟩) ?_ ?_
       rotate_left
       ·simp only [Act.put, List.setIfInBounds_toArray, List.set_cons_zero, List.set_cons_succ, i64_w, i32_w]
        rfl
       refine pure_ (i := 10) (N := some 24) (v := undef) (a' := ?_) #[true, true, true, true, true, true, true, true, true, true, true, false, false, false, false, false, false, false, false, false, false, false, false, false] rfl rfl (any_of HT_.out (by kernel_rfl)) (fun _ _ _ h => h) (Or.inr ⟨by rfl, rfl⟩) ?_ ?_
       rotate_left
       ·simp only [Act.put, List.setIfInBounds_toArray, List.set_cons_zero, List.set_cons_succ, i64_w, i32_w]
        rfl
       refine pure_ (i := 11) (N := some 25) (v := undef) (a' := ?_) #[true, true, true, true, true, true, true, true, true, true, true, true, false, false, false, false, false, false, false, false, false, false, false, false] rfl rfl (any_of HT_.out (by kernel_rfl)) (fun _ _ _ h => h) (Or.inr ⟨by rfl, rfl⟩) ?_ ?_
       rotate_left
       ·simp only [Act.put, List.setIfInBounds_toArray, List.set_cons_zero, List.set_cons_succ, i64_w, i32_w]
        rfl
       refine pure_ (i := 12) (N := some 26) (v := undef) (a' := ?_) #[true, true, true, true, true, true, true, true, true, true, true, true, true, false, false, false, false, false, false, false, false, false, false, false] rfl rfl (any_of HT_.out (by kernel_rfl)) (fun _ _ _ h => h) (Or.inr ⟨by rfl, rfl⟩) ?_ ?_
       rotate_left
       ·simp only [Act.put, List.setIfInBounds_toArray, List.set_cons_zero, List.set_cons_succ, i64_w, i32_w]
        rfl
       refine pure_ (i := 13) (N := some 27) (v := undef) (a' := ?_) #[true, true, true, true, true, true, true, true, true, true, true, true, true, true, false, false, false, false, false, false, false, false, false, false] rfl rfl (any_of HT_.out (by kernel_rfl)) (fun _ _ _ h => h) (Or.inr ⟨by rfl, rfl⟩) ?_ ?_
       rotate_left
       ·simp only [Act.put, List.setIfInBounds_toArray, List.set_cons_zero, List.set_cons_succ, i64_w, i32_w]
        rfl
       refine pure_ (i := 14) (N := some 28) (v := undef) (a' := ?_) #[true, true, true, true, true, true, true, true, true, true, true, true, true, true, true, false, false, false, false, false, false, false, false, false] rfl rfl (any_of HT_.out (by kernel_rfl)) (fun _ _ _ h => h) (Or.inr ⟨by rfl, rfl⟩) ?_ ?_
       rotate_left
       ·simp only [Act.put, List.setIfInBounds_toArray, List.set_cons_zero, List.set_cons_succ, i64_w, i32_w]
        rfl
       refine pure_ (i := 15) (N := some 29) (v := undef) (a' := ?_) #[true, true, true, true, true, true, true, true, true, true, true, true, true, true, true, true, false, false, false, false, false, false, false, false] rfl rfl (any_of HT_.out (by kernel_rfl)) (fun _ _ _ h => h) (Or.inr ⟨by rfl, rfl⟩) ?_ ?_
       rotate_left
       ·simp only [Act.put, List.setIfInBounds_toArray, List.set_cons_zero, List.set_cons_succ, i64_w, i32_w]
        rfl
       refine pure_ (i := 16) (N := some 30) (v := undef) (a' := ?_) #[true, true, true, true, true, true, true, true, true, true, true, true, true, true, true, true, true, false, false, false, false, false, false, false] rfl rfl (any_of HT_.out (by kernel_rfl)) (fun _ _ _ h => h) (Or.inr ⟨by rfl, rfl⟩) ?_ ?_
       rotate_left
       ·simp only [Act.put, List.setIfInBounds_toArray, List.set_cons_zero, List.set_cons_succ, i64_w, i32_w]
        rfl
       refine pure_ (i := 17) (N := some 31) (v := undef) (a' := ?_) #[true, true, true, true, true, true, true, true, true, true, true, true, true, true, true, true, true, true, false, false, false, false, false, false] rfl rfl (any_of HT_.out (by kernel_rfl)) (fun _ _ _ h => h) (Or.inr ⟨by rfl, rfl⟩) ?_ ?_
       rotate_left
       ·simp only [Act.put, List.setIfInBounds_toArray, List.set_cons_zero, List.set_cons_succ, i64_w, i32_w]
        rfl
       refine pure_ (i := 18) (N := some 32) (v := undef) (a' := ?_) #[true, true, true, true, true, true, true, true, true, true, true, true, true, true, true, true, true, true, true, false, false, false, false, false] rfl rfl (any_of HT_.out (by kernel_rfl)) (fun _ _ _ h => h) (Or.inr ⟨by rfl, rfl⟩) ?_ ?_
       rotate_left
       ·simp only [Act.put, List.setIfInBounds_toArray, List.set_cons_zero, List.set_cons_succ, i64_w, i32_w]
        rfl
       refine pure_ (i := 19) (N := some 33) (v := undef) (a' := ?_) #[true, true, true, true, true, true, true, true, true, true, true, true, true, true, true, true, true, true, true, true, false, false, false, false] rfl rfl (any_of HT_.out (by kernel_rfl)) (fun _ _ _ h => h) (Or.inr ⟨by rfl, rfl⟩) ?_ ?_
       rotate_left
       ·simp only [Act.put, List.setIfInBounds_toArray, List.set_cons_zero, List.set_cons_succ, i64_w, i32_w]
        rfl
       refine pure_ (i := 20) (N := some 34) (v := undef) (a' := ?_) #[true, true, true, true, true, true, true, true, true, true, true, true, true, true, true, true, true, true, true, true, true, false, false, false] rfl rfl (any_of HT_.out (by kernel_rfl)) (fun _ _ _ h => h) (Or.inr ⟨by rfl, rfl⟩) ?_ ?_
       rotate_left
       ·simp only [Act.put, List.setIfInBounds_toArray, List.set_cons_zero, List.set_cons_succ, i64_w, i32_w]
        rfl
       refine pure_ (i := 21) (N := some 35) (v := undef) (a' := ?_) #[true, true, true, true, true, true, true, true, true, true, true, true, true, true, true, true, true, true, true, true, true, true, false, false] rfl rfl (any_of HT_.out (by kernel_rfl)) (fun _ _ _ h => h) (Or.inr ⟨by rfl, rfl⟩) ?_ ?_
       rotate_left
       ·simp only [Act.put, List.setIfInBounds_toArray, List.set_cons_zero, List.set_cons_succ, i64_w, i32_w]
        rfl
       refine pure_ (i := 22) (N := some 36) (v := undef) (a' := ?_) #[true, true, true, true, true, true, true, true, true, true, true, true, true, true, true, true, true, true, true, true, true, true, true, false] rfl rfl (any_of HT_.out (by kernel_rfl)) (fun _ _ _ h => h) (Or.inr ⟨by rfl, rfl⟩) ?_ ?_
       rotate_left
       ·simp only [Act.put, List.setIfInBounds_toArray, List.set_cons_zero, List.set_cons_succ, i64_w, i32_w]
        rfl
       refine pure_ (i := 23) (N := some 37) (v := ?_) (a' := ?_) #[true, true, true, true, true, true, true, true, true, true, true, true, true, true, true, true, true, true, true, true, true, true, true, true] rfl rfl (any_of HT_.out (by kernel_rfl)) (fun _ _ _ h => h) (Or.inl ⟨by rfl, ?_⟩) ?_ ?_
       rotate_left
       ·intro w'
        go_simp
        with_reducible rfl
       rotate_left
       ·simp only [Act.put, List.setIfInBounds_toArray, List.set_cons_zero, List.set_cons_succ, i64_w, i32_w]
        rfl
       refine done_ (done_of HT_.out (by kernel_rfl)) ?_
       try go_wp2
       go_ret
       exact ⟨by first | rfl | (simp [errW_none, errW_some] <;> rfl) | (simp only [← hji6]; first | rfl | (simp [errW_none, errW_some] <;> rfl)) | (simp [*, errW_none, errW_some] <;> rfl), by repeat (first | (with_reducible first | exact HB.out | apply below_alloc | apply pw_below_drewN | apply below_drew1) | exact HB.out)⟩
     ·rw [if_neg c8] at H
      exact absurd H (by simp)
    ·rw [if_neg c7] at H
     exact absurd H (by simp)
   ·rw [if_neg c5] at H
    have c5b0 : decide (x11_1 < a3) = false := decide_eq_false c5
    clear c5
    obtain rfl := Option.some.inj H
    go_wp2
    go_ret
    exact ⟨by first | rfl | (simp [errW_none, errW_some] <;> rfl) | (simp [*, errW_none, errW_some] <;> rfl), by repeat (first | (with_reducible first | exact HB.out | apply below_alloc | apply pw_below_drewN | apply below_drew1) | exact HB.out)⟩
end Go.Proofs.Ytehkhbnhmehobaa.P
namespace Go.Proofs.Ytehkhbnhmehobaa.P
open Go.RowKit Go.Proofs.YtehkhbnhmehobaaW.PrintWords Go.Proofs.YtehkhbnhmehobaaW.PrintLast Go.Proofs.YtehkhbnhmehobaaW.PrintMore
attribute [local go_sem] max2_int min2_int max_two min_two max_three min_three max_four min_four
set_option linter.unusedVariables false
set_option linter.unusedSimpArgs false
mutual
def subprogram_first.l0 : Nat → List (S32) → Int → Int → Option (Int)
 | 0, _, _, _ => none
 | k + 1, x0, x1, x5 => if (wrap64 (x5 + x1)) ≤ (wrap64 ((x0.length : Int) - x1)) then (subprogram_first.l1 k x0 x1 x5 (wrap64 (x5 + x1))) else (some (-1))
def subprogram_first.l1 : Nat → List (S32) → Int → Int → Int → Option (Int)
 | 0, _, _, _, _ => none
 | k + 1, x0, x1, x5, x6 => if (wrap64 (x6 + x1)) ≤ (x0.length : Int) then ((subprogram_run.f k x0 x5 x6 x1).bind fun t414 => (if t414 = true then (some x5) else (subprogram_first.l1 k x0 x1 x5 (wrap64 (x6 + 1))))) else (subprogram_first.l0 k x0 x1 (wrap64 (x5 + 1)))
end
def subprogram_first.f (k : Nat) (l0 : List (S32)) (a1 : Int) : Option (Int) := subprogram_first.l0 k l0 a1 0
theorem subprogram_first.mono_l : ∀ k, (∀ y0 y1 y2, LeO (subprogram_first.l0 k y0 y1 y2) (subprogram_first.l0 (k + 1) y0 y1 y2)) ∧ (∀ y0 y1 y2 y3, LeO (subprogram_first.l1 k y0 y1 y2 y3) (subprogram_first.l1 (k + 1) y0 y1 y2 y3))
 | 0 => ⟨fun _ _ _ r h => by simp [subprogram_first.l0] at h, fun _ _ _ _ r h => by simp [subprogram_first.l1] at h⟩
 | k + 1 => by
  obtain ⟨ih0, ih1⟩ := subprogram_first.mono_l k
  refine ⟨?_, ?_⟩
  ·intro y0 y1 y2
   unfold subprogram_first.l0
   repeat' first
   | (with_reducible exact ih0 _ _ _)
   | (with_reducible exact ih1 _ _ _ _)
   | (with_reducible exact subprogram_run.mono _ _ _ _ _)
   | (with_reducible exact LeO.refl _)
   | (with_reducible exact LeO.none _)
   | (with_reducible refine LeO.ite ?_ ?_)
   | (with_reducible refine LeO.bind ?_ (fun _ => ?_))
   | exact ih0 _ _ _
   | exact ih1 _ _ _ _
   | exact subprogram_run.mono _ _ _ _ _
   | exact LeO.none _
   | refine LeO.ite ?_ ?_
   | refine LeO.bind ?_ (fun _ => ?_)
  ·intro y0 y1 y2 y3
   unfold subprogram_first.l1
   repeat' first
   | (with_reducible exact ih0 _ _ _)
   | (with_reducible exact ih1 _ _ _ _)
   | (with_reducible exact subprogram_run.mono _ _ _ _ _)
   | (with_reducible exact LeO.refl _)
   | (with_reducible exact LeO.none _)
   | (with_reducible refine LeO.ite ?_ ?_)
   | (with_reducible refine LeO.bind ?_ (fun _ => ?_))
   | exact ih0 _ _ _
   | exact ih1 _ _ _ _
   | exact subprogram_run.mono _ _ _ _ _
   | exact LeO.none _
   | refine LeO.ite ?_ ?_
   | refine LeO.bind ?_ (fun _ => ?_)
theorem subprogram_first.mono : ∀ a0 a1 k, LeO (subprogram_first.f k a0 a1) (subprogram_first.f (k + 1) a0 a1) := by
 intro a0 a1 k
 obtain ⟨ih0, ih1⟩ := subprogram_first.mono_l k
 unfold subprogram_first.f
 repeat' first
   | (with_reducible exact ih0 _ _ _)
   | (with_reducible exact ih1 _ _ _ _)
   | (with_reducible exact subprogram_run.mono _ _ _ _ _)
   | (with_reducible exact LeO.refl _)
   | (with_reducible exact LeO.none _)
   | (with_reducible refine LeO.ite ?_ ?_)
   | (with_reducible refine LeO.bind ?_ (fun _ => ?_))
   | exact ih0 _ _ _
   | exact ih1 _ _ _ _
   | exact subprogram_run.mono _ _ _ _ _
   | exact LeO.none _
   | refine LeO.ite ?_ ?_
   | refine LeO.bind ?_ (fun _ => ?_)
set_option maxHeartbeats 8000000 in
set_option maxRecDepth 100000 in
theorem subprogram_first.calls (k : Nat) (A0 : Option Addr) (c0 : Nat) (l0 : List (S32)) (a1 : Int) (r : Int) (w : World) (hr0 : Kd.C k32 w A0 l0.length l0) (hc0 : l0.length ≤ c0) (h : subprogram_first.f k l0 a1 = some r) :
  Calls Try.prog 67 #[.slice A0 l0.length c0, .int .i64 a1] w fun e w' => e = .returned (.int .i64 r) ∧ Below w.heap.size w w' := by
 have HR0 := Aside0.mk hr0
 have HC0 := Aside0.mk hc0
 clear hr0 hc0
 have HB := Aside0.mk (Below.refl w.heap.size w)
 have H : (subprogram_first.l0 k l0 a1 0) = some r := h
 clear h
 have H' := Aside0.mk H
 clear H
 go_enter Try.func67, Try.ntmps67
 go_wp2
 go_loopg [5] k (fun kq v5 w' => ∃ (x5_1 : Int), v5 = .int .i64 x5_1 ∧ Aside0 (subprogram_first.l0 kq l0 a1 x5_1 = some r) ∧ Aside0 (kq ≤ k) ∧ Aside0 (Below w.heap.size w w'))
 case atStart => exact ⟨(0), (by first | rfl | (simp; done) | (simp [*]; done)), H', ⟨Nat.le_refl _⟩, ⟨by repeat (first | (with_reducible first | exact HB.out | apply below_alloc | apply pw_below_drewN | apply below_drew1) | exact HB.out)⟩⟩
 case round =>
  clear H'
  try clear p2
  obtain ⟨x5_1, rfl, HA, HK1, HB⟩ := hrel
  cases gk with
  | zero => exact absurd HA.out (by simp [subprogram_first.l0])
  | succ k1 =>
   have H := HA.out
   clear HA
   simp only [subprogram_first.l0] at H
   by_cases c3 : (wrap64 (x5_1 + a1)) ≤ (wrap64 ((l0.length : Int) - a1))
   ·rw [if_pos c3] at H
    have c3b0 : decide ((wrap64 (x5_1 + a1)) ≤ (wrap64 ((l0.length : Int) - a1))) = true := decide_eq_true c3
    clear c3
    have H' := Aside0.mk H
    clear H
    go_wp2
    go_loopg [6] k1 (fun kq v6 w' => ∃ (x6_2 : Int), v6 = .int .i64 x6_2 ∧ Aside0 (subprogram_first.l1 kq l0 a1 x5_1 x6_2 = some r) ∧ Aside0 (kq ≤ k1) ∧ Aside0 (Below w.heap.size w w'))
    case atStart => exact ⟨(wrap64 (x5_1 + a1)), (by first | rfl | (simp; done) | (simp [*]; done)), H', ⟨Nat.le_refl _⟩, ⟨by repeat (first | (with_reducible first | exact HB.out | apply below_alloc | apply pw_below_drewN | apply below_drew1) | exact HB.out)⟩⟩
    case round =>
     clear H'
     try clear p2
     try clear c3
     try clear c3b0
     try clear p2
     obtain ⟨x6_2, rfl, HA, HK2, HB⟩ := hrel
     cases gk with
     | zero => exact absurd HA.out (by simp [subprogram_first.l1])
     | succ k2 =>
      have H := HA.out
      clear HA
      simp only [subprogram_first.l1] at H
      by_cases c4 : (wrap64 (x6_2 + a1)) ≤ (l0.length : Int)
      ·rw [if_pos c4] at H
       have c4b0 : decide ((wrap64 (x6_2 + a1)) ≤ (l0.length : Int)) = true := decide_eq_true c4
       clear c4
       replace H := Option.bind_eq_some_iff.mp H
       obtain ⟨t414, A50, H⟩ := H
       replace H : (if t414 = true then (some x5_1) else (subprogram_first.l1 k2 l0 a1 x5_1 (wrap64 (x6_2 + 1)))) = some r := H
       have A5 := Aside0.mk A50
       clear A50
       by_cases c6 : t414 = true
       ·subst c6
        have H1 : (some x5_1) = some r := by rw [if_pos rfl] at H; exact H
        clear H
        have H := H1
        clear H1
        obtain rfl := Option.some.inj H
        go_wp2_with (first | ((with_reducible refine gate_callee (f := 68) rfl ?_); refine goesL_ (some 32) rfl rfl Try.func68 (by kernel_rfl) rfl #[.slice A0 l0.length c0, .int .i64 x5_1, .int .i64 x6_2, .int .i64 a1] rfl (by (try simp only [List.map_toArray, List.map_cons, List.map_nil]); first | done | rfl | (simp only [List.length_drop, List.length_take]; rfl)) ?_; (with_reducible refine (subprogram_run.calls k2 _ _ l0 x5_1 x6_2 a1 true _ ?side1 ?side2 A5.out).mono ?_); (case side1 => repeat (first | exact (Kd.C_below HR0.out HB.out) | (with_reducible refine Kd.C_alloc ?_ _) | (with_reducible refine Kd.C_drewN ?_ _) | (with_reducible refine Kd.C_drew ?_))); (case side2 => exact HC0.out); rintro e w7 ⟨rfl, hb⟩; refine ⟨_, rfl, ?_⟩; have n0_ := Aside0.mk (below_step (by repeat (first | (with_reducible first | exact HB.out | apply below_alloc | apply pw_below_drewN | apply below_drew1) | exact HB.out)) hb); clear HB; have HB := n0_; clear n0_; (try clear hb); (try clear hb2); (try clear hk); (try clear hi)))
        go_ret
        exact ⟨by first | rfl | (simp [errW_none, errW_some] <;> rfl) | (simp [*, errW_none, errW_some] <;> rfl), by repeat (first | (with_reducible first | exact HB.out | apply below_alloc | apply pw_below_drewN | apply below_drew1) | exact HB.out)⟩
       ·replace c6 := Bool.eq_false_iff.mpr c6
        subst c6
        have H1 : (subprogram_first.l1 k2 l0 a1 x5_1 (wrap64 (x6_2 + 1))) = some r := by rw [if_neg (show ¬ (false = true) by decide)] at H; exact H
        clear H
        have H := H1
        clear H1
        have H' := Aside0.mk H
        clear H
        go_wp2_with (first | ((with_reducible refine gate_callee (f := 68) rfl ?_); refine goesL_ (some 32) rfl rfl Try.func68 (by kernel_rfl) rfl #[.slice A0 l0.length c0, .int .i64 x5_1, .int .i64 x6_2, .int .i64 a1] rfl (by (try simp only [List.map_toArray, List.map_cons, List.map_nil]); first | done | rfl | (simp only [List.length_drop, List.length_take]; rfl)) ?_; (with_reducible refine (subprogram_run.calls k2 _ _ l0 x5_1 x6_2 a1 false _ ?side1 ?side2 A5.out).mono ?_); (case side1 => repeat (first | exact (Kd.C_below HR0.out HB.out) | (with_reducible refine Kd.C_alloc ?_ _) | (with_reducible refine Kd.C_drewN ?_ _) | (with_reducible refine Kd.C_drew ?_))); (case side2 => exact HC0.out); rintro e w8 ⟨rfl, hb⟩; refine ⟨_, rfl, ?_⟩; have n0_ := Aside0.mk (below_step (by repeat (first | (with_reducible first | exact HB.out | apply below_alloc | apply pw_below_drewN | apply below_drew1) | exact HB.out)) hb); clear HB; have HB := n0_; clear n0_; (try clear hb); (try clear hb2); (try clear hk); (try clear hi)))
        go_roundg k2
        case measure => have := HK1.out; have := HK2.out; omega
        case rel => exact ⟨(wrap64 (x6_2 + 1)), (by first | rfl | (simp; done) | (simp [*]; done)), H', ⟨by have := HK1.out; have := HK2.out; omega⟩, ⟨by repeat (first | (with_reducible first | exact HB.out | apply below_alloc | apply pw_below_drewN | apply below_drew1) | exact HB.out)⟩⟩
      ·rw [if_neg c4] at H
       have c4b0 : decide ((wrap64 (x6_2 + a1)) ≤ (l0.length : Int)) = false := decide_eq_false c4
       clear c4
       have H' := Aside0.mk H
       clear H
       go_wp2
       go_roundg k2
       case measure => have := HK1.out; have := HK2.out; omega
       case rel => exact ⟨(wrap64 (x5_1 + 1)), (by first | rfl | (simp; done) | (simp [*]; done)), H', ⟨by have := HK1.out; have := HK2.out; omega⟩, ⟨by repeat (first | (with_reducible first | exact HB.out | apply below_alloc | apply pw_below_drewN | apply below_drew1) | exact HB.out)⟩⟩
   ·rw [if_neg c3] at H
    have c3b0 : decide ((wrap64 (x5_1 + a1)) ≤ (wrap64 ((l0.length : Int) - a1))) = false := decide_eq_false c3
    clear c3
    obtain rfl := Option.some.inj H
    go_wp2
    go_ret
    exact ⟨by first | rfl | (simp [errW_none, errW_some] <;> rfl) | (simp [*, errW_none, errW_some] <;> rfl), by repeat (first | (with_reducible first | exact HB.out | apply below_alloc | apply pw_below_drewN | apply below_drew1) | exact HB.out)⟩
end Go.Proofs.Ytehkhbnhmehobaa.P
