/- The law swarflaw43.SubprogramFold of the given program returns true for every input, and its arguments read behind the call as they read before.
   Conditions: none beyond the given statement Rows.SubprogramFoldSaid. -/
import Derived.Test.YtehkhbnhmehobaaRows
import Derived.WalkKit
import Derived.ProofKit
import Derived.OpenShut
import Derived.ShutString
import Derived.ChangeOld
import Derived.Below
import Derived.SizedLaws
import Derived.Carry
import Derived.Test.YtehkhbnhmehobaaCSubprogramFold1
import Derived.Test.YtehkhbnhmehobaaCSubprogramFold2
import Derived.Test.YtehkhbnhmehobaaCSubprogramFold3
import Derived.Test.YtehkhbnhmehobaaCSubprogramFold4
import Derived.Test.YtehkhbnhmehobaaCSubprogramFold5
namespace Go.Proofs.Ytehkhbnhmehobaa.P
open Go.RowKit Go.Proofs.YtehkhbnhmehobaaW.PrintWords Go.Proofs.YtehkhbnhmehobaaW.PrintLast Go.Proofs.YtehkhbnhmehobaaW.PrintMore
attribute [local go_sem] max2_int min2_int max_two min_two max_three min_three max_four min_four
set_option linter.unusedVariables false
set_option linter.unusedSimpArgs false
def subprogram_Split.l0 : Nat → List (S32) → List (S32) → List (S81) → Option ((List (S32)) × (List (S81)) × Int)
 | 0, _, _, _ => none
 | k + 1, x6, x466000, x466001 => if (x6.length : Int) > 0 then (if 0 < (x6.length : Int) then ((subprogram_beginning.f ((rd_T32 x6 0).f0) ((rd_T32 x6 0).f1) ((rd_T32 x6 0).f2)).bind fun bt472 => ((IndexFunc_back.f k x6).bind fun t474 => (if bt472.2 = true then (if t474 < 0 then (some (([] : List (S32)), ([] : List (S81)), 1)) else (if 1 ≤ t474 then (if t474 ≤ (x6.length : Int) then ((Clone_Block.f ((x6.take (t474 : Int).toNat).drop 1)).bind fun t480 => (if x466001.length < 4398046511104 then (if 0 ≤ (wrap64 (t474 + 1)) then (if (wrap64 (t474 + 1)) ≤ (x6.length : Int) then (subprogram_Split.l0 k (x6.drop ((wrap64 (t474 + 1)) : Int).toNat) x466000 (x466001 ++ [(⟨bt472.1, t480⟩ : S81)])) else (none)) else (none)) else (none))) else (none)) else (none))) else (some (([] : List (S32)), ([] : List (S81)), 1))))) else (none)) else ((subprogram_ordered.f k x466000 x466001).bind fun t491 => (if t491 = true then ((subprogram_repeated.f x466001).bind fun t492 => (if t492 = true then (some (([] : List (S32)), ([] : List (S81)), 5)) else (some (x466000, x466001, 0)))) else (some (([] : List (S32)), ([] : List (S81)), 1))))
def subprogram_Split.f (k : Nat) (l0 : List (S32)) : Option ((List (S32)) × (List (S81)) × Int) := (IndexFunc_end.f k l0).bind fun t456 => (if t456 < 0 then (some (([] : List (S32)), ([] : List (S81)), 1)) else (if 0 ≤ (wrap64 (t456 + 1)) then (if (wrap64 (t456 + 1)) ≤ (l0.length : Int) then ((Clone_Block.f (l0.take ((wrap64 (t456 + 1)) : Int).toNat)).bind fun t462 => (subprogram_Split.l0 k (l0.drop ((wrap64 (t456 + 1)) : Int).toNat) t462 ([] : List (S81)))) else (none)) else (none)))
theorem subprogram_Split.mono_l : ∀ k, (∀ y0 y1 y2, LeO (subprogram_Split.l0 k y0 y1 y2) (subprogram_Split.l0 (k + 1) y0 y1 y2))
 | 0 => fun _ _ _ r h => by simp [subprogram_Split.l0] at h
 | k + 1 => by
  have ih0 := subprogram_Split.mono_l k
  ·intro y0 y1 y2
   unfold subprogram_Split.l0
   repeat' first
   | (with_reducible exact ih0 _ _ _)
   | (with_reducible exact IndexFunc_back.mono _ _)
   | (with_reducible exact IndexFunc_end.mono _ _)
   | (with_reducible exact subprogram_ordered.mono _ _ _)
   | (with_reducible exact LeO.refl _)
   | (with_reducible exact LeO.none _)
   | (with_reducible refine LeO.ite ?_ ?_)
   | (with_reducible refine LeO.bind ?_ (fun _ => ?_))
   | exact ih0 _ _ _
   | exact IndexFunc_back.mono _ _
   | exact IndexFunc_end.mono _ _
   | exact subprogram_ordered.mono _ _ _
   | exact LeO.none _
   | refine LeO.ite ?_ ?_
   | refine LeO.bind ?_ (fun _ => ?_)
theorem subprogram_Split.mono : ∀ a0 k, LeO (subprogram_Split.f k a0) (subprogram_Split.f (k + 1) a0) := by
 intro a0 k
 have ih0 := subprogram_Split.mono_l k
 unfold subprogram_Split.f
 repeat' first
   | (with_reducible exact ih0 _ _ _)
   | (with_reducible exact IndexFunc_back.mono _ _)
   | (with_reducible exact IndexFunc_end.mono _ _)
   | (with_reducible exact subprogram_ordered.mono _ _ _)
   | (with_reducible exact LeO.refl _)
   | (with_reducible exact LeO.none _)
   | (with_reducible refine LeO.ite ?_ ?_)
   | (with_reducible refine LeO.bind ?_ (fun _ => ?_))
   | exact ih0 _ _ _
   | exact IndexFunc_back.mono _ _
   | exact IndexFunc_end.mono _ _
   | exact subprogram_ordered.mono _ _ _
   | exact LeO.none _
   | refine LeO.ite ?_ ?_
   | refine LeO.bind ?_ (fun _ => ?_)
def subprogram_Split.T11 : Bool × List (List Nat × List Nat) := (true, [([], []), ([0], [0]), ([], []), ([], []), ([], []), ([3, 4], [3, 4]), ([5], [5]), ([2, 6], [2, 6]), ([7], [7]), ([1, 8, 6], [1, 8]), ([0, 1, 2, 3, 4, 5, 6, 7, 8, 9], []), ([10, 9, 9, 0, 1, 2, 3, 4, 5, 6, 7, 8, 9], [9, 10])])
def subprogram_Split.B11 : List Nat := [0, 1, 0, 0, 0, 24, 56, 124, 252, 511, 1023, 2047]
theorem subprogram_Split.tab11 : rtab .any (opsOf Try.f45 11) = subprogram_Split.T11 := by kernel_rfl
theorem subprogram_Split.bits11 : waitsOk subprogram_Split.T11.2 subprogram_Split.B11 = true := by kernel_rfl
set_option maxHeartbeats 8000000 in
set_option maxRecDepth 100000 in
theorem subprogram_Split.calls (k : Nat) (P0_ : Nat → Prop) (A0 : Option Addr) (c0 : Nat) (l0 : List (S32)) (r1 : List (S32)) (r2 : List (S81)) (r3 : Int) (w : World) (hs0 : Kd.V k32 32 w w.heap.size (fun k_ => P0_ k_) (.slice A0 l0.length c0) l0) (h : subprogram_Split.f k l0 = some (r1, r2, r3)) :
  Calls Try.prog 45 #[.slice A0 l0.length c0] w fun e w' => ∃ v0_ v1_ : Value, e = .returned (.tuple #[.agg #[v0_, v1_], .int .i64 r3]) ∧ Kd.N k32 32 w' w.heap.size (fun k_ => (P0_ k_ ∨ w.heap.size ≤ k_) ∧ some k_ ≠ (v1_ : Value).ownBlock) v0_ r1 ∧ Kd.N k81 81 w' w.heap.size (fun k_ => (P0_ k_ ∨ w.heap.size ≤ k_) ∧ some k_ ≠ (v0_ : Value).ownBlock) v1_ r2 ∧ Below w.heap.size w w' := by
 have hu54 := Try.underlying54
 have hu32 := Try.underlying32
 have hu81 := Try.underlying81
 have HO0 := Aside0.mk (show Kd.V k32 32 w w.heap.size (fun k_ => (P0_ k_ ∨ w.heap.size ≤ k_)) (.slice A0 l0.length c0) l0 from Kd.V_mono hs0 (fun k_ hk => .inl hk))
 have HB := Aside0.mk (Below.refl w.heap.size w)
 have H : ((IndexFunc_end.f k l0).bind fun t456 => (if t456 < 0 then (some (([] : List (S32)), ([] : List (S81)), 1)) else (if 0 ≤ (wrap64 (t456 + 1)) then (if (wrap64 (t456 + 1)) ≤ (l0.length : Int) then ((Clone_Block.f (l0.take ((wrap64 (t456 + 1)) : Int).toNat)).bind fun t462 => (subprogram_Split.l0 k (l0.drop ((wrap64 (t456 + 1)) : Int).toNat) t462 ([] : List (S81)))) else (none)) else (none)))) = some (r1, r2, r3) := h
 clear h
 replace H := Option.bind_eq_some_iff.mp H
 obtain ⟨t456, A20, H⟩ := H
 replace H : (if t456 < 0 then (some (([] : List (S32)), ([] : List (S81)), 1)) else (if 0 ≤ (wrap64 (t456 + 1)) then (if (wrap64 (t456 + 1)) ≤ (l0.length : Int) then ((Clone_Block.f (l0.take ((wrap64 (t456 + 1)) : Int).toNat)).bind fun t462 => (subprogram_Split.l0 k (l0.drop ((wrap64 (t456 + 1)) : Int).toNat) t462 ([] : List (S81)))) else (none)) else (none))) = some (r1, r2, r3) := H
 have A2 := Aside0.mk A20
 clear A20
 by_cases c3 : t456 < 0
 ·rw [if_pos c3] at H
  have c3b0 : decide (t456 < 0) = true := decide_eq_true c3
  clear c3
  simp only [Option.some.injEq, Prod.mk.injEq] at H
  obtain ⟨rfl, rfl, rfl⟩ := H
  go_enter Try.func45, Try.ntmps45
  go_wp2_with (first | ((with_reducible refine gate_dst (N := 2) rfl ?_); refine box_event ?hg (N := 2) ?hd (cs := #[.slice none 0 0, .slice none 0 0]) (t := 54) ?hr ?_; (case hd => rfl); (case hg => rfl); (case hr => first | (go_simp; done) | (go_simp; rfl)); intro gb455 hg w4 hbox hb; have n0_ := Aside0.mk (Kd.V_below (Kd.V_elderB (by (with_reducible repeat (first | apply Kd.V_alloc | apply Kd.V_drewN | apply Kd.V_drew)); exact HO0.out) gb455 (Nat.le_of_eq hg.symm)) hb); have n1_ := Aside0.mk (below_step yB hb); have n2_ := Aside0.mk (hbox); have n3_ := Aside0.mk ((yG hg : w.heap.size ≤ gb455)); have n4_ := Aside0.mk ((yG hg : w.heap.size ≤ gb455)); clear HO0; clear HB; have HO0 := n0_; have HB := n1_; have BK455 := n2_; have GW455 := n3_; have GE455 := n4_; clear n0_ n1_ n2_ n3_ n4_; clear hb hbox hg) | ((with_reducible refine gate_callee (f := 73) rfl ?_); refine goesL_ (some 11) rfl rfl Try.func73 (by kernel_rfl) rfl #[.slice A0 l0.length c0, .func (.func 75) #[] #[]] rfl yQ ?_; (with_reducible refine (IndexFunc_end.calls k _ _ l0  t456 _ ?side1 ?side2 A2.out).mono ?_); (case side1 => repeat (first | exact (Kd.V_reads' HO0.out).2.2 | (with_reducible refine Kd.C_alloc ?_ _) | (with_reducible refine Kd.C_drewN ?_ _) | (with_reducible refine Kd.C_drew ?_))); (case side2 => exact (Kd.V_reads' HO0.out).2.1); rintro e w5 ⟨rfl, hb⟩; refine ⟨_, rfl, ?_⟩; have n0_ := Aside0.mk (Kd.V_below (by (with_reducible repeat (first | apply Kd.V_alloc | apply Kd.V_drewN | apply Kd.V_drew)); exact HO0.out) hb); have n1_ := Aside0.mk (blk_below (g := gb455) (o := .cells #[.slice none 0 0, .slice none 0 0] 54 (0, 0)) yK hb); have n2_ := Aside0.mk (below_step yB hb); clear HO0; clear BK455; clear HB; have HO0 := n0_; have BK455 := n1_; have HB := n2_; clear n0_ n1_ n2_; (try clear hb); (try clear hb2); (try clear hk); (try clear hi); have hcz6_0 : w5.cell? ⟨gb455, 0, none⟩ = some (.slice none 0 0) := (blk_cell BK455.out 0).trans rfl; have hcz6_1 : w5.cell? ⟨gb455, 1, none⟩ = some (.slice none 0 0) := (blk_cell BK455.out 1).trans rfl; have hfz6_0 := blk_frozen BK455.out 0; have hfz6_1 := blk_frozen BK455.out 1))
  refine bodyPost_ret (results_ct rfl _ _ gb455 54 #[.slice none 0 0, .slice none 0 0] (0, 0) _ rfl (by (with_reducible repeat (first | refine blk_drewN ?_ _ | refine blk_drew ?_ | refine blk_alloc ?_ _)); refine blk_put (cs := #[.slice none 0 0, .slice none 0 0]) ?_ 1 _ rfl; (with_reducible repeat (first | refine blk_drewN ?_ _ | refine blk_drew ?_ | refine blk_alloc ?_ _)); refine blk_put (cs := #[.slice none 0 0, .slice none 0 0]) ?_ 0 _ rfl; (with_reducible repeat (first | refine blk_drewN ?_ _ | refine blk_drew ?_ | refine blk_alloc ?_ _)); exact BK455.out) Try.underlying54 rfl (by kernel_rfl)) rfl ?_
  exact ⟨_, _, by first | rfl | (simp [errW_none, errW_some] <;> rfl) | (simp [*, errW_none, errW_some] <;> rfl), by first | exact Kd.S_nil _ _ _ _ _ | exact Kd.N_nil _ _ _ _ _ | exact Kd.V_nil _ _ _ _ _ | exact Kd.Q_nil _ _ _ _ _ | exact Kd.R_nil _ _ _ _ _, by first | exact Kd.R_nil _ _ _ _ _ | exact Kd.N_nil _ _ _ _ _ | exact Kd.V_nil _ _ _ _ _ | exact Kd.Q_nil _ _ _ _ _ | exact Kd.S_nil _ _ _ _ _, yB⟩
 ·rw [if_neg c3] at H
  have c3b0 : decide (t456 < 0) = false := decide_eq_false c3
  clear c3
  obtain ⟨ji7, hji7⟩ : ∃ j_ : Int, (wrap64 (t456 + 1)) = j_ := ⟨_, rfl⟩
  replace H : (if 0 ≤ (ji7) then (if (ji7) ≤ (l0.length : Int) then ((Clone_Block.f (l0.take ((ji7) : Int).toNat)).bind fun t462 => (subprogram_Split.l0 k (l0.drop ((ji7) : Int).toNat) t462 ([] : List (S81)))) else (none)) else (none)) = some (r1, r2, r3) := by first | (rw [hji7] at H; exact H) | (simp only [hji7] at H ⊢; exact H)
  (try rw [hji7] at A2)
  have hji7w : (IntKind.i64.wrap (t456 + 1)) = ji7 := (i64_w _).trans hji7
  by_cases c8 : 0 ≤ (ji7)
  ·rw [if_pos c8] at H
   have c8b0 := eq_true c8
   have c8b1 : decide (0 ≤ (ji7)) = true := decide_eq_true c8
   clear c8
   by_cases c9 : (ji7) ≤ (l0.length : Int)
   ·rw [if_pos c9] at H
    have c9b0 := eq_true c9
    have c9b1 : decide ((ji7) ≤ (l0.length : Int)) = true := decide_eq_true c9
    clear c9
    obtain ⟨y457, hy457⟩ : ∃ y_ : List (S32), y_ = (l0.take ((ji7) : Int).toNat) := ⟨_, rfl⟩
    replace H : ((Clone_Block.f y457).bind fun t462 => (subprogram_Split.l0 k (l0.drop ((ji7) : Int).toNat) t462 ([] : List (S81)))) = some (r1, r2, r3) := by first | (rw [hy457]; with_reducible exact H) | (have H2_ := (Option.bind_some _ _).symm.trans H; rw [hy457]; with_reducible exact H2_) | (have H2_ := (Option.bind_some _ _).symm.trans H; with_reducible exact H2_) | with_reducible exact H | (rw [hy457]; exact H) | exact H
    have Ny457 := Aside0.mk hy457
    clear hy457
    replace H := Option.bind_eq_some_iff.mp H
    obtain ⟨t462, A100, H⟩ := H
    replace H : (subprogram_Split.l0 k (l0.drop ((ji7) : Int).toNat) t462 ([] : List (S81))) = some (r1, r2, r3) := H
    have A10 := Aside0.mk A100
    clear A100
    have c11b0 := eq_true (of_decide_eq_true yP : 0 ≤ (ji7))
    have c12b0 := eq_true (of_decide_eq_true yP : (ji7) ≤ (l0.length : Int))
    obtain ⟨y466, hy466⟩ : ∃ y_ : List (S32), y_ = (l0.drop ((ji7) : Int).toNat) := ⟨_, rfl⟩
    replace H : (subprogram_Split.l0 k y466 t462 ([] : List (S81))) = some (r1, r2, r3) := by first | (rw [hy466]; with_reducible exact H) | (have H2_ := (Option.bind_some _ _).symm.trans H; rw [hy466]; with_reducible exact H2_) | (have H2_ := (Option.bind_some _ _).symm.trans H; with_reducible exact H2_) | with_reducible exact H | (rw [hy466]; exact H) | exact H
    have Ny466 := Aside0.mk hy466
    clear hy466
    have H' := Aside0.mk H
    clear H
    go_enter Try.func45, Try.ntmps45
    go_wp2_with (first | ((with_reducible refine gate_dst (N := 2) rfl ?_); refine box_event ?hg (N := 2) ?hd (cs := #[.slice none 0 0, .slice none 0 0]) (t := 54) ?hr ?_; (case hd => rfl); (case hg => rfl); (case hr => first | (go_simp; done) | (go_simp; rfl)); intro gb455 hg w13 hbox hb; have n0_ := Aside0.mk (Kd.V_below (Kd.V_elderB (by (with_reducible repeat (first | apply Kd.V_alloc | apply Kd.V_drewN | apply Kd.V_drew)); exact HO0.out) gb455 (Nat.le_of_eq hg.symm)) hb); have n1_ := Aside0.mk (below_step yB hb); have n2_ := Aside0.mk (hbox); have n3_ := Aside0.mk ((yG hg : w.heap.size ≤ gb455)); have n4_ := Aside0.mk ((yG hg : w.heap.size ≤ gb455)); clear HO0; clear HB; have HO0 := n0_; have HB := n1_; have BK455 := n2_; have GW455 := n3_; have GE455 := n4_; clear n0_ n1_ n2_ n3_ n4_; clear hb hbox hg) | ((with_reducible refine gate_callee (f := 73) rfl ?_); refine goesL_ (some 11) rfl rfl Try.func73 (by kernel_rfl) rfl #[.slice A0 l0.length c0, .func (.func 75) #[] #[]] rfl yQ ?_; (with_reducible refine (IndexFunc_end.calls k _ _ l0  t456 _ ?side1 ?side2 A2.out).mono ?_); (case side1 => repeat (first | exact (Kd.V_reads' HO0.out).2.2 | (with_reducible refine Kd.C_alloc ?_ _) | (with_reducible refine Kd.C_drewN ?_ _) | (with_reducible refine Kd.C_drew ?_))); (case side2 => exact (Kd.V_reads' HO0.out).2.1); rintro e w14 ⟨rfl, hb⟩; refine ⟨_, rfl, ?_⟩; have n0_ := Aside0.mk (Kd.V_below (by (with_reducible repeat (first | apply Kd.V_alloc | apply Kd.V_drewN | apply Kd.V_drew)); exact HO0.out) hb); have n1_ := Aside0.mk (blk_below (g := gb455) (o := .cells #[.slice none 0 0, .slice none 0 0] 54 (0, 0)) yK hb); have n2_ := Aside0.mk (below_step yB hb); clear HO0; clear BK455; clear HB; have HO0 := n0_; have BK455 := n1_; have HB := n2_; clear n0_ n1_ n2_; (try clear hb); (try clear hb2); (try clear hk); (try clear hi); have q15 : ((ji7) : Int) ≤ ((l0.length : Int) : Int) := of_decide_eq_true yP; obtain ⟨i015, hi015, _, hsz15, _⟩ := info_parts info32; have hroom15 : l0.length ≤ c0 := (Kd.V_reads' HO0.out).2.1; have hC15 : Kd.F k32 _ _ A0 l0.length l0 := (Kd.V_at (base := w.heap.size) HO0.out).2.2; have hcut15 := cut_to (P := Try.prog) 35 32 .i64 Try.underlying35 hi015 A0 l0.length c0 (ji7) (of_decide_eq_true yP) q15 hroom15; have hr15 := Kd.F_take (m := ((ji7) : Int).toNat) hC15 (by omega); have hy15 : y457.length = ((ji7) : Int).toNat := (by rw [Ny457.out, List.length_take]; omega); rw [← Ny457.out] at hr15; rw [← hy15] at hcut15; have HO461 := Aside0.mk (show Kd.V k32 32 _ w.heap.size _ (.slice A0 y457.length c0) y457 from Kd.V_mk (by omega) hr15); have HC461 := Aside0.mk (show y457.length ≤ c0 from by omega); clear hr15 hC15 hroom15 hi015 hsz15; have KY15 := Aside0.mk hy15; clear hy15; replace q15 := eq_true q15) | ((with_reducible refine gate_callee (f := 33) rfl ?_); refine goesL_ (some 19) rfl rfl Try.func33 (by kernel_rfl) rfl #[.slice A0 y457.length c0] rfl yQ ?_; (with_reducible refine (Clone_Block.calls (fun k_ => ((P0_ k_ ∨ w.heap.size ≤ k_) ∧ k_ ≠ gb455)) _ _ y457 t462 _ ?side1 A10.out).mono ?_); (case side1 => exact HO461.out); rintro e w16 ⟨v463, rfl, ho0, hb⟩; refine ⟨_, rfl, ?_⟩; have n0_ := Aside0.mk (Kd.V_elder' (by (with_reducible repeat (first | apply Kd.V_alloc | apply Kd.V_drewN | apply Kd.V_drew)); exact HO0.out) (by first | exact Kd.N_base ho0 | exact Kd.S_base ho0) hb); have n1_ := Aside0.mk (Kd.V_elder' (by (with_reducible repeat (first | apply Kd.V_alloc | apply Kd.V_drewN | apply Kd.V_drew)); exact HO461.out) (by first | exact Kd.N_base ho0 | exact Kd.S_base ho0) hb); have n2_ := Aside0.mk (Kd.N_lower (Kd.N_mono (ok' := fun k_ => (P0_ k_ ∨ w.heap.size ≤ k_) ∧ k_ ≠ gb455) ho0 (fun k_ hk_ => ⟨Or.elim hk_ (fun hs_ => hs_.1) (fun hn_ => (.inr (Nat.le_trans (below_size yB) hn_))), Or.elim hk_ (fun hs_ => hs_.2) (fun hn_ => (Kd.freshB (g := gb455) (o := .cells #[.slice none 0 0, .slice none 0 0] 54 (0, 0)) yK k_ hn_))⟩)) (below_size yB)); have n3_ := Aside0.mk (blk_below (g := gb455) (o := .cells #[.slice none 0 0, .slice none 0 0] 54 (0, 0)) yK hb); have n4_ := Aside0.mk (below_step yB hb); clear HO0; clear HO461; clear BK455; clear HB; have HO0 := n0_; have HO461 := n1_; have HO464 := n2_; have BK455 := n3_; have HB := n4_; clear n0_ n1_ n2_ n3_ n4_; (try clear hb); (try clear hb2); (try clear hk); (try clear hi); (try clear ho0); obtain ⟨Ao17, co17, eo17⟩ := Kd.N_slice HO464.out; subst eo17) | ((with_reducible refine gate_dst (N := 5) rfl ?_); refine box_event ?hg (N := 5) ?hd (cs := #[.slice none 0 0, .slice none 0 0]) (t := 54) ?hr ?_; (case hd => rfl); (case hg => rfl); (case hr => first | (go_simp; done) | (go_simp; rfl)); intro gb465 hg w18 hbox hb; have n0_ := Aside0.mk (Kd.V_below (Kd.V_elderB (by (with_reducible repeat (first | apply Kd.V_alloc | apply Kd.V_drewN | apply Kd.V_drew)); exact HO0.out) gb465 (Nat.le_of_eq hg.symm)) hb); have n1_ := Aside0.mk (Kd.V_below (Kd.V_elderB (by (with_reducible repeat (first | apply Kd.V_alloc | apply Kd.V_drewN | apply Kd.V_drew)); exact HO461.out) gb465 (Nat.le_of_eq hg.symm)) hb); have n2_ := Aside0.mk (Kd.N_below (Kd.N_elderB (by (with_reducible repeat (first | apply Kd.N_alloc | apply Kd.N_drewN | apply Kd.N_drew)); exact HO464.out) gb465 (Nat.le_of_eq hg.symm)) hb); have n3_ := Aside0.mk (blk_below (g := gb455) (o := .cells #[.slice none 0 0, .slice none 0 0] 54 (0, 0)) yK hb); have n4_ := Aside0.mk (below_step yB hb); have n5_ := Aside0.mk (hbox); have n6_ := Aside0.mk ((yG hg : w.heap.size ≤ gb465)); have n7_ := Aside0.mk ((yG hg : w.heap.size ≤ gb465)); have n8_ := Aside0.mk ((by rw [hg]; exact Nat.ne_of_lt (blk_lt (g := gb455) (o := .cells #[.slice none 0 0, .slice none 0 0] 54 (0, 0)) yK) : gb455 ≠ gb465)); have n9_ := Aside0.mk ((by rw [hg]; exact Nat.ne_of_gt (blk_lt (g := gb455) (o := .cells #[.slice none 0 0, .slice none 0 0] 54 (0, 0)) yK) : gb465 ≠ gb455)); clear HO0; clear HO461; clear HO464; clear BK455; clear HB; have HO0 := n0_; have HO461 := n1_; have HO464 := n2_; have BK455 := n3_; have HB := n4_; have BK465 := n5_; have GW465 := n6_; have GE465 := n7_; have NB455_465 := n8_; have NB465_455 := n9_; clear n0_ n1_ n2_ n3_ n4_ n5_ n6_ n7_ n8_ n9_; clear hb hbox hg; have hnb19 := NB465_455.out; have hnc19 := NB455_465.out; have hcz20_0 : w18.cell? ⟨gb465, 0, none⟩ = some (.slice none 0 0) := (blk_cell BK465.out 0).trans rfl; have hcz20_1 : w18.cell? ⟨gb465, 1, none⟩ = some (.slice none 0 0) := (blk_cell BK465.out 1).trans rfl; have hfz20_0 := blk_frozen BK465.out 0; have hfz20_1 := blk_frozen BK465.out 1) | ((with_reducible refine gate_store (t := 54) (p := 5) rfl ?_); refine store_event (t := 54) (p := 5) (v := ?vo_w21) (w1 := ((w18.setCell ⟨gb465, 0, none⟩ (.slice Ao17 t462.length co17)).setCell ⟨gb465, 1, none⟩ (.slice none 0 0))) ?hg ?ho ?hn ?hr ?_; (case ho => rfl); (case hg => rfl); (case hn => rfl); (case hr => first | (go_simp; done) | (go_simp; rfl)); intro w21 hw; have n0_ : Aside0 (Kd.V k32 32 w21 w.heap.size (fun k_ => (P0_ k_ ∨ w.heap.size ≤ k_) ∧ some k_ ≠ (.slice Ao17 t462.length co17 : Value).ownBlock ∧ k_ ≠ gb455 ∧ k_ ≠ gb465) (.slice A0 l0.length c0) l0) := ⟨(by rw [hw]; exact (by (with_reducible repeat (first | apply Kd.V_alloc | apply Kd.V_drewN | apply Kd.V_drew)); exact Kd.V_mono (Kd.V_far (p := ⟨gb465, 1, none⟩) (Kd.V_far (p := ⟨gb465, 0, none⟩) (Kd.V_mono HO0.out (fun k_ hk => (⟨hk, hk.2⟩ : _ ∧ k_ ≠ gb465))) (fun _ hk => hk.2) (.slice Ao17 t462.length co17)) (fun _ hk => hk.2) (.slice none 0 0)) (fun _ hk => ⟨hk.1.1.1.1, ⟨hk.1.1.2, ⟨hk.1.1.1.2, hk.1.2⟩⟩⟩)))⟩; have n1_ : Aside0 (Kd.V k32 32 w21 w.heap.size (fun k_ => (P0_ k_ ∨ w.heap.size ≤ k_) ∧ some k_ ≠ (.slice Ao17 t462.length co17 : Value).ownBlock ∧ k_ ≠ gb455 ∧ k_ ≠ gb465) (.slice A0 y457.length c0) y457) := ⟨(by rw [hw]; exact (by (with_reducible repeat (first | apply Kd.V_alloc | apply Kd.V_drewN | apply Kd.V_drew)); exact Kd.V_mono (Kd.V_far (p := ⟨gb465, 1, none⟩) (Kd.V_far (p := ⟨gb465, 0, none⟩) (Kd.V_mono HO461.out (fun k_ hk => (⟨hk, hk.2⟩ : _ ∧ k_ ≠ gb465))) (fun _ hk => hk.2) (.slice Ao17 t462.length co17)) (fun _ hk => hk.2) (.slice none 0 0)) (fun _ hk => ⟨hk.1.1.1.1, ⟨hk.1.1.2, ⟨hk.1.1.1.2, hk.1.2⟩⟩⟩)))⟩; have n2_ : Aside0 (Kd.N k32 32 w21 w.heap.size (fun k_ => (P0_ k_ ∨ w.heap.size ≤ k_) ∧ k_ ≠ gb455 ∧ k_ ≠ gb465) (.slice Ao17 t462.length co17) t462) := ⟨(by rw [hw]; exact (by (with_reducible repeat (first | apply Kd.N_alloc | apply Kd.N_drewN | apply Kd.N_drew)); exact Kd.N_mono (Kd.N_far (p := ⟨gb465, 1, none⟩) (Kd.N_far (p := ⟨gb465, 0, none⟩) (Kd.N_mono HO464.out (fun k_ hk => (⟨hk, hk.2⟩ : _ ∧ k_ ≠ gb465))) (fun _ hk => hk.2) (.slice Ao17 t462.length co17)) (fun _ hk => hk.2) (.slice none 0 0)) (fun _ hk => ⟨hk.1.1.1, ⟨hk.1.1.2, hk.1.2⟩⟩)))⟩; have n3_ : Aside0 (w21.heap[gb455]? = some (.cells #[.slice none 0 0, .slice none 0 0] 54 (0, 0))) := ⟨(by rw [hw]; exact (by (with_reducible repeat (first | refine blk_drewN ?_ _ | refine blk_drew ?_ | refine blk_alloc ?_ _)); refine blk_far ?_ NB455_465.out _; (with_reducible repeat (first | refine blk_drewN ?_ _ | refine blk_drew ?_ | refine blk_alloc ?_ _)); refine blk_far ?_ NB455_465.out _; (with_reducible repeat (first | refine blk_drewN ?_ _ | refine blk_drew ?_ | refine blk_alloc ?_ _)); exact BK455.out))⟩; have n4_ : Aside0 (w21.heap[gb465]? = some (.cells #[.slice Ao17 t462.length co17, .slice none 0 0] 54 (0, 0))) := ⟨(by rw [hw]; exact (by (with_reducible repeat (first | refine blk_drewN ?_ _ | refine blk_drew ?_ | refine blk_alloc ?_ _)); refine blk_put (cs := #[.slice Ao17 t462.length co17, .slice none 0 0]) ?_ 1 _ rfl; (with_reducible repeat (first | refine blk_drewN ?_ _ | refine blk_drew ?_ | refine blk_alloc ?_ _)); refine blk_put (cs := #[.slice none 0 0, .slice none 0 0]) ?_ 0 _ rfl; (with_reducible repeat (first | refine blk_drewN ?_ _ | refine blk_drew ?_ | refine blk_alloc ?_ _)); exact BK465.out))⟩; have n5_ : Aside0 (Below w.heap.size w w21) := ⟨(by rw [hw]; exact yB)⟩; clear hw; clear HO0; clear HO461; clear HO464; clear BK455; clear BK465; clear HB; have HO0 := n0_; have HO461 := n1_; have HO464 := n2_; have BK455 := n3_; have BK465 := n4_; have HB := n5_; clear n0_ n1_ n2_ n3_ n4_ n5_; have q22 : ((ji7) : Int) ≤ ((l0.length : Int) : Int) := of_decide_eq_true yP; obtain ⟨i022, hi022, _, hsz22, _⟩ := info_parts info32; have hroom22 : l0.length ≤ c0 := (Kd.V_reads' HO0.out).2.1; have hC22 : Kd.F k32 _ _ A0 l0.length l0 := (Kd.V_at (base := w.heap.size) HO0.out).2.2; have q022 : (0 : Int) ≤ ((ji7) : Int) := of_decide_eq_true yP; have hcut22 := cut_from (P := Try.prog) 35 32 .i64 Try.underlying35 hi022 3 hsz22 A0 l0.length c0 (ji7) q022 q22; have hr22 := Kd.F_cut (m := ((ji7) : Int).toNat) (c := c0) hC22 (by omega) hroom22; obtain ⟨A22, hA22⟩ : ∃ A1, A1 = (if c0 = ((ji7) : Int).toNat then A0 else (A0 : Option Addr).map (·.add (((ji7) : Int).toNat * 3))) := ⟨_, rfl⟩; obtain ⟨c22, hc22⟩ : ∃ c1, c1 = c0 - ((ji7) : Int).toNat := ⟨_, rfl⟩; have hy22 : y466.length = l0.length - ((ji7) : Int).toNat := (by rw [Ny466.out, List.length_drop] <;> omega); rw [show (l0).drop ((ji7) : Int).toNat = y466 from Ny466.out.symm] at hr22; replace hr22 : Kd.F k32 _ _ A22 y466.length y466 := (by rw [hA22]; exact hr22); rw [← hy22, ← hA22, ← hc22] at hcut22; have HO470 := Aside0.mk (show Kd.V k32 32 _ w.heap.size _ (.slice A22 y466.length c22) y466 from Kd.V_mk (by rw [hy22, hc22]; exact Nat.sub_le_sub_right hroom22 _) hr22); have HC470 := Aside0.mk (show y466.length ≤ c22 from by rw [hy22, hc22]; exact Nat.sub_le_sub_right hroom22 _); clear hr22 hC22 hroom22 hi022 hsz22 hc22; have KY22 := Aside0.mk hy22; have KA22 := Aside0.mk hA22; clear hy22 hA22; replace q22 := eq_true q22))
    go_loopg [6] k (fun kq v6 w' => ∃ (x6_1 : List (S32)) (x466001_1 : List (S81)) (u466001 : Value), Aside0 (subprogram_Split.l0 kq x6_1 t462 x466001_1 = some (r1, r2, r3)) ∧ Aside0 (kq ≤ k) ∧ Aside0 (Kd.V k32 32 w' w.heap.size (fun k_ => (P0_ k_ ∨ w.heap.size ≤ k_) ∧ some k_ ≠ ((.slice Ao17 t462.length co17) : Value).ownBlock ∧ some k_ ≠ (u466001 : Value).ownBlock ∧ k_ ≠ gb455 ∧ k_ ≠ gb465) v6 x6_1) ∧ Aside0 (Kd.N k32 32 w' w.heap.size (fun k_ => (P0_ k_ ∨ w.heap.size ≤ k_) ∧ some k_ ≠ (u466001 : Value).ownBlock ∧ k_ ≠ gb455 ∧ k_ ≠ gb465) (.slice Ao17 t462.length co17) t462) ∧ Aside0 (Kd.N k81 81 w' w.heap.size (fun k_ => (P0_ k_ ∨ w.heap.size ≤ k_) ∧ some k_ ≠ ((.slice Ao17 t462.length co17) : Value).ownBlock ∧ k_ ≠ gb455 ∧ k_ ≠ gb465) u466001 x466001_1) ∧ Aside0 (w'.heap[gb455]? = some (.cells #[(.slice none 0 0), (.slice none 0 0)] 54 (0, 0))) ∧ Aside0 (w'.heap[gb465]? = some (.cells #[(.slice Ao17 t462.length co17), u466001] 54 (0, 0))) ∧ Aside0 (Below w.heap.size w w'))
    case atStart => exact ⟨(y466), (([] : List (S81))), (.slice none 0 0), H', ⟨Nat.le_refl _⟩, ⟨by (with_reducible repeat (first | apply Kd.V_alloc | apply Kd.V_drewN | apply Kd.V_drew)); exact Kd.V_mono HO470.out (fun _ hk => ⟨hk.1, ⟨hk.2.1, ⟨(by simp [Value.ownBlock]), ⟨hk.2.2.1, hk.2.2.2⟩⟩⟩⟩)⟩, ⟨by (with_reducible repeat (first | apply Kd.N_alloc | apply Kd.N_drewN | apply Kd.N_drew)); exact Kd.N_mono HO464.out (fun _ hk => ⟨hk.1, ⟨(by simp [Value.ownBlock]), ⟨hk.2.1, hk.2.2⟩⟩⟩)⟩, ⟨by first | exact Kd.R_nil _ _ _ _ _ | exact Kd.N_nil _ _ _ _ _ | exact Kd.V_nil _ _ _ _ _ | exact Kd.Q_nil _ _ _ _ _ | exact Kd.S_nil _ _ _ _ _⟩, ⟨by (with_reducible repeat (first | refine blk_drewN ?_ _ | refine blk_drew ?_ | refine blk_alloc ?_ _)); exact BK455.out⟩, ⟨by (with_reducible repeat (first | refine blk_drewN ?_ _ | refine blk_drew ?_ | refine blk_alloc ?_ _)); exact BK465.out⟩, ⟨yB⟩⟩
    case round =>
     clear H'
     try clear c1
     try clear q1
     try clear c2
     try clear p2
     try clear q2
     try clear c3
     try clear c3b0
     try clear c4
     try clear p6
     try clear c7
     try clear c8
     try clear c8b0
     try clear c8b1
     try clear c9
     try clear c9b0
     try clear c9b1
     try clear c11
     try clear c11b0
     try clear c12
     try clear c12b0
     try clear q15
     try clear c19
     try clear c22
     try clear q22
     try clear hcz20_0
     try clear hcz20_1
     try clear hcz6_0
     try clear hcz6_1
     try clear hfz20_0
     try clear hfz20_1
     try clear hfz6_0
     try clear hfz6_1
     try clear q022
     try clear q15
     try clear q22
     obtain ⟨x6_1, x466001_1, u466001, HA, HK1, HO_6, HO_466000, HO_466001, BK455, BK465, HB⟩ := hrel
     cases gk with
     | zero => exact absurd HA.out (by simp [subprogram_Split.l0])
     | succ k1 =>
      have H := HA.out
      clear HA
      simp only [subprogram_Split.l0] at H
      by_cases c23 : (x6_1.length : Int) > 0
      ·rw [if_pos c23] at H
       have c23b0 : decide (0 < (x6_1.length : Int)) = true := decide_eq_true c23
       have c23b1 : decide (0 < x6_1.length) = true := decide_eq_true (by omega)
       clear c23
       by_cases c24 : 0 < (x6_1.length : Int)
       ·rw [if_pos c24] at H
        have c24b0 : decide (0 < (x6_1.length : Int)) = true := decide_eq_true c24
        have c24b1 : decide (0 < x6_1.length) = true := decide_eq_true (by omega)
        clear c24
        replace H := Option.bind_eq_some_iff.mp H
        obtain ⟨⟨t472, t473⟩, A250, H⟩ := H
        replace H : ((IndexFunc_back.f k1 x6_1).bind fun t474 => (if t473 = true then (if t474 < 0 then (some (([] : List (S32)), ([] : List (S81)), 1)) else (if 1 ≤ t474 then (if t474 ≤ (x6_1.length : Int) then ((Clone_Block.f ((x6_1.take (t474 : Int).toNat).drop 1)).bind fun t480 => (if x466001_1.length < 4398046511104 then (if 0 ≤ (wrap64 (t474 + 1)) then (if (wrap64 (t474 + 1)) ≤ (x6_1.length : Int) then (subprogram_Split.l0 k1 (x6_1.drop ((wrap64 (t474 + 1)) : Int).toNat) t462 (x466001_1 ++ [(⟨t472, t480⟩ : S81)])) else (none)) else (none)) else (none))) else (none)) else (none))) else (some (([] : List (S32)), ([] : List (S81)), 1)))) = some (r1, r2, r3) := H
        have A25 := Aside0.mk A250
        clear A250
        replace H := Option.bind_eq_some_iff.mp H
        obtain ⟨t474, A260, H⟩ := H
        replace H : (if t473 = true then (if t474 < 0 then (some (([] : List (S32)), ([] : List (S81)), 1)) else (if 1 ≤ t474 then (if t474 ≤ (x6_1.length : Int) then ((Clone_Block.f ((x6_1.take (t474 : Int).toNat).drop 1)).bind fun t480 => (if x466001_1.length < 4398046511104 then (if 0 ≤ (wrap64 (t474 + 1)) then (if (wrap64 (t474 + 1)) ≤ (x6_1.length : Int) then (subprogram_Split.l0 k1 (x6_1.drop ((wrap64 (t474 + 1)) : Int).toNat) t462 (x466001_1 ++ [(⟨t472, t480⟩ : S81)])) else (none)) else (none)) else (none))) else (none)) else (none))) else (some (([] : List (S32)), ([] : List (S81)), 1))) = some (r1, r2, r3) := H
        have A26 := Aside0.mk A260
        clear A260
        by_cases c27 : t473 = true
        ·subst c27
         have H1 : (if t474 < 0 then (some (([] : List (S32)), ([] : List (S81)), 1)) else (if 1 ≤ t474 then (if t474 ≤ (x6_1.length : Int) then ((Clone_Block.f ((x6_1.take (t474 : Int).toNat).drop 1)).bind fun t480 => (if x466001_1.length < 4398046511104 then (if 0 ≤ (wrap64 (t474 + 1)) then (if (wrap64 (t474 + 1)) ≤ (x6_1.length : Int) then (subprogram_Split.l0 k1 (x6_1.drop ((wrap64 (t474 + 1)) : Int).toNat) t462 (x466001_1 ++ [(⟨t472, t480⟩ : S81)])) else (none)) else (none)) else (none))) else (none)) else (none))) = some (r1, r2, r3) := by rw [if_pos rfl] at H; exact H
         clear H
         have H := H1
         clear H1
         by_cases c28 : t474 < 0
         ·rw [if_pos c28] at H
          have c28b0 : decide (t474 < 0) = true := decide_eq_true c28
          clear c28
          simp only [Option.some.injEq, Prod.mk.injEq] at H
          obtain ⟨rfl, rfl, rfl⟩ := H
          obtain ⟨Ao29, co29, eo29⟩ := Kd.V_slice HO_6.out
          subst eo29
          have p471 : 0 ≤ (0 : Int) := (by omega)
          have q471 : 0 < (x6_1.length : Int) := of_decide_eq_true yP
          obtain ⟨ad471, A471_1, c471_1, e471, hx471_0, hx471_1, hx471_2, hl471_1, hi471_1⟩ := at_T32 (Kd.V_reads' HO_6.out).2.2 0 p471 q471
          cases e471
          obtain ⟨ce471, hce471, hMe471, hcc471⟩ := Kd.V_get HO_6.out z32 0 p471 (by first | exact q471 | exact of_decide_eq_true yP | (have e_ := (Kd.V_reads' HO_6.out).1; omega))
          obtain ⟨ua471_1, uc471_1, rfl, ul471_1, ge471_1⟩ := k32_openF hMe471
          have hv471_1 := hcc471 1 _ rfl
          rw [add_field _ _ 1 (by omega)] at hv471_1
          replace hv471_1 := Option.some.inj (hv471_1.symm.trans hx471_1)
          injection hv471_1 with hva_ hvn_ hvc_
          rw [hva_] at ge471_1
          rw [hvc_] at ul471_1
          have HL471_1 := Aside0.mk (show Kd.V k78 78 _ w.heap.size _ _ ((rd_T32 x6_1 0).f1) from Kd.V_mk ul471_1 ge471_1)
          clear hva_ hvn_ hvc_ ge471_1 ul471_1
          clear hcc471 hce471
          have qi471 : (0 < x6_1.length) = True := eq_true (by omega)
          (try rw [show ((0 : Int)).toNat = 0 from rfl] at hx471_0)
          (try rw [show 0 * 3 = 0 from rfl] at hx471_0)
          (try rw [Addr.add_zero'] at hx471_0)
          (try rw [show ((0 : Int)).toNat = 0 from rfl] at hx471_1)
          (try rw [show 0 * 3 = 0 from rfl] at hx471_1)
          (try rw [Addr.add_zero'] at hx471_1)
          (try rw [show ((0 : Int)).toNat = 0 from rfl] at hx471_2)
          (try rw [show 0 * 3 = 0 from rfl] at hx471_2)
          (try rw [Addr.add_zero'] at hx471_2)
          have HR471_1 := Aside0.mk hi471_1
          have HC471_1 := Aside0.mk hl471_1
          clear hi471_1 hl471_1
          replace p471 := eq_true p471
          replace q471 := eq_true q471
          go_wp2_with (first | ((with_reducible refine gate_callee (f := 76) rfl ?_); refine goesL_ (some 32) rfl rfl Try.func76 (by kernel_rfl) rfl #[.agg #[.bool ((rd_T32 x6_1 0).f0), .slice A471_1 ((rd_T32 x6_1 0).f1).length c471_1, .string ((rd_T32 x6_1 0).f2)]] rfl yQ ?_; (with_reducible refine (subprogram_beginning.calls ((rd_T32 x6_1 0).f0) _ _ ((rd_T32 x6_1 0).f1) ((rd_T32 x6_1 0).f2) t472 true _ ?side1 ?side2 A25.out).mono ?_); (case side1 => repeat (first | exact (by repeat (first | (with_reducible exact HR471_1.out) | (with_reducible refine Kd.C_alloc ?_ _) | (with_reducible refine Kd.C_drewN ?_ _) | (with_reducible refine Kd.C_drew ?_) | exact HR471_1.out)) | (with_reducible refine Kd.C_alloc ?_ _) | (with_reducible refine Kd.C_drewN ?_ _) | (with_reducible refine Kd.C_drew ?_))); (case side2 => exact HC471_1.out); rintro e w30 ⟨rfl, hb⟩; refine ⟨_, rfl, ?_⟩; have n0_ := Aside0.mk (Kd.V_below (by (with_reducible repeat (first | apply Kd.V_alloc | apply Kd.V_drewN | apply Kd.V_drew)); exact HO_6.out) hb); have n1_ := Aside0.mk (Kd.N_below (by (with_reducible repeat (first | apply Kd.N_alloc | apply Kd.N_drewN | apply Kd.N_drew)); exact HO_466000.out) hb); have n2_ := Aside0.mk (Kd.N_below (by (with_reducible repeat (first | apply Kd.N_alloc | apply Kd.N_drewN | apply Kd.N_drew)); exact HO_466001.out) hb); have n3_ := Aside0.mk (Kd.V_below (by (with_reducible repeat (first | apply Kd.V_alloc | apply Kd.V_drewN | apply Kd.V_drew)); exact HL471_1.out) hb); have n4_ := Aside0.mk (blk_below (g := gb455) (o := .cells #[.slice none 0 0, .slice none 0 0] 54 (0, 0)) yK hb); have n5_ := Aside0.mk (blk_below (g := gb465) (o := .cells #[.slice Ao17 t462.length co17, u466001] 54 (0, 0)) yK hb); have n6_ := Aside0.mk (Kd.C_below (by repeat (first | (with_reducible exact HR471_1.out) | (with_reducible refine Kd.C_alloc ?_ _) | (with_reducible refine Kd.C_drewN ?_ _) | (with_reducible refine Kd.C_drew ?_) | exact HR471_1.out)) hb); have n7_ := Aside0.mk (below_step yB hb); clear HO_6; clear HO_466000; clear HO_466001; clear HL471_1; clear BK455; clear BK465; clear HR471_1; clear HB; have HO_6 := n0_; have HO_466000 := n1_; have HO_466001 := n2_; have HL471_1 := n3_; have BK455 := n4_; have BK465 := n5_; have HR471_1 := n6_; have HB := n7_; clear n0_ n1_ n2_ n3_ n4_ n5_ n6_ n7_; (try clear hb); (try clear hb2); (try clear hk); (try clear hi)) | ((with_reducible refine gate_callee (f := 73) rfl ?_); refine goesL_ (some 36) rfl rfl Try.func73 (by kernel_rfl) rfl #[.slice (some ad471) x6_1.length co29, .func (.func 77) #[] #[]] rfl yQ ?_; (with_reducible refine (IndexFunc_back.calls k1 _ _ x6_1  t474 _ ?side1 ?side2 A26.out).mono ?_); (case side1 => repeat (first | exact (Kd.V_reads' HO_6.out).2.2 | (with_reducible refine Kd.C_alloc ?_ _) | (with_reducible refine Kd.C_drewN ?_ _) | (with_reducible refine Kd.C_drew ?_))); (case side2 => exact (Kd.V_reads' HO_6.out).2.1); rintro e w31 ⟨rfl, hb⟩; refine ⟨_, rfl, ?_⟩; have n0_ := Aside0.mk (Kd.V_below (by (with_reducible repeat (first | apply Kd.V_alloc | apply Kd.V_drewN | apply Kd.V_drew)); exact HO_6.out) hb); have n1_ := Aside0.mk (Kd.N_below (by (with_reducible repeat (first | apply Kd.N_alloc | apply Kd.N_drewN | apply Kd.N_drew)); exact HO_466000.out) hb); have n2_ := Aside0.mk (Kd.N_below (by (with_reducible repeat (first | apply Kd.N_alloc | apply Kd.N_drewN | apply Kd.N_drew)); exact HO_466001.out) hb); have n3_ := Aside0.mk (Kd.V_below (by (with_reducible repeat (first | apply Kd.V_alloc | apply Kd.V_drewN | apply Kd.V_drew)); exact HL471_1.out) hb); have n4_ := Aside0.mk (blk_below (g := gb455) (o := .cells #[.slice none 0 0, .slice none 0 0] 54 (0, 0)) yK hb); have n5_ := Aside0.mk (blk_below (g := gb465) (o := .cells #[.slice Ao17 t462.length co17, u466001] 54 (0, 0)) yK hb); have n6_ := Aside0.mk (Kd.C_below (by repeat (first | (with_reducible exact HR471_1.out) | (with_reducible refine Kd.C_alloc ?_ _) | (with_reducible refine Kd.C_drewN ?_ _) | (with_reducible refine Kd.C_drew ?_) | exact HR471_1.out)) hb); have n7_ := Aside0.mk (below_step yB hb); clear HO_6; clear HO_466000; clear HO_466001; clear HL471_1; clear BK455; clear BK465; clear HR471_1; clear HB; have HO_6 := n0_; have HO_466000 := n1_; have HO_466001 := n2_; have HL471_1 := n3_; have BK455 := n4_; have BK465 := n5_; have HR471_1 := n6_; have HB := n7_; clear n0_ n1_ n2_ n3_ n4_ n5_ n6_ n7_; (try clear hb); (try clear hb2); (try clear hk); (try clear hi); have hnb32 := NB455_465.out; have hnc32 := NB465_455.out; have hcz33_0 : w31.cell? ⟨gb455, 0, none⟩ = some (.slice none 0 0) := (blk_cell BK455.out 0).trans rfl; have hcz33_1 : w31.cell? ⟨gb455, 1, none⟩ = some (.slice none 0 0) := (blk_cell BK455.out 1).trans rfl; have hfz33_0 := blk_frozen BK455.out 0; have hfz33_1 := blk_frozen BK455.out 1))
          refine bodyPost_ret (results_ct rfl _ _ gb455 54 #[.slice none 0 0, .slice none 0 0] (0, 0) _ rfl (by (with_reducible repeat (first | refine blk_drewN ?_ _ | refine blk_drew ?_ | refine blk_alloc ?_ _)); refine blk_put (cs := #[.slice none 0 0, .slice none 0 0]) ?_ 1 _ rfl; (with_reducible repeat (first | refine blk_drewN ?_ _ | refine blk_drew ?_ | refine blk_alloc ?_ _)); refine blk_put (cs := #[.slice none 0 0, .slice none 0 0]) ?_ 0 _ rfl; (with_reducible repeat (first | refine blk_drewN ?_ _ | refine blk_drew ?_ | refine blk_alloc ?_ _)); exact BK455.out) Try.underlying54 rfl (by kernel_rfl)) rfl ?_
          exact ⟨_, _, by first | rfl | (simp [errW_none, errW_some] <;> rfl) | (simp only [← hji7]; first | rfl | (simp [errW_none, errW_some] <;> rfl)) | (simp [*, errW_none, errW_some] <;> rfl), by first | exact Kd.S_nil _ _ _ _ _ | exact Kd.N_nil _ _ _ _ _ | exact Kd.V_nil _ _ _ _ _ | exact Kd.Q_nil _ _ _ _ _ | exact Kd.R_nil _ _ _ _ _, by first | exact Kd.R_nil _ _ _ _ _ | exact Kd.N_nil _ _ _ _ _ | exact Kd.V_nil _ _ _ _ _ | exact Kd.Q_nil _ _ _ _ _ | exact Kd.S_nil _ _ _ _ _, yB⟩
         ·rw [if_neg c28] at H
          have c28b0 : decide (t474 < 0) = false := decide_eq_false c28
          clear c28
          by_cases c34 : 1 ≤ t474
          ·rw [if_pos c34] at H
           have c34b0 := eq_true c34
           have c34b1 : decide (1 ≤ t474) = true := decide_eq_true c34
           clear c34
           by_cases c35 : t474 ≤ (x6_1.length : Int)
           ·rw [if_pos c35] at H
            have c35b0 := eq_true c35
            have c35b1 : decide (t474 ≤ (x6_1.length : Int)) = true := decide_eq_true c35
            clear c35
            obtain ⟨y475, hy475⟩ : ∃ y_ : List (S32), y_ = ((x6_1.take (t474 : Int).toNat).drop 1) := ⟨_, rfl⟩
            replace H : ((Clone_Block.f y475).bind fun t480 => (if x466001_1.length < 4398046511104 then (if 0 ≤ (wrap64 (t474 + 1)) then (if (wrap64 (t474 + 1)) ≤ (x6_1.length : Int) then (subprogram_Split.l0 k1 (x6_1.drop ((wrap64 (t474 + 1)) : Int).toNat) t462 (x466001_1 ++ [(⟨t472, t480⟩ : S81)])) else (none)) else (none)) else (none))) = some (r1, r2, r3) := by first | (rw [hy475]; with_reducible exact H) | (have H2_ := (Option.bind_some _ _).symm.trans H; rw [hy475]; with_reducible exact H2_) | (have H2_ := (Option.bind_some _ _).symm.trans H; with_reducible exact H2_) | with_reducible exact H | (rw [hy475]; exact H) | exact H
            have Ny475 := Aside0.mk hy475
            clear hy475
            replace H := Option.bind_eq_some_iff.mp H
            obtain ⟨t480, A360, H⟩ := H
            replace H : (if x466001_1.length < 4398046511104 then (if 0 ≤ (wrap64 (t474 + 1)) then (if (wrap64 (t474 + 1)) ≤ (x6_1.length : Int) then (subprogram_Split.l0 k1 (x6_1.drop ((wrap64 (t474 + 1)) : Int).toNat) t462 (x466001_1 ++ [(⟨t472, t480⟩ : S81)])) else (none)) else (none)) else (none)) = some (r1, r2, r3) := H
            have A36 := Aside0.mk A360
            clear A360
            by_cases c37 : x466001_1.length < 4398046511104
            ·rw [if_pos c37] at H
             have LMc37 := Aside0.mk c37
             clear c37
             obtain ⟨y483, hy483⟩ : ∃ y_ : List (S81), y_ = (x466001_1 ++ [(⟨t472, t480⟩ : S81)]) := ⟨_, rfl⟩
             replace H : (if 0 ≤ (wrap64 (t474 + 1)) then (if (wrap64 (t474 + 1)) ≤ (x6_1.length : Int) then (subprogram_Split.l0 k1 (x6_1.drop ((wrap64 (t474 + 1)) : Int).toNat) t462 y483) else (none)) else (none)) = some (r1, r2, r3) := by first | (rw [hy483]; with_reducible exact H) | (have H2_ := (Option.bind_some _ _).symm.trans H; rw [hy483]; with_reducible exact H2_) | (have H2_ := (Option.bind_some _ _).symm.trans H; with_reducible exact H2_) | with_reducible exact H | (rw [hy483]; exact H) | exact H
             have Ny483 := Aside0.mk hy483
             clear hy483
             obtain ⟨ji38, hji38⟩ : ∃ j_ : Int, (wrap64 (t474 + 1)) = j_ := ⟨_, rfl⟩
             replace H : (if 0 ≤ (ji38) then (if (ji38) ≤ (x6_1.length : Int) then (subprogram_Split.l0 k1 (x6_1.drop ((ji38) : Int).toNat) t462 y483) else (none)) else (none)) = some (r1, r2, r3) := by first | (rw [hji38] at H; exact H) | (simp only [hji38] at H ⊢; exact H)
             (try rw [hji38] at A25)
             (try rw [hji38] at A26)
             (try rw [hji38] at A36)
             have hji38w : (IntKind.i64.wrap (t474 + 1)) = ji38 := (i64_w _).trans hji38
             by_cases c39 : 0 ≤ (ji38)
             ·rw [if_pos c39] at H
              have c39b0 := eq_true c39
              have c39b1 : decide (0 ≤ (ji38)) = true := decide_eq_true c39
              clear c39
              by_cases c40 : (ji38) ≤ (x6_1.length : Int)
              ·rw [if_pos c40] at H
               have c40b0 := eq_true c40
               have c40b1 : decide ((ji38) ≤ (x6_1.length : Int)) = true := decide_eq_true c40
               clear c40
               obtain ⟨y486, hy486⟩ : ∃ y_ : List (S32), y_ = (x6_1.drop ((ji38) : Int).toNat) := ⟨_, rfl⟩
               replace H : (subprogram_Split.l0 k1 y486 t462 y483) = some (r1, r2, r3) := by first | (rw [hy486]; with_reducible exact H) | (have H2_ := (Option.bind_some _ _).symm.trans H; rw [hy486]; with_reducible exact H2_) | (have H2_ := (Option.bind_some _ _).symm.trans H; with_reducible exact H2_) | with_reducible exact H | (rw [hy486]; exact H) | exact H
               have Ny486 := Aside0.mk hy486
               clear hy486
               have H' := Aside0.mk H
               clear H
               obtain ⟨Ao41, co41, eo41⟩ := Kd.V_slice HO_6.out
               subst eo41
               have p471 : 0 ≤ (0 : Int) := (by omega)
               have q471 : 0 < (x6_1.length : Int) := of_decide_eq_true yP
               obtain ⟨ad471, A471_1, c471_1, e471, hx471_0, hx471_1, hx471_2, hl471_1, hi471_1⟩ := at_T32 (Kd.V_reads' HO_6.out).2.2 0 p471 q471
               cases e471
               obtain ⟨ce471, hce471, hMe471, hcc471⟩ := Kd.V_get HO_6.out z32 0 p471 (by first | exact q471 | exact of_decide_eq_true yP | (have e_ := (Kd.V_reads' HO_6.out).1; omega))
               obtain ⟨ua471_1, uc471_1, rfl, ul471_1, ge471_1⟩ := k32_openF hMe471
               have hv471_1 := hcc471 1 _ rfl
               rw [add_field _ _ 1 (by omega)] at hv471_1
               replace hv471_1 := Option.some.inj (hv471_1.symm.trans hx471_1)
               injection hv471_1 with hva_ hvn_ hvc_
               rw [hva_] at ge471_1
               rw [hvc_] at ul471_1
               have HL471_1 := Aside0.mk (show Kd.V k78 78 _ w.heap.size _ _ ((rd_T32 x6_1 0).f1) from Kd.V_mk ul471_1 ge471_1)
               clear hva_ hvn_ hvc_ ge471_1 ul471_1
               clear hcc471 hce471
               have qi471 : (0 < x6_1.length) = True := eq_true (by omega)
               (try rw [show ((0 : Int)).toNat = 0 from rfl] at hx471_0)
               (try rw [show 0 * 3 = 0 from rfl] at hx471_0)
               (try rw [Addr.add_zero'] at hx471_0)
               (try rw [show ((0 : Int)).toNat = 0 from rfl] at hx471_1)
               (try rw [show 0 * 3 = 0 from rfl] at hx471_1)
               (try rw [Addr.add_zero'] at hx471_1)
               (try rw [show ((0 : Int)).toNat = 0 from rfl] at hx471_2)
               (try rw [show 0 * 3 = 0 from rfl] at hx471_2)
               (try rw [Addr.add_zero'] at hx471_2)
               have HR471_1 := Aside0.mk hi471_1
               have HC471_1 := Aside0.mk hl471_1
               clear hi471_1 hl471_1
               replace p471 := eq_true p471
               replace q471 := eq_true q471
               try go_wp2_with (first | ((with_reducible refine gate_callee (f := 76) rfl ?_); refine goesL_ (some 32) rfl rfl Try.func76 (by kernel_rfl) rfl #[.agg #[.bool ((rd_T32 x6_1 0).f0), .slice A471_1 ((rd_T32 x6_1 0).f1).length c471_1, .string ((rd_T32 x6_1 0).f2)]] rfl yQ ?_; (with_reducible refine (subprogram_beginning.calls ((rd_T32 x6_1 0).f0) _ _ ((rd_T32 x6_1 0).f1) ((rd_T32 x6_1 0).f2) t472 true _ ?side1 ?side2 A25.out).mono ?_); (case side1 => repeat (first | exact (by repeat (first | (with_reducible exact HR471_1.out) | (with_reducible refine Kd.C_alloc ?_ _) | (with_reducible refine Kd.C_drewN ?_ _) | (with_reducible refine Kd.C_drew ?_) | exact HR471_1.out)) | (with_reducible refine Kd.C_alloc ?_ _) | (with_reducible refine Kd.C_drewN ?_ _) | (with_reducible refine Kd.C_drew ?_))); (case side2 => exact HC471_1.out); rintro e w42 ⟨rfl, hb⟩; refine ⟨_, rfl, ?_⟩; have n0_ := Aside0.mk (Kd.V_below (by (with_reducible repeat (first | apply Kd.V_alloc | apply Kd.V_drewN | apply Kd.V_drew)); exact HO_6.out) hb); have n1_ := Aside0.mk (Kd.N_below (by (with_reducible repeat (first | apply Kd.N_alloc | apply Kd.N_drewN | apply Kd.N_drew)); exact HO_466000.out) hb); have n2_ := Aside0.mk (Kd.N_below (by (with_reducible repeat (first | apply Kd.N_alloc | apply Kd.N_drewN | apply Kd.N_drew)); exact HO_466001.out) hb); have n3_ := Aside0.mk (Kd.V_below (by (with_reducible repeat (first | apply Kd.V_alloc | apply Kd.V_drewN | apply Kd.V_drew)); exact HL471_1.out) hb); have n4_ := Aside0.mk (blk_below (g := gb455) (o := .cells #[.slice none 0 0, .slice none 0 0] 54 (0, 0)) yK hb); have n5_ := Aside0.mk (blk_below (g := gb465) (o := .cells #[.slice Ao17 t462.length co17, u466001] 54 (0, 0)) yK hb); have n6_ := Aside0.mk (Kd.C_below (by repeat (first | (with_reducible exact HR471_1.out) | (with_reducible refine Kd.C_alloc ?_ _) | (with_reducible refine Kd.C_drewN ?_ _) | (with_reducible refine Kd.C_drew ?_) | exact HR471_1.out)) hb); have n7_ := Aside0.mk (below_step yB hb); clear HO_6; clear HO_466000; clear HO_466001; clear HL471_1; clear BK455; clear BK465; clear HR471_1; clear HB; have HO_6 := n0_; have HO_466000 := n1_; have HO_466001 := n2_; have HL471_1 := n3_; have BK455 := n4_; have BK465 := n5_; have HR471_1 := n6_; have HB := n7_; clear n0_ n1_ n2_ n3_ n4_ n5_ n6_ n7_; (try clear hb); (try clear hb2); (try clear hk); (try clear hi)) | ((with_reducible refine gate_callee (f := 73) rfl ?_); refine goesL_ (some 36) rfl rfl Try.func73 (by kernel_rfl) rfl #[.slice (some ad471) x6_1.length co41, .func (.func 77) #[] #[]] rfl yQ ?_; (with_reducible refine (IndexFunc_back.calls k1 _ _ x6_1  t474 _ ?side1 ?side2 A26.out).mono ?_); (case side1 => repeat (first | exact (Kd.V_reads' HO_6.out).2.2 | (with_reducible refine Kd.C_alloc ?_ _) | (with_reducible refine Kd.C_drewN ?_ _) | (with_reducible refine Kd.C_drew ?_))); (case side2 => exact (Kd.V_reads' HO_6.out).2.1); rintro e w43 ⟨rfl, hb⟩; refine ⟨_, rfl, ?_⟩; have n0_ := Aside0.mk (Kd.V_below (by (with_reducible repeat (first | apply Kd.V_alloc | apply Kd.V_drewN | apply Kd.V_drew)); exact HO_6.out) hb); have n1_ := Aside0.mk (Kd.N_below (by (with_reducible repeat (first | apply Kd.N_alloc | apply Kd.N_drewN | apply Kd.N_drew)); exact HO_466000.out) hb); have n2_ := Aside0.mk (Kd.N_below (by (with_reducible repeat (first | apply Kd.N_alloc | apply Kd.N_drewN | apply Kd.N_drew)); exact HO_466001.out) hb); have n3_ := Aside0.mk (Kd.V_below (by (with_reducible repeat (first | apply Kd.V_alloc | apply Kd.V_drewN | apply Kd.V_drew)); exact HL471_1.out) hb); have n4_ := Aside0.mk (blk_below (g := gb455) (o := .cells #[.slice none 0 0, .slice none 0 0] 54 (0, 0)) yK hb); have n5_ := Aside0.mk (blk_below (g := gb465) (o := .cells #[.slice Ao17 t462.length co17, u466001] 54 (0, 0)) yK hb); have n6_ := Aside0.mk (Kd.C_below (by repeat (first | (with_reducible exact HR471_1.out) | (with_reducible refine Kd.C_alloc ?_ _) | (with_reducible refine Kd.C_drewN ?_ _) | (with_reducible refine Kd.C_drew ?_) | exact HR471_1.out)) hb); have n7_ := Aside0.mk (below_step yB hb); clear HO_6; clear HO_466000; clear HO_466001; clear HL471_1; clear BK455; clear BK465; clear HR471_1; clear HB; have HO_6 := n0_; have HO_466000 := n1_; have HO_466001 := n2_; have HL471_1 := n3_; have BK455 := n4_; have BK465 := n5_; have HR471_1 := n6_; have HB := n7_; clear n0_ n1_ n2_ n3_ n4_ n5_ n6_ n7_; (try clear hb); (try clear hb2); (try clear hk); (try clear hi)))
               have n0_ := Aside0.mk (Kd.V_drew HO_6.out)
               have n1_ := Aside0.mk (Kd.N_drew HO_466000.out)
               have n2_ := Aside0.mk (Kd.N_drew HO_466001.out)
               have n3_ := Aside0.mk (Kd.V_drew HL471_1.out)
               have n4_ := Aside0.mk (blk_drew BK455.out)
               have n5_ := Aside0.mk (blk_drew BK465.out)
               have n6_ := Aside0.mk (Kd.C_drew HR471_1.out)
               have n7_ := Aside0.mk (below_drew1 HB.out)
               clear HO_6
               clear HO_466000
               clear HO_466001
               clear HL471_1
               clear BK455
               clear BK465
               clear HR471_1
               clear HB
               have HO_6 := n0_
               have HO_466000 := n1_
               have HO_466001 := n2_
               have HL471_1 := n3_
               have BK455 := n4_
               have BK465 := n5_
               have HR471_1 := n6_
               have HB := n7_
               clear n0_ n1_ n2_ n3_ n4_ n5_ n6_ n7_
               have q45 : (t474 : Int) ≤ ((x6_1.length : Int) : Int) := of_decide_eq_true yP
               obtain ⟨i045, hi045, _, hsz45, _⟩ := info_parts info32
               have hroom45 : x6_1.length ≤ co41 := (Kd.V_reads' HO_6.out).2.1
               have hC45 : Kd.F k32 _ _ (some ad471) x6_1.length x6_1 := (Kd.V_at (base := w.heap.size) HO_6.out).2.2
               have ql45 : (1 : Int) ≤ (t474 : Int) := of_decide_eq_true yP
               have hcut45 := cut_mid (P := Try.prog) 35 32 .i64 .i64 Try.underlying35 hi045 3 hsz45 (some ad471) x6_1.length co41 1 t474 (by omega) ql45 q45 hroom45
               have hr45 := Kd.F_mid (lo := (1 : Int).toNat) (hi := (t474 : Int).toNat) (c := co41) hC45 (by omega) (by omega) hroom45
               obtain ⟨A45, hA45⟩ : ∃ A1, A1 = (if co41 = (1 : Int).toNat then (some ad471) else ((some ad471) : Option Addr).map (·.add ((1 : Int).toNat * 3))) := ⟨_, rfl⟩
               obtain ⟨c45, hc45⟩ : ∃ c1, c1 = co41 - (1 : Int).toNat := ⟨_, rfl⟩
               have hy45 : y475.length = (t474 : Int).toNat - (1 : Int).toNat := (by rw [Ny475.out, List.length_drop, List.length_take] <;> omega)
               rw [show ((x6_1).take (t474 : Int).toNat).drop (1 : Int).toNat = y475 from Ny475.out.symm] at hr45
               replace hr45 : Kd.F k32 _ _ A45 y475.length y475 := (by rw [hA45]; exact hr45)
               rw [← hy45, ← hA45, ← hc45] at hcut45
               have HO479 := Aside0.mk (show Kd.V k32 32 _ w.heap.size _ (.slice A45 y475.length c45) y475 from Kd.V_mk (by rw [hy45, hc45]; exact Nat.sub_le_sub_right (Nat.le_trans (by omega) hroom45) _) hr45)
               have HC479 := Aside0.mk (show y475.length ≤ c45 from by rw [hy45, hc45]; exact Nat.sub_le_sub_right (Nat.le_trans (by omega) hroom45) _)
               clear hr45 hC45 hroom45 hi045 hsz45 hc45
               have KY45 := Aside0.mk hy45
               have KA45 := Aside0.mk hA45
               clear hy45 hA45
               replace q45 := eq_true q45
               refine start_ (n := 12) (S := fun w' => w'.cell? ⟨gb465, 0, none⟩ = some (.slice Ao17 t462.length co17) ∧ w'.cell? ⟨gb465, 1, none⟩ = some (u466001)) (ds := [11]) #[false, false, false, false, false, false, false, false, false, false, false, false] (by kernel_rfl) rfl rfl ⟨(blk_cell BK465.out 0).trans rfl, (blk_cell BK465.out 1).trans rfl⟩ (fun hHeld => ?_); refine with_tabW subprogram_Split.tab11 subprogram_Split.bits11 (fun HT_ HW_ => ?_)
               generalize w43.drew = w44 at HO_6 HO_466000 HO_466001 HL471_1 BK455 BK465 HR471_1 HB HO479 hHeld ⊢
               refine yp 0 44 ?_
               refine yp 2 46 ?_
               refine yp 3 47 ?_
               refine yp 4 48 ?_
               refine yp 5 49 ?_
               refine yt 1 45 hHeld ?_
               refine one_ (i := 6) (N := some 50) #[true, true, true, true, true, true, true, false, false, false, false, false] rfl rfl (one_of HT_.out (by kernel_rfl)) (by decide) (fun K hK => ?_)
               refine goes_ Try.func33 (by kernel_rfl) rfl #[.slice A45 y475.length c45] (by rfl) rfl rfl yQ ?_
               with_reducible refine (Clone_Block.calls (fun k_ => ((P0_ k_ ∨ w.heap.size ≤ k_) ∧ (some k_ ≠ (.slice Ao17 t462.length co17 : Value).ownBlock ∧ (some k_ ≠ (u466001 : Value).ownBlock ∧ (k_ ≠ gb455 ∧ k_ ≠ gb465))))) _ _ y475 t480 _ ?side1 A36.out).mono ?_
               (case side1 => exact HO479.out)
               rintro e w46 ⟨v481, rfl, ho0, hb⟩
               refine ⟨_, rfl, ?_⟩
               have n0_ := Aside0.mk (Kd.V_elder' (by (with_reducible repeat (first | apply Kd.V_alloc | apply Kd.V_drewN | apply Kd.V_drew)); exact HO_6.out) (by first | exact Kd.N_base ho0 | exact Kd.S_base ho0) hb)
               have n1_ := Aside0.mk (Kd.N_elder' (by (with_reducible repeat (first | apply Kd.N_alloc | apply Kd.N_drewN | apply Kd.N_drew)); exact HO_466000.out) (by first | exact Kd.N_base ho0 | exact Kd.S_base ho0) hb)
               have n2_ := Aside0.mk (Kd.N_elder' (by (with_reducible repeat (first | apply Kd.N_alloc | apply Kd.N_drewN | apply Kd.N_drew)); exact HO_466001.out) (by first | exact Kd.N_base ho0 | exact Kd.S_base ho0) hb)
               have n3_ := Aside0.mk (Kd.V_elder' (by (with_reducible repeat (first | apply Kd.V_alloc | apply Kd.V_drewN | apply Kd.V_drew)); exact HL471_1.out) (by first | exact Kd.N_base ho0 | exact Kd.S_base ho0) hb)
               have n4_ := Aside0.mk (Kd.V_elder' (by (with_reducible repeat (first | apply Kd.V_alloc | apply Kd.V_drewN | apply Kd.V_drew)); exact HO479.out) (by first | exact Kd.N_base ho0 | exact Kd.S_base ho0) hb)
               have n5_ := Aside0.mk (Kd.N_lower (Kd.N_mono (ok' := fun k_ => (P0_ k_ ∨ w.heap.size ≤ k_) ∧ some k_ ≠ (.slice Ao17 t462.length co17 : Value).ownBlock ∧ some k_ ≠ (u466001 : Value).ownBlock ∧ k_ ≠ gb455 ∧ k_ ≠ gb465) ho0 (fun k_ hk_ => ⟨Or.elim hk_ (fun hs_ => hs_.1) (fun hn_ => (.inr (Nat.le_trans (below_size yB) hn_))), Or.elim hk_ (fun hs_ => hs_.2.1) (fun hn_ => (Kd.fresh' (Kd.N_lt (by (with_reducible repeat (first | apply Kd.N_alloc | apply Kd.N_drewN | apply Kd.N_drew)); exact HO_466000.out)) k_ hn_)), Or.elim hk_ (fun hs_ => hs_.2.2.1) (fun hn_ => (Kd.fresh' (Kd.N_lt (by (with_reducible repeat (first | apply Kd.N_alloc | apply Kd.N_drewN | apply Kd.N_drew)); exact HO_466001.out)) k_ hn_)), Or.elim hk_ (fun hs_ => hs_.2.2.2.1) (fun hn_ => (Kd.freshB (g := gb455) (o := .cells #[.slice none 0 0, .slice none 0 0] 54 (0, 0)) yK k_ hn_)), Or.elim hk_ (fun hs_ => hs_.2.2.2.2) (fun hn_ => (Kd.freshB (g := gb465) (o := .cells #[.slice Ao17 t462.length co17, u466001] 54 (0, 0)) yK k_ hn_))⟩)) (below_size yB))
               have n6_ := Aside0.mk (blk_below (g := gb455) (o := .cells #[.slice none 0 0, .slice none 0 0] 54 (0, 0)) yK hb)
               have n7_ := Aside0.mk (blk_below (g := gb465) (o := .cells #[.slice Ao17 t462.length co17, u466001] 54 (0, 0)) yK hb)
               have n8_ := Aside0.mk (Kd.C_below (by repeat (first | (with_reducible exact HR471_1.out) | (with_reducible refine Kd.C_alloc ?_ _) | (with_reducible refine Kd.C_drewN ?_ _) | (with_reducible refine Kd.C_drew ?_) | exact HR471_1.out)) hb)
               have n9_ := Aside0.mk (below_step yB hb)
               clear HO_6
               clear HO_466000
               clear HO_466001
               clear HL471_1
               clear HO479
               clear BK455
               clear BK465
               clear HR471_1
               clear HB
               have HO_6 := n0_
               have HO_466000 := n1_
               have HO_466001 := n2_
               have HL471_1 := n3_
               have HO479 := n4_
               have HO482 := n5_
               have BK455 := n6_
               have BK465 := n7_
               have HR471_1 := n8_
               have HB := n9_
               clear n0_ n1_ n2_ n3_ n4_ n5_ n6_ n7_ n8_ n9_
               (try clear hb)
               (try clear hb2)
               (try clear hk)
               (try clear hi)
               (try clear ho0)
               obtain ⟨Ao47, co47, eo47⟩ := Kd.N_slice HO482.out
               (first | subst eo47 | (injection eo47 with f1_ f2_ f3_; have f4_ := f1_.symm; have f5_ := f3_.symm; clear f1_ f2_ f3_; subst f4_; subst f5_))
               refine hK.out _ _ ⟨(blk_cell BK465.out 0).trans rfl, (blk_cell BK465.out 1).trans rfl⟩ (fun hHeld => ?_)
               clear hK K
               refine norm_ (a' := ?_) ?_ ?_
               rotate_left
               ·show Act.put _ (some 50) _ = _
                simp only [Act.put, List.setIfInBounds_toArray, List.set_cons_zero, List.set_cons_succ, i64_w, i32_w]
                rfl
               refine yp 7 51 ?_
               refine one_ (i := 8) (N := some 52) #[true, true, true, true, true, true, true, true, true, false, false, false] rfl rfl (one_of HT_.out (by kernel_rfl)) (by decide) (fun K hK => ?_)
               refine value_ (w1 := ?_) (v := ?_) (by rfl) rfl ?_ ?_
               rotate_left 2
               ·go_simp
                constructor
                ·rfl
                ·rfl
               refine hK.out _ _ ⟨(blk_cell (blk_alloc BK465.out _) 0).trans rfl, (blk_cell (blk_alloc BK465.out _) 1).trans rfl⟩ (fun hHeld => ?_)
               clear hK K
               refine norm_ (a' := ?_) ?_ ?_
               rotate_left
               ·show Act.put _ (some 52) _ = _
                simp only [Act.put, List.setIfInBounds_toArray, List.set_cons_zero, List.set_cons_succ, i64_w, i32_w]
                rfl
               refine one_ (i := 9) (N := some 53) #[true, true, true, true, true, true, true, true, true, true, false, false] rfl rfl (one_of HT_.out (by kernel_rfl)) (by decide) (fun K hK => ?_)
               refine Kd.N_append_step k81 (w0 := w) w.heap.size (by rfl) (.tmp 45) (.tmp 52) 52 81 (.agg #[(.int .i64 0), (.slice none 0 0)]) 32 rfl Try.underlying52 info81 rfl (by decide) (by omega) u466001 x466001_1 (⟨t472, t480⟩ : S81) [.int .i64 t472, .slice Ao47 t480.length co47] (fun k_ => (P0_ k_ ∨ w.heap.size ≤ k_) ∧ some k_ ≠ (.slice Ao17 t462.length co17 : Value).ownBlock ∧ k_ ≠ gb455 ∧ k_ ≠ gb465) (fun k_ => ((fun k_ => (P0_ k_ ∨ w.heap.size ≤ k_) ∧ some k_ ≠ (.slice Ao17 t462.length co17 : Value).ownBlock ∧ k_ ≠ gb455 ∧ k_ ≠ gb465)) k_ ∧ some k_ ≠ (u466001 : Value).ownBlock) rfl rfl ?aP (fun _ hk => hk) ?aF ?aO ?aB ?aS ?aL ?_
               (case aP => exact (k81_mkF _ _ (⟨t472, t480⟩ : S81) (Kd.N_reads' (Kd.N_mono (ok' := (fun k_ => ((fun k_ => (P0_ k_ ∨ w.heap.size ≤ k_) ∧ some k_ ≠ (.slice Ao17 t462.length co17 : Value).ownBlock ∧ k_ ≠ gb455 ∧ k_ ≠ gb465)) k_ ∧ some k_ ≠ (u466001 : Value).ownBlock)) (HO482.out) (fun k_ hk => ⟨⟨hk.1, ⟨hk.2.1, ⟨hk.2.2.2.1, hk.2.2.2.2⟩⟩⟩, hk.2.2.1⟩))).2.1 (Kd.N_F (Kd.N_mono (ok' := (fun k_ => ((fun k_ => (P0_ k_ ∨ w.heap.size ≤ k_) ∧ some k_ ≠ (.slice Ao17 t462.length co17 : Value).ownBlock ∧ k_ ≠ gb455 ∧ k_ ≠ gb465)) k_ ∧ some k_ ≠ (u466001 : Value).ownBlock)) (HO482.out) (fun k_ hk => ⟨⟨hk.1, ⟨hk.2.1, ⟨hk.2.2.2.1, hk.2.2.2.2⟩⟩⟩, hk.2.2.1⟩)))))
               (case aB => exact yB)
               (case aF => exact (fun k_ hk => ⟨(.inr (Nat.le_trans (below_size yB) hk)), Kd.fresh' (Kd.N_lt (by (with_reducible repeat (first | apply Kd.N_alloc | apply Kd.N_drewN | apply Kd.N_drew)); exact HO_466000.out)) k_ hk, Kd.freshB (g := gb455) (o := .cells #[.slice none 0 0, .slice none 0 0] 54 (0, 0)) yK k_ hk, Kd.freshB (g := gb465) (o := .cells #[.slice Ao17 t462.length co17, u466001] 54 (0, 0)) yK k_ hk⟩))
               (case aO => exact (by (with_reducible repeat (first | apply Kd.N_alloc | apply Kd.N_drewN | apply Kd.N_drew)); exact Kd.N_mono HO_466001.out (fun _ hk => ⟨hk.1.1, ⟨hk.1.2.1, ⟨hk.1.2.2.1, hk.1.2.2.2⟩⟩⟩)))
               (case aS => exact (below_size yB))
               (case aL => have := LMc37.out; omega)
               intro v484 w48 ho hb hg hat
               rw [← Ny483.out] at ho
               have n0_ := Aside0.mk (Kd.V_afterv (ok := (fun k_ => (P0_ k_ ∨ w.heap.size ≤ k_) ∧ some k_ ≠ (.slice Ao17 t462.length co17 : Value).ownBlock ∧ some k_ ≠ (.slice Ao47 t480.length co47 : Value).ownBlock ∧ k_ ≠ gb455 ∧ k_ ≠ gb465)) (by (with_reducible repeat (first | apply Kd.V_alloc | apply Kd.V_drewN | apply Kd.V_drew)); exact Kd.V_mono HO_6.out (fun _ hk => ⟨⟨hk.1.1, ⟨hk.1.2.1, ⟨hk.2, ⟨hk.1.2.2.2.1, hk.1.2.2.2.2⟩⟩⟩⟩, hk.1.2.2.1⟩)) hg hat)
               have n1_ := Aside0.mk (Kd.N_afterv (ok := (fun k_ => (P0_ k_ ∨ w.heap.size ≤ k_) ∧ some k_ ≠ (.slice Ao47 t480.length co47 : Value).ownBlock ∧ k_ ≠ gb455 ∧ k_ ≠ gb465)) (by (with_reducible repeat (first | apply Kd.N_alloc | apply Kd.N_drewN | apply Kd.N_drew)); exact Kd.N_mono HO_466000.out (fun _ hk => ⟨⟨hk.1.1, ⟨hk.2, ⟨hk.1.2.2.1, hk.1.2.2.2⟩⟩⟩, hk.1.2.1⟩)) hg hat)
               have n2_ := Aside0.mk (blk_grown (g := gb455) (o := .cells #[.slice none 0 0, .slice none 0 0] 54 (0, 0)) yK hg (Kd.N_ne HO_466001.out BK455.out (by decide)))
               have n3_ := Aside0.mk (blk_grown (g := gb465) (o := .cells #[.slice Ao17 t462.length co17, u466001] 54 (0, 0)) yK hg (Kd.N_ne HO_466001.out BK465.out (by decide)))
               have n4_ := Aside0.mk (Kd.V_afterv (ok := (fun k_ => (P0_ k_ ∨ w.heap.size ≤ k_) ∧ some k_ ≠ (.slice Ao17 t462.length co17 : Value).ownBlock ∧ some k_ ≠ (.slice Ao47 t480.length co47 : Value).ownBlock ∧ k_ ≠ gb455 ∧ k_ ≠ gb465)) (by (with_reducible repeat (first | apply Kd.V_alloc | apply Kd.V_drewN | apply Kd.V_drew)); exact Kd.V_mono HL471_1.out (fun _ hk => ⟨⟨hk.1.1, ⟨hk.1.2.1, ⟨hk.2, ⟨hk.1.2.2.2.1, hk.1.2.2.2.2⟩⟩⟩⟩, hk.1.2.2.1⟩)) hg hat)
               have n5_ := Aside0.mk (Kd.V_afterv (ok := (fun k_ => (P0_ k_ ∨ w.heap.size ≤ k_) ∧ some k_ ≠ (.slice Ao17 t462.length co17 : Value).ownBlock ∧ some k_ ≠ (.slice Ao47 t480.length co47 : Value).ownBlock ∧ k_ ≠ gb455 ∧ k_ ≠ gb465)) (by (with_reducible repeat (first | apply Kd.V_alloc | apply Kd.V_drewN | apply Kd.V_drew)); exact Kd.V_mono HO479.out (fun _ hk => ⟨⟨hk.1.1, ⟨hk.1.2.1, ⟨hk.2, ⟨hk.1.2.2.2.1, hk.1.2.2.2.2⟩⟩⟩⟩, hk.1.2.2.1⟩)) hg hat)
               have n6_ := Aside0.mk (hb)
               have n7_ := Aside0.mk (ho)
               clear HO_6
               clear HO_466000
               clear BK455
               clear BK465
               clear HL471_1
               clear HO479
               clear HB
               clear HO_466001
               clear HO482
               have HO_6 := n0_
               have HO_466000 := n1_
               have BK455 := n2_
               have BK465 := n3_
               have HL471_1 := n4_
               have HO479 := n5_
               have HB := n6_
               have HO485 := n7_
               clear n0_ n1_ n2_ n3_ n4_ n5_ n6_ n7_
               clear ho hb hg hat
               obtain ⟨Ao49, co49, eo49⟩ := Kd.N_slice HO485.out
               (first | subst eo49 | (injection eo49 with f1_ f2_ f3_; have f4_ := f1_.symm; have f5_ := f3_.symm; clear f1_ f2_ f3_; subst f4_; subst f5_))
               refine hK.out _ _ ⟨(blk_cell BK465.out 0).trans rfl, (blk_cell BK465.out 1).trans rfl⟩ (fun hHeld => ?_)
               clear hK K
               refine norm_ (a' := ?_) ?_ ?_
               rotate_left
               ·show Act.put _ (some 53) _ = _
                simp only [Act.put, List.setIfInBounds_toArray, List.set_cons_zero, List.set_cons_succ, i64_w, i32_w]
                rfl
               refine yp 10 54 ?_
               refine last_ (i := 11) (N := none) #[true, true, true, true, true, true, true, true, true, true, true, true] rfl rfl (one_of HT_.out (by kernel_rfl)) (by decide) (fun K hK => ?_)
               have hs50 : w48.cell? ⟨gb465, 1, none⟩ = some (u466001) := (blk_cell BK465.out 1).trans rfl
               have hfs50 := blk_frozen BK465.out 1
               have hns50_0 := NB455_465.out
               have hms50_0 := NB465_455.out
               refine skip_ (w1 := ?_) (by rfl) rfl ?_ ?_
               rotate_left
               ·go_simp
                rfl
               refine hK.out _ _ ?_
               clear hK K
               refine done_ (done_of HT_.out (by kernel_rfl)) ?_
               have n0_ : Aside0 (Kd.V k32 32 (w48.setCell ⟨gb465, 1, none⟩ (.slice Ao49 y483.length co49)) w.heap.size (fun k_ => (P0_ k_ ∨ w.heap.size ≤ k_) ∧ some k_ ≠ (.slice Ao17 t462.length co17 : Value).ownBlock ∧ some k_ ≠ (.slice Ao49 y483.length co49 : Value).ownBlock ∧ k_ ≠ gb455 ∧ k_ ≠ gb465) (.slice (some ad471) x6_1.length co41) x6_1) := ⟨by (with_reducible repeat (first | apply Kd.V_alloc | apply Kd.V_drewN | apply Kd.V_drew)); exact Kd.V_mono (Kd.V_far (p := ⟨gb465, 1, none⟩) (Kd.V_mono HO_6.out (fun k_ hk => (⟨hk, hk.1.2.2.2.2⟩ : _ ∧ k_ ≠ gb465))) (fun _ hk => hk.2) (.slice Ao49 y483.length co49)) (fun _ hk => ⟨hk.1.1.1, ⟨hk.1.1.2.1, ⟨hk.1.2, ⟨hk.1.1.2.2.2.1, hk.1.1.2.2.2.2⟩⟩⟩⟩)⟩
               have n1_ : Aside0 (Kd.N k32 32 (w48.setCell ⟨gb465, 1, none⟩ (.slice Ao49 y483.length co49)) w.heap.size (fun k_ => (P0_ k_ ∨ w.heap.size ≤ k_) ∧ some k_ ≠ (.slice Ao49 y483.length co49 : Value).ownBlock ∧ k_ ≠ gb455 ∧ k_ ≠ gb465) (.slice Ao17 t462.length co17) t462) := ⟨by (with_reducible repeat (first | apply Kd.N_alloc | apply Kd.N_drewN | apply Kd.N_drew)); exact Kd.N_mono (Kd.N_far (p := ⟨gb465, 1, none⟩) (Kd.N_mono HO_466000.out (fun k_ hk => (⟨hk, hk.1.2.2.2⟩ : _ ∧ k_ ≠ gb465))) (fun _ hk => hk.2) (.slice Ao49 y483.length co49)) (fun _ hk => ⟨hk.1.1.1, ⟨hk.1.2, ⟨hk.1.1.2.2.1, hk.1.1.2.2.2⟩⟩⟩)⟩
               have n2_ : Aside0 (Kd.V k78 78 (w48.setCell ⟨gb465, 1, none⟩ (.slice Ao49 y483.length co49)) w.heap.size (fun k_ => (P0_ k_ ∨ w.heap.size ≤ k_) ∧ some k_ ≠ (.slice Ao17 t462.length co17 : Value).ownBlock ∧ some k_ ≠ (.slice Ao49 y483.length co49 : Value).ownBlock ∧ k_ ≠ gb455 ∧ k_ ≠ gb465) (.slice A471_1 ((rd_T32 x6_1 0).f1).length c471_1) ((rd_T32 x6_1 0).f1)) := ⟨by (with_reducible repeat (first | apply Kd.V_alloc | apply Kd.V_drewN | apply Kd.V_drew)); exact Kd.V_mono (Kd.V_far (p := ⟨gb465, 1, none⟩) (Kd.V_mono HL471_1.out (fun k_ hk => (⟨hk, hk.1.2.2.2.2⟩ : _ ∧ k_ ≠ gb465))) (fun _ hk => hk.2) (.slice Ao49 y483.length co49)) (fun _ hk => ⟨hk.1.1.1, ⟨hk.1.1.2.1, ⟨hk.1.2, ⟨hk.1.1.2.2.2.1, hk.1.1.2.2.2.2⟩⟩⟩⟩)⟩
               have n3_ : Aside0 (Kd.V k32 32 (w48.setCell ⟨gb465, 1, none⟩ (.slice Ao49 y483.length co49)) w.heap.size (fun k_ => (P0_ k_ ∨ w.heap.size ≤ k_) ∧ some k_ ≠ (.slice Ao17 t462.length co17 : Value).ownBlock ∧ some k_ ≠ (.slice Ao49 y483.length co49 : Value).ownBlock ∧ k_ ≠ gb455 ∧ k_ ≠ gb465) (.slice A45 y475.length c45) y475) := ⟨by (with_reducible repeat (first | apply Kd.V_alloc | apply Kd.V_drewN | apply Kd.V_drew)); exact Kd.V_mono (Kd.V_far (p := ⟨gb465, 1, none⟩) (Kd.V_mono HO479.out (fun k_ hk => (⟨hk, hk.1.2.2.2.2⟩ : _ ∧ k_ ≠ gb465))) (fun _ hk => hk.2) (.slice Ao49 y483.length co49)) (fun _ hk => ⟨hk.1.1.1, ⟨hk.1.1.2.1, ⟨hk.1.2, ⟨hk.1.1.2.2.2.1, hk.1.1.2.2.2.2⟩⟩⟩⟩)⟩
               have n4_ : Aside0 (Kd.N k81 81 (w48.setCell ⟨gb465, 1, none⟩ (.slice Ao49 y483.length co49)) w.heap.size (fun k_ => (P0_ k_ ∨ w.heap.size ≤ k_) ∧ some k_ ≠ (.slice Ao17 t462.length co17 : Value).ownBlock ∧ k_ ≠ gb455 ∧ k_ ≠ gb465) (.slice Ao49 y483.length co49) y483) := ⟨by (with_reducible repeat (first | apply Kd.N_alloc | apply Kd.N_drewN | apply Kd.N_drew)); exact Kd.N_mono (Kd.N_far (p := ⟨gb465, 1, none⟩) (Kd.N_mono HO485.out (fun k_ hk => (⟨hk, hk.2.2.2⟩ : _ ∧ k_ ≠ gb465))) (fun _ hk => hk.2) (.slice Ao49 y483.length co49)) (fun _ hk => ⟨hk.1.1, ⟨hk.1.2.1, ⟨hk.1.2.2.1, hk.1.2.2.2⟩⟩⟩)⟩
               have n5_ : Aside0 ((w48.setCell ⟨gb465, 1, none⟩ (.slice Ao49 y483.length co49)).heap[gb455]? = some (.cells #[.slice none 0 0, .slice none 0 0] 54 (0, 0))) := ⟨by (with_reducible repeat (first | refine blk_drewN ?_ _ | refine blk_drew ?_ | refine blk_alloc ?_ _)); refine blk_far ?_ NB455_465.out _; (with_reducible repeat (first | refine blk_drewN ?_ _ | refine blk_drew ?_ | refine blk_alloc ?_ _)); exact BK455.out⟩
               have n6_ : Aside0 ((w48.setCell ⟨gb465, 1, none⟩ (.slice Ao49 y483.length co49)).heap[gb465]? = some (.cells #[.slice Ao17 t462.length co17, .slice Ao49 y483.length co49] 54 (0, 0))) := ⟨by (with_reducible repeat (first | refine blk_drewN ?_ _ | refine blk_drew ?_ | refine blk_alloc ?_ _)); refine blk_put (cs := #[.slice Ao17 t462.length co17, u466001]) ?_ 1 _ rfl; (with_reducible repeat (first | refine blk_drewN ?_ _ | refine blk_drew ?_ | refine blk_alloc ?_ _)); exact BK465.out⟩
               have n7_ : Aside0 (Below w.heap.size w (w48.setCell ⟨gb465, 1, none⟩ (.slice Ao49 y483.length co49))) := ⟨yB⟩
               (try clear HO_6)
               (try clear HO_466000)
               (try clear HL471_1)
               (try clear HO479)
               (try clear HO485)
               (try clear BK455)
               (try clear BK465)
               (try clear HB)
               generalize (w48.setCell ⟨gb465, 1, none⟩ (.slice Ao49 y483.length co49)) = w51 at n0_ n1_ n2_ n3_ n4_ n5_ n6_ n7_ ⊢
               have HO_6 := n0_
               have HO_466000 := n1_
               have HL471_1 := n2_
               have HO479 := n3_
               have HO485 := n4_
               have BK455 := n5_
               have BK465 := n6_
               have HB := n7_
               clear n0_ n1_ n2_ n3_ n4_ n5_ n6_ n7_
               have q52 : ((ji38) : Int) ≤ ((x6_1.length : Int) : Int) := of_decide_eq_true yP
               obtain ⟨i052, hi052, _, hsz52, _⟩ := info_parts info32
               have hroom52 : x6_1.length ≤ co41 := (Kd.V_reads' HO_6.out).2.1
               have hC52 : Kd.F k32 _ _ (some ad471) x6_1.length x6_1 := (Kd.V_at (base := w.heap.size) HO_6.out).2.2
               have q052 : (0 : Int) ≤ ((ji38) : Int) := of_decide_eq_true yP
               have hcut52 := cut_from (P := Try.prog) 35 32 .i64 Try.underlying35 hi052 3 hsz52 (some ad471) x6_1.length co41 (ji38) q052 q52
               have hr52 := Kd.F_cut (m := ((ji38) : Int).toNat) (c := co41) hC52 (by omega) hroom52
               obtain ⟨A52, hA52⟩ : ∃ A1, A1 = (if co41 = ((ji38) : Int).toNat then (some ad471) else ((some ad471) : Option Addr).map (·.add (((ji38) : Int).toNat * 3))) := ⟨_, rfl⟩
               obtain ⟨c52, hc52⟩ : ∃ c1, c1 = co41 - ((ji38) : Int).toNat := ⟨_, rfl⟩
               have hy52 : y486.length = x6_1.length - ((ji38) : Int).toNat := (by rw [Ny486.out, List.length_drop] <;> omega)
               rw [show (x6_1).drop ((ji38) : Int).toNat = y486 from Ny486.out.symm] at hr52
               replace hr52 : Kd.F k32 _ _ A52 y486.length y486 := (by rw [hA52]; exact hr52)
               rw [← hy52, ← hA52, ← hc52] at hcut52
               have HO490 := Aside0.mk (show Kd.V k32 32 _ w.heap.size _ (.slice A52 y486.length c52) y486 from Kd.V_mk (by rw [hy52, hc52]; exact Nat.sub_le_sub_right hroom52 _) hr52)
               have HC490 := Aside0.mk (show y486.length ≤ c52 from by rw [hy52, hc52]; exact Nat.sub_le_sub_right hroom52 _)
               clear hr52 hC52 hroom52 hi052 hsz52 hc52
               have KY52 := Aside0.mk hy52
               have KA52 := Aside0.mk hA52
               clear hy52 hA52
               replace q52 := eq_true q52
               try go_wp2
               go_roundg k1
               case measure => have := HK1.out; omega
               case rel => exact ⟨(y486), (y483), (.slice Ao49 y483.length co49), H', ⟨by have := HK1.out; omega⟩, ⟨by (with_reducible repeat (first | apply Kd.V_alloc | apply Kd.V_drewN | apply Kd.V_drew)); exact HO490.out⟩, ⟨by (with_reducible repeat (first | apply Kd.N_alloc | apply Kd.N_drewN | apply Kd.N_drew)); exact HO_466000.out⟩, ⟨by (with_reducible repeat (first | apply Kd.N_alloc | apply Kd.N_drewN | apply Kd.N_drew)); exact HO485.out⟩, ⟨by (with_reducible repeat (first | refine blk_drewN ?_ _ | refine blk_drew ?_ | refine blk_alloc ?_ _)); exact BK455.out⟩, ⟨by (with_reducible repeat (first | refine blk_drewN ?_ _ | refine blk_drew ?_ | refine blk_alloc ?_ _)); exact BK465.out⟩, ⟨yB⟩⟩
              ·rw [if_neg c40] at H
               exact absurd H (by simp)
             ·rw [if_neg c39] at H
              exact absurd H (by simp)
            ·rw [if_neg c37] at H
             exact absurd H (by simp)
           ·rw [if_neg c35] at H
            exact absurd H (by simp)
          ·rw [if_neg c34] at H
           exact absurd H (by simp)
        ·replace c27 := Bool.eq_false_iff.mpr c27
         subst c27
         have H1 : (some (([] : List (S32)), ([] : List (S81)), 1)) = some (r1, r2, r3) := by rw [if_neg (show ¬ (false = true) by decide)] at H; exact H
         clear H
         have H := H1
         clear H1
         simp only [Option.some.injEq, Prod.mk.injEq] at H
         obtain ⟨rfl, rfl, rfl⟩ := H
         obtain ⟨Ao53, co53, eo53⟩ := Kd.V_slice HO_6.out
         subst eo53
         have p471 : 0 ≤ (0 : Int) := (by omega)
         have q471 : 0 < (x6_1.length : Int) := of_decide_eq_true yP
         obtain ⟨ad471, A471_1, c471_1, e471, hx471_0, hx471_1, hx471_2, hl471_1, hi471_1⟩ := at_T32 (Kd.V_reads' HO_6.out).2.2 0 p471 q471
         cases e471
         obtain ⟨ce471, hce471, hMe471, hcc471⟩ := Kd.V_get HO_6.out z32 0 p471 (by first | exact q471 | exact of_decide_eq_true yP | (have e_ := (Kd.V_reads' HO_6.out).1; omega))
         obtain ⟨ua471_1, uc471_1, rfl, ul471_1, ge471_1⟩ := k32_openF hMe471
         have hv471_1 := hcc471 1 _ rfl
         rw [add_field _ _ 1 (by omega)] at hv471_1
         replace hv471_1 := Option.some.inj (hv471_1.symm.trans hx471_1)
         injection hv471_1 with hva_ hvn_ hvc_
         rw [hva_] at ge471_1
         rw [hvc_] at ul471_1
         have HL471_1 := Aside0.mk (show Kd.V k78 78 _ w.heap.size _ _ ((rd_T32 x6_1 0).f1) from Kd.V_mk ul471_1 ge471_1)
         clear hva_ hvn_ hvc_ ge471_1 ul471_1
         clear hcc471 hce471
         have qi471 : (0 < x6_1.length) = True := eq_true (by omega)
         (try rw [show ((0 : Int)).toNat = 0 from rfl] at hx471_0)
         (try rw [show 0 * 3 = 0 from rfl] at hx471_0)
         (try rw [Addr.add_zero'] at hx471_0)
         (try rw [show ((0 : Int)).toNat = 0 from rfl] at hx471_1)
         (try rw [show 0 * 3 = 0 from rfl] at hx471_1)
         (try rw [Addr.add_zero'] at hx471_1)
         (try rw [show ((0 : Int)).toNat = 0 from rfl] at hx471_2)
         (try rw [show 0 * 3 = 0 from rfl] at hx471_2)
         (try rw [Addr.add_zero'] at hx471_2)
         have HR471_1 := Aside0.mk hi471_1
         have HC471_1 := Aside0.mk hl471_1
         clear hi471_1 hl471_1
         replace p471 := eq_true p471
         replace q471 := eq_true q471
         go_wp2_with (first | ((with_reducible refine gate_callee (f := 76) rfl ?_); refine goesL_ (some 32) rfl rfl Try.func76 (by kernel_rfl) rfl #[.agg #[.bool ((rd_T32 x6_1 0).f0), .slice A471_1 ((rd_T32 x6_1 0).f1).length c471_1, .string ((rd_T32 x6_1 0).f2)]] rfl yQ ?_; (with_reducible refine (subprogram_beginning.calls ((rd_T32 x6_1 0).f0) _ _ ((rd_T32 x6_1 0).f1) ((rd_T32 x6_1 0).f2) t472 false _ ?side1 ?side2 A25.out).mono ?_); (case side1 => repeat (first | exact (by repeat (first | (with_reducible exact HR471_1.out) | (with_reducible refine Kd.C_alloc ?_ _) | (with_reducible refine Kd.C_drewN ?_ _) | (with_reducible refine Kd.C_drew ?_) | exact HR471_1.out)) | (with_reducible refine Kd.C_alloc ?_ _) | (with_reducible refine Kd.C_drewN ?_ _) | (with_reducible refine Kd.C_drew ?_))); (case side2 => exact HC471_1.out); rintro e w54 ⟨rfl, hb⟩; refine ⟨_, rfl, ?_⟩; have n0_ := Aside0.mk (Kd.V_below (by (with_reducible repeat (first | apply Kd.V_alloc | apply Kd.V_drewN | apply Kd.V_drew)); exact HO_6.out) hb); have n1_ := Aside0.mk (Kd.N_below (by (with_reducible repeat (first | apply Kd.N_alloc | apply Kd.N_drewN | apply Kd.N_drew)); exact HO_466000.out) hb); have n2_ := Aside0.mk (Kd.N_below (by (with_reducible repeat (first | apply Kd.N_alloc | apply Kd.N_drewN | apply Kd.N_drew)); exact HO_466001.out) hb); have n3_ := Aside0.mk (Kd.V_below (by (with_reducible repeat (first | apply Kd.V_alloc | apply Kd.V_drewN | apply Kd.V_drew)); exact HL471_1.out) hb); have n4_ := Aside0.mk (blk_below (g := gb455) (o := .cells #[.slice none 0 0, .slice none 0 0] 54 (0, 0)) yK hb); have n5_ := Aside0.mk (blk_below (g := gb465) (o := .cells #[.slice Ao17 t462.length co17, u466001] 54 (0, 0)) yK hb); have n6_ := Aside0.mk (Kd.C_below (by repeat (first | (with_reducible exact HR471_1.out) | (with_reducible refine Kd.C_alloc ?_ _) | (with_reducible refine Kd.C_drewN ?_ _) | (with_reducible refine Kd.C_drew ?_) | exact HR471_1.out)) hb); have n7_ := Aside0.mk (below_step yB hb); clear HO_6; clear HO_466000; clear HO_466001; clear HL471_1; clear BK455; clear BK465; clear HR471_1; clear HB; have HO_6 := n0_; have HO_466000 := n1_; have HO_466001 := n2_; have HL471_1 := n3_; have BK455 := n4_; have BK465 := n5_; have HR471_1 := n6_; have HB := n7_; clear n0_ n1_ n2_ n3_ n4_ n5_ n6_ n7_; (try clear hb); (try clear hb2); (try clear hk); (try clear hi)) | ((with_reducible refine gate_callee (f := 73) rfl ?_); refine goesL_ (some 36) rfl rfl Try.func73 (by kernel_rfl) rfl #[.slice (some ad471) x6_1.length co53, .func (.func 77) #[] #[]] rfl yQ ?_; (with_reducible refine (IndexFunc_back.calls k1 _ _ x6_1  t474 _ ?side1 ?side2 A26.out).mono ?_); (case side1 => repeat (first | exact (Kd.V_reads' HO_6.out).2.2 | (with_reducible refine Kd.C_alloc ?_ _) | (with_reducible refine Kd.C_drewN ?_ _) | (with_reducible refine Kd.C_drew ?_))); (case side2 => exact (Kd.V_reads' HO_6.out).2.1); rintro e w55 ⟨rfl, hb⟩; refine ⟨_, rfl, ?_⟩; have n0_ := Aside0.mk (Kd.V_below (by (with_reducible repeat (first | apply Kd.V_alloc | apply Kd.V_drewN | apply Kd.V_drew)); exact HO_6.out) hb); have n1_ := Aside0.mk (Kd.N_below (by (with_reducible repeat (first | apply Kd.N_alloc | apply Kd.N_drewN | apply Kd.N_drew)); exact HO_466000.out) hb); have n2_ := Aside0.mk (Kd.N_below (by (with_reducible repeat (first | apply Kd.N_alloc | apply Kd.N_drewN | apply Kd.N_drew)); exact HO_466001.out) hb); have n3_ := Aside0.mk (Kd.V_below (by (with_reducible repeat (first | apply Kd.V_alloc | apply Kd.V_drewN | apply Kd.V_drew)); exact HL471_1.out) hb); have n4_ := Aside0.mk (blk_below (g := gb455) (o := .cells #[.slice none 0 0, .slice none 0 0] 54 (0, 0)) yK hb); have n5_ := Aside0.mk (blk_below (g := gb465) (o := .cells #[.slice Ao17 t462.length co17, u466001] 54 (0, 0)) yK hb); have n6_ := Aside0.mk (Kd.C_below (by repeat (first | (with_reducible exact HR471_1.out) | (with_reducible refine Kd.C_alloc ?_ _) | (with_reducible refine Kd.C_drewN ?_ _) | (with_reducible refine Kd.C_drew ?_) | exact HR471_1.out)) hb); have n7_ := Aside0.mk (below_step yB hb); clear HO_6; clear HO_466000; clear HO_466001; clear HL471_1; clear BK455; clear BK465; clear HR471_1; clear HB; have HO_6 := n0_; have HO_466000 := n1_; have HO_466001 := n2_; have HL471_1 := n3_; have BK455 := n4_; have BK465 := n5_; have HR471_1 := n6_; have HB := n7_; clear n0_ n1_ n2_ n3_ n4_ n5_ n6_ n7_; (try clear hb); (try clear hb2); (try clear hk); (try clear hi); have hnb56 := NB455_465.out; have hnc56 := NB465_455.out; have hcz57_0 : w55.cell? ⟨gb455, 0, none⟩ = some (.slice none 0 0) := (blk_cell BK455.out 0).trans rfl; have hcz57_1 : w55.cell? ⟨gb455, 1, none⟩ = some (.slice none 0 0) := (blk_cell BK455.out 1).trans rfl; have hfz57_0 := blk_frozen BK455.out 0; have hfz57_1 := blk_frozen BK455.out 1))
         refine bodyPost_ret (results_ct rfl _ _ gb455 54 #[.slice none 0 0, .slice none 0 0] (0, 0) _ rfl (by (with_reducible repeat (first | refine blk_drewN ?_ _ | refine blk_drew ?_ | refine blk_alloc ?_ _)); refine blk_put (cs := #[.slice none 0 0, .slice none 0 0]) ?_ 1 _ rfl; (with_reducible repeat (first | refine blk_drewN ?_ _ | refine blk_drew ?_ | refine blk_alloc ?_ _)); refine blk_put (cs := #[.slice none 0 0, .slice none 0 0]) ?_ 0 _ rfl; (with_reducible repeat (first | refine blk_drewN ?_ _ | refine blk_drew ?_ | refine blk_alloc ?_ _)); exact BK455.out) Try.underlying54 rfl (by kernel_rfl)) rfl ?_
         exact ⟨_, _, by first | rfl | (simp [errW_none, errW_some] <;> rfl) | (simp only [← hji7]; first | rfl | (simp [errW_none, errW_some] <;> rfl)) | (simp [*, errW_none, errW_some] <;> rfl), by first | exact Kd.S_nil _ _ _ _ _ | exact Kd.N_nil _ _ _ _ _ | exact Kd.V_nil _ _ _ _ _ | exact Kd.Q_nil _ _ _ _ _ | exact Kd.R_nil _ _ _ _ _, by first | exact Kd.R_nil _ _ _ _ _ | exact Kd.N_nil _ _ _ _ _ | exact Kd.V_nil _ _ _ _ _ | exact Kd.Q_nil _ _ _ _ _ | exact Kd.S_nil _ _ _ _ _, yB⟩
       ·rw [if_neg c24] at H
        exact absurd H (by simp)
      ·rw [if_neg c23] at H
       have c23b0 : decide (0 < (x6_1.length : Int)) = false := decide_eq_false c23
       have c23b1 : decide (0 < x6_1.length) = false := decide_eq_false (by omega)
       clear c23
       replace H := Option.bind_eq_some_iff.mp H
       obtain ⟨t491, A580, H⟩ := H
       replace H : (if t491 = true then ((subprogram_repeated.f x466001_1).bind fun t492 => (if t492 = true then (some (([] : List (S32)), ([] : List (S81)), 5)) else (some (t462, x466001_1, 0)))) else (some (([] : List (S32)), ([] : List (S81)), 1))) = some (r1, r2, r3) := H
       have A58 := Aside0.mk A580
       clear A580
       by_cases c59 : t491 = true
       ·subst c59
        have H1 : ((subprogram_repeated.f x466001_1).bind fun t492 => (if t492 = true then (some (([] : List (S32)), ([] : List (S81)), 5)) else (some (t462, x466001_1, 0)))) = some (r1, r2, r3) := by rw [if_pos rfl] at H; exact H
        clear H
        have H := H1
        clear H1
        replace H := Option.bind_eq_some_iff.mp H
        obtain ⟨t492, A600, H⟩ := H
        replace H : (if t492 = true then (some (([] : List (S32)), ([] : List (S81)), 5)) else (some (t462, x466001_1, 0))) = some (r1, r2, r3) := H
        have A60 := Aside0.mk A600
        clear A600
        by_cases c61 : t492 = true
        ·subst c61
         have H1 : (some (([] : List (S32)), ([] : List (S81)), 5)) = some (r1, r2, r3) := by rw [if_pos rfl] at H; exact H
         clear H
         have H := H1
         clear H1
         simp only [Option.some.injEq, Prod.mk.injEq] at H
         obtain ⟨rfl, rfl, rfl⟩ := H
         obtain ⟨Ao62, co62, eo62⟩ := Kd.V_slice HO_6.out
         subst eo62
         have hnb63 := NB465_455.out
         have hnc63 := NB455_465.out
         have hcz64_0 : wr.cell? ⟨gb465, 0, none⟩ = some (.slice Ao17 t462.length co17) := (blk_cell BK465.out 0).trans rfl
         have hcz64_1 : wr.cell? ⟨gb465, 1, none⟩ = some (u466001) := (blk_cell BK465.out 1).trans rfl
         have hfz64_0 := blk_frozen BK465.out 0
         have hfz64_1 := blk_frozen BK465.out 1
         obtain ⟨Ao65, co65, eo65⟩ := Kd.N_slice HO_466001.out
         subst eo65
         go_wp2_with (first | ((with_reducible refine gate_callee (f := 79) rfl ?_); refine goesL_ (some 60) rfl rfl Try.func79 (by kernel_rfl) rfl #[.agg #[.slice Ao17 t462.length co17, .slice Ao65 x466001_1.length co65]] rfl yQ ?_; (with_reducible refine (subprogram_ordered.calls k1 _ _ t462 _ _ x466001_1 true _ ?side1 ?side2 ?side3 ?side4 A58.out).mono ?_); (case side1 => repeat (first | exact (Kd.N_reads' HO_466000.out).2.2 | (with_reducible refine Kd.C_alloc ?_ _) | (with_reducible refine Kd.C_drewN ?_ _) | (with_reducible refine Kd.C_drew ?_))); (case side2 => exact (Kd.N_reads' HO_466000.out).2.1); (case side3 => repeat (first | exact (Kd.N_reads' HO_466001.out).2.2 | (with_reducible refine Kd.C_alloc ?_ _) | (with_reducible refine Kd.C_drewN ?_ _) | (with_reducible refine Kd.C_drew ?_))); (case side4 => exact (Kd.N_reads' HO_466001.out).2.1); rintro e w66 ⟨rfl, hb⟩; refine ⟨_, rfl, ?_⟩; have n0_ := Aside0.mk (Kd.V_below (by (with_reducible repeat (first | apply Kd.V_alloc | apply Kd.V_drewN | apply Kd.V_drew)); exact HO_6.out) hb); have n1_ := Aside0.mk (Kd.N_below (by (with_reducible repeat (first | apply Kd.N_alloc | apply Kd.N_drewN | apply Kd.N_drew)); exact HO_466000.out) hb); have n2_ := Aside0.mk (Kd.N_below (by (with_reducible repeat (first | apply Kd.N_alloc | apply Kd.N_drewN | apply Kd.N_drew)); exact HO_466001.out) hb); have n3_ := Aside0.mk (blk_below (g := gb455) (o := .cells #[.slice none 0 0, .slice none 0 0] 54 (0, 0)) yK hb); have n4_ := Aside0.mk (blk_below (g := gb465) (o := .cells #[.slice Ao17 t462.length co17, .slice Ao65 x466001_1.length co65] 54 (0, 0)) yK hb); have n5_ := Aside0.mk (below_step yB hb); clear HO_6; clear HO_466000; clear HO_466001; clear BK455; clear BK465; clear HB; have HO_6 := n0_; have HO_466000 := n1_; have HO_466001 := n2_; have BK455 := n3_; have BK465 := n4_; have HB := n5_; clear n0_ n1_ n2_ n3_ n4_ n5_; (try clear hb); (try clear hb2); (try clear hk); (try clear hi); have hcz67_0 : w66.cell? ⟨gb465, 0, none⟩ = some (.slice Ao17 t462.length co17) := (blk_cell BK465.out 0).trans rfl; have hcz67_1 : w66.cell? ⟨gb465, 1, none⟩ = some (.slice Ao65 x466001_1.length co65) := (blk_cell BK465.out 1).trans rfl; have hfz67_0 := blk_frozen BK465.out 0; have hfz67_1 := blk_frozen BK465.out 1) | ((with_reducible refine gate_callee (f := 80) rfl ?_); refine goesL_ (some 65) rfl rfl Try.func80 (by kernel_rfl) rfl #[.slice Ao65 x466001_1.length co65] rfl yQ ?_; (with_reducible refine (subprogram_repeated.calls _ _ x466001_1 true _ ?side1 ?side2 A60.out).mono ?_); (case side1 => repeat (first | exact (Kd.N_reads' HO_466001.out).2.2 | (with_reducible refine Kd.C_alloc ?_ _) | (with_reducible refine Kd.C_drewN ?_ _) | (with_reducible refine Kd.C_drew ?_))); (case side2 => exact (Kd.N_reads' HO_466001.out).2.1); rintro e w68 ⟨rfl, hb⟩; refine ⟨_, rfl, ?_⟩; have n0_ := Aside0.mk (Kd.V_below (by (with_reducible repeat (first | apply Kd.V_alloc | apply Kd.V_drewN | apply Kd.V_drew)); exact HO_6.out) hb); have n1_ := Aside0.mk (Kd.N_below (by (with_reducible repeat (first | apply Kd.N_alloc | apply Kd.N_drewN | apply Kd.N_drew)); exact HO_466000.out) hb); have n2_ := Aside0.mk (Kd.N_below (by (with_reducible repeat (first | apply Kd.N_alloc | apply Kd.N_drewN | apply Kd.N_drew)); exact HO_466001.out) hb); have n3_ := Aside0.mk (blk_below (g := gb455) (o := .cells #[.slice none 0 0, .slice none 0 0] 54 (0, 0)) yK hb); have n4_ := Aside0.mk (blk_below (g := gb465) (o := .cells #[.slice Ao17 t462.length co17, .slice Ao65 x466001_1.length co65] 54 (0, 0)) yK hb); have n5_ := Aside0.mk (below_step yB hb); clear HO_6; clear HO_466000; clear HO_466001; clear BK455; clear BK465; clear HB; have HO_6 := n0_; have HO_466000 := n1_; have HO_466001 := n2_; have BK455 := n3_; have BK465 := n4_; have HB := n5_; clear n0_ n1_ n2_ n3_ n4_ n5_; (try clear hb); (try clear hb2); (try clear hk); (try clear hi); have hcz69_0 : w68.cell? ⟨gb455, 0, none⟩ = some (.slice none 0 0) := (blk_cell BK455.out 0).trans rfl; have hcz69_1 : w68.cell? ⟨gb455, 1, none⟩ = some (.slice none 0 0) := (blk_cell BK455.out 1).trans rfl; have hfz69_0 := blk_frozen BK455.out 0; have hfz69_1 := blk_frozen BK455.out 1))
         refine bodyPost_ret (results_ct rfl _ _ gb455 54 #[.slice none 0 0, .slice none 0 0] (0, 0) _ rfl (by (with_reducible repeat (first | refine blk_drewN ?_ _ | refine blk_drew ?_ | refine blk_alloc ?_ _)); refine blk_put (cs := #[.slice none 0 0, .slice none 0 0]) ?_ 1 _ rfl; (with_reducible repeat (first | refine blk_drewN ?_ _ | refine blk_drew ?_ | refine blk_alloc ?_ _)); refine blk_put (cs := #[.slice none 0 0, .slice none 0 0]) ?_ 0 _ rfl; (with_reducible repeat (first | refine blk_drewN ?_ _ | refine blk_drew ?_ | refine blk_alloc ?_ _)); exact BK455.out) Try.underlying54 rfl (by kernel_rfl)) rfl ?_
         exact ⟨_, _, by first | rfl | (simp [errW_none, errW_some] <;> rfl) | (simp only [← hji7]; first | rfl | (simp [errW_none, errW_some] <;> rfl)) | (simp [*, errW_none, errW_some] <;> rfl), by first | exact Kd.S_nil _ _ _ _ _ | exact Kd.N_nil _ _ _ _ _ | exact Kd.V_nil _ _ _ _ _ | exact Kd.Q_nil _ _ _ _ _ | exact Kd.R_nil _ _ _ _ _, by first | exact Kd.R_nil _ _ _ _ _ | exact Kd.N_nil _ _ _ _ _ | exact Kd.V_nil _ _ _ _ _ | exact Kd.Q_nil _ _ _ _ _ | exact Kd.S_nil _ _ _ _ _, yB⟩
        ·replace c61 := Bool.eq_false_iff.mpr c61
         subst c61
         have H1 : (some (t462, x466001_1, 0)) = some (r1, r2, r3) := by rw [if_neg (show ¬ (false = true) by decide)] at H; exact H
         clear H
         have H := H1
         clear H1
         simp only [Option.some.injEq, Prod.mk.injEq] at H
         obtain ⟨rfl, rfl, rfl⟩ := H
         obtain ⟨Ao70, co70, eo70⟩ := Kd.V_slice HO_6.out
         subst eo70
         have hnb71 := NB465_455.out
         have hnc71 := NB455_465.out
         have hcz72_0 : wr.cell? ⟨gb465, 0, none⟩ = some (.slice Ao17 t462.length co17) := (blk_cell BK465.out 0).trans rfl
         have hcz72_1 : wr.cell? ⟨gb465, 1, none⟩ = some (u466001) := (blk_cell BK465.out 1).trans rfl
         have hfz72_0 := blk_frozen BK465.out 0
         have hfz72_1 := blk_frozen BK465.out 1
         obtain ⟨Ao73, co73, eo73⟩ := Kd.N_slice HO_466001.out
         subst eo73
         go_wp2_with (first | ((with_reducible refine gate_callee (f := 79) rfl ?_); refine goesL_ (some 60) rfl rfl Try.func79 (by kernel_rfl) rfl #[.agg #[.slice Ao17 t462.length co17, .slice Ao73 x466001_1.length co73]] rfl yQ ?_; (with_reducible refine (subprogram_ordered.calls k1 _ _ t462 _ _ x466001_1 true _ ?side1 ?side2 ?side3 ?side4 A58.out).mono ?_); (case side1 => repeat (first | exact (Kd.N_reads' HO_466000.out).2.2 | (with_reducible refine Kd.C_alloc ?_ _) | (with_reducible refine Kd.C_drewN ?_ _) | (with_reducible refine Kd.C_drew ?_))); (case side2 => exact (Kd.N_reads' HO_466000.out).2.1); (case side3 => repeat (first | exact (Kd.N_reads' HO_466001.out).2.2 | (with_reducible refine Kd.C_alloc ?_ _) | (with_reducible refine Kd.C_drewN ?_ _) | (with_reducible refine Kd.C_drew ?_))); (case side4 => exact (Kd.N_reads' HO_466001.out).2.1); rintro e w74 ⟨rfl, hb⟩; refine ⟨_, rfl, ?_⟩; have n0_ := Aside0.mk (Kd.V_below (by (with_reducible repeat (first | apply Kd.V_alloc | apply Kd.V_drewN | apply Kd.V_drew)); exact HO_6.out) hb); have n1_ := Aside0.mk (Kd.N_below (by (with_reducible repeat (first | apply Kd.N_alloc | apply Kd.N_drewN | apply Kd.N_drew)); exact HO_466000.out) hb); have n2_ := Aside0.mk (Kd.N_below (by (with_reducible repeat (first | apply Kd.N_alloc | apply Kd.N_drewN | apply Kd.N_drew)); exact HO_466001.out) hb); have n3_ := Aside0.mk (blk_below (g := gb455) (o := .cells #[.slice none 0 0, .slice none 0 0] 54 (0, 0)) yK hb); have n4_ := Aside0.mk (blk_below (g := gb465) (o := .cells #[.slice Ao17 t462.length co17, .slice Ao73 x466001_1.length co73] 54 (0, 0)) yK hb); have n5_ := Aside0.mk (below_step yB hb); clear HO_6; clear HO_466000; clear HO_466001; clear BK455; clear BK465; clear HB; have HO_6 := n0_; have HO_466000 := n1_; have HO_466001 := n2_; have BK455 := n3_; have BK465 := n4_; have HB := n5_; clear n0_ n1_ n2_ n3_ n4_ n5_; (try clear hb); (try clear hb2); (try clear hk); (try clear hi); have hcz75_0 : w74.cell? ⟨gb465, 0, none⟩ = some (.slice Ao17 t462.length co17) := (blk_cell BK465.out 0).trans rfl; have hcz75_1 : w74.cell? ⟨gb465, 1, none⟩ = some (.slice Ao73 x466001_1.length co73) := (blk_cell BK465.out 1).trans rfl; have hfz75_0 := blk_frozen BK465.out 0; have hfz75_1 := blk_frozen BK465.out 1) | ((with_reducible refine gate_callee (f := 80) rfl ?_); refine goesL_ (some 65) rfl rfl Try.func80 (by kernel_rfl) rfl #[.slice Ao73 x466001_1.length co73] rfl yQ ?_; (with_reducible refine (subprogram_repeated.calls _ _ x466001_1 false _ ?side1 ?side2 A60.out).mono ?_); (case side1 => repeat (first | exact (Kd.N_reads' HO_466001.out).2.2 | (with_reducible refine Kd.C_alloc ?_ _) | (with_reducible refine Kd.C_drewN ?_ _) | (with_reducible refine Kd.C_drew ?_))); (case side2 => exact (Kd.N_reads' HO_466001.out).2.1); rintro e w76 ⟨rfl, hb⟩; refine ⟨_, rfl, ?_⟩; have n0_ := Aside0.mk (Kd.V_below (by (with_reducible repeat (first | apply Kd.V_alloc | apply Kd.V_drewN | apply Kd.V_drew)); exact HO_6.out) hb); have n1_ := Aside0.mk (Kd.N_below (by (with_reducible repeat (first | apply Kd.N_alloc | apply Kd.N_drewN | apply Kd.N_drew)); exact HO_466000.out) hb); have n2_ := Aside0.mk (Kd.N_below (by (with_reducible repeat (first | apply Kd.N_alloc | apply Kd.N_drewN | apply Kd.N_drew)); exact HO_466001.out) hb); have n3_ := Aside0.mk (blk_below (g := gb455) (o := .cells #[.slice none 0 0, .slice none 0 0] 54 (0, 0)) yK hb); have n4_ := Aside0.mk (blk_below (g := gb465) (o := .cells #[.slice Ao17 t462.length co17, .slice Ao73 x466001_1.length co73] 54 (0, 0)) yK hb); have n5_ := Aside0.mk (below_step yB hb); clear HO_6; clear HO_466000; clear HO_466001; clear BK455; clear BK465; clear HB; have HO_6 := n0_; have HO_466000 := n1_; have HO_466001 := n2_; have BK455 := n3_; have BK465 := n4_; have HB := n5_; clear n0_ n1_ n2_ n3_ n4_ n5_; (try clear hb); (try clear hb2); (try clear hk); (try clear hi); have hcz77_0 : w76.cell? ⟨gb465, 0, none⟩ = some (.slice Ao17 t462.length co17) := (blk_cell BK465.out 0).trans rfl; have hcz77_1 : w76.cell? ⟨gb465, 1, none⟩ = some (.slice Ao73 x466001_1.length co73) := (blk_cell BK465.out 1).trans rfl; have hfz77_0 := blk_frozen BK465.out 0; have hfz77_1 := blk_frozen BK465.out 1; have hcz78_0 : w76.cell? ⟨gb455, 0, none⟩ = some (.slice none 0 0) := (blk_cell BK455.out 0).trans rfl; have hcz78_1 : w76.cell? ⟨gb455, 1, none⟩ = some (.slice none 0 0) := (blk_cell BK455.out 1).trans rfl; have hfz78_0 := blk_frozen BK455.out 0; have hfz78_1 := blk_frozen BK455.out 1))
         refine bodyPost_ret (results_ct rfl _ _ gb455 54 #[.slice Ao17 t462.length co17, .slice Ao73 x466001_1.length co73] (0, 0) _ rfl (by (with_reducible repeat (first | refine blk_drewN ?_ _ | refine blk_drew ?_ | refine blk_alloc ?_ _)); refine blk_put (cs := #[.slice Ao17 t462.length co17, .slice none 0 0]) ?_ 1 _ rfl; (with_reducible repeat (first | refine blk_drewN ?_ _ | refine blk_drew ?_ | refine blk_alloc ?_ _)); refine blk_put (cs := #[.slice none 0 0, .slice none 0 0]) ?_ 0 _ rfl; (with_reducible repeat (first | refine blk_drewN ?_ _ | refine blk_drew ?_ | refine blk_alloc ?_ _)); exact BK455.out) Try.underlying54 rfl (by kernel_rfl)) rfl ?_
         exact ⟨_, _, by first | rfl | (simp [errW_none, errW_some] <;> rfl) | (simp only [← hji7]; first | rfl | (simp [errW_none, errW_some] <;> rfl)) | (simp [*, errW_none, errW_some] <;> rfl), by (with_reducible repeat (first | apply Kd.N_alloc | apply Kd.N_drewN | apply Kd.N_drew)); exact Kd.N_mono (Kd.N_far (p := ⟨gb455, 1, none⟩) (Kd.N_far (p := ⟨gb455, 0, none⟩) (Kd.N_mono HO_466000.out (fun k_ hk => (⟨hk, hk.2.2.1⟩ : _ ∧ k_ ≠ gb455))) (fun _ hk => hk.2) (.slice Ao17 t462.length co17)) (fun _ hk => hk.2) (.slice Ao73 x466001_1.length co73)) (fun _ hk => ⟨hk.1.1, hk.1.2.1⟩), by (with_reducible repeat (first | apply Kd.N_alloc | apply Kd.N_drewN | apply Kd.N_drew)); exact Kd.N_mono (Kd.N_far (p := ⟨gb455, 1, none⟩) (Kd.N_far (p := ⟨gb455, 0, none⟩) (Kd.N_mono HO_466001.out (fun k_ hk => (⟨hk, hk.2.2.1⟩ : _ ∧ k_ ≠ gb455))) (fun _ hk => hk.2) (.slice Ao17 t462.length co17)) (fun _ hk => hk.2) (.slice Ao73 x466001_1.length co73)) (fun _ hk => ⟨hk.1.1, hk.1.2.1⟩), yB⟩
       ·replace c59 := Bool.eq_false_iff.mpr c59
        subst c59
        have H1 : (some (([] : List (S32)), ([] : List (S81)), 1)) = some (r1, r2, r3) := by rw [if_neg (show ¬ (false = true) by decide)] at H; exact H
        clear H
        have H := H1
        clear H1
        simp only [Option.some.injEq, Prod.mk.injEq] at H
        obtain ⟨rfl, rfl, rfl⟩ := H
        obtain ⟨Ao79, co79, eo79⟩ := Kd.V_slice HO_6.out
        subst eo79
        have hnb80 := NB465_455.out
        have hnc80 := NB455_465.out
        have hcz81_0 : wr.cell? ⟨gb465, 0, none⟩ = some (.slice Ao17 t462.length co17) := (blk_cell BK465.out 0).trans rfl
        have hcz81_1 : wr.cell? ⟨gb465, 1, none⟩ = some (u466001) := (blk_cell BK465.out 1).trans rfl
        have hfz81_0 := blk_frozen BK465.out 0
        have hfz81_1 := blk_frozen BK465.out 1
        obtain ⟨Ao82, co82, eo82⟩ := Kd.N_slice HO_466001.out
        subst eo82
        go_wp2_with (first | ((with_reducible refine gate_callee (f := 79) rfl ?_); refine goesL_ (some 60) rfl rfl Try.func79 (by kernel_rfl) rfl #[.agg #[.slice Ao17 t462.length co17, .slice Ao82 x466001_1.length co82]] rfl yQ ?_; (with_reducible refine (subprogram_ordered.calls k1 _ _ t462 _ _ x466001_1 false _ ?side1 ?side2 ?side3 ?side4 A58.out).mono ?_); (case side1 => repeat (first | exact (Kd.N_reads' HO_466000.out).2.2 | (with_reducible refine Kd.C_alloc ?_ _) | (with_reducible refine Kd.C_drewN ?_ _) | (with_reducible refine Kd.C_drew ?_))); (case side2 => exact (Kd.N_reads' HO_466000.out).2.1); (case side3 => repeat (first | exact (Kd.N_reads' HO_466001.out).2.2 | (with_reducible refine Kd.C_alloc ?_ _) | (with_reducible refine Kd.C_drewN ?_ _) | (with_reducible refine Kd.C_drew ?_))); (case side4 => exact (Kd.N_reads' HO_466001.out).2.1); rintro e w83 ⟨rfl, hb⟩; refine ⟨_, rfl, ?_⟩; have n0_ := Aside0.mk (Kd.V_below (by (with_reducible repeat (first | apply Kd.V_alloc | apply Kd.V_drewN | apply Kd.V_drew)); exact HO_6.out) hb); have n1_ := Aside0.mk (Kd.N_below (by (with_reducible repeat (first | apply Kd.N_alloc | apply Kd.N_drewN | apply Kd.N_drew)); exact HO_466000.out) hb); have n2_ := Aside0.mk (Kd.N_below (by (with_reducible repeat (first | apply Kd.N_alloc | apply Kd.N_drewN | apply Kd.N_drew)); exact HO_466001.out) hb); have n3_ := Aside0.mk (blk_below (g := gb455) (o := .cells #[.slice none 0 0, .slice none 0 0] 54 (0, 0)) yK hb); have n4_ := Aside0.mk (blk_below (g := gb465) (o := .cells #[.slice Ao17 t462.length co17, .slice Ao82 x466001_1.length co82] 54 (0, 0)) yK hb); have n5_ := Aside0.mk (below_step yB hb); clear HO_6; clear HO_466000; clear HO_466001; clear BK455; clear BK465; clear HB; have HO_6 := n0_; have HO_466000 := n1_; have HO_466001 := n2_; have BK455 := n3_; have BK465 := n4_; have HB := n5_; clear n0_ n1_ n2_ n3_ n4_ n5_; (try clear hb); (try clear hb2); (try clear hk); (try clear hi); have hcz84_0 : w83.cell? ⟨gb455, 0, none⟩ = some (.slice none 0 0) := (blk_cell BK455.out 0).trans rfl; have hcz84_1 : w83.cell? ⟨gb455, 1, none⟩ = some (.slice none 0 0) := (blk_cell BK455.out 1).trans rfl; have hfz84_0 := blk_frozen BK455.out 0; have hfz84_1 := blk_frozen BK455.out 1))
        refine bodyPost_ret (results_ct rfl _ _ gb455 54 #[.slice none 0 0, .slice none 0 0] (0, 0) _ rfl (by (with_reducible repeat (first | refine blk_drewN ?_ _ | refine blk_drew ?_ | refine blk_alloc ?_ _)); refine blk_put (cs := #[.slice none 0 0, .slice none 0 0]) ?_ 1 _ rfl; (with_reducible repeat (first | refine blk_drewN ?_ _ | refine blk_drew ?_ | refine blk_alloc ?_ _)); refine blk_put (cs := #[.slice none 0 0, .slice none 0 0]) ?_ 0 _ rfl; (with_reducible repeat (first | refine blk_drewN ?_ _ | refine blk_drew ?_ | refine blk_alloc ?_ _)); exact BK455.out) Try.underlying54 rfl (by kernel_rfl)) rfl ?_
        exact ⟨_, _, by first | rfl | (simp [errW_none, errW_some] <;> rfl) | (simp only [← hji7]; first | rfl | (simp [errW_none, errW_some] <;> rfl)) | (simp [*, errW_none, errW_some] <;> rfl), by first | exact Kd.S_nil _ _ _ _ _ | exact Kd.N_nil _ _ _ _ _ | exact Kd.V_nil _ _ _ _ _ | exact Kd.Q_nil _ _ _ _ _ | exact Kd.R_nil _ _ _ _ _, by first | exact Kd.R_nil _ _ _ _ _ | exact Kd.N_nil _ _ _ _ _ | exact Kd.V_nil _ _ _ _ _ | exact Kd.Q_nil _ _ _ _ _ | exact Kd.S_nil _ _ _ _ _, yB⟩
   ·rw [if_neg c9] at H
    exact absurd H (by simp)
  ·rw [if_neg c8] at H
   exact absurd H (by simp)
end Go.Proofs.Ytehkhbnhmehobaa.P
namespace Go.Proofs.Ytehkhbnhmehobaa.P
open Go.RowKit Go.Proofs.YtehkhbnhmehobaaW.PrintWords Go.Proofs.YtehkhbnhmehobaaW.PrintLast Go.Proofs.YtehkhbnhmehobaaW.PrintMore
set_option linter.unusedVariables false
set_option linter.unusedSimpArgs false
def Blks (W : World) (L : List (Nat × Obj)) : Prop := ∀ p ∈ L, W.heap[p.1]? = some p.2
theorem Blks.below {W W' : World} {L : List (Nat × Obj)} (h : Blks W L) (hb : Below W.heap.size W W') : Blks W' L := fun p hp => by
  have := h p hp
  exact (hb.block p.1 (Array.getElem?_eq_some_iff.1 this).1).trans this
theorem Blks.nil (W : World) : Blks W [] := fun p hp => by cases hp
theorem Blks.cons {W : World} {L : List (Nat × Obj)} (h : Blks W L) {g : Nat} {o : Obj} (hg : W.heap[g]? = some o) : Blks W ((g, o) :: L) := fun p hp => by
  rcases List.mem_cons.mp hp with rfl | hp
  · exact hg
  · exact h p hp
theorem size_alloc (W : World) (o : Obj) : (W.alloc o).heap.size = W.heap.size + 1 := by
  show (W.heap.push o).size = _
  simp
theorem Blks.alloc1 {W : World} {L : List (Nat × Obj)} (h : Blks W L) (o : Obj) : Blks (W.alloc o) ((W.heap.size, o) :: L) := (h.below (below_alloc (Below.refl _ _) o)).cons (alloc_at W o)
theorem Blks.alloc3 {W : World} {L : List (Nat × Obj)} (h : Blks W L) (o1 o2 o3 : Obj) : Blks (((W.alloc o1).alloc o2).alloc o3) ((W.heap.size + 1 + 1, o3) :: (W.heap.size + 1, o2) :: (W.heap.size, o1) :: L) := by
  have := ((h.alloc1 o1).alloc1 o2).alloc1 o3
  rw [size_alloc, size_alloc] at this
  exact this
theorem Blks.drew {W : World} {L : List (Nat × Obj)} (h : Blks W L) : Blks W.drew L := h
theorem Blks.at {W : World} {L : List (Nat × Obj)} (h : Blks W L) {g : Nat} {o : Obj} (hm : (g, o) ∈ L) : W.heap[g]? = some o := h _ hm
section
variable {P : Program} {ops : Array Oper} {Q : Exit → Act → World → Prop}
theorem lit_step {oi : Oper} {N : Option Tmp} {a : Act} {w w' : World} {K : Act → World → Prop} {v : Value} (hw : Region.wanted oi (yielded ops a.tmps) = true) (hN : oi.dst = N) (hrun : (execOp a.eval oi).run P w = .ok (.value v) w') (h : K (a.put N v) w') : if Region.wanted oi (yielded ops a.tmps) = true then Oper.wp P oi a w K Q else K (a.put N undef) w := by
  rw [if_pos hw]
  subst hN
  unfold Oper.wp
  rw [hrun]
  exact h
end
def encW : List S78 → List Value
  | [] => []
  | x :: l => .int .u8 x.f0 :: .int .i64 x.f1 :: encW l
theorem encW_at : ∀ (xs : List S78) (j : Nat) (x : S78), xs[j]? = some x → (encW xs)[j * 2]? = some (.int .u8 x.f0) ∧ (encW xs)[j * 2 + 1]? = some (.int .i64 x.f1)
  | [], j, x, h => by simp at h
  | y :: l, 0, x, h => by simp at h; subst h; exact ⟨rfl, rfl⟩
  | y :: l, j + 1, x, h => by
    have := encW_at l j x (by simpa using h)
    rw [show (j + 1) * 2 = j * 2 + 1 + 1 by omega]
    exact this
theorem C_words {W : World} {g : Nat} (xs : List S78) (h : W.heap[g]? = some (.cells (encW xs).toArray 78 (0, 0))) (hm : xs.length ≤ 9223372036854775807) : Kd.C k78 W (some ⟨g, 0, none⟩) xs.length xs := by
  refine ⟨rfl, hm, fun _ => ⟨⟨g, 0, none⟩, rfl, fun j x hj => ⟨[.int .u8 x.f0, .int .i64 x.f1], rfl, k78_mk W x, fun i u hu => ?_⟩⟩⟩
  obtain ⟨h1, h2⟩ := encW_at xs j x hj
  rw [show ((⟨g, 0, none⟩ : Addr).add (j * (k78).sz + i)) = ⟨g, j * 2 + i, none⟩ from by rw [show (k78).sz = 2 from rfl]; simp [Addr.add] <;> (intros; omega)]
  rcases i with _ | _ | i
  · simp at hu; subst hu
    refine (blk_cell h _).trans ?_
    simpa using h1
  · simp at hu; subst hu
    refine (blk_cell h _).trans ?_
    simpa using h2
  · simp at hu
theorem C_sub1 {W : World} {g : Nat} {n : Int} {l : List S32} {A : Option Addr} {c : Nat} (h0 : W.cell? ⟨g, 0, none⟩ = some (.int .i64 n)) (h1 : W.cell? ⟨g, 1, none⟩ = some (.slice A l.length c)) (hl : l.length ≤ c) (hC : Kd.C k32 W A l.length l) : Kd.C k81 W (some ⟨g, 0, none⟩) 1 [⟨n, l⟩] := by
  refine ⟨rfl, by decide, fun _ => ⟨⟨g, 0, none⟩, rfl, fun j x hj => ?_⟩⟩
  rcases j with _ | j
  · simp at hj
    subst hj
    refine ⟨[.int .i64 n, .slice A l.length c], rfl, k81_mk W ⟨n, l⟩ hl hC, fun i u hu => ?_⟩
    rw [show ((⟨g, 0, none⟩ : Addr).add (0 * (k81).sz + i)) = ⟨g, i, none⟩ from by simp [Addr.add] <;> (intros; omega)]
    rcases i with _ | _ | i
    · simp at hu; subst hu; exact h0
    · simp at hu; subst hu; exact h1
    · simp at hu
  · simp at hj
theorem Blks.hd {W : World} {L : List (Nat × Obj)} {g : Nat} {o : Obj} (h : Blks W ((g, o) :: L)) : W.heap[g]? = some o := h _ List.mem_cons_self
theorem Blks.tl {W : World} {L : List (Nat × Obj)} {q : Nat × Obj} (h : Blks W (q :: L)) : Blks W L := fun p hp => h p (List.mem_cons_of_mem _ hp)
section
variable {P : Program} {ops : Array Oper} {Q : Exit → Act → World → Prop}
theorem store_step_ {oi : Oper} {a : Act} {w w' : World} {K : Act → World → Prop} (hw : Region.wanted oi (yielded ops a.tmps) = true) (hN : oi.dst = none) (hrun : (execOp a.eval oi).run P w = .ok .skip w') (h : K (a.put none undef) w') : if Region.wanted oi (yielded ops a.tmps) = true then Oper.wp P oi a w K Q else K (a.put none undef) w := by
  rw [if_pos hw]
  unfold Oper.wp
  rw [hrun]
  show K (a.put oi.dst undef) w'
  rw [hN]
  exact h
end
def encB : List (S32 × Option Addr × Nat) → List Value
  | [] => []
  | q :: l => .bool q.1.f0 :: .slice q.2.1 q.1.f1.length q.2.2 :: .string q.1.f2 :: encB l
theorem encB_at : ∀ (xs : List (S32 × Option Addr × Nat)) (j : Nat) (x : S32 × Option Addr × Nat), xs[j]? = some x → (encB xs)[j * 3]? = some (.bool x.1.f0) ∧ (encB xs)[j * 3 + 1]? = some (.slice x.2.1 x.1.f1.length x.2.2) ∧ (encB xs)[j * 3 + 2]? = some (.string x.1.f2)
  | [], j, x, h => by simp at h
  | y :: l, 0, x, h => by simp at h; subst h; exact ⟨rfl, rfl, rfl⟩
  | y :: l, j + 1, x, h => by
    have := encB_at l j x (by simpa using h)
    rw [show (j + 1) * 3 = j * 3 + 1 + 1 + 1 by omega]
    exact this
theorem C_blocks {W : World} {g : Nat} (xs : List (S32 × Option Addr × Nat)) (h : W.heap[g]? = some (.cells (encB xs).toArray 32 (0, 0))) (hm : xs.length ≤ 9223372036854775807) (hw : ∀ x ∈ xs, x.1.f1.length ≤ x.2.2 ∧ Kd.C k78 W x.2.1 x.1.f1.length x.1.f1) : Kd.C k32 W (some ⟨g, 0, none⟩) (xs.map (·.1)).length (xs.map (·.1)) := by
  refine ⟨rfl, by simpa using hm, fun _ => ⟨⟨g, 0, none⟩, rfl, fun j y hj => ?_⟩⟩
  rw [List.getElem?_map] at hj
  obtain ⟨x, hx, rfl⟩ := Option.map_eq_some_iff.mp hj
  obtain ⟨hl, hC⟩ := hw x (List.mem_of_getElem? hx)
  refine ⟨[.bool x.1.f0, .slice x.2.1 x.1.f1.length x.2.2, .string x.1.f2], rfl, k32_mk W x.1 hl hC, fun i u hu => ?_⟩
  obtain ⟨h1, h2, h3⟩ := encB_at xs j x hx
  rw [show ((⟨g, 0, none⟩ : Addr).add (j * (k32).sz + i)) = ⟨g, j * 3 + i, none⟩ from by rw [show (k32).sz = 3 from rfl]; simp [Addr.add] <;> (intros; omega)]
  rcases i with _ | _ | _ | i
  · simp at hu; subst hu
    refine (blk_cell h _).trans ?_
    simpa using h1
  · simp at hu; subst hu
    refine (blk_cell h _).trans ?_
    simpa using h2
  · simp at hu; subst hu
    refine (blk_cell h _).trans ?_
    simpa using h3
  · simp at hu
theorem word_any (a0 a1 r : Int) (h : wrap64 (1000 * a1) = r) (w : World) : Calls Try.prog 44 #[.int .u8 a0, .int .i64 a1] w fun e w' => e = .returned (.agg #[.int .u8 a0, .int .i64 r]) ∧ Below w.heap.size w w' :=
  swarflaw43_word.calls a0 a1 a0 r w (by unfold swarflaw43_word.f; rw [h])
set_option maxHeartbeats 1000000 in
theorem words_any (A : Option Addr) (n c : Nat) (w : World) : Calls Try.prog 43 #[.slice A n c] w fun e w' => e = .returned (.agg #[.bool false, .slice A n c, .string (⟨#[]⟩ : ByteArray)]) ∧ Below w.heap.size w w' := by
  have hu32 := Try.underlying32
  have HB := Aside0.mk (Below.refl w.heap.size w)
  go_enter Try.func43, Try.ntmps43
  go_wp2_with ((with_reducible refine gate_dst (N := 2) rfl ?_); refine box_event ?hg (N := 2) ?hd (cs := #[.bool false, .slice none 0 0, .string (⟨#[]⟩ : ByteArray)]) (t := 32) ?hr ?_; (case hd => rfl); (case hg => rfl); (case hr => first | (go_simp; done) | (go_simp; rfl)); intro gb hg w2 hbox hb; have BK := Aside0.mk hbox; have GE := Aside0.mk (show w.heap.size ≤ gb from by rw [hg]; exact Nat.le_refl _); have HB2 := Aside0.mk (below_step HB.out hb); clear hbox hg hb; have hz0 : w2.cell? ⟨gb, 0, none⟩ = some (.bool false) := (blk_cell BK.out 0).trans rfl; have hz1 : w2.cell? ⟨gb, 1, none⟩ = some (.slice none 0 0) := (blk_cell BK.out 1).trans rfl; have hz2 : w2.cell? ⟨gb, 2, none⟩ = some (.string (⟨#[]⟩ : ByteArray)) := (blk_cell BK.out 2).trans rfl; have hf0 := blk_frozen BK.out 0; have hf1 := blk_frozen BK.out 1; have hf2 := blk_frozen BK.out 2)
  refine bodyPost_ret (results_cell_row rfl _ _ gb 32 #[.bool false, .slice A n c, .string (⟨#[]⟩ : ByteArray)] (0, 0) _ rfl (by refine blk_put (cs := #[.bool false, .slice A n c, .string (⟨#[]⟩ : ByteArray)]) ?_ 2 _ rfl; refine blk_put (cs := #[.bool false, .slice none 0 0, .string (⟨#[]⟩ : ByteArray)]) ?_ 1 _ rfl; refine blk_put (cs := #[.bool false, .slice none 0 0, .string (⟨#[]⟩ : ByteArray)]) ?_ 0 _ rfl; exact BK.out) Try.underlying32 rfl (by kernel_rfl)) rfl ?_
  exact ⟨rfl, by repeat (with_reducible first | exact HB2.out | refine below_set ?_ GE.out)⟩
def BX (a n : Nat) : Obj := .cells #[.bool false, .slice (some ⟨a, 0, none⟩) n n, .string ⟨#[]⟩] 32 (0, 0)
def aw (a b : Int) : S78 := ⟨a, b⟩
def ab (l : List S78) : S32 := ⟨false, l, ⟨#[]⟩⟩
def rapid_ := ab [aw 71 0, aw 88 1000]
def feed_ := ab [aw 71 1000, aw 88 2000]
def end_ := ab [aw 77 30000]
def call_ := ab [aw 77 98000, aw 80 5000, aw 76 2000]
def o5_ := ab [aw 79 5000]
def ret_ := ab [aw 77 99000]
def call5_ := ab [aw 77 98000, aw 80 5000]
def again_ := ab [aw 77 98000, aw 80 7000]
theorem split_ex : subprogram_Split.f 60 [rapid_, call_, end_, o5_, feed_, ret_] = some ([rapid_, call_, end_], [⟨5, [feed_]⟩], 0) := by kernel_rfl
theorem expand_ex : subprogram_Expand.f 60 [rapid_, call_, end_] [⟨5, [feed_]⟩] = some ([rapid_, feed_, feed_, end_], 0) := by kernel_rfl
theorem expand_ex2 : subprogram_Expand.f 60 [rapid_, call_, end_] [⟨5, [call5_]⟩] = some ([], 12) := by kernel_rfl
theorem fold_ex : subprogram_Fold.f 60 [rapid_, feed_, call_, rapid_, feed_, end_] 7 2 = some ([again_, call_, again_, end_], [⟨7, [rapid_, feed_]⟩], 0) := by kernel_rfl
theorem same_ex : swarfref41_Same.f 60 [rapid_, feed_, feed_, end_] [rapid_, feed_, feed_, end_] = some true := by kernel_rfl
theorem same_ex2 : swarfref41_Same.f 60 [again_, call_, again_, end_] [again_, call_, again_, end_] = some true := by kernel_rfl
end Go.Proofs.Ytehkhbnhmehobaa.P
namespace Go.Proofs.Ytehkhbnhmehobaa.P
open Go.RowKit Go.Proofs.YtehkhbnhmehobaaW.PrintWords Go.Proofs.YtehkhbnhmehobaaW.PrintLast Go.Proofs.YtehkhbnhmehobaaW.PrintMore
set_option linter.unusedVariables false
set_option linter.unusedSimpArgs false
set_option maxHeartbeats 16000000 in
set_option maxRecDepth 100000 in
theorem awake43_calls (w : World) : Calls Try.prog 23 #[] w fun e w' => e = .returned (.bool true) ∧ Below w.heap.size w w' := by
  have hu32 := Try.underlying32
  have hu54 := Try.underlying54
  have hu81 := Try.underlying81
  have hu78 := Try.underlying78
  have HL := Aside0.mk (Blks.nil w)
  have HB := Aside0.mk (Below.refl w.heap.size w)
  go_enter Try.func23, Try.ntmps23
  go_wp2_with (first | (go_at_call 44; (with_reducible refine (word_any 71 0 0 (by kernel_rfl) _).mono ?_); rintro e_ w_ ⟨rfl, hb⟩; (first | (have HL_ := Aside0.mk (HL.out.below hb); have HB_ := Aside0.mk (below_then HB.out HB.out.size hb)) | (have HL_ := Aside0.mk ((HL.out.alloc1 _).below hb); have HB_ := Aside0.mk (below_then (below_alloc HB.out _) (below_alloc HB.out _).size hb)) | (have HL_ := Aside0.mk ((HL.out.alloc3 _ _ _).below hb); have HB_ := Aside0.mk (below_then (below_alloc (below_alloc (below_alloc HB.out _) _) _) (below_alloc (below_alloc (below_alloc HB.out _) _) _).size hb))); clear HL HB hb; have HL := HL_; have HB := HB_; clear HL_ HB_) | (go_at_call 44; (with_reducible refine (word_any 88 1 1000 (by kernel_rfl) _).mono ?_); rintro e_ w_ ⟨rfl, hb⟩; (first | (have HL_ := Aside0.mk (HL.out.below hb); have HB_ := Aside0.mk (below_then HB.out HB.out.size hb)) | (have HL_ := Aside0.mk ((HL.out.alloc1 _).below hb); have HB_ := Aside0.mk (below_then (below_alloc HB.out _) (below_alloc HB.out _).size hb)) | (have HL_ := Aside0.mk ((HL.out.alloc3 _ _ _).below hb); have HB_ := Aside0.mk (below_then (below_alloc (below_alloc (below_alloc HB.out _) _) _) (below_alloc (below_alloc (below_alloc HB.out _) _) _).size hb))); clear HL HB hb; have HL := HL_; have HB := HB_; clear HL_ HB_) | (go_at_call 44; (with_reducible refine (word_any 71 1 1000 (by kernel_rfl) _).mono ?_); rintro e_ w_ ⟨rfl, hb⟩; (first | (have HL_ := Aside0.mk (HL.out.below hb); have HB_ := Aside0.mk (below_then HB.out HB.out.size hb)) | (have HL_ := Aside0.mk ((HL.out.alloc1 _).below hb); have HB_ := Aside0.mk (below_then (below_alloc HB.out _) (below_alloc HB.out _).size hb)) | (have HL_ := Aside0.mk ((HL.out.alloc3 _ _ _).below hb); have HB_ := Aside0.mk (below_then (below_alloc (below_alloc (below_alloc HB.out _) _) _) (below_alloc (below_alloc (below_alloc HB.out _) _) _).size hb))); clear HL HB hb; have HL := HL_; have HB := HB_; clear HL_ HB_) | (go_at_call 44; (with_reducible refine (word_any 88 2 2000 (by kernel_rfl) _).mono ?_); rintro e_ w_ ⟨rfl, hb⟩; (first | (have HL_ := Aside0.mk (HL.out.below hb); have HB_ := Aside0.mk (below_then HB.out HB.out.size hb)) | (have HL_ := Aside0.mk ((HL.out.alloc1 _).below hb); have HB_ := Aside0.mk (below_then (below_alloc HB.out _) (below_alloc HB.out _).size hb)) | (have HL_ := Aside0.mk ((HL.out.alloc3 _ _ _).below hb); have HB_ := Aside0.mk (below_then (below_alloc (below_alloc (below_alloc HB.out _) _) _) (below_alloc (below_alloc (below_alloc HB.out _) _) _).size hb))); clear HL HB hb; have HL := HL_; have HB := HB_; clear HL_ HB_) | (go_at_call 44; (with_reducible refine (word_any 77 30 30000 (by kernel_rfl) _).mono ?_); rintro e_ w_ ⟨rfl, hb⟩; (first | (have HL_ := Aside0.mk (HL.out.below hb); have HB_ := Aside0.mk (below_then HB.out HB.out.size hb)) | (have HL_ := Aside0.mk ((HL.out.alloc1 _).below hb); have HB_ := Aside0.mk (below_then (below_alloc HB.out _) (below_alloc HB.out _).size hb)) | (have HL_ := Aside0.mk ((HL.out.alloc3 _ _ _).below hb); have HB_ := Aside0.mk (below_then (below_alloc (below_alloc (below_alloc HB.out _) _) _) (below_alloc (below_alloc (below_alloc HB.out _) _) _).size hb))); clear HL HB hb; have HL := HL_; have HB := HB_; clear HL_ HB_) | (go_at_call 44; (with_reducible refine (word_any 77 98 98000 (by kernel_rfl) _).mono ?_); rintro e_ w_ ⟨rfl, hb⟩; (first | (have HL_ := Aside0.mk (HL.out.below hb); have HB_ := Aside0.mk (below_then HB.out HB.out.size hb)) | (have HL_ := Aside0.mk ((HL.out.alloc1 _).below hb); have HB_ := Aside0.mk (below_then (below_alloc HB.out _) (below_alloc HB.out _).size hb)) | (have HL_ := Aside0.mk ((HL.out.alloc3 _ _ _).below hb); have HB_ := Aside0.mk (below_then (below_alloc (below_alloc (below_alloc HB.out _) _) _) (below_alloc (below_alloc (below_alloc HB.out _) _) _).size hb))); clear HL HB hb; have HL := HL_; have HB := HB_; clear HL_ HB_) | (go_at_call 44; (with_reducible refine (word_any 80 5 5000 (by kernel_rfl) _).mono ?_); rintro e_ w_ ⟨rfl, hb⟩; (first | (have HL_ := Aside0.mk (HL.out.below hb); have HB_ := Aside0.mk (below_then HB.out HB.out.size hb)) | (have HL_ := Aside0.mk ((HL.out.alloc1 _).below hb); have HB_ := Aside0.mk (below_then (below_alloc HB.out _) (below_alloc HB.out _).size hb)) | (have HL_ := Aside0.mk ((HL.out.alloc3 _ _ _).below hb); have HB_ := Aside0.mk (below_then (below_alloc (below_alloc (below_alloc HB.out _) _) _) (below_alloc (below_alloc (below_alloc HB.out _) _) _).size hb))); clear HL HB hb; have HL := HL_; have HB := HB_; clear HL_ HB_) | (go_at_call 44; (with_reducible refine (word_any 76 2 2000 (by kernel_rfl) _).mono ?_); rintro e_ w_ ⟨rfl, hb⟩; (first | (have HL_ := Aside0.mk (HL.out.below hb); have HB_ := Aside0.mk (below_then HB.out HB.out.size hb)) | (have HL_ := Aside0.mk ((HL.out.alloc1 _).below hb); have HB_ := Aside0.mk (below_then (below_alloc HB.out _) (below_alloc HB.out _).size hb)) | (have HL_ := Aside0.mk ((HL.out.alloc3 _ _ _).below hb); have HB_ := Aside0.mk (below_then (below_alloc (below_alloc (below_alloc HB.out _) _) _) (below_alloc (below_alloc (below_alloc HB.out _) _) _).size hb))); clear HL HB hb; have HL := HL_; have HB := HB_; clear HL_ HB_) | (go_at_call 44; (with_reducible refine (word_any 79 5 5000 (by kernel_rfl) _).mono ?_); rintro e_ w_ ⟨rfl, hb⟩; (first | (have HL_ := Aside0.mk (HL.out.below hb); have HB_ := Aside0.mk (below_then HB.out HB.out.size hb)) | (have HL_ := Aside0.mk ((HL.out.alloc1 _).below hb); have HB_ := Aside0.mk (below_then (below_alloc HB.out _) (below_alloc HB.out _).size hb)) | (have HL_ := Aside0.mk ((HL.out.alloc3 _ _ _).below hb); have HB_ := Aside0.mk (below_then (below_alloc (below_alloc (below_alloc HB.out _) _) _) (below_alloc (below_alloc (below_alloc HB.out _) _) _).size hb))); clear HL HB hb; have HL := HL_; have HB := HB_; clear HL_ HB_) | (go_at_call 44; (with_reducible refine (word_any 77 99 99000 (by kernel_rfl) _).mono ?_); rintro e_ w_ ⟨rfl, hb⟩; (first | (have HL_ := Aside0.mk (HL.out.below hb); have HB_ := Aside0.mk (below_then HB.out HB.out.size hb)) | (have HL_ := Aside0.mk ((HL.out.alloc1 _).below hb); have HB_ := Aside0.mk (below_then (below_alloc HB.out _) (below_alloc HB.out _).size hb)) | (have HL_ := Aside0.mk ((HL.out.alloc3 _ _ _).below hb); have HB_ := Aside0.mk (below_then (below_alloc (below_alloc (below_alloc HB.out _) _) _) (below_alloc (below_alloc (below_alloc HB.out _) _) _).size hb))); clear HL HB hb; have HL := HL_; have HB := HB_; clear HL_ HB_) | (go_at_call 44; (with_reducible refine (word_any 80 7 7000 (by kernel_rfl) _).mono ?_); rintro e_ w_ ⟨rfl, hb⟩; (first | (have HL_ := Aside0.mk (HL.out.below hb); have HB_ := Aside0.mk (below_then HB.out HB.out.size hb)) | (have HL_ := Aside0.mk ((HL.out.alloc1 _).below hb); have HB_ := Aside0.mk (below_then (below_alloc HB.out _) (below_alloc HB.out _).size hb)) | (have HL_ := Aside0.mk ((HL.out.alloc3 _ _ _).below hb); have HB_ := Aside0.mk (below_then (below_alloc (below_alloc (below_alloc HB.out _) _) _) (below_alloc (below_alloc (below_alloc HB.out _) _) _).size hb))); clear HL HB hb; have HL := HL_; have HB := HB_; clear HL_ HB_) | (go_at_call 43; (with_reducible refine (words_any _ _ _ _).mono ?_); rintro e_ w_ ⟨rfl, hb⟩; have HL_ := Aside0.mk (Blks.cons (HL.out.below (below_then (below_alloc (Below.refl _ _) _) (below_alloc (Below.refl _ _) _).size hb)) (blk_below (alloc_at _ _) hb)); have HB_ := Aside0.mk (below_then HB.out HB.out.size (below_then (below_alloc (Below.refl _ _) _) (below_alloc (Below.refl _ _) _).size hb)); clear HL HB hb; have HL := HL_; have HB := HB_; clear HL_ HB_))
  rename_i y10 y9 y8 y7 y6 y5 y4 y3 y2 y1 y0 K_ hK_
  have HL4 := Aside0.mk (HL.out.alloc1 (.cells #[.bool false, .slice (some ⟨y0.heap.size, 0, none⟩) 3 3, .string ⟨#[]⟩] 32 (0, 0)))
  have HB4 := Aside0.mk (below_alloc HB.out (.cells #[.bool false, .slice (some ⟨y0.heap.size, 0, none⟩) 3 3, .string ⟨#[]⟩] 32 (0, 0)))
  generalize w_.alloc (.cells #[.bool false, .slice (some ⟨y0.heap.size, 0, none⟩) 3 3, .string ⟨#[]⟩] 32 (0, 0)) = W4 at HL4 HB4 ⊢
  generalize y9.heap.size = a1 at HL4 ⊢
  generalize y6.heap.size = a2 at HL4 ⊢
  generalize y4.heap.size = a3 at HL4 ⊢
  generalize y0.heap.size = a4 at HL4 ⊢
  generalize y3.heap.size + 1 + 1 = b3 at HL4 ⊢
  generalize y3.heap.size + 1 = b2 at HL4 ⊢
  generalize y3.heap.size = b1 at HL4 ⊢
  generalize w_.heap.size = b4 at HL4 ⊢
  clear HL HB y10 y9 y8 y7 y6 y5 y4 y3 y2 y1 y0 w_
  have S_ : ∀ {W : World} {L : List (Nat × Obj)}, Blks W L → (∀ p ∈ [(b4, BX a4 3), (b3, BX a3 1), (b2, BX a2 2), (b1, BX a1 2)], p ∈ L) → Blks W [(b4, BX a4 3), (b3, BX a3 1), (b2, BX a2 2), (b1, BX a1 2)] := fun h hs p hp => h p (hs p hp)
  refine start_ (n := 12) (S := fun w' => Blks w' [(b4, BX a4 3), (b3, BX a3 1), (b2, BX a2 2), (b1, BX a1 2)]) (ds := []) #[false, false, false, false, false, false, false, false, false, false, false, false] (by kernel_rfl) rfl rfl (Blks.drew (S_ HL4.out (by simp [BX]))) (fun hHeld => ?_)
  have HL5 := Aside0.mk (show Blks W4.drew _ from HL4.out)
  have HB5 := Aside0.mk (below_drew1 HB4.out)
  clear HL4 HB4
  generalize W4.drew = W5 at HL5 HB5 hHeld ⊢
  refine take_ (i := 0) (N := some 31) (v := ?_) (a' := ?_) #[true, false, false, false, false, false, false, false, false, false, false, false] rfl rfl (by kernel_rfl) (fun _ _ _ h => h) (Or.inl ⟨by rfl, ?_⟩) hHeld ?_ ?_
  rotate_left
  · intro w' hS
    have hb_ := hS.at (g := b1) (o := BX a1 2) (by simp)
    have c0 : w'.cell? ⟨b1, 0, none⟩ = some (.bool false) := (blk_cell hb_ 0).trans rfl
    have c1 : w'.cell? ⟨b1, 1, none⟩ = some (.slice (some ⟨a1, 0, none⟩) 2 2) := (blk_cell hb_ 1).trans rfl
    have c2 : w'.cell? ⟨b1, 2, none⟩ = some (.string ⟨#[]⟩) := (blk_cell hb_ 2).trans rfl
    go_simp
    with_reducible rfl
  rotate_left
  · simp only [Act.put, List.setIfInBounds_toArray, List.set_cons_zero, List.set_cons_succ, i64_w, i32_w]
    rfl
  refine take_ (i := 1) (N := some 32) (v := ?_) (a' := ?_) #[true, true, false, false, false, false, false, false, false, false, false, false] rfl rfl (by kernel_rfl) (fun _ _ _ h => h) (Or.inl ⟨by rfl, ?_⟩) hHeld ?_ ?_
  rotate_left
  · intro w' hS
    have hb_ := hS.at (g := b4) (o := BX a4 3) (by simp)
    have c0 : w'.cell? ⟨b4, 0, none⟩ = some (.bool false) := (blk_cell hb_ 0).trans rfl
    have c1 : w'.cell? ⟨b4, 1, none⟩ = some (.slice (some ⟨a4, 0, none⟩) 3 3) := (blk_cell hb_ 1).trans rfl
    have c2 : w'.cell? ⟨b4, 2, none⟩ = some (.string ⟨#[]⟩) := (blk_cell hb_ 2).trans rfl
    go_simp
    with_reducible rfl
  rotate_left
  · simp only [Act.put, List.setIfInBounds_toArray, List.set_cons_zero, List.set_cons_succ, i64_w, i32_w]
    rfl
  refine take_ (i := 2) (N := some 33) (v := ?_) (a' := ?_) #[true, true, true, false, false, false, false, false, false, false, false, false] rfl rfl (by kernel_rfl) (fun _ _ _ h => h) (Or.inl ⟨by rfl, ?_⟩) hHeld ?_ ?_
  rotate_left
  · intro w' hS
    have hb_ := hS.at (g := b3) (o := BX a3 1) (by simp)
    have c0 : w'.cell? ⟨b3, 0, none⟩ = some (.bool false) := (blk_cell hb_ 0).trans rfl
    have c1 : w'.cell? ⟨b3, 1, none⟩ = some (.slice (some ⟨a3, 0, none⟩) 1 1) := (blk_cell hb_ 1).trans rfl
    have c2 : w'.cell? ⟨b3, 2, none⟩ = some (.string ⟨#[]⟩) := (blk_cell hb_ 2).trans rfl
    go_simp
    with_reducible rfl
  rotate_left
  · simp only [Act.put, List.setIfInBounds_toArray, List.set_cons_zero, List.set_cons_succ, i64_w, i32_w]
    rfl
  refine take_ (i := 6) (N := some 37) (v := ?_) (a' := ?_) #[true, true, true, false, false, false, true, false, false, false, false, false] rfl rfl (by kernel_rfl) (fun _ _ _ h => h) (Or.inl ⟨by rfl, ?_⟩) hHeld ?_ ?_
  rotate_left
  · intro w' hS
    have hb_ := hS.at (g := b2) (o := BX a2 2) (by simp)
    have c0 : w'.cell? ⟨b2, 0, none⟩ = some (.bool false) := (blk_cell hb_ 0).trans rfl
    have c1 : w'.cell? ⟨b2, 1, none⟩ = some (.slice (some ⟨a2, 0, none⟩) 2 2) := (blk_cell hb_ 1).trans rfl
    have c2 : w'.cell? ⟨b2, 2, none⟩ = some (.string ⟨#[]⟩) := (blk_cell hb_ 2).trans rfl
    go_simp
    with_reducible rfl
  rotate_left
  · simp only [Act.put, List.setIfInBounds_toArray, List.set_cons_zero, List.set_cons_succ, i64_w, i32_w]
    rfl
  refine one_ (i := 3) (N := some 34) #[true, true, true, true, false, false, true, false, false, false, false, false] rfl rfl (by kernel_rfl) (by decide) (fun K hK => ?_)
  refine goes_ Try.func44 (by kernel_rfl) rfl #[.int .u8 79, .int .i64 5] (by rfl) rfl rfl (by (try simp only [List.map_toArray, List.map_cons, List.map_nil]); first | done | rfl) ?_
  refine (word_any 79 5 5000 (by kernel_rfl) _).mono ?_
  rintro e_ W6 ⟨rfl, hb_⟩
  refine ⟨_, rfl, ?_⟩
  clear hHeld
  have HL6 := Aside0.mk (HL5.out.below hb_)
  have HB6 := Aside0.mk (below_then HB5.out HB5.out.size hb_)
  clear hb_ HL5 HB5
  refine hK.out _ _ (S_ HL6.out (by simp [BX])) (fun hHeld => ?_)
  clear hK K
  refine norm_ (a' := ?_) ?_ ?_
  rotate_left
  · show Act.put _ (some 34) _ = _
    simp only [Act.put, List.setIfInBounds_toArray, List.set_cons_zero, List.set_cons_succ, i64_w, i32_w]
    rfl
  refine one_ (i := 4) (N := some 35) #[true, true, true, true, true, false, true, false, false, false, false, false] rfl rfl (by kernel_rfl) (by decide) (fun K hK => ?_)
  refine lit_step (v := .slice (some ⟨W6.heap.size, 0, none⟩) 1 1) (w' := W6.alloc (.cells #[.int .u8 79, .int .i64 5000] 78 (0, 0))) (by rfl) rfl (by first | (go_simp; done) | (go_simp; rfl)) ?_
  clear hHeld
  have HL7 := Aside0.mk (HL6.out.alloc1 (.cells #[.int .u8 79, .int .i64 5000] 78 (0, 0)))
  have HB7 := Aside0.mk (below_alloc HB6.out (.cells #[.int .u8 79, .int .i64 5000] 78 (0, 0)))
  generalize W6.alloc (.cells #[.int .u8 79, .int .i64 5000] 78 (0, 0)) = W7 at HL7 HB7 ⊢
  generalize W6.heap.size = a5 at HL7 ⊢
  clear HL6 HB6 W6
  refine hK.out _ _ (S_ HL7.out (by simp [BX])) (fun hHeld => ?_)
  clear hK K
  refine norm_ (a' := ?_) ?_ ?_
  rotate_left
  · show Act.put _ (some 35) _ = _
    simp only [Act.put, List.setIfInBounds_toArray, List.set_cons_zero, List.set_cons_succ, i64_w, i32_w]
    rfl
  refine one_ (i := 5) (N := some 36) #[true, true, true, true, true, true, true, false, false, false, false, false] rfl rfl (by kernel_rfl) (by decide) (fun K hK => ?_)
  refine goes_ Try.func43 (by kernel_rfl) rfl #[.slice (some ⟨a5, 0, none⟩) 1 1] (by rfl) rfl rfl (by (try simp only [List.map_toArray, List.map_cons, List.map_nil]); first | done | rfl) ?_
  refine (words_any _ _ _ _).mono ?_
  rintro e_ W8 ⟨rfl, hb_⟩
  refine ⟨_, rfl, ?_⟩
  clear hHeld
  have HL8 := Aside0.mk (HL7.out.below hb_)
  have HB8 := Aside0.mk (below_then HB7.out HB7.out.size hb_)
  clear hb_ HL7 HB7
  refine hK.out _ _ (S_ HL8.out (by simp [BX])) (fun hHeld => ?_)
  clear hK K
  refine norm_ (a' := ?_) ?_ ?_
  rotate_left
  · show Act.put _ (some 36) _ = _
    simp only [Act.put, List.setIfInBounds_toArray, List.set_cons_zero, List.set_cons_succ, i64_w, i32_w]
    rfl
  refine one_ (i := 7) (N := some 38) #[true, true, true, true, true, true, true, true, false, false, false, false] rfl rfl (by kernel_rfl) (by decide) (fun K hK => ?_)
  refine goes_ Try.func44 (by kernel_rfl) rfl #[.int .u8 77, .int .i64 99] (by rfl) rfl rfl (by (try simp only [List.map_toArray, List.map_cons, List.map_nil]); first | done | rfl) ?_
  refine (word_any 77 99 99000 (by kernel_rfl) _).mono ?_
  rintro e_ W9 ⟨rfl, hb_⟩
  refine ⟨_, rfl, ?_⟩
  clear hHeld
  have HL9 := Aside0.mk (HL8.out.below hb_)
  have HB9 := Aside0.mk (below_then HB8.out HB8.out.size hb_)
  clear hb_ HL8 HB8
  refine hK.out _ _ (S_ HL9.out (by simp [BX])) (fun hHeld => ?_)
  clear hK K
  refine norm_ (a' := ?_) ?_ ?_
  rotate_left
  · show Act.put _ (some 38) _ = _
    simp only [Act.put, List.setIfInBounds_toArray, List.set_cons_zero, List.set_cons_succ, i64_w, i32_w]
    rfl
  refine one_ (i := 8) (N := some 39) #[true, true, true, true, true, true, true, true, true, false, false, false] rfl rfl (by kernel_rfl) (by decide) (fun K hK => ?_)
  refine lit_step (v := .slice (some ⟨W9.heap.size, 0, none⟩) 1 1) (w' := W9.alloc (.cells #[.int .u8 77, .int .i64 99000] 78 (0, 0))) (by rfl) rfl (by first | (go_simp; done) | (go_simp; rfl)) ?_
  clear hHeld
  have HL10 := Aside0.mk (HL9.out.alloc1 (.cells #[.int .u8 77, .int .i64 99000] 78 (0, 0)))
  have HB10 := Aside0.mk (below_alloc HB9.out (.cells #[.int .u8 77, .int .i64 99000] 78 (0, 0)))
  generalize W9.alloc (.cells #[.int .u8 77, .int .i64 99000] 78 (0, 0)) = W10 at HL10 HB10 ⊢
  generalize W9.heap.size = a6 at HL10 ⊢
  clear HL9 HB9 W9
  refine hK.out _ _ (S_ HL10.out (by simp [BX])) (fun hHeld => ?_)
  clear hK K
  refine norm_ (a' := ?_) ?_ ?_
  rotate_left
  · show Act.put _ (some 39) _ = _
    simp only [Act.put, List.setIfInBounds_toArray, List.set_cons_zero, List.set_cons_succ, i64_w, i32_w]
    rfl
  refine one_ (i := 9) (N := some 40) #[true, true, true, true, true, true, true, true, true, true, false, false] rfl rfl (by kernel_rfl) (by decide) (fun K hK => ?_)
  refine goes_ Try.func43 (by kernel_rfl) rfl #[.slice (some ⟨a6, 0, none⟩) 1 1] (by rfl) rfl rfl (by (try simp only [List.map_toArray, List.map_cons, List.map_nil]); first | done | rfl) ?_
  refine (words_any _ _ _ _).mono ?_
  rintro e_ W11 ⟨rfl, hb_⟩
  refine ⟨_, rfl, ?_⟩
  clear hHeld
  have HL11 := Aside0.mk (HL10.out.below hb_)
  have HB11 := Aside0.mk (below_then HB10.out HB10.out.size hb_)
  clear hb_ HL10 HB10
  refine hK.out _ _ (S_ HL11.out (by simp [BX])) (fun hHeld => ?_)
  clear hK K
  refine norm_ (a' := ?_) ?_ ?_
  rotate_left
  · show Act.put _ (some 40) _ = _
    simp only [Act.put, List.setIfInBounds_toArray, List.set_cons_zero, List.set_cons_succ, i64_w, i32_w]
    rfl
  refine one_ (i := 10) (N := some 41) #[true, true, true, true, true, true, true, true, true, true, true, false] rfl rfl (by kernel_rfl) (by decide) (fun K hK => ?_)
  refine lit_step (v := .slice (some ⟨W11.heap.size, 0, none⟩) 6 6) (w' := W11.alloc (.cells #[.bool false, .slice (some ⟨a1, 0, none⟩) 2 2, .string ⟨#[]⟩, .bool false, .slice (some ⟨a4, 0, none⟩) 3 3, .string ⟨#[]⟩, .bool false, .slice (some ⟨a3, 0, none⟩) 1 1, .string ⟨#[]⟩, .bool false, .slice (some ⟨a5, 0, none⟩) 1 1, .string ⟨#[]⟩, .bool false, .slice (some ⟨a2, 0, none⟩) 2 2, .string ⟨#[]⟩, .bool false, .slice (some ⟨a6, 0, none⟩) 1 1, .string ⟨#[]⟩] 32 (0, 0))) (by rfl) rfl (by first | (go_simp; done) | (go_simp; rfl)) ?_
  clear hHeld
  have HL12 := Aside0.mk (HL11.out.alloc1 (.cells #[.bool false, .slice (some ⟨a1, 0, none⟩) 2 2, .string ⟨#[]⟩, .bool false, .slice (some ⟨a4, 0, none⟩) 3 3, .string ⟨#[]⟩, .bool false, .slice (some ⟨a3, 0, none⟩) 1 1, .string ⟨#[]⟩, .bool false, .slice (some ⟨a5, 0, none⟩) 1 1, .string ⟨#[]⟩, .bool false, .slice (some ⟨a2, 0, none⟩) 2 2, .string ⟨#[]⟩, .bool false, .slice (some ⟨a6, 0, none⟩) 1 1, .string ⟨#[]⟩] 32 (0, 0)))
  have HB12 := Aside0.mk (below_alloc HB11.out (.cells #[.bool false, .slice (some ⟨a1, 0, none⟩) 2 2, .string ⟨#[]⟩, .bool false, .slice (some ⟨a4, 0, none⟩) 3 3, .string ⟨#[]⟩, .bool false, .slice (some ⟨a3, 0, none⟩) 1 1, .string ⟨#[]⟩, .bool false, .slice (some ⟨a5, 0, none⟩) 1 1, .string ⟨#[]⟩, .bool false, .slice (some ⟨a2, 0, none⟩) 2 2, .string ⟨#[]⟩, .bool false, .slice (some ⟨a6, 0, none⟩) 1 1, .string ⟨#[]⟩] 32 (0, 0)))
  generalize W11.alloc (.cells #[.bool false, .slice (some ⟨a1, 0, none⟩) 2 2, .string ⟨#[]⟩, .bool false, .slice (some ⟨a4, 0, none⟩) 3 3, .string ⟨#[]⟩, .bool false, .slice (some ⟨a3, 0, none⟩) 1 1, .string ⟨#[]⟩, .bool false, .slice (some ⟨a5, 0, none⟩) 1 1, .string ⟨#[]⟩, .bool false, .slice (some ⟨a2, 0, none⟩) 2 2, .string ⟨#[]⟩, .bool false, .slice (some ⟨a6, 0, none⟩) 1 1, .string ⟨#[]⟩] 32 (0, 0)) = W12 at HL12 HB12 ⊢
  generalize W11.heap.size = al at HL12 ⊢
  clear HL11 HB11 W11
  refine hK.out _ _ (S_ HL12.out (by simp [BX])) (fun hHeld => ?_)
  clear hK K
  refine norm_ (a' := ?_) ?_ ?_
  rotate_left
  · show Act.put _ (some 41) _ = _
    simp only [Act.put, List.setIfInBounds_toArray, List.set_cons_zero, List.set_cons_succ, i64_w, i32_w]
    rfl
  refine yp 11 5 ?_
  refine done_ (by kernel_rfl) ?_
  clear hHeld
  have Kal := Aside0.mk HL12.out.hd
  have Ka6 := Aside0.mk HL12.out.tl.hd
  have Ka5 := Aside0.mk HL12.out.tl.tl.hd
  have Kb4 := Aside0.mk HL12.out.tl.tl.tl.hd
  have Ka4 := Aside0.mk HL12.out.tl.tl.tl.tl.hd
  have Kb3 := Aside0.mk HL12.out.tl.tl.tl.tl.tl.hd
  have Kb2 := Aside0.mk HL12.out.tl.tl.tl.tl.tl.tl.hd
  have Kb1 := Aside0.mk HL12.out.tl.tl.tl.tl.tl.tl.tl.hd
  have Ka3 := Aside0.mk HL12.out.tl.tl.tl.tl.tl.tl.tl.tl.hd
  have Ka2 := Aside0.mk HL12.out.tl.tl.tl.tl.tl.tl.tl.tl.tl.hd
  have Ka1 := Aside0.mk HL12.out.tl.tl.tl.tl.tl.tl.tl.tl.tl.tl.hd
  have Ca1 := Aside0.mk (show 2 ≤ 2 ∧ Kd.C k78 W12 (some ⟨a1, 0, none⟩) 2 (rapid_).f1 from ⟨Nat.le_refl _, C_words [aw 71 0, aw 88 1000] Ka1.out (by decide)⟩)
  have Ca2 := Aside0.mk (show 2 ≤ 2 ∧ Kd.C k78 W12 (some ⟨a2, 0, none⟩) 2 (feed_).f1 from ⟨Nat.le_refl _, C_words [aw 71 1000, aw 88 2000] Ka2.out (by decide)⟩)
  have Ca3 := Aside0.mk (show 1 ≤ 1 ∧ Kd.C k78 W12 (some ⟨a3, 0, none⟩) 1 (end_).f1 from ⟨Nat.le_refl _, C_words [aw 77 30000] Ka3.out (by decide)⟩)
  have Ca4 := Aside0.mk (show 3 ≤ 3 ∧ Kd.C k78 W12 (some ⟨a4, 0, none⟩) 3 (call_).f1 from ⟨Nat.le_refl _, C_words [aw 77 98000, aw 80 5000, aw 76 2000] Ka4.out (by decide)⟩)
  have Ca5 := Aside0.mk (show 1 ≤ 1 ∧ Kd.C k78 W12 (some ⟨a5, 0, none⟩) 1 (o5_).f1 from ⟨Nat.le_refl _, C_words [aw 79 5000] Ka5.out (by decide)⟩)
  have Ca6 := Aside0.mk (show 1 ≤ 1 ∧ Kd.C k78 W12 (some ⟨a6, 0, none⟩) 1 (ret_).f1 from ⟨Nat.le_refl _, C_words [aw 77 99000] Ka6.out (by decide)⟩)
  have HVl := Aside0.mk (show Kd.V k32 32 W12 W12.heap.size (fun k_ => k_ < W12.heap.size) (.slice (some ⟨al, 0, none⟩) 6 6) [rapid_, call_, end_, o5_, feed_, ret_] from Kd.V_mk (Nat.le_refl 6) (Kd.C_F k32_heap (C_blocks [(rapid_, some ⟨a1, 0, none⟩, 2), (call_, some ⟨a4, 0, none⟩, 3), (end_, some ⟨a3, 0, none⟩, 1), (o5_, some ⟨a5, 0, none⟩, 1), (feed_, some ⟨a2, 0, none⟩, 2), (ret_, some ⟨a6, 0, none⟩, 1)] Kal.out (by simp) (fun x hx => by simp only [List.mem_cons, List.not_mem_nil, or_false] at hx; rcases hx with rfl | rfl | rfl | rfl | rfl | rfl; exact ⟨Ca1.out.1, Kd.C_below Ca1.out.2 (Below.refl _ _)⟩; exact ⟨Ca4.out.1, Kd.C_below Ca4.out.2 (Below.refl _ _)⟩; exact ⟨Ca3.out.1, Kd.C_below Ca3.out.2 (Below.refl _ _)⟩; exact ⟨Ca5.out.1, Kd.C_below Ca5.out.2 (Below.refl _ _)⟩; exact ⟨Ca2.out.1, Kd.C_below Ca2.out.2 (Below.refl _ _)⟩; exact ⟨Ca6.out.1, Kd.C_below Ca6.out.2 (Below.refl _ _)⟩))))
  have SPL := Aside0.mk (show Calls Try.prog 45 #[.slice (some ⟨al, 0, none⟩) 6 6] W12 _ from subprogram_Split.calls 60 (fun k_ => k_ < W12.heap.size) (some ⟨al, 0, none⟩) 6 [rapid_, call_, end_, o5_, feed_, ret_] [rapid_, call_, end_] [⟨5, [feed_]⟩] 0 W12 HVl.out split_ex)
  have HB12' := Aside0.mk (Below.refl W12.heap.size W12)
  go_wp2_with (first | (go_at_call 45; refine SPL.out.mono ?_; rintro e_ w13 ⟨v0, v1, rfl, hn0, hn1, hb⟩; obtain ⟨A0, c0, rfl⟩ := Kd.N_slice hn0; obtain ⟨g8, c8, e8, ge8, lt8, cells8, hg8⟩ := Kd.N_form hn1 (by decide); obtain rfl := e8; have HN0 := Aside0.mk hn0; have HN1 := Aside0.mk hn1; have GE8 := Aside0.mk ge8; have C8LE := Aside0.mk (Kd.N_reads' hn1).2.1; have BK8 := Aside0.mk hg8; have HB13 := Aside0.mk hb; clear hn0 hn1 ge8 lt8 hg8 hb) | (go_at_call 28; refine (show Calls Try.prog 28 #[.agg #[.slice A0 3 c0, .slice (some ⟨g8, 0, none⟩) 1 c8]] _ _ from subprogram_Expand.calls 60 A0 c0 [rapid_, call_, end_] (some ⟨g8, 0, none⟩) c8 [⟨5, [feed_]⟩] [rapid_, feed_, feed_, end_] 0 _ (Kd.C_alloc (Kd.N_reads' HN0.out).2.2 _) (Kd.N_reads' HN0.out).2.1 (Kd.C_alloc (Kd.N_reads' HN1.out).2.2 _) (Kd.N_reads' HN1.out).2.1 expand_ex).mono ?_; rintro e_ w14 ⟨v2, rfl, hs2, hb⟩; obtain ⟨A2, c2, rfl⟩ := Kd.R_slice (Kd.S_R hs2); have HS2 := Aside0.mk (Kd.R_reads' (Kd.S_R hs2)); have BK6 := Aside0.mk (blk_below (alloc_at w13 _) hb); have HB6 := Aside0.mk (below_then (below_alloc (Below.refl _ _) _) (below_alloc (Below.refl _ _) _).size hb); have HB14 := Aside0.mk (below_then HB13.out HB13.out.size HB6.out); have HN0' := Aside0.mk (Kd.N_below HN0.out HB6.out); have HN1' := Aside0.mk (Kd.N_below HN1.out HB6.out); have BK8' := Aside0.mk (blk_below BK8.out HB6.out); clear hs2 hb HN0 HN1 BK8 HB6; have xb10 : w14.cell? ⟨b1, 0, none⟩ = some (.bool false) := (blk_cell (blk_below Kb1.out HB14.out) 0).trans rfl; have xb11 : w14.cell? ⟨b1, 1, none⟩ = some (.slice (some ⟨a1, 0, none⟩) 2 2) := (blk_cell (blk_below Kb1.out HB14.out) 1).trans rfl; have xb12 : w14.cell? ⟨b1, 2, none⟩ = some (.string ⟨#[]⟩) := (blk_cell (blk_below Kb1.out HB14.out) 2).trans rfl; have xb20 : w14.cell? ⟨b2, 0, none⟩ = some (.bool false) := (blk_cell (blk_below Kb2.out HB14.out) 0).trans rfl; have xb21 : w14.cell? ⟨b2, 1, none⟩ = some (.slice (some ⟨a2, 0, none⟩) 2 2) := (blk_cell (blk_below Kb2.out HB14.out) 1).trans rfl; have xb22 : w14.cell? ⟨b2, 2, none⟩ = some (.string ⟨#[]⟩) := (blk_cell (blk_below Kb2.out HB14.out) 2).trans rfl; have xb30 : w14.cell? ⟨b3, 0, none⟩ = some (.bool false) := (blk_cell (blk_below Kb3.out HB14.out) 0).trans rfl; have xb31 : w14.cell? ⟨b3, 1, none⟩ = some (.slice (some ⟨a3, 0, none⟩) 1 1) := (blk_cell (blk_below Kb3.out HB14.out) 1).trans rfl; have xb32 : w14.cell? ⟨b3, 2, none⟩ = some (.string ⟨#[]⟩) := (blk_cell (blk_below Kb3.out HB14.out) 2).trans rfl; have hz6_0 : w14.cell? ⟨w13.heap.size, 0, none⟩ = some (.slice A0 3 c0) := (blk_cell BK6.out 0).trans rfl; have hz6_1 : w14.cell? ⟨w13.heap.size, 1, none⟩ = some (.slice (some ⟨g8, 0, none⟩) 1 c8) := (blk_cell BK6.out 1).trans rfl; have SAMEC := Aside0.mk (show Calls Try.prog 19 #[.slice A2 4 c2, .slice (some ⟨w14.heap.size, 0, none⟩) 4 4] (w14.alloc (.cells #[.bool false, .slice (some ⟨a1, 0, none⟩) 2 2, .string ⟨#[]⟩, .bool false, .slice (some ⟨a2, 0, none⟩) 2 2, .string ⟨#[]⟩, .bool false, .slice (some ⟨a2, 0, none⟩) 2 2, .string ⟨#[]⟩, .bool false, .slice (some ⟨a3, 0, none⟩) 1 1, .string ⟨#[]⟩] 32 (0, 0))) _ from swarfref41_Same.calls 60 A2 c2 [rapid_, feed_, feed_, end_] (some ⟨w14.heap.size, 0, none⟩) 4 [rapid_, feed_, feed_, end_] true _ (Kd.C_alloc HS2.out.2.2 _) HS2.out.2.1 (C_blocks [(rapid_, some ⟨a1, 0, none⟩, 2), (feed_, some ⟨a2, 0, none⟩, 2), (feed_, some ⟨a2, 0, none⟩, 2), (end_, some ⟨a3, 0, none⟩, 1)] (show (w14.alloc (.cells #[.bool false, .slice (some ⟨a1, 0, none⟩) 2 2, .string ⟨#[]⟩, .bool false, .slice (some ⟨a2, 0, none⟩) 2 2, .string ⟨#[]⟩, .bool false, .slice (some ⟨a2, 0, none⟩) 2 2, .string ⟨#[]⟩, .bool false, .slice (some ⟨a3, 0, none⟩) 1 1, .string ⟨#[]⟩] 32 (0, 0))).heap[w14.heap.size]? = some (.cells (encB [(rapid_, some ⟨a1, 0, none⟩, 2), (feed_, some ⟨a2, 0, none⟩, 2), (feed_, some ⟨a2, 0, none⟩, 2), (end_, some ⟨a3, 0, none⟩, 1)]).toArray 32 (0, 0)) from alloc_at w14 _) (by simp) (fun x hx => by simp only [List.mem_cons, List.not_mem_nil, or_false] at hx; rcases hx with rfl | rfl | rfl | rfl; exact ⟨Ca1.out.1, Kd.C_below Ca1.out.2 (below_alloc HB14.out _)⟩; exact ⟨Ca2.out.1, Kd.C_below Ca2.out.2 (below_alloc HB14.out _)⟩; exact ⟨Ca2.out.1, Kd.C_below Ca2.out.2 (below_alloc HB14.out _)⟩; exact ⟨Ca3.out.1, Kd.C_below Ca3.out.2 (below_alloc HB14.out _)⟩)) (Nat.le_refl 4) same_ex)) | (go_at_call 19; refine SAMEC.out.mono ?_; rintro e_ w15 ⟨rfl, hb⟩; have HB7 := Aside0.mk (below_then (below_alloc (Below.refl _ _) _) (below_alloc (Below.refl _ _) _).size hb); have HB15 := Aside0.mk (below_then HB14.out HB14.out.size HB7.out); have BK6' := Aside0.mk (blk_below BK6.out HB7.out); have HN0'' := Aside0.mk (Kd.N_below HN0'.out HB7.out); have HN1'' := Aside0.mk (Kd.N_below HN1'.out HB7.out); have BK8'' := Aside0.mk (blk_below BK8'.out HB7.out); clear hb BK6 HN0' HN1' BK8' HB7 SAMEC))
  generalize w13.heap.size = b6 at BK6' ⊢
  clear HL12 HB12' SPL HVl HS2
  refine start_ (n := 10) (S := fun w' => w'.cell? ⟨b6, 1, none⟩ = some (.slice (some ⟨g8, 0, none⟩) 1 c8)) (ds := []) #[false, false, false, false, false, false, false, false, false, false] (by kernel_rfl) rfl rfl ((blk_cell (show w15.drew.heap[b6]? = _ from BK6'.out) 1).trans rfl) (fun hHeld => ?_)
  have hb_ := below_drew1 (Below.refl w15.heap.size w15)
  have HB_16 := Aside0.mk (below_then HB15.out HB15.out.size hb_)
  have BKP_16 := Aside0.mk (blk_below BK6'.out hb_)
  have HN0_16 := Aside0.mk (Kd.N_below HN0''.out hb_)
  have HN1_16 := Aside0.mk (Kd.N_below HN1''.out hb_)
  have BK8_16 := Aside0.mk (blk_below BK8''.out hb_)
  clear HB15 BK6' HN0'' HN1'' BK8''
  clear hb_
  generalize w15.drew = W16 at * 
  refine yp 0 74 ?_
  refine take_ (i := 1) (N := some 75) (v := ?_) (a' := ?_) #[true, true, false, false, false, false, false, false, false, false] rfl rfl (by kernel_rfl) (fun _ _ _ h => h) (Or.inl ⟨by rfl, ?_⟩) hHeld ?_ ?_
  rotate_left
  · intro w' hS
    go_simp
    with_reducible rfl
  rotate_left
  · simp only [Act.put, List.setIfInBounds_toArray, List.set_cons_zero, List.set_cons_succ, i64_w, i32_w]
    rfl
  refine one_ (i := 2) (N := some 76) #[true, true, true, false, false, false, false, false, false, false] rfl rfl (by kernel_rfl) (by decide) (fun K hK => ?_)
  refine goes_ Try.func44 (by kernel_rfl) rfl #[.int .u8 77, .int .i64 98] (by rfl) rfl rfl (by (try simp only [List.map_toArray, List.map_cons, List.map_nil]); first | done | rfl) ?_
  refine (word_any 77 98 98000 (by kernel_rfl) _).mono ?_
  rintro e_ W17 ⟨rfl, hb_⟩
  refine ⟨_, rfl, ?_⟩
  clear hHeld
  have HB_17 := Aside0.mk (below_then HB_16.out HB_16.out.size hb_)
  have BKP_17 := Aside0.mk (blk_below BKP_16.out hb_)
  have HN0_17 := Aside0.mk (Kd.N_below HN0_16.out hb_)
  have HN1_17 := Aside0.mk (Kd.N_below HN1_16.out hb_)
  have BK8_17 := Aside0.mk (blk_below BK8_16.out hb_)
  clear HB_16 BKP_16 HN0_16 HN1_16 BK8_16
  clear hb_
  refine hK.out _ _ ((blk_cell BKP_17.out 1).trans rfl) (fun hHeld => ?_)
  clear hK K
  refine norm_ (a' := ?_) ?_ ?_
  rotate_left
  · show Act.put _ (some 76) _ = _
    simp only [Act.put, List.setIfInBounds_toArray, List.set_cons_zero, List.set_cons_succ, i64_w, i32_w]
    rfl
  refine one_ (i := 3) (N := some 77) #[true, true, true, true, false, false, false, false, false, false] rfl rfl (by kernel_rfl) (by decide) (fun K hK => ?_)
  refine goes_ Try.func44 (by kernel_rfl) rfl #[.int .u8 80, .int .i64 5] (by rfl) rfl rfl (by (try simp only [List.map_toArray, List.map_cons, List.map_nil]); first | done | rfl) ?_
  refine (word_any 80 5 5000 (by kernel_rfl) _).mono ?_
  rintro e_ W18 ⟨rfl, hb_⟩
  refine ⟨_, rfl, ?_⟩
  clear hHeld
  have HB_18 := Aside0.mk (below_then HB_17.out HB_17.out.size hb_)
  have BKP_18 := Aside0.mk (blk_below BKP_17.out hb_)
  have HN0_18 := Aside0.mk (Kd.N_below HN0_17.out hb_)
  have HN1_18 := Aside0.mk (Kd.N_below HN1_17.out hb_)
  have BK8_18 := Aside0.mk (blk_below BK8_17.out hb_)
  clear HB_17 BKP_17 HN0_17 HN1_17 BK8_17
  clear hb_
  refine hK.out _ _ ((blk_cell BKP_18.out 1).trans rfl) (fun hHeld => ?_)
  clear hK K
  refine norm_ (a' := ?_) ?_ ?_
  rotate_left
  · show Act.put _ (some 77) _ = _
    simp only [Act.put, List.setIfInBounds_toArray, List.set_cons_zero, List.set_cons_succ, i64_w, i32_w]
    rfl
  refine one_ (i := 4) (N := some 78) #[true, true, true, true, true, false, false, false, false, false] rfl rfl (by kernel_rfl) (by decide) (fun K hK => ?_)
  refine lit_step (v := .slice (some ⟨W18.heap.size, 0, none⟩) 2 2) (w' := W18.alloc (.cells #[.int .u8 77, .int .i64 98000, .int .u8 80, .int .i64 5000] 78 (0, 0))) (by rfl) rfl (by first | (go_simp; done) | (go_simp; rfl)) ?_
  clear hHeld
  have hb_ := below_alloc (Below.refl W18.heap.size W18) (.cells #[.int .u8 77, .int .i64 98000, .int .u8 80, .int .i64 5000] 78 (0, 0))
  have Ka7_19 := Aside0.mk (alloc_at W18 (.cells #[.int .u8 77, .int .i64 98000, .int .u8 80, .int .i64 5000] 78 (0, 0)))
  have HB_19 := Aside0.mk (below_then HB_18.out HB_18.out.size hb_)
  have BKP_19 := Aside0.mk (blk_below BKP_18.out hb_)
  have HN0_19 := Aside0.mk (Kd.N_below HN0_18.out hb_)
  have HN1_19 := Aside0.mk (Kd.N_below HN1_18.out hb_)
  have BK8_19 := Aside0.mk (blk_below BK8_18.out hb_)
  clear HB_18 BKP_18 HN0_18 HN1_18 BK8_18
  clear hb_
  generalize W18.alloc (.cells #[.int .u8 77, .int .i64 98000, .int .u8 80, .int .i64 5000] 78 (0, 0)) = W19 at * 
  generalize W18.heap.size = a7 at * 
  refine hK.out _ _ ((blk_cell BKP_19.out 1).trans rfl) (fun hHeld => ?_)
  clear hK K
  refine norm_ (a' := ?_) ?_ ?_
  rotate_left
  · show Act.put _ (some 78) _ = _
    simp only [Act.put, List.setIfInBounds_toArray, List.set_cons_zero, List.set_cons_succ, i64_w, i32_w]
    rfl
  refine one_ (i := 5) (N := some 79) #[true, true, true, true, true, true, false, false, false, false] rfl rfl (by kernel_rfl) (by decide) (fun K hK => ?_)
  refine goes_ Try.func43 (by kernel_rfl) rfl #[.slice (some ⟨a7, 0, none⟩) 2 2] (by rfl) rfl rfl (by (try simp only [List.map_toArray, List.map_cons, List.map_nil]); first | done | rfl) ?_
  refine (words_any _ _ _ _).mono ?_
  rintro e_ W20 ⟨rfl, hb_⟩
  refine ⟨_, rfl, ?_⟩
  clear hHeld
  have HB_20 := Aside0.mk (below_then HB_19.out HB_19.out.size hb_)
  have BKP_20 := Aside0.mk (blk_below BKP_19.out hb_)
  have HN0_20 := Aside0.mk (Kd.N_below HN0_19.out hb_)
  have HN1_20 := Aside0.mk (Kd.N_below HN1_19.out hb_)
  have BK8_20 := Aside0.mk (blk_below BK8_19.out hb_)
  have Ka7_20 := Aside0.mk (blk_below Ka7_19.out hb_)
  clear HB_19 BKP_19 HN0_19 HN1_19 BK8_19 Ka7_19
  clear hb_
  refine hK.out _ _ ((blk_cell BKP_20.out 1).trans rfl) (fun hHeld => ?_)
  clear hK K
  refine norm_ (a' := ?_) ?_ ?_
  rotate_left
  · show Act.put _ (some 79) _ = _
    simp only [Act.put, List.setIfInBounds_toArray, List.set_cons_zero, List.set_cons_succ, i64_w, i32_w]
    rfl
  refine one_ (i := 6) (N := some 80) #[true, true, true, true, true, true, true, false, false, false] rfl rfl (by kernel_rfl) (by decide) (fun K hK => ?_)
  refine lit_step (v := .slice (some ⟨W20.heap.size, 0, none⟩) 1 1) (w' := W20.alloc (.cells #[.bool false, .slice (some ⟨a7, 0, none⟩) 2 2, .string ⟨#[]⟩] 32 (0, 0))) (by rfl) rfl (by first | (go_simp; done) | (go_simp; rfl)) ?_
  clear hHeld
  have hb_ := below_alloc (Below.refl W20.heap.size W20) (.cells #[.bool false, .slice (some ⟨a7, 0, none⟩) 2 2, .string ⟨#[]⟩] 32 (0, 0))
  have Ka8_21 := Aside0.mk (alloc_at W20 (.cells #[.bool false, .slice (some ⟨a7, 0, none⟩) 2 2, .string ⟨#[]⟩] 32 (0, 0)))
  have HB_21 := Aside0.mk (below_then HB_20.out HB_20.out.size hb_)
  have BKP_21 := Aside0.mk (blk_below BKP_20.out hb_)
  have HN0_21 := Aside0.mk (Kd.N_below HN0_20.out hb_)
  have HN1_21 := Aside0.mk (Kd.N_below HN1_20.out hb_)
  have BK8_21 := Aside0.mk (blk_below BK8_20.out hb_)
  have Ka7_21 := Aside0.mk (blk_below Ka7_20.out hb_)
  clear HB_20 BKP_20 HN0_20 HN1_20 BK8_20 Ka7_20
  clear hb_
  generalize W20.alloc (.cells #[.bool false, .slice (some ⟨a7, 0, none⟩) 2 2, .string ⟨#[]⟩] 32 (0, 0)) = W21 at * 
  generalize W20.heap.size = a8 at * 
  refine hK.out _ _ ((blk_cell BKP_21.out 1).trans rfl) (fun hHeld => ?_)
  clear hK K
  refine norm_ (a' := ?_) ?_ ?_
  rotate_left
  · show Act.put _ (some 80) _ = _
    simp only [Act.put, List.setIfInBounds_toArray, List.set_cons_zero, List.set_cons_succ, i64_w, i32_w]
    rfl
  refine yp 7 81 ?_
  refine yp 8 82 ?_
  obtain ⟨ad8, A8, c8', e8, hx8_, hy8_, hl8, hk8⟩ := at_T81 (Kd.N_reads' HN1_21.out).2.2 0 (by decide) (by decide)
  injection e8 with e8
  subst e8
  have hx8 : W21.cell? ⟨g8, 0, none⟩ = some (.int .i64 5) := hx8_
  have hy8 : W21.cell? ⟨g8, 1, none⟩ = some (.slice A8 1 c8') := hy8_
  clear hx8_ hy8_
  have hf8 := blk_frozen BK8_21.out 1
  refine one_ (i := 9) (N := none) #[true, true, true, true, true, true, true, true, true, true] rfl rfl (by kernel_rfl) (by decide) (fun K hK => ?_)
  refine store_step_ (w' := W21.setCell ⟨g8, 1, none⟩ (.slice (some ⟨a8, 0, none⟩) 1 1)) (by rfl) rfl (by first | (go_simp; done) | (go_simp; rfl)) ?_
  clear hHeld
  have HBs := Aside0.mk (show Below W12.heap.size W12 (W21.setCell ⟨g8, 1, none⟩ (.slice (some ⟨a8, 0, none⟩) 1 1)) from below_set HB_21.out GE8.out)
  have BKPs := Aside0.mk (blk_far (p := ⟨g8, 1, none⟩) BKP_21.out (fun e_ => by subst e_; have h_ := BKP_21.out.symm.trans BK8_21.out; injection h_ with h_; injection h_ with _ h2_ _; exact absurd h2_ (by decide)) (.slice (some ⟨a8, 0, none⟩) 1 1))
  have Ka7s := Aside0.mk (blk_far (p := ⟨g8, 1, none⟩) Ka7_21.out (fun e_ => by subst e_; have h_ := Ka7_21.out.symm.trans BK8_21.out; injection h_ with h_; injection h_ with _ h2_ _; exact absurd h2_ (by decide)) (.slice (some ⟨a8, 0, none⟩) 1 1))
  have Ka8s := Aside0.mk (blk_far (p := ⟨g8, 1, none⟩) Ka8_21.out (fun e_ => by subst e_; have h_ := Ka8_21.out.symm.trans BK8_21.out; injection h_ with h_; injection h_ with _ h2_ _; exact absurd h2_ (by decide)) (.slice (some ⟨a8, 0, none⟩) 1 1))
  have HN0s := Aside0.mk (Kd.N_far (p := ⟨g8, 1, none⟩) HN0_21.out (fun k_ hk_ e_ => hk_.2 (by rw [e_]; rfl)) (.slice (some ⟨a8, 0, none⟩) 1 1))
  have hs0 : (W21.setCell ⟨g8, 1, none⟩ (.slice (some ⟨a8, 0, none⟩) 1 1)).cell? ⟨g8, 0, none⟩ = some (.int .i64 5) := by
    have h1 := (blk_cell BK8_21.out 0).symm.trans hx8
    refine (blk_cell (blk_put BK8_21.out 1 _ rfl) 0).trans ?_
    simpa using h1
  have hs1 : (W21.setCell ⟨g8, 1, none⟩ (.slice (some ⟨a8, 0, none⟩) 1 1)).cell? ⟨g8, 1, none⟩ = some (.slice (some ⟨a8, 0, none⟩) 1 1) := by
    have h1 := (blk_cell BK8_21.out 1).symm.trans hy8
    refine (blk_cell (blk_put BK8_21.out 1 _ rfl) 1).trans ?_
    have h2 := (Array.getElem?_eq_some_iff.1 h1).1
    simp [h2]
  generalize W21.setCell ⟨g8, 1, none⟩ (.slice (some ⟨a8, 0, none⟩) 1 1) = W22 at *
  have CS := Aside0.mk (C_sub1 (l := [call5_]) hs0 hs1 (Nat.le_refl 1) (C_blocks [(call5_, some ⟨a7, 0, none⟩, 2)] Ka8s.out (by simp) (fun x hx => by simp only [List.mem_cons, List.not_mem_nil, or_false] at hx; rcases hx with rfl; exact ⟨Nat.le_refl 2, C_words [aw 77 98000, aw 80 5000] Ka7s.out (by decide)⟩)))
  clear hx8 hy8 hl8 hk8 hf8 hs0 hs1 HB_21 BKP_21 HN0_21 HN1_21 BK8_21 Ka7_21 Ka8_21
  refine hK.out _ _ ((blk_cell BKPs.out 1).trans rfl) (fun hHeld => ?_)
  clear hK K
  refine norm_ (a' := ?_) ?_ ?_
  rotate_left
  · show Act.put _ none _ = _
    rfl
  refine done_ (by kernel_rfl) ?_
  clear hHeld
  have hz6_0 : W22.cell? ⟨b6, 0, none⟩ = some (.slice A0 3 c0) := (blk_cell BKPs.out 0).trans rfl
  have hz6_1 : W22.cell? ⟨b6, 1, none⟩ = some (.slice (some ⟨g8, 0, none⟩) 1 c8) := (blk_cell BKPs.out 1).trans rfl
  go_wp2_with (fail)
  clear hz6_0 hz6_1
  refine (show Calls Try.prog 28 #[.agg #[.slice A0 3 c0, .slice (some ⟨g8, 0, none⟩) 1 c8]] W22 _ from subprogram_Expand.calls 60 A0 c0 [rapid_, call_, end_] (some ⟨g8, 0, none⟩) c8 [⟨5, [call5_]⟩] [] 12 W22 (Kd.N_reads' HN0s.out).2.2 (Kd.N_reads' HN0s.out).2.1 CS.out C8LE.out expand_ex2).mono ?_
  rintro e_ W23 ⟨v3, rfl, hs3, hb_⟩
  obtain ⟨A3, c3, rfl⟩ := Kd.R_slice (Kd.S_R hs3)
  have HB23 := Aside0.mk (below_then HBs.out HBs.out.size hb_)
  clear hs3 hb_ HN0s CS HBs BKPs Ka7s Ka8s
  have yb10 : W23.cell? ⟨b1, 0, none⟩ = some (.bool false) := (blk_cell (blk_below Kb1.out HB23.out) 0).trans rfl
  have yb11 : W23.cell? ⟨b1, 1, none⟩ = some (.slice (some ⟨a1, 0, none⟩) 2 2) := (blk_cell (blk_below Kb1.out HB23.out) 1).trans rfl
  have yb12 : W23.cell? ⟨b1, 2, none⟩ = some (.string ⟨#[]⟩) := (blk_cell (blk_below Kb1.out HB23.out) 2).trans rfl
  have yb20 : W23.cell? ⟨b2, 0, none⟩ = some (.bool false) := (blk_cell (blk_below Kb2.out HB23.out) 0).trans rfl
  have yb21 : W23.cell? ⟨b2, 1, none⟩ = some (.slice (some ⟨a2, 0, none⟩) 2 2) := (blk_cell (blk_below Kb2.out HB23.out) 1).trans rfl
  have yb22 : W23.cell? ⟨b2, 2, none⟩ = some (.string ⟨#[]⟩) := (blk_cell (blk_below Kb2.out HB23.out) 2).trans rfl
  have yb30 : W23.cell? ⟨b3, 0, none⟩ = some (.bool false) := (blk_cell (blk_below Kb3.out HB23.out) 0).trans rfl
  have yb31 : W23.cell? ⟨b3, 1, none⟩ = some (.slice (some ⟨a3, 0, none⟩) 1 1) := (blk_cell (blk_below Kb3.out HB23.out) 1).trans rfl
  have yb32 : W23.cell? ⟨b3, 2, none⟩ = some (.string ⟨#[]⟩) := (blk_cell (blk_below Kb3.out HB23.out) 2).trans rfl
  have yb40 : W23.cell? ⟨b4, 0, none⟩ = some (.bool false) := (blk_cell (blk_below Kb4.out HB23.out) 0).trans rfl
  have yb41 : W23.cell? ⟨b4, 1, none⟩ = some (.slice (some ⟨a4, 0, none⟩) 3 3) := (blk_cell (blk_below Kb4.out HB23.out) 1).trans rfl
  have yb42 : W23.cell? ⟨b4, 2, none⟩ = some (.string ⟨#[]⟩) := (blk_cell (blk_below Kb4.out HB23.out) 2).trans rfl
  go_wp2_with (fail)
  clear yb10 yb11 yb12 yb20 yb21 yb22 yb30 yb31 yb32 yb40 yb41 yb42
  refine (show Calls Try.prog 32 #[.slice (some ⟨W23.heap.size, 0, none⟩) 6 6, .int .i64 7, .int .i64 2] (W23.alloc (.cells #[.bool false, .slice (some ⟨a1, 0, none⟩) 2 2, .string ⟨#[]⟩, .bool false, .slice (some ⟨a2, 0, none⟩) 2 2, .string ⟨#[]⟩, .bool false, .slice (some ⟨a4, 0, none⟩) 3 3, .string ⟨#[]⟩, .bool false, .slice (some ⟨a1, 0, none⟩) 2 2, .string ⟨#[]⟩, .bool false, .slice (some ⟨a2, 0, none⟩) 2 2, .string ⟨#[]⟩, .bool false, .slice (some ⟨a3, 0, none⟩) 1 1, .string ⟨#[]⟩] 32 (0, 0))) _ from subprogram_Fold.calls 60 (fun k_ => k_ < (W23.alloc (.cells #[.bool false, .slice (some ⟨a1, 0, none⟩) 2 2, .string ⟨#[]⟩, .bool false, .slice (some ⟨a2, 0, none⟩) 2 2, .string ⟨#[]⟩, .bool false, .slice (some ⟨a4, 0, none⟩) 3 3, .string ⟨#[]⟩, .bool false, .slice (some ⟨a1, 0, none⟩) 2 2, .string ⟨#[]⟩, .bool false, .slice (some ⟨a2, 0, none⟩) 2 2, .string ⟨#[]⟩, .bool false, .slice (some ⟨a3, 0, none⟩) 1 1, .string ⟨#[]⟩] 32 (0, 0))).heap.size) (some ⟨W23.heap.size, 0, none⟩) 6 [rapid_, feed_, call_, rapid_, feed_, end_] 7 2 [again_, call_, again_, end_] [⟨7, [rapid_, feed_]⟩] 0 (W23.alloc (.cells #[.bool false, .slice (some ⟨a1, 0, none⟩) 2 2, .string ⟨#[]⟩, .bool false, .slice (some ⟨a2, 0, none⟩) 2 2, .string ⟨#[]⟩, .bool false, .slice (some ⟨a4, 0, none⟩) 3 3, .string ⟨#[]⟩, .bool false, .slice (some ⟨a1, 0, none⟩) 2 2, .string ⟨#[]⟩, .bool false, .slice (some ⟨a2, 0, none⟩) 2 2, .string ⟨#[]⟩, .bool false, .slice (some ⟨a3, 0, none⟩) 1 1, .string ⟨#[]⟩] 32 (0, 0))) (Kd.V_mk (Nat.le_refl 6) (Kd.C_F k32_heap (C_blocks [(rapid_, some ⟨a1, 0, none⟩, 2), (feed_, some ⟨a2, 0, none⟩, 2), (call_, some ⟨a4, 0, none⟩, 3), (rapid_, some ⟨a1, 0, none⟩, 2), (feed_, some ⟨a2, 0, none⟩, 2), (end_, some ⟨a3, 0, none⟩, 1)] (show (W23.alloc (.cells #[.bool false, .slice (some ⟨a1, 0, none⟩) 2 2, .string ⟨#[]⟩, .bool false, .slice (some ⟨a2, 0, none⟩) 2 2, .string ⟨#[]⟩, .bool false, .slice (some ⟨a4, 0, none⟩) 3 3, .string ⟨#[]⟩, .bool false, .slice (some ⟨a1, 0, none⟩) 2 2, .string ⟨#[]⟩, .bool false, .slice (some ⟨a2, 0, none⟩) 2 2, .string ⟨#[]⟩, .bool false, .slice (some ⟨a3, 0, none⟩) 1 1, .string ⟨#[]⟩] 32 (0, 0))).heap[W23.heap.size]? = some (.cells (encB [(rapid_, some ⟨a1, 0, none⟩, 2), (feed_, some ⟨a2, 0, none⟩, 2), (call_, some ⟨a4, 0, none⟩, 3), (rapid_, some ⟨a1, 0, none⟩, 2), (feed_, some ⟨a2, 0, none⟩, 2), (end_, some ⟨a3, 0, none⟩, 1)]).toArray 32 (0, 0)) from alloc_at W23 _) (by simp) (fun x hx => by simp only [List.mem_cons, List.not_mem_nil, or_false] at hx; rcases hx with rfl | rfl | rfl | rfl | rfl | rfl; exact ⟨Ca1.out.1, Kd.C_below Ca1.out.2 (below_alloc HB23.out _)⟩; exact ⟨Ca2.out.1, Kd.C_below Ca2.out.2 (below_alloc HB23.out _)⟩; exact ⟨Ca4.out.1, Kd.C_below Ca4.out.2 (below_alloc HB23.out _)⟩; exact ⟨Ca1.out.1, Kd.C_below Ca1.out.2 (below_alloc HB23.out _)⟩; exact ⟨Ca2.out.1, Kd.C_below Ca2.out.2 (below_alloc HB23.out _)⟩; exact ⟨Ca3.out.1, Kd.C_below Ca3.out.2 (below_alloc HB23.out _)⟩)))) fold_ex).mono ?_
  rintro e_ W24 ⟨v4, v5, rfl, hn4, hn5, hb_⟩
  obtain ⟨A4, c4, rfl⟩ := Kd.N_slice hn4
  obtain ⟨g5, c5, e5_, _, _, _, _⟩ := Kd.N_form hn5 (by decide)
  obtain rfl := e5_
  have HN4 := Aside0.mk hn4
  have HN5 := Aside0.mk hn5
  have HB24 := Aside0.mk (below_then (below_alloc HB23.out _) (below_alloc HB23.out _).size hb_)
  clear hn4 hn5 hb_ HB23
  go_wp2_with (fail)
  have HBx := HB24
  clear HB24
  refine (word_any 77 98 98000 (by kernel_rfl) _).mono ?_
  rintro e_ W25 ⟨rfl, hb_⟩
  have B12 := Aside0.mk (blk_below (alloc_at W24 _) hb_)
  have hb2_ := below_then (below_alloc (Below.refl W24.heap.size W24) _) (below_alloc (Below.refl W24.heap.size W24) _).size hb_
  have HBx' := Aside0.mk (below_then HBx.out HBx.out.size hb2_)
  have HN4' := Aside0.mk (Kd.N_below HN4.out hb2_)
  have HN5' := Aside0.mk (Kd.N_below HN5.out hb2_)
  clear HBx HN4 HN5
  have HBx := HBx'
  have HN4 := HN4'
  have HN5 := HN5'
  clear HBx' HN4' HN5'
  clear hb_ hb2_
  generalize W24.heap.size = b12 at *
  go_wp2_with (fail)
  refine (word_any 80 7 7000 (by kernel_rfl) _).mono ?_
  rintro e_ W26 ⟨rfl, hb_⟩
  have hb2_ := hb_
  have HBx' := Aside0.mk (below_then HBx.out HBx.out.size hb2_)
  have HN4' := Aside0.mk (Kd.N_below HN4.out hb2_)
  have HN5' := Aside0.mk (Kd.N_below HN5.out hb2_)
  have B12' := Aside0.mk (blk_below B12.out hb2_)
  clear HBx HN4 HN5 B12
  have HBx := HBx'
  have HN4 := HN4'
  have HN5 := HN5'
  have B12 := B12'
  clear HBx' HN4' HN5' B12'
  clear hb_ hb2_
  go_wp2_with (fail)
  refine (words_any _ _ _ _).mono ?_
  rintro e_ W27 ⟨rfl, hb_⟩
  have B9 := Aside0.mk (blk_below (alloc_at W26 _) hb_)
  have hb2_ := below_then (below_alloc (Below.refl W26.heap.size W26) _) (below_alloc (Below.refl W26.heap.size W26) _).size hb_
  have HBx' := Aside0.mk (below_then HBx.out HBx.out.size hb2_)
  have HN4' := Aside0.mk (Kd.N_below HN4.out hb2_)
  have HN5' := Aside0.mk (Kd.N_below HN5.out hb2_)
  have B12' := Aside0.mk (blk_below B12.out hb2_)
  clear HBx HN4 HN5 B12
  have HBx := HBx'
  have HN4 := HN4'
  have HN5 := HN5'
  have B12 := B12'
  clear HBx' HN4' HN5' B12'
  clear hb_ hb2_
  generalize W26.heap.size = a9 at *
  have hw0 : (W27.alloc (.cells #[.bool false, .slice (some ⟨a9, 0, none⟩) 2 2, .string ⟨#[]⟩] 32 (0, 0))).cell? ⟨b12, 0, none⟩ = some (.slice A4 4 c4) := (blk_cell (blk_alloc B12.out _) 0).trans rfl
  have hw1 : (W27.alloc (.cells #[.bool false, .slice (some ⟨a9, 0, none⟩) 2 2, .string ⟨#[]⟩] 32 (0, 0))).cell? ⟨b12, 1, none⟩ = some (.slice (some ⟨g5, 0, none⟩) 1 c5) := (blk_cell (blk_alloc B12.out _) 1).trans rfl
  obtain ⟨ad5, A9, c9, e5, hx5_, hy5_, hl5, hk5⟩ := at_T81 (Kd.C_alloc (Kd.N_reads' HN5.out).2.2 (.cells #[.bool false, .slice (some ⟨a9, 0, none⟩) 2 2, .string ⟨#[]⟩] 32 (0, 0))) 0 (by decide) (by decide)
  injection e5 with e5
  subst e5
  have hx5 : (W27.alloc (.cells #[.bool false, .slice (some ⟨a9, 0, none⟩) 2 2, .string ⟨#[]⟩] 32 (0, 0))).cell? ⟨g5, 0, none⟩ = some (.int .i64 7) := hx5_
  clear hx5_ hy5_ hl5 hk5
  have zb30 : (W27.alloc (.cells #[.bool false, .slice (some ⟨a9, 0, none⟩) 2 2, .string ⟨#[]⟩] 32 (0, 0))).cell? ⟨b3, 0, none⟩ = some (.bool false) := (blk_cell (blk_below Kb3.out (below_alloc HBx.out _)) 0).trans rfl
  have zb31 : (W27.alloc (.cells #[.bool false, .slice (some ⟨a9, 0, none⟩) 2 2, .string ⟨#[]⟩] 32 (0, 0))).cell? ⟨b3, 1, none⟩ = some (.slice (some ⟨a3, 0, none⟩) 1 1) := (blk_cell (blk_below Kb3.out (below_alloc HBx.out _)) 1).trans rfl
  have zb32 : (W27.alloc (.cells #[.bool false, .slice (some ⟨a9, 0, none⟩) 2 2, .string ⟨#[]⟩] 32 (0, 0))).cell? ⟨b3, 2, none⟩ = some (.string ⟨#[]⟩) := (blk_cell (blk_below Kb3.out (below_alloc HBx.out _)) 2).trans rfl
  have zb40 : (W27.alloc (.cells #[.bool false, .slice (some ⟨a9, 0, none⟩) 2 2, .string ⟨#[]⟩] 32 (0, 0))).cell? ⟨b4, 0, none⟩ = some (.bool false) := (blk_cell (blk_below Kb4.out (below_alloc HBx.out _)) 0).trans rfl
  have zb41 : (W27.alloc (.cells #[.bool false, .slice (some ⟨a9, 0, none⟩) 2 2, .string ⟨#[]⟩] 32 (0, 0))).cell? ⟨b4, 1, none⟩ = some (.slice (some ⟨a4, 0, none⟩) 3 3) := (blk_cell (blk_below Kb4.out (below_alloc HBx.out _)) 1).trans rfl
  have zb42 : (W27.alloc (.cells #[.bool false, .slice (some ⟨a9, 0, none⟩) 2 2, .string ⟨#[]⟩] 32 (0, 0))).cell? ⟨b4, 2, none⟩ = some (.string ⟨#[]⟩) := (blk_cell (blk_below Kb4.out (below_alloc HBx.out _)) 2).trans rfl
  go_wp2_with (fail)
  clear hw0 hw1 hx5 zb30 zb31 zb32 zb40 zb41 zb42
  have Ca9 := Aside0.mk (show 2 ≤ 2 ∧ Kd.C k78 W27 (some ⟨a9, 0, none⟩) 2 again_.f1 from ⟨Nat.le_refl _, C_words [aw 77 98000, aw 80 7000] B9.out (by decide)⟩)
  refine (show Calls Try.prog 19 #[.slice A4 4 c4, .slice (some ⟨W27.heap.size + 1, 0, none⟩) 4 4] ((W27.alloc (.cells #[.bool false, .slice (some ⟨a9, 0, none⟩) 2 2, .string ⟨#[]⟩] 32 (0, 0))).alloc (.cells #[.bool false, .slice (some ⟨a9, 0, none⟩) 2 2, .string ⟨#[]⟩, .bool false, .slice (some ⟨a4, 0, none⟩) 3 3, .string ⟨#[]⟩, .bool false, .slice (some ⟨a9, 0, none⟩) 2 2, .string ⟨#[]⟩, .bool false, .slice (some ⟨a3, 0, none⟩) 1 1, .string ⟨#[]⟩] 32 (0, 0))) _ from swarfref41_Same.calls 60 A4 c4 [again_, call_, again_, end_] (some ⟨W27.heap.size + 1, 0, none⟩) 4 [again_, call_, again_, end_] true _ (Kd.C_alloc (Kd.C_alloc (Kd.N_reads' HN4.out).2.2 _) _) (Kd.N_reads' HN4.out).2.1 (C_blocks [(again_, some ⟨a9, 0, none⟩, 2), (call_, some ⟨a4, 0, none⟩, 3), (again_, some ⟨a9, 0, none⟩, 2), (end_, some ⟨a3, 0, none⟩, 1)] (show ((W27.alloc (.cells #[.bool false, .slice (some ⟨a9, 0, none⟩) 2 2, .string ⟨#[]⟩] 32 (0, 0))).alloc (.cells #[.bool false, .slice (some ⟨a9, 0, none⟩) 2 2, .string ⟨#[]⟩, .bool false, .slice (some ⟨a4, 0, none⟩) 3 3, .string ⟨#[]⟩, .bool false, .slice (some ⟨a9, 0, none⟩) 2 2, .string ⟨#[]⟩, .bool false, .slice (some ⟨a3, 0, none⟩) 1 1, .string ⟨#[]⟩] 32 (0, 0))).heap[W27.heap.size + 1]? = some (.cells (encB [(again_, some ⟨a9, 0, none⟩, 2), (call_, some ⟨a4, 0, none⟩, 3), (again_, some ⟨a9, 0, none⟩, 2), (end_, some ⟨a3, 0, none⟩, 1)]).toArray 32 (0, 0)) from by rw [← size_alloc W27 (.cells #[.bool false, .slice (some ⟨a9, 0, none⟩) 2 2, .string ⟨#[]⟩] 32 (0, 0))]; exact alloc_at _ _) (by simp) (fun x hx => by simp only [List.mem_cons, List.not_mem_nil, or_false] at hx; rcases hx with rfl | rfl | rfl | rfl; exact ⟨Ca9.out.1, Kd.C_below Ca9.out.2 (below_alloc (below_alloc (Below.refl _ _) _) _)⟩; exact ⟨Ca4.out.1, Kd.C_below Ca4.out.2 (below_alloc (below_alloc HBx.out _) _)⟩; exact ⟨Ca9.out.1, Kd.C_below Ca9.out.2 (below_alloc (below_alloc (Below.refl _ _) _) _)⟩; exact ⟨Ca3.out.1, Kd.C_below Ca3.out.2 (below_alloc (below_alloc HBx.out _) _)⟩)) (Nat.le_refl 4) same_ex2).mono ?_
  rintro e_ W29 ⟨rfl, hb_⟩
  have hb2_ := below_then (below_alloc (below_alloc (Below.refl W27.heap.size W27) _) _) (below_alloc (below_alloc (Below.refl W27.heap.size W27) _) _).size hb_
  have HBy := Aside0.mk (below_then HBx.out HBx.out.size hb2_)
  have HN5' := Aside0.mk (Kd.N_below HN5.out hb2_)
  have B12' := Aside0.mk (blk_below B12.out hb2_)
  clear hb_ hb2_ HBx HN5 B12 HN4 B9 Ca9
  have HN5 := HN5'
  have B12 := B12'
  clear HN5' B12'
  have hw0 : W29.cell? ⟨b12, 0, none⟩ = some (.slice A4 4 c4) := (blk_cell B12.out 0).trans rfl
  have hw1 : W29.cell? ⟨b12, 1, none⟩ = some (.slice (some ⟨g5, 0, none⟩) 1 c5) := (blk_cell B12.out 1).trans rfl
  obtain ⟨ad5, A9, c9, e5, hx5_, hy5_, hl5, hk5⟩ := at_T81 (Kd.N_reads' HN5.out).2.2 0 (by decide) (by decide)
  injection e5 with e5
  subst e5
  have hx5 : W29.cell? ⟨g5, 0, none⟩ = some (.int .i64 7) := hx5_
  clear hx5_ hy5_ hl5 hk5
  go_wp2_with (fail)
  go_ret
  exact ⟨rfl, below_then HB12.out HB12.out.size HBy.out⟩
def swarflaw43_awake.f : Option (Bool) := some true
theorem swarflaw43_awake.calls (r : Bool) (w : World) (h : swarflaw43_awake.f = some r) : Calls Try.prog 23 #[] w fun e w' => e = .returned (.bool r) ∧ Below w.heap.size w w' := by
  obtain rfl := Option.some.inj h
  exact awake43_calls w
end Go.Proofs.Ytehkhbnhmehobaa.P
namespace Go.Proofs.Ytehkhbnhmehobaa.P
open Go.RowKit Go.Proofs.YtehkhbnhmehobaaW.PrintWords Go.Proofs.YtehkhbnhmehobaaW.PrintLast Go.Proofs.YtehkhbnhmehobaaW.PrintMore
attribute [local go_sem] max2_int min2_int max_two min_two max_three min_three max_four min_four
set_option linter.unusedVariables false
set_option linter.unusedSimpArgs false
def swarflaw43_SubprogramFold.j0 : Nat → List (S32) → Int → Int → Bool → Option (Bool)
 | 0, _, _, _, _ => none
 | k + 1, x0, x1, x2, x17 => if x17 = true then ((swarflaw43_awake.f).bind fun t661 => (some t661)) else ((Clone_Block.f x0).bind fun t662 => ((subprogram_Fold.f k t662 x1 x2).bind fun bt665 => ((swarfref43_Fold.f k x0 x1 x2).bind fun bt673 => (if bt665.2.2 = bt673.2.2 then ((swarflaw43_back.f k bt665.1 bt665.2.1).bind fun bt681 => ((swarfref43_Same.f k bt681.1 bt681.2 bt673.1 bt673.2.1).bind fun t687 => (some t687))) else (none)))))
def swarflaw43_SubprogramFold.f (k : Nat) (l0 : List (S32)) (a1 : Int) (a2 : Int) : Option (Bool) := (swarflaw43_awake.f).bind fun t659 => (if t659 = true then ((swarflaw43_valid.f k l0 40).bind fun t660 => (swarflaw43_SubprogramFold.j0 k l0 a1 a2 (!t660))) else (swarflaw43_SubprogramFold.j0 k l0 a1 a2 true))
theorem swarflaw43_SubprogramFold.mono_l : ∀ k, (∀ y0 y1 y2 y3, LeO (swarflaw43_SubprogramFold.j0 k y0 y1 y2 y3) (swarflaw43_SubprogramFold.j0 (k + 1) y0 y1 y2 y3))
 | 0 => fun _ _ _ _ r h => by simp [swarflaw43_SubprogramFold.j0] at h
 | k + 1 => by
  have ih0 := swarflaw43_SubprogramFold.mono_l k
  ·intro y0 y1 y2 y3
   unfold swarflaw43_SubprogramFold.j0
   repeat' first
   | (with_reducible exact ih0 _ _ _ _)
   | (with_reducible exact subprogram_Fold.mono _ _ _ _)
   | (with_reducible exact swarflaw43_back.mono _ _ _)
   | (with_reducible exact swarflaw43_valid.mono _ _ _)
   | (with_reducible exact swarfref43_Fold.mono _ _ _ _)
   | (with_reducible exact swarfref43_Same.mono _ _ _ _ _)
   | (with_reducible exact LeO.refl _)
   | (with_reducible exact LeO.none _)
   | (with_reducible refine LeO.ite ?_ ?_)
   | (with_reducible refine LeO.bind ?_ (fun _ => ?_))
   | exact ih0 _ _ _ _
   | exact subprogram_Fold.mono _ _ _ _
   | exact swarflaw43_back.mono _ _ _
   | exact swarflaw43_valid.mono _ _ _
   | exact swarfref43_Fold.mono _ _ _ _
   | exact swarfref43_Same.mono _ _ _ _ _
   | exact LeO.none _
   | refine LeO.ite ?_ ?_
   | refine LeO.bind ?_ (fun _ => ?_)
theorem swarflaw43_SubprogramFold.mono : ∀ a0 a1 a2 k, LeO (swarflaw43_SubprogramFold.f k a0 a1 a2) (swarflaw43_SubprogramFold.f (k + 1) a0 a1 a2) := by
 intro a0 a1 a2 k
 have ih0 := swarflaw43_SubprogramFold.mono_l k
 unfold swarflaw43_SubprogramFold.f
 repeat' first
   | (with_reducible exact ih0 _ _ _ _)
   | (with_reducible exact subprogram_Fold.mono _ _ _ _)
   | (with_reducible exact swarflaw43_back.mono _ _ _)
   | (with_reducible exact swarflaw43_valid.mono _ _ _)
   | (with_reducible exact swarfref43_Fold.mono _ _ _ _)
   | (with_reducible exact swarfref43_Same.mono _ _ _ _ _)
   | (with_reducible exact LeO.refl _)
   | (with_reducible exact LeO.none _)
   | (with_reducible refine LeO.ite ?_ ?_)
   | (with_reducible refine LeO.bind ?_ (fun _ => ?_))
   | exact ih0 _ _ _ _
   | exact subprogram_Fold.mono _ _ _ _
   | exact swarflaw43_back.mono _ _ _
   | exact swarflaw43_valid.mono _ _ _
   | exact swarfref43_Fold.mono _ _ _ _
   | exact swarfref43_Same.mono _ _ _ _ _
   | exact LeO.none _
   | refine LeO.ite ?_ ?_
   | refine LeO.bind ?_ (fun _ => ?_)
def swarflaw43_SubprogramFold.T5 : Bool × List (List Nat × List Nat) := (true, [([], []), ([], []), ([0, 1], [0, 1]), ([2], [2]), ([3], [3]), ([4, 3, 3], [3, 4]), ([3], [3]), ([5, 6, 5, 3], [3, 5, 6]), ([3, 7], [3, 7]), ([8, 7, 0, 1, 2, 3, 4, 5, 6, 7, 8], [8])])
def swarflaw43_SubprogramFold.B5 : List Nat := [0, 0, 3, 7, 15, 31, 15, 127, 255, 511]
theorem swarflaw43_SubprogramFold.tab5 : rtab .any (opsOf Try.f7 5) = swarflaw43_SubprogramFold.T5 := by kernel_rfl
theorem swarflaw43_SubprogramFold.bits5 : waitsOk swarflaw43_SubprogramFold.T5.2 swarflaw43_SubprogramFold.B5 = true := by kernel_rfl
set_option maxHeartbeats 8000000 in
set_option maxRecDepth 100000 in
theorem swarflaw43_SubprogramFold.calls (k : Nat) (A0 : Option Addr) (c0 : Nat) (l0 : List (S32)) (a1 : Int) (a2 : Int) (r : Bool) (w : World) (hr0 : Kd.C k32 w A0 l0.length l0) (hc0 : l0.length ≤ c0) (h : swarflaw43_SubprogramFold.f k l0 a1 a2 = some r) :
  Calls Try.prog 7 #[.slice A0 l0.length c0, .int .i64 a1, .int .i64 a2] w fun e w' => e = .returned (.bool r) ∧ Below w.heap.size w w' := by
 have hu54 := Try.underlying54
 have hu48 := Try.underlying48
 have HR0 := Aside0.mk hr0
 have HC0 := Aside0.mk hc0
 clear hr0 hc0
 have HB := Aside0.mk (Below.refl w.heap.size w)
 have H : ((swarflaw43_awake.f).bind fun t659 => (if t659 = true then ((swarflaw43_valid.f k l0 40).bind fun t660 => (swarflaw43_SubprogramFold.j0 k l0 a1 a2 (!t660))) else (swarflaw43_SubprogramFold.j0 k l0 a1 a2 true))) = some r := h
 clear h
 have HC4 := Aside0.mk H
 clear H
 go_enter Try.func7, Try.ntmps7
 go_upto_region 1 with (fail)
 go_cut [17] (fun v17 wc => ∃ (kq : Nat) (x17_3 : Bool), v17 = .bool x17_3 ∧ Aside0 (swarflaw43_SubprogramFold.j0 kq l0 a1 a2 x17_3 = some r) ∧ Aside0 (kq ≤ k) ∧ Aside0 (Below w.heap.size w wc))
 case first =>
  have H := HC4.out
  clear HC4
  replace H := Option.bind_eq_some_iff.mp H
  obtain ⟨t659, A50, H⟩ := H
  replace H : (if t659 = true then ((swarflaw43_valid.f k l0 40).bind fun t660 => (swarflaw43_SubprogramFold.j0 k l0 a1 a2 (!t660))) else (swarflaw43_SubprogramFold.j0 k l0 a1 a2 true)) = some r := H
  have A5 := Aside0.mk A50
  clear A50
  by_cases c6 : t659 = true
  ·subst c6
   have H1 : ((swarflaw43_valid.f k l0 40).bind fun t660 => (swarflaw43_SubprogramFold.j0 k l0 a1 a2 (!t660))) = some r := by rw [if_pos rfl] at H; exact H
   clear H
   have H := H1
   clear H1
   replace H := Option.bind_eq_some_iff.mp H
   obtain ⟨t660, A70, H⟩ := H
   replace H : (swarflaw43_SubprogramFold.j0 k l0 a1 a2 (!t660)) = some r := H
   have A7 := Aside0.mk A70
   clear A70
   have H' := Aside0.mk H
   clear H
   go_wp2_with (first | ((with_reducible refine gate_callee (f := 23) rfl ?_); refine goesL_ (some 11) rfl rfl Try.func23 (by kernel_rfl) rfl #[] rfl yQ ?_; (with_reducible refine (swarflaw43_awake.calls  true _ A5.out).mono ?_); rintro e w8 ⟨rfl, hb⟩; refine ⟨_, rfl, ?_⟩; have n0_ := Aside0.mk (below_step yB hb); clear HB; have HB := n0_; clear n0_; (try clear hb); (try clear hb2); (try clear hk); (try clear hi)) | (go_at_call 24; (with_reducible refine (swarflaw43_valid.calls k _ _ l0 40 t660 _ ?side1 ?side2 A7.out).mono ?_); (case side1 => exact yC HR0.out); (case side2 => exact HC0.out); rintro e w9 ⟨rfl, hb⟩; have n0_ := Aside0.mk (below_step yB hb); clear HB; have HB := n0_; clear n0_; (try clear hb); (try clear hb2); (try clear hk); (try clear hi)))
   go_meet
   case rel => exact ⟨_, (!t660), yS, H', ⟨by first | omega | exact Nat.le_refl _⟩, ⟨yB⟩⟩
  ·replace c6 := Bool.eq_false_iff.mpr c6
   subst c6
   have H1 : (swarflaw43_SubprogramFold.j0 k l0 a1 a2 true) = some r := by rw [if_neg (show ¬ (false = true) by decide)] at H; exact H
   clear H
   have H := H1
   clear H1
   have H' := Aside0.mk H
   clear H
   go_wp2_with (first | ((with_reducible refine gate_callee (f := 23) rfl ?_); refine goesL_ (some 11) rfl rfl Try.func23 (by kernel_rfl) rfl #[] rfl yQ ?_; (with_reducible refine (swarflaw43_awake.calls  false _ A5.out).mono ?_); rintro e w10 ⟨rfl, hb⟩; refine ⟨_, rfl, ?_⟩; have n0_ := Aside0.mk (below_step yB hb); clear HB; have HB := n0_; clear n0_; (try clear hb); (try clear hb2); (try clear hk); (try clear hi)))
   go_meet
   case rel => exact ⟨_, (true), yS, H', ⟨by first | omega | exact Nat.le_refl _⟩, ⟨yB⟩⟩
 case rest =>
  clear HC4
  try clear c2
  try clear p2
  try clear c6
  try clear c7
  obtain ⟨kq, x17_3, rfl, HA, HJ3, HB⟩ := hcut
  cases kq with
  | zero => exact absurd HA.out (by simp [swarflaw43_SubprogramFold.j0])
  | succ kj3 =>
   have H := HA.out
   clear HA
   simp only [swarflaw43_SubprogramFold.j0] at H
   by_cases c11 : x17_3 = true
   ·subst c11
    have H1 : ((swarflaw43_awake.f).bind fun t661 => (some t661)) = some r := by rw [if_pos rfl] at H; exact H
    clear H
    have H := H1
    clear H1
    replace H := Option.bind_eq_some_iff.mp H
    obtain ⟨t661, A120, H⟩ := H
    replace H : (some t661) = some r := H
    have A12 := Aside0.mk A120
    clear A120
    obtain rfl := Option.some.inj H
    go_wp2_with (first | ((with_reducible refine gate_callee (f := 23) rfl ?_); refine goesL_ (some 18) rfl rfl Try.func23 (by kernel_rfl) rfl #[] rfl yQ ?_; (with_reducible refine (swarflaw43_awake.calls  t661 _ A12.out).mono ?_); rintro e w13 ⟨rfl, hb⟩; refine ⟨_, rfl, ?_⟩; have n0_ := Aside0.mk (below_step yB hb); clear HB; have HB := n0_; clear n0_; (try clear hb); (try clear hb2); (try clear hk); (try clear hi)))
    go_ret
    exact ⟨by first | rfl | (simp [errW_none, errW_some] <;> rfl) | (simp [*, errW_none, errW_some] <;> rfl), yB⟩
   ·replace c11 := Bool.eq_false_iff.mpr c11
    subst c11
    have H1 : ((Clone_Block.f l0).bind fun t662 => ((subprogram_Fold.f kj3 t662 a1 a2).bind fun bt665 => ((swarfref43_Fold.f kj3 l0 a1 a2).bind fun bt673 => (if bt665.2.2 = bt673.2.2 then ((swarflaw43_back.f kj3 bt665.1 bt665.2.1).bind fun bt681 => ((swarfref43_Same.f kj3 bt681.1 bt681.2 bt673.1 bt673.2.1).bind fun t687 => (some t687))) else (none))))) = some r := by rw [if_neg (show ¬ (false = true) by decide)] at H; exact H
    clear H
    have H := H1
    clear H1
    replace H := Option.bind_eq_some_iff.mp H
    obtain ⟨t662, A140, H⟩ := H
    replace H : ((subprogram_Fold.f kj3 t662 a1 a2).bind fun bt665 => ((swarfref43_Fold.f kj3 l0 a1 a2).bind fun bt673 => (if bt665.2.2 = bt673.2.2 then ((swarflaw43_back.f kj3 bt665.1 bt665.2.1).bind fun bt681 => ((swarfref43_Same.f kj3 bt681.1 bt681.2 bt673.1 bt673.2.1).bind fun t687 => (some t687))) else (none)))) = some r := H
    have A14 := Aside0.mk A140
    clear A140
    replace H := Option.bind_eq_some_iff.mp H
    obtain ⟨⟨t665, t668, t671⟩, A150, H⟩ := H
    replace H : ((swarfref43_Fold.f kj3 l0 a1 a2).bind fun bt673 => (if t671 = bt673.2.2 then ((swarflaw43_back.f kj3 t665 t668).bind fun bt681 => ((swarfref43_Same.f kj3 bt681.1 bt681.2 bt673.1 bt673.2.1).bind fun t687 => (some t687))) else (none))) = some r := H
    have A15 := Aside0.mk A150
    clear A150
    replace H := Option.bind_eq_some_iff.mp H
    obtain ⟨⟨t673, t676, t679⟩, A160, H⟩ := H
    replace H : (if t671 = t679 then ((swarflaw43_back.f kj3 t665 t668).bind fun bt681 => ((swarfref43_Same.f kj3 bt681.1 bt681.2 t673 t676).bind fun t687 => (some t687))) else (none)) = some r := H
    have A16 := Aside0.mk A160
    clear A160
    by_cases c17 : t671 = t679
    ·rw [if_pos c17] at H
     have c17b0 : (t671 == t679) = true := beq_iff_eq.mpr c17
     have c17b1 : (t671 != t679) = false := bne_eq_false_iff_eq.mpr c17
     clear c17
     replace H := Option.bind_eq_some_iff.mp H
     obtain ⟨⟨t681, t684⟩, A180, H⟩ := H
     replace H : ((swarfref43_Same.f kj3 t681 t684 t673 t676).bind fun t687 => (some t687)) = some r := H
     have A18 := Aside0.mk A180
     clear A180
     replace H := Option.bind_eq_some_iff.mp H
     obtain ⟨t687, A190, H⟩ := H
     replace H : (some t687) = some r := H
     have A19 := Aside0.mk A190
     clear A190
     obtain rfl := Option.some.inj H
     try go_wp2_with (first | ((with_reducible refine gate_callee (f := 33) rfl ?_); refine goesL_ (some 21) rfl rfl Try.func33 (by kernel_rfl) rfl #[.slice A0 l0.length c0] rfl yQ ?_; (with_reducible refine (Clone_Block.calls (fun k_ => k_ < w.heap.size) _ _ l0 t662 _ ?side1 A14.out).mono ?_); (case side1 => exact Kd.V_mk HC0.out (Kd.F_below (Kd.C_F k32_heap HR0.out) yB)); rintro e w20 ⟨v663, rfl, ho0, hb⟩; refine ⟨_, rfl, ?_⟩; have n0_ := Aside0.mk (Kd.N_lower (Kd.N_mono (ok' := fun k_ => True) ho0 (fun k_ hk_ => trivial)) (below_size yB)); have n1_ := Aside0.mk (below_step yB hb); clear HB; have HO664 := n0_; have HB := n1_; clear n0_ n1_; (try clear hb); (try clear hb2); (try clear hk); (try clear hi); (try clear ho0); obtain ⟨Ao21, co21, eo21⟩ := Kd.N_slice HO664.out; subst eo21) | ((with_reducible refine gate_callee (f := 32) rfl ?_); refine goesL_ (some 24) rfl rfl Try.func32 (by kernel_rfl) rfl #[.slice Ao21 t662.length co21, .int .i64 a1, .int .i64 a2] rfl yQ ?_; (with_reducible refine (subprogram_Fold.calls kj3 (fun k_ => True) _ _ t662 a1 a2 t665 t668 t671 _ ?side1 A15.out).mono ?_); (case side1 => exact Kd.N_V (HO664.out)); rintro e w22 ⟨v666, v669, rfl, ho0, ho1, hb⟩; refine ⟨_, rfl, ?_⟩; have n0_ := Aside0.mk (Kd.N_mono (Kd.N_told (Kd.N_told (Kd.N_old (by (with_reducible repeat (first | apply Kd.N_alloc | apply Kd.N_drewN | apply Kd.N_drew)); exact HO664.out) hb) (by first | exact Kd.N_base ho0 | exact Kd.S_base ho0)) (Kd.N_base ho1)) (fun _ h_ => h_.1)); have n1_ := Aside0.mk (Kd.N_lower (Kd.N_mono (ok' := fun k_ => some k_ ≠ (v669 : Value).ownBlock) ho0 (fun k_ hk_ => hk_.2)) (below_size yB)); have n2_ := Aside0.mk (Kd.N_lower (Kd.N_mono (ok' := fun k_ => some k_ ≠ (v666 : Value).ownBlock) ho1 (fun k_ hk_ => hk_.2)) (below_size yB)); have n3_ := Aside0.mk (below_step yB hb); clear HO664; clear HB; have HO664 := n0_; have HO667 := n1_; have HO670 := n2_; have HB := n3_; clear n0_ n1_ n2_ n3_; (try clear hb); (try clear hb2); (try clear hk); (try clear hi); (try clear ho0); (try clear ho1)) | ((with_reducible refine gate_dst (N := 7) rfl ?_); refine box_event ?hg (N := 7) ?hd (cs := #[.slice none 0 0, .slice none 0 0]) (t := 54) ?hr ?_; (case hd => rfl); (case hg => rfl); (case hr => first | (go_simp; done) | (go_simp; rfl)); intro gb672 hg w23 hbox hb; have n0_ := Aside0.mk (Kd.N_below (Kd.N_elderB (by (with_reducible repeat (first | apply Kd.N_alloc | apply Kd.N_drewN | apply Kd.N_drew)); exact HO664.out) gb672 (Nat.le_of_eq hg.symm)) hb); have n1_ := Aside0.mk (Kd.N_below (Kd.N_elderB (by (with_reducible repeat (first | apply Kd.N_alloc | apply Kd.N_drewN | apply Kd.N_drew)); exact HO667.out) gb672 (Nat.le_of_eq hg.symm)) hb); have n2_ := Aside0.mk (Kd.N_below (Kd.N_elderB (by (with_reducible repeat (first | apply Kd.N_alloc | apply Kd.N_drewN | apply Kd.N_drew)); exact HO670.out) gb672 (Nat.le_of_eq hg.symm)) hb); have n3_ := Aside0.mk (below_step yB hb); have n4_ := Aside0.mk (hbox); have n5_ := Aside0.mk ((yG hg : w.heap.size ≤ gb672)); have n6_ := Aside0.mk ((yG hg : w.heap.size ≤ gb672)); clear HO664; clear HO667; clear HO670; clear HB; have HO664 := n0_; have HO667 := n1_; have HO670 := n2_; have HB := n3_; have BK672 := n4_; have GW672 := n5_; have GE672 := n6_; clear n0_ n1_ n2_ n3_ n4_ n5_ n6_; clear hb hbox hg; obtain ⟨Ao24, co24, eo24⟩ := Kd.N_slice HO667.out; subst eo24; have hcz25_0 : w23.cell? ⟨gb672, 0, none⟩ = some (.slice none 0 0) := (blk_cell BK672.out 0).trans rfl; have hcz25_1 : w23.cell? ⟨gb672, 1, none⟩ = some (.slice none 0 0) := (blk_cell BK672.out 1).trans rfl; have hfz25_0 := blk_frozen BK672.out 0; have hfz25_1 := blk_frozen BK672.out 1; obtain ⟨Ao26, co26, eo26⟩ := Kd.N_slice HO670.out; subst eo26) | ((with_reducible refine gate_store (t := 54) (p := 7) rfl ?_); refine store_event (t := 54) (p := 7) (v := ?vo_w27) (w1 := ((w23.setCell ⟨gb672, 0, none⟩ (.slice Ao24 t665.length co24)).setCell ⟨gb672, 1, none⟩ (.slice Ao26 t668.length co26))) ?hg ?ho ?hn ?hr ?_; (case ho => rfl); (case hg => rfl); (case hn => rfl); (case hr => first | (go_simp; done) | (go_simp; rfl)); intro w27 hw; have n0_ : Aside0 (Kd.N k32 32 w27 w.heap.size (fun k_ => some k_ ≠ (.slice Ao24 t665.length co24 : Value).ownBlock ∧ some k_ ≠ (.slice Ao26 t668.length co26 : Value).ownBlock ∧ k_ ≠ gb672) (.slice Ao21 t662.length co21) t662) := ⟨(by rw [hw]; exact (by (with_reducible repeat (first | apply Kd.N_alloc | apply Kd.N_drewN | apply Kd.N_drew)); exact Kd.N_mono (Kd.N_far (p := ⟨gb672, 1, none⟩) (Kd.N_far (p := ⟨gb672, 0, none⟩) (Kd.N_mono HO664.out (fun k_ hk => (⟨hk, hk.2⟩ : _ ∧ k_ ≠ gb672))) (fun _ hk => hk.2) (.slice Ao24 t665.length co24)) (fun _ hk => hk.2) (.slice Ao26 t668.length co26)) (fun _ hk => ⟨hk.1.1.1.2, ⟨hk.1.1.2, hk.1.2⟩⟩)))⟩; have n1_ : Aside0 (Kd.N k32 32 w27 w.heap.size (fun k_ => some k_ ≠ (.slice Ao26 t668.length co26 : Value).ownBlock ∧ k_ ≠ gb672) (.slice Ao24 t665.length co24) t665) := ⟨(by rw [hw]; exact (by (with_reducible repeat (first | apply Kd.N_alloc | apply Kd.N_drewN | apply Kd.N_drew)); exact Kd.N_mono (Kd.N_far (p := ⟨gb672, 1, none⟩) (Kd.N_far (p := ⟨gb672, 0, none⟩) (Kd.N_mono HO667.out (fun k_ hk => (⟨hk, hk.2⟩ : _ ∧ k_ ≠ gb672))) (fun _ hk => hk.2) (.slice Ao24 t665.length co24)) (fun _ hk => hk.2) (.slice Ao26 t668.length co26)) (fun _ hk => ⟨hk.1.1, hk.1.2⟩)))⟩; have n2_ : Aside0 (Kd.N k81 81 w27 w.heap.size (fun k_ => some k_ ≠ (.slice Ao24 t665.length co24 : Value).ownBlock ∧ k_ ≠ gb672) (.slice Ao26 t668.length co26) t668) := ⟨(by rw [hw]; exact (by (with_reducible repeat (first | apply Kd.N_alloc | apply Kd.N_drewN | apply Kd.N_drew)); exact Kd.N_mono (Kd.N_far (p := ⟨gb672, 1, none⟩) (Kd.N_far (p := ⟨gb672, 0, none⟩) (Kd.N_mono HO670.out (fun k_ hk => (⟨hk, hk.2⟩ : _ ∧ k_ ≠ gb672))) (fun _ hk => hk.2) (.slice Ao24 t665.length co24)) (fun _ hk => hk.2) (.slice Ao26 t668.length co26)) (fun _ hk => ⟨hk.1.1, hk.1.2⟩)))⟩; have n3_ : Aside0 (w27.heap[gb672]? = some (.cells #[.slice Ao24 t665.length co24, .slice Ao26 t668.length co26] 54 (0, 0))) := ⟨(by rw [hw]; exact (by (with_reducible repeat (first | refine blk_drewN ?_ _ | refine blk_drew ?_ | refine blk_alloc ?_ _)); refine blk_put (cs := #[.slice Ao24 t665.length co24, .slice none 0 0]) ?_ 1 _ rfl; (with_reducible repeat (first | refine blk_drewN ?_ _ | refine blk_drew ?_ | refine blk_alloc ?_ _)); refine blk_put (cs := #[.slice none 0 0, .slice none 0 0]) ?_ 0 _ rfl; (with_reducible repeat (first | refine blk_drewN ?_ _ | refine blk_drew ?_ | refine blk_alloc ?_ _)); exact BK672.out))⟩; have n4_ : Aside0 (Below w.heap.size w w27) := ⟨(by rw [hw]; exact yB)⟩; clear hw; clear HO664; clear HO667; clear HO670; clear BK672; clear HB; have HO664 := n0_; have HO667 := n1_; have HO670 := n2_; have BK672 := n3_; have HB := n4_; clear n0_ n1_ n2_ n3_ n4_) | ((with_reducible refine gate_callee (f := 34) rfl ?_); refine goesL_ (some 31) rfl rfl Try.func34 (by kernel_rfl) rfl #[.slice A0 l0.length c0, .int .i64 a1, .int .i64 a2] rfl yQ ?_; (with_reducible refine (swarfref43_Fold.calls kj3 (fun k_ => k_ < w.heap.size) _ _ l0 a1 a2 t673 t676 t679 _ ?side1 A16.out).mono ?_); (case side1 => exact Kd.V_mk HC0.out (Kd.F_below (Kd.C_F k32_heap HR0.out) yB)); rintro e w28 ⟨v674, v677, rfl, ho0, ho1, hb⟩; refine ⟨_, rfl, ?_⟩; have n0_ := Aside0.mk (Kd.N_mono (Kd.N_told (Kd.N_told (Kd.N_old (by (with_reducible repeat (first | apply Kd.N_alloc | apply Kd.N_drewN | apply Kd.N_drew)); exact HO664.out) hb) (by first | exact Kd.N_base ho0 | exact Kd.S_base ho0)) (Kd.N_base ho1)) (fun _ h_ => h_.1)); have n1_ := Aside0.mk (Kd.N_mono (Kd.N_told (Kd.N_told (Kd.N_old (by (with_reducible repeat (first | apply Kd.N_alloc | apply Kd.N_drewN | apply Kd.N_drew)); exact HO667.out) hb) (by first | exact Kd.N_base ho0 | exact Kd.S_base ho0)) (Kd.N_base ho1)) (fun _ h_ => h_.1)); have n2_ := Aside0.mk (Kd.N_mono (Kd.N_told (Kd.N_told (Kd.N_old (by (with_reducible repeat (first | apply Kd.N_alloc | apply Kd.N_drewN | apply Kd.N_drew)); exact HO670.out) hb) (by first | exact Kd.N_base ho0 | exact Kd.S_base ho0)) (Kd.N_base ho1)) (fun _ h_ => h_.1)); have n3_ := Aside0.mk (Kd.N_lower (Kd.N_mono (ok' := fun k_ => some k_ ≠ (v677 : Value).ownBlock ∧ some k_ ≠ (.slice Ao21 t662.length co21 : Value).ownBlock ∧ some k_ ≠ (.slice Ao24 t665.length co24 : Value).ownBlock ∧ some k_ ≠ (.slice Ao26 t668.length co26 : Value).ownBlock ∧ k_ ≠ gb672) ho0 (fun k_ hk_ => ⟨hk_.2, Or.elim hk_.1 (fun hs_ => fun e_ => Nat.not_le.2 hs_ (Kd.N_base HO664.out k_ e_.symm)) (fun hn_ => (Kd.fresh' (Kd.N_lt (by (with_reducible repeat (first | apply Kd.N_alloc | apply Kd.N_drewN | apply Kd.N_drew)); exact HO664.out)) k_ hn_)), Or.elim hk_.1 (fun hs_ => fun e_ => Nat.not_le.2 hs_ (Kd.N_base HO667.out k_ e_.symm)) (fun hn_ => (Kd.fresh' (Kd.N_lt (by (with_reducible repeat (first | apply Kd.N_alloc | apply Kd.N_drewN | apply Kd.N_drew)); exact HO667.out)) k_ hn_)), Or.elim hk_.1 (fun hs_ => fun e_ => Nat.not_le.2 hs_ (Kd.N_base HO670.out k_ e_.symm)) (fun hn_ => (Kd.fresh' (Kd.N_lt (by (with_reducible repeat (first | apply Kd.N_alloc | apply Kd.N_drewN | apply Kd.N_drew)); exact HO670.out)) k_ hn_)), Or.elim hk_.1 (fun hs_ => fun e_ => Nat.not_le.2 hs_ (by rw [e_]; exact GW672.out)) (fun hn_ => (Kd.freshB (g := gb672) (o := .cells #[.slice Ao24 t665.length co24, .slice Ao26 t668.length co26] 54 (0, 0)) yK k_ hn_))⟩)) (below_size yB)); have n4_ := Aside0.mk (Kd.N_lower (Kd.N_mono (ok' := fun k_ => some k_ ≠ (v674 : Value).ownBlock ∧ some k_ ≠ (.slice Ao21 t662.length co21 : Value).ownBlock ∧ some k_ ≠ (.slice Ao24 t665.length co24 : Value).ownBlock ∧ some k_ ≠ (.slice Ao26 t668.length co26 : Value).ownBlock ∧ k_ ≠ gb672) ho1 (fun k_ hk_ => ⟨hk_.2, Or.elim hk_.1 (fun hs_ => fun e_ => Nat.not_le.2 hs_ (Kd.N_base HO664.out k_ e_.symm)) (fun hn_ => (Kd.fresh' (Kd.N_lt (by (with_reducible repeat (first | apply Kd.N_alloc | apply Kd.N_drewN | apply Kd.N_drew)); exact HO664.out)) k_ hn_)), Or.elim hk_.1 (fun hs_ => fun e_ => Nat.not_le.2 hs_ (Kd.N_base HO667.out k_ e_.symm)) (fun hn_ => (Kd.fresh' (Kd.N_lt (by (with_reducible repeat (first | apply Kd.N_alloc | apply Kd.N_drewN | apply Kd.N_drew)); exact HO667.out)) k_ hn_)), Or.elim hk_.1 (fun hs_ => fun e_ => Nat.not_le.2 hs_ (Kd.N_base HO670.out k_ e_.symm)) (fun hn_ => (Kd.fresh' (Kd.N_lt (by (with_reducible repeat (first | apply Kd.N_alloc | apply Kd.N_drewN | apply Kd.N_drew)); exact HO670.out)) k_ hn_)), Or.elim hk_.1 (fun hs_ => fun e_ => Nat.not_le.2 hs_ (by rw [e_]; exact GW672.out)) (fun hn_ => (Kd.freshB (g := gb672) (o := .cells #[.slice Ao24 t665.length co24, .slice Ao26 t668.length co26] 54 (0, 0)) yK k_ hn_))⟩)) (below_size yB)); have n5_ := Aside0.mk (blk_below (g := gb672) (o := .cells #[.slice Ao24 t665.length co24, .slice Ao26 t668.length co26] 54 (0, 0)) yK hb); have n6_ := Aside0.mk (below_step yB hb); clear HO664; clear HO667; clear HO670; clear BK672; clear HB; have HO664 := n0_; have HO667 := n1_; have HO670 := n2_; have HO675 := n3_; have HO678 := n4_; have BK672 := n5_; have HB := n6_; clear n0_ n1_ n2_ n3_ n4_ n5_ n6_; (try clear hb); (try clear hb2); (try clear hk); (try clear hi); (try clear ho0); (try clear ho1)) | ((with_reducible refine gate_dst (N := 9) rfl ?_); refine box_event ?hg (N := 9) ?hd (cs := #[.slice none 0 0, .slice none 0 0]) (t := 48) ?hr ?_; (case hd => rfl); (case hg => rfl); (case hr => first | (go_simp; done) | (go_simp; rfl)); intro gb680 hg w29 hbox hb; have n0_ := Aside0.mk (Kd.N_below (Kd.N_elderB (by (with_reducible repeat (first | apply Kd.N_alloc | apply Kd.N_drewN | apply Kd.N_drew)); exact HO664.out) gb680 (Nat.le_of_eq hg.symm)) hb); have n1_ := Aside0.mk (Kd.N_below (Kd.N_elderB (by (with_reducible repeat (first | apply Kd.N_alloc | apply Kd.N_drewN | apply Kd.N_drew)); exact HO667.out) gb680 (Nat.le_of_eq hg.symm)) hb); have n2_ := Aside0.mk (Kd.N_below (Kd.N_elderB (by (with_reducible repeat (first | apply Kd.N_alloc | apply Kd.N_drewN | apply Kd.N_drew)); exact HO670.out) gb680 (Nat.le_of_eq hg.symm)) hb); have n3_ := Aside0.mk (Kd.N_below (Kd.N_elderB (by (with_reducible repeat (first | apply Kd.N_alloc | apply Kd.N_drewN | apply Kd.N_drew)); exact HO675.out) gb680 (Nat.le_of_eq hg.symm)) hb); have n4_ := Aside0.mk (Kd.N_below (Kd.N_elderB (by (with_reducible repeat (first | apply Kd.N_alloc | apply Kd.N_drewN | apply Kd.N_drew)); exact HO678.out) gb680 (Nat.le_of_eq hg.symm)) hb); have n5_ := Aside0.mk (blk_below (g := gb672) (o := .cells #[.slice Ao24 t665.length co24, .slice Ao26 t668.length co26] 54 (0, 0)) yK hb); have n6_ := Aside0.mk (below_step yB hb); have n7_ := Aside0.mk (hbox); have n8_ := Aside0.mk ((yG hg : w.heap.size ≤ gb680)); have n9_ := Aside0.mk ((yG hg : w.heap.size ≤ gb680)); have n10_ := Aside0.mk ((by rw [hg]; exact Nat.ne_of_lt (blk_lt (g := gb672) (o := .cells #[.slice Ao24 t665.length co24, .slice Ao26 t668.length co26] 54 (0, 0)) yK) : gb672 ≠ gb680)); have n11_ := Aside0.mk ((by rw [hg]; exact Nat.ne_of_gt (blk_lt (g := gb672) (o := .cells #[.slice Ao24 t665.length co24, .slice Ao26 t668.length co26] 54 (0, 0)) yK) : gb680 ≠ gb672)); clear HO664; clear HO667; clear HO670; clear HO675; clear HO678; clear BK672; clear HB; have HO664 := n0_; have HO667 := n1_; have HO670 := n2_; have HO675 := n3_; have HO678 := n4_; have BK672 := n5_; have HB := n6_; have BK680 := n7_; have GW680 := n8_; have GE680 := n9_; have NB672_680 := n10_; have NB680_672 := n11_; clear n0_ n1_ n2_ n3_ n4_ n5_ n6_ n7_ n8_ n9_ n10_ n11_; clear hb hbox hg; obtain ⟨Ao30, co30, eo30⟩ := Kd.N_slice HO675.out; subst eo30; have hnb31 := NB680_672.out; have hnc31 := NB672_680.out; have hcz32_0 : w29.cell? ⟨gb680, 0, none⟩ = some (.slice none 0 0) := (blk_cell BK680.out 0).trans rfl; have hcz32_1 : w29.cell? ⟨gb680, 1, none⟩ = some (.slice none 0 0) := (blk_cell BK680.out 1).trans rfl; have hfz32_0 := blk_frozen BK680.out 0; have hfz32_1 := blk_frozen BK680.out 1; obtain ⟨Ao33, co33, eo33⟩ := Kd.N_slice HO678.out; subst eo33))
     have n0_ : Aside0 (Kd.N k32 32 ((w29.setCell ⟨gb680, 0, none⟩ (.slice Ao30 t673.length co30)).setCell ⟨gb680, 1, none⟩ (.slice Ao33 t676.length co33)) w.heap.size (fun k_ => some k_ ≠ (.slice Ao24 t665.length co24 : Value).ownBlock ∧ some k_ ≠ (.slice Ao26 t668.length co26 : Value).ownBlock ∧ some k_ ≠ (.slice Ao30 t673.length co30 : Value).ownBlock ∧ some k_ ≠ (.slice Ao33 t676.length co33 : Value).ownBlock ∧ k_ ≠ gb672 ∧ k_ ≠ gb680) (.slice Ao21 t662.length co21) t662) := ⟨by (with_reducible repeat (first | apply Kd.N_alloc | apply Kd.N_drewN | apply Kd.N_drew)); exact Kd.N_mono (Kd.N_far (p := ⟨gb680, 1, none⟩) (Kd.N_far (p := ⟨gb680, 0, none⟩) (Kd.N_mono HO664.out (fun k_ hk => (⟨hk, hk.2⟩ : _ ∧ k_ ≠ gb680))) (fun _ hk => hk.2) (.slice Ao30 t673.length co30)) (fun _ hk => hk.2) (.slice Ao33 t676.length co33)) (fun _ hk => ⟨hk.1.1.1.1.1, ⟨hk.1.1.1.1.2.1, ⟨hk.1.1.1.2, ⟨hk.1.1.2, ⟨hk.1.1.1.1.2.2, hk.1.2⟩⟩⟩⟩⟩)⟩
     have n1_ : Aside0 (Kd.N k32 32 ((w29.setCell ⟨gb680, 0, none⟩ (.slice Ao30 t673.length co30)).setCell ⟨gb680, 1, none⟩ (.slice Ao33 t676.length co33)) w.heap.size (fun k_ => some k_ ≠ (.slice Ao26 t668.length co26 : Value).ownBlock ∧ some k_ ≠ (.slice Ao30 t673.length co30 : Value).ownBlock ∧ some k_ ≠ (.slice Ao33 t676.length co33 : Value).ownBlock ∧ k_ ≠ gb672 ∧ k_ ≠ gb680) (.slice Ao24 t665.length co24) t665) := ⟨by (with_reducible repeat (first | apply Kd.N_alloc | apply Kd.N_drewN | apply Kd.N_drew)); exact Kd.N_mono (Kd.N_far (p := ⟨gb680, 1, none⟩) (Kd.N_far (p := ⟨gb680, 0, none⟩) (Kd.N_mono HO667.out (fun k_ hk => (⟨hk, hk.2⟩ : _ ∧ k_ ≠ gb680))) (fun _ hk => hk.2) (.slice Ao30 t673.length co30)) (fun _ hk => hk.2) (.slice Ao33 t676.length co33)) (fun _ hk => ⟨hk.1.1.1.1.1, ⟨hk.1.1.1.2, ⟨hk.1.1.2, ⟨hk.1.1.1.1.2, hk.1.2⟩⟩⟩⟩)⟩
     have n2_ : Aside0 (Kd.N k81 81 ((w29.setCell ⟨gb680, 0, none⟩ (.slice Ao30 t673.length co30)).setCell ⟨gb680, 1, none⟩ (.slice Ao33 t676.length co33)) w.heap.size (fun k_ => some k_ ≠ (.slice Ao24 t665.length co24 : Value).ownBlock ∧ some k_ ≠ (.slice Ao30 t673.length co30 : Value).ownBlock ∧ some k_ ≠ (.slice Ao33 t676.length co33 : Value).ownBlock ∧ k_ ≠ gb672 ∧ k_ ≠ gb680) (.slice Ao26 t668.length co26) t668) := ⟨by (with_reducible repeat (first | apply Kd.N_alloc | apply Kd.N_drewN | apply Kd.N_drew)); exact Kd.N_mono (Kd.N_far (p := ⟨gb680, 1, none⟩) (Kd.N_far (p := ⟨gb680, 0, none⟩) (Kd.N_mono HO670.out (fun k_ hk => (⟨hk, hk.2⟩ : _ ∧ k_ ≠ gb680))) (fun _ hk => hk.2) (.slice Ao30 t673.length co30)) (fun _ hk => hk.2) (.slice Ao33 t676.length co33)) (fun _ hk => ⟨hk.1.1.1.1.1, ⟨hk.1.1.1.2, ⟨hk.1.1.2, ⟨hk.1.1.1.1.2, hk.1.2⟩⟩⟩⟩)⟩
     have n3_ : Aside0 (Kd.N k32 32 ((w29.setCell ⟨gb680, 0, none⟩ (.slice Ao30 t673.length co30)).setCell ⟨gb680, 1, none⟩ (.slice Ao33 t676.length co33)) w.heap.size (fun k_ => some k_ ≠ (.slice Ao21 t662.length co21 : Value).ownBlock ∧ some k_ ≠ (.slice Ao24 t665.length co24 : Value).ownBlock ∧ some k_ ≠ (.slice Ao26 t668.length co26 : Value).ownBlock ∧ some k_ ≠ (.slice Ao33 t676.length co33 : Value).ownBlock ∧ k_ ≠ gb672 ∧ k_ ≠ gb680) (.slice Ao30 t673.length co30) t673) := ⟨by (with_reducible repeat (first | apply Kd.N_alloc | apply Kd.N_drewN | apply Kd.N_drew)); exact Kd.N_mono (Kd.N_far (p := ⟨gb680, 1, none⟩) (Kd.N_far (p := ⟨gb680, 0, none⟩) (Kd.N_mono HO675.out (fun k_ hk => (⟨hk, hk.2⟩ : _ ∧ k_ ≠ gb680))) (fun _ hk => hk.2) (.slice Ao30 t673.length co30)) (fun _ hk => hk.2) (.slice Ao33 t676.length co33)) (fun _ hk => ⟨hk.1.1.2.1, ⟨hk.1.1.2.2.1, ⟨hk.1.1.2.2.2.1, ⟨hk.1.1.1, ⟨hk.1.1.2.2.2.2, hk.1.2⟩⟩⟩⟩⟩)⟩
     have n4_ : Aside0 (Kd.N k58 58 ((w29.setCell ⟨gb680, 0, none⟩ (.slice Ao30 t673.length co30)).setCell ⟨gb680, 1, none⟩ (.slice Ao33 t676.length co33)) w.heap.size (fun k_ => some k_ ≠ (.slice Ao21 t662.length co21 : Value).ownBlock ∧ some k_ ≠ (.slice Ao24 t665.length co24 : Value).ownBlock ∧ some k_ ≠ (.slice Ao26 t668.length co26 : Value).ownBlock ∧ some k_ ≠ (.slice Ao30 t673.length co30 : Value).ownBlock ∧ k_ ≠ gb672 ∧ k_ ≠ gb680) (.slice Ao33 t676.length co33) t676) := ⟨by (with_reducible repeat (first | apply Kd.N_alloc | apply Kd.N_drewN | apply Kd.N_drew)); exact Kd.N_mono (Kd.N_far (p := ⟨gb680, 1, none⟩) (Kd.N_far (p := ⟨gb680, 0, none⟩) (Kd.N_mono HO678.out (fun k_ hk => (⟨hk, hk.2⟩ : _ ∧ k_ ≠ gb680))) (fun _ hk => hk.2) (.slice Ao30 t673.length co30)) (fun _ hk => hk.2) (.slice Ao33 t676.length co33)) (fun _ hk => ⟨hk.1.1.2.1, ⟨hk.1.1.2.2.1, ⟨hk.1.1.2.2.2.1, ⟨hk.1.1.1, ⟨hk.1.1.2.2.2.2, hk.1.2⟩⟩⟩⟩⟩)⟩
     have n5_ : Aside0 (((w29.setCell ⟨gb680, 0, none⟩ (.slice Ao30 t673.length co30)).setCell ⟨gb680, 1, none⟩ (.slice Ao33 t676.length co33)).heap[gb672]? = some (.cells #[.slice Ao24 t665.length co24, .slice Ao26 t668.length co26] 54 (0, 0))) := ⟨by (with_reducible repeat (first | refine blk_drewN ?_ _ | refine blk_drew ?_ | refine blk_alloc ?_ _)); refine blk_far ?_ NB672_680.out _; (with_reducible repeat (first | refine blk_drewN ?_ _ | refine blk_drew ?_ | refine blk_alloc ?_ _)); refine blk_far ?_ NB672_680.out _; (with_reducible repeat (first | refine blk_drewN ?_ _ | refine blk_drew ?_ | refine blk_alloc ?_ _)); exact BK672.out⟩
     have n6_ : Aside0 (((w29.setCell ⟨gb680, 0, none⟩ (.slice Ao30 t673.length co30)).setCell ⟨gb680, 1, none⟩ (.slice Ao33 t676.length co33)).heap[gb680]? = some (.cells #[.slice Ao30 t673.length co30, .slice Ao33 t676.length co33] 48 (0, 0))) := ⟨by (with_reducible repeat (first | refine blk_drewN ?_ _ | refine blk_drew ?_ | refine blk_alloc ?_ _)); refine blk_put (cs := #[.slice Ao30 t673.length co30, .slice none 0 0]) ?_ 1 _ rfl; (with_reducible repeat (first | refine blk_drewN ?_ _ | refine blk_drew ?_ | refine blk_alloc ?_ _)); refine blk_put (cs := #[.slice none 0 0, .slice none 0 0]) ?_ 0 _ rfl; (with_reducible repeat (first | refine blk_drewN ?_ _ | refine blk_drew ?_ | refine blk_alloc ?_ _)); exact BK680.out⟩
     have n7_ : Aside0 (Below w.heap.size w ((w29.setCell ⟨gb680, 0, none⟩ (.slice Ao30 t673.length co30)).setCell ⟨gb680, 1, none⟩ (.slice Ao33 t676.length co33))) := ⟨yB⟩
     (try clear HO664)
     (try clear HO667)
     (try clear HO670)
     (try clear HO675)
     (try clear HO678)
     (try clear BK672)
     (try clear BK680)
     (try clear HB)
     generalize ((w29.setCell ⟨gb680, 0, none⟩ (.slice Ao30 t673.length co30)).setCell ⟨gb680, 1, none⟩ (.slice Ao33 t676.length co33)) = w34 at n0_ n1_ n2_ n3_ n4_ n5_ n6_ n7_ ⊢
     have HO664 := n0_
     have HO667 := n1_
     have HO670 := n2_
     have HO675 := n3_
     have HO678 := n4_
     have BK672 := n5_
     have BK680 := n6_
     have HB := n7_
     clear n0_ n1_ n2_ n3_ n4_ n5_ n6_ n7_
     have n0_ := Aside0.mk (Kd.N_drew HO664.out)
     have n1_ := Aside0.mk (Kd.N_drew HO667.out)
     have n2_ := Aside0.mk (Kd.N_drew HO670.out)
     have n3_ := Aside0.mk (Kd.N_drew HO675.out)
     have n4_ := Aside0.mk (Kd.N_drew HO678.out)
     have n5_ := Aside0.mk (blk_drew BK672.out)
     have n6_ := Aside0.mk (blk_drew BK680.out)
     have n7_ := Aside0.mk (below_drew1 HB.out)
     clear HO664
     clear HO667
     clear HO670
     clear HO675
     clear HO678
     clear BK672
     clear BK680
     clear HB
     have HO664 := n0_
     have HO667 := n1_
     have HO670 := n2_
     have HO675 := n3_
     have HO678 := n4_
     have BK672 := n5_
     have BK680 := n6_
     have HB := n7_
     clear n0_ n1_ n2_ n3_ n4_ n5_ n6_ n7_
     refine start_ (n := 10) (S := fun w' => w'.cell? ⟨gb672, 0, none⟩ = some (.slice Ao24 t665.length co24) ∧ w'.cell? ⟨gb672, 1, none⟩ = some (.slice Ao26 t668.length co26) ∧ w'.cell? ⟨gb680, 0, none⟩ = some (.slice Ao30 t673.length co30) ∧ w'.cell? ⟨gb680, 1, none⟩ = some (.slice Ao33 t676.length co33)) (ds := []) #[false, false, false, false, false, false, false, false, false, false] (by kernel_rfl) rfl rfl ⟨(blk_cell BK672.out 0).trans rfl, (blk_cell BK672.out 1).trans rfl, (blk_cell BK680.out 0).trans rfl, (blk_cell BK680.out 1).trans rfl⟩ (fun hHeld => ?_); refine with_tabW swarflaw43_SubprogramFold.tab5 swarflaw43_SubprogramFold.bits5 (fun HT_ HW_ => ?_)
     generalize w34.drew = w35 at HO664 HO667 HO670 HO675 HO678 BK672 BK680 HB hHeld ⊢
     refine yp 0 34 ?_
     refine yp 1 35 ?_
     refine yp 2 36 ?_
     refine yp 3 37 ?_
     refine yt 4 38 hHeld ?_
     refine yt 6 40 hHeld ?_
     refine one_ (i := 5) (N := some 39) #[true, true, true, true, true, true, true, false, false, false] rfl rfl (one_of HT_.out (by kernel_rfl)) (by decide) (fun K hK => ?_)
     refine goes_ Try.func36 (by kernel_rfl) rfl #[.agg #[.slice Ao24 t665.length co24, .slice Ao26 t668.length co26]] (by rfl) rfl rfl yQ ?_
     with_reducible refine (swarflaw43_back.calls kj3 (fun k_ => (some k_ ≠ (.slice Ao26 t668.length co26 : Value).ownBlock ∧ (some k_ ≠ (.slice Ao30 t673.length co30 : Value).ownBlock ∧ (some k_ ≠ (.slice Ao33 t676.length co33 : Value).ownBlock ∧ (k_ ≠ gb672 ∧ k_ ≠ gb680))))) _ _ t665 (fun k_ => (some k_ ≠ (.slice Ao24 t665.length co24 : Value).ownBlock ∧ (some k_ ≠ (.slice Ao30 t673.length co30 : Value).ownBlock ∧ (some k_ ≠ (.slice Ao33 t676.length co33 : Value).ownBlock ∧ (k_ ≠ gb672 ∧ k_ ≠ gb680))))) _ _ t668 t681 t684 _ ?side1 ?side2 A18.out).mono ?_
     (case side1 => exact Kd.N_V (HO667.out))
     (case side2 => exact Kd.N_V (HO670.out))
     rintro e w36 ⟨v682, v685, rfl, ho0, ho1, hb⟩
     refine ⟨_, rfl, ?_⟩
     have n0_ := Aside0.mk (Kd.N_elder' (by (with_reducible repeat (first | apply Kd.N_alloc | apply Kd.N_drewN | apply Kd.N_drew)); exact HO664.out) (Kd.N_base ho1) hb)
     have n1_ := Aside0.mk (Kd.N_elder' (by (with_reducible repeat (first | apply Kd.N_alloc | apply Kd.N_drewN | apply Kd.N_drew)); exact HO667.out) (Kd.N_base ho1) hb)
     have n2_ := Aside0.mk (Kd.N_elder' (by (with_reducible repeat (first | apply Kd.N_alloc | apply Kd.N_drewN | apply Kd.N_drew)); exact HO670.out) (Kd.N_base ho1) hb)
     have n3_ := Aside0.mk (Kd.N_elder' (by (with_reducible repeat (first | apply Kd.N_alloc | apply Kd.N_drewN | apply Kd.N_drew)); exact HO675.out) (Kd.N_base ho1) hb)
     have n4_ := Aside0.mk (Kd.N_elder' (by (with_reducible repeat (first | apply Kd.N_alloc | apply Kd.N_drewN | apply Kd.N_drew)); exact HO678.out) (Kd.N_base ho1) hb)
     have n5_ := Aside0.mk (Kd.V_lower (Kd.V_mono (ok' := fun k_ => some k_ ≠ (v685 : Value).ownBlock ∧ some k_ ≠ (.slice Ao30 t673.length co30 : Value).ownBlock ∧ some k_ ≠ (.slice Ao33 t676.length co33 : Value).ownBlock ∧ k_ ≠ gb672 ∧ k_ ≠ gb680) ho0 (fun k_ hk_ => ⟨hk_.2, Or.elim hk_.1 (fun hs_ => Or.elim hs_ (fun hs_ => hs_.2.1) (fun hs_ => hs_.2.1)) (fun hn_ => (Kd.fresh' (Kd.N_lt (by (with_reducible repeat (first | apply Kd.N_alloc | apply Kd.N_drewN | apply Kd.N_drew)); exact HO675.out)) k_ hn_)), Or.elim hk_.1 (fun hs_ => Or.elim hs_ (fun hs_ => hs_.2.2.1) (fun hs_ => hs_.2.2.1)) (fun hn_ => (Kd.fresh' (Kd.N_lt (by (with_reducible repeat (first | apply Kd.N_alloc | apply Kd.N_drewN | apply Kd.N_drew)); exact HO678.out)) k_ hn_)), Or.elim hk_.1 (fun hs_ => Or.elim hs_ (fun hs_ => hs_.2.2.2.1) (fun hs_ => hs_.2.2.2.1)) (fun hn_ => (Kd.freshB (g := gb672) (o := .cells #[.slice Ao24 t665.length co24, .slice Ao26 t668.length co26] 54 (0, 0)) yK k_ hn_)), Or.elim hk_.1 (fun hs_ => Or.elim hs_ (fun hs_ => hs_.2.2.2.2) (fun hs_ => hs_.2.2.2.2)) (fun hn_ => (Kd.freshB (g := gb680) (o := .cells #[.slice Ao30 t673.length co30, .slice Ao33 t676.length co33] 48 (0, 0)) yK k_ hn_))⟩)) (below_size yB))
     have n6_ := Aside0.mk (Kd.N_lower (Kd.N_mono (ok' := fun k_ => some k_ ≠ (.slice Ao30 t673.length co30 : Value).ownBlock ∧ some k_ ≠ (.slice Ao33 t676.length co33 : Value).ownBlock ∧ k_ ≠ gb672 ∧ k_ ≠ gb680) ho1 (fun k_ hk_ => ⟨Or.elim hk_ (fun hs_ => Or.elim hs_ (fun hs_ => hs_.2.1) (fun hs_ => hs_.2.1)) (fun hn_ => (Kd.fresh' (Kd.N_lt (by (with_reducible repeat (first | apply Kd.N_alloc | apply Kd.N_drewN | apply Kd.N_drew)); exact HO675.out)) k_ hn_)), Or.elim hk_ (fun hs_ => Or.elim hs_ (fun hs_ => hs_.2.2.1) (fun hs_ => hs_.2.2.1)) (fun hn_ => (Kd.fresh' (Kd.N_lt (by (with_reducible repeat (first | apply Kd.N_alloc | apply Kd.N_drewN | apply Kd.N_drew)); exact HO678.out)) k_ hn_)), Or.elim hk_ (fun hs_ => Or.elim hs_ (fun hs_ => hs_.2.2.2.1) (fun hs_ => hs_.2.2.2.1)) (fun hn_ => (Kd.freshB (g := gb672) (o := .cells #[.slice Ao24 t665.length co24, .slice Ao26 t668.length co26] 54 (0, 0)) yK k_ hn_)), Or.elim hk_ (fun hs_ => Or.elim hs_ (fun hs_ => hs_.2.2.2.2) (fun hs_ => hs_.2.2.2.2)) (fun hn_ => (Kd.freshB (g := gb680) (o := .cells #[.slice Ao30 t673.length co30, .slice Ao33 t676.length co33] 48 (0, 0)) yK k_ hn_))⟩)) (below_size yB))
     have n7_ := Aside0.mk (blk_below (g := gb672) (o := .cells #[.slice Ao24 t665.length co24, .slice Ao26 t668.length co26] 54 (0, 0)) yK hb)
     have n8_ := Aside0.mk (blk_below (g := gb680) (o := .cells #[.slice Ao30 t673.length co30, .slice Ao33 t676.length co33] 48 (0, 0)) yK hb)
     have n9_ := Aside0.mk (below_step yB hb)
     clear HO664
     clear HO667
     clear HO670
     clear HO675
     clear HO678
     clear BK672
     clear BK680
     clear HB
     have HO664 := n0_
     have HO667 := n1_
     have HO670 := n2_
     have HO675 := n3_
     have HO678 := n4_
     have HO683 := n5_
     have HO686 := n6_
     have BK672 := n7_
     have BK680 := n8_
     have HB := n9_
     clear n0_ n1_ n2_ n3_ n4_ n5_ n6_ n7_ n8_ n9_
     (try clear hb)
     (try clear hb2)
     (try clear hk)
     (try clear hi)
     (try clear ho0)
     (try clear ho1)
     obtain ⟨Ao37, co37, eo37⟩ := Kd.V_slice HO683.out
     (first | subst eo37 | (injection eo37 with f1_ f2_ f3_; have f4_ := f1_.symm; have f5_ := f3_.symm; clear f1_ f2_ f3_; subst f4_; subst f5_))
     obtain ⟨Ao38, co38, eo38⟩ := Kd.N_slice HO686.out
     (first | subst eo38 | (injection eo38 with f1_ f2_ f3_; have f4_ := f1_.symm; have f5_ := f3_.symm; clear f1_ f2_ f3_; subst f4_; subst f5_))
     refine hK.out _ _ ⟨(blk_cell BK672.out 0).trans rfl, (blk_cell BK672.out 1).trans rfl, (blk_cell BK680.out 0).trans rfl, (blk_cell BK680.out 1).trans rfl⟩ (fun hHeld => ?_)
     clear hK K
     refine norm_ (a' := ?_) ?_ ?_
     rotate_left
     ·show Act.put _ (some 39) _ = _
      simp only [Act.put, List.setIfInBounds_toArray, List.set_cons_zero, List.set_cons_succ, i64_w, i32_w]
      rfl
     refine one_ (i := 7) (N := some 41) #[true, true, true, true, true, true, true, true, false, false] rfl rfl (one_of HT_.out (by kernel_rfl)) (by decide) (fun K hK => ?_)
     refine goes_ Try.func35 (by kernel_rfl) rfl #[.agg #[.slice Ao37 t681.length co37, .slice Ao38 t684.length co38], .agg #[.slice Ao30 t673.length co30, .slice Ao33 t676.length co33]] (by rfl) rfl rfl yQ ?_
     with_reducible refine (swarfref43_Same.calls kj3 _ _ t681 _ _ t684 _ _ t673 _ _ t676 t687 _ ?side1 ?side2 ?side3 ?side4 ?side5 ?side6 ?side7 ?side8 A19.out).mono ?_
     (case side1 => repeat (first | exact (Kd.V_reads' HO683.out).2.2 | (with_reducible refine Kd.C_alloc ?_ _) | (with_reducible refine Kd.C_drewN ?_ _) | (with_reducible refine Kd.C_drew ?_)))
     (case side2 => exact (Kd.V_reads' HO683.out).2.1)
     (case side3 => repeat (first | exact (Kd.N_reads' HO686.out).2.2 | (with_reducible refine Kd.C_alloc ?_ _) | (with_reducible refine Kd.C_drewN ?_ _) | (with_reducible refine Kd.C_drew ?_)))
     (case side4 => exact (Kd.N_reads' HO686.out).2.1)
     (case side5 => repeat (first | exact (Kd.N_reads' HO675.out).2.2 | (with_reducible refine Kd.C_alloc ?_ _) | (with_reducible refine Kd.C_drewN ?_ _) | (with_reducible refine Kd.C_drew ?_)))
     (case side6 => exact (Kd.N_reads' HO675.out).2.1)
     (case side7 => repeat (first | exact (Kd.N_reads' HO678.out).2.2 | (with_reducible refine Kd.C_alloc ?_ _) | (with_reducible refine Kd.C_drewN ?_ _) | (with_reducible refine Kd.C_drew ?_)))
     (case side8 => exact (Kd.N_reads' HO678.out).2.1)
     rintro e w39 ⟨rfl, hb⟩
     refine ⟨_, rfl, ?_⟩
     have n0_ := Aside0.mk (Kd.N_below (by (with_reducible repeat (first | apply Kd.N_alloc | apply Kd.N_drewN | apply Kd.N_drew)); exact HO664.out) hb)
     have n1_ := Aside0.mk (Kd.N_below (by (with_reducible repeat (first | apply Kd.N_alloc | apply Kd.N_drewN | apply Kd.N_drew)); exact HO667.out) hb)
     have n2_ := Aside0.mk (Kd.N_below (by (with_reducible repeat (first | apply Kd.N_alloc | apply Kd.N_drewN | apply Kd.N_drew)); exact HO670.out) hb)
     have n3_ := Aside0.mk (Kd.N_below (by (with_reducible repeat (first | apply Kd.N_alloc | apply Kd.N_drewN | apply Kd.N_drew)); exact HO675.out) hb)
     have n4_ := Aside0.mk (Kd.N_below (by (with_reducible repeat (first | apply Kd.N_alloc | apply Kd.N_drewN | apply Kd.N_drew)); exact HO678.out) hb)
     have n5_ := Aside0.mk (Kd.V_below (by (with_reducible repeat (first | apply Kd.V_alloc | apply Kd.V_drewN | apply Kd.V_drew)); exact HO683.out) hb)
     have n6_ := Aside0.mk (Kd.N_below (by (with_reducible repeat (first | apply Kd.N_alloc | apply Kd.N_drewN | apply Kd.N_drew)); exact HO686.out) hb)
     have n7_ := Aside0.mk (blk_below (g := gb672) (o := .cells #[.slice Ao24 t665.length co24, .slice Ao26 t668.length co26] 54 (0, 0)) yK hb)
     have n8_ := Aside0.mk (blk_below (g := gb680) (o := .cells #[.slice Ao30 t673.length co30, .slice Ao33 t676.length co33] 48 (0, 0)) yK hb)
     have n9_ := Aside0.mk (below_step yB hb)
     clear HO664
     clear HO667
     clear HO670
     clear HO675
     clear HO678
     clear HO683
     clear HO686
     clear BK672
     clear BK680
     clear HB
     have HO664 := n0_
     have HO667 := n1_
     have HO670 := n2_
     have HO675 := n3_
     have HO678 := n4_
     have HO683 := n5_
     have HO686 := n6_
     have BK672 := n7_
     have BK680 := n8_
     have HB := n9_
     clear n0_ n1_ n2_ n3_ n4_ n5_ n6_ n7_ n8_ n9_
     (try clear hb)
     (try clear hb2)
     (try clear hk)
     (try clear hi)
     refine hK.out _ _ ⟨(blk_cell BK672.out 0).trans rfl, (blk_cell BK672.out 1).trans rfl, (blk_cell BK680.out 0).trans rfl, (blk_cell BK680.out 1).trans rfl⟩ (fun hHeld => ?_)
     clear hK K
     refine norm_ (a' := ?_) ?_ ?_
     rotate_left
     ·show Act.put _ (some 41) _ = _
      simp only [Act.put, List.setIfInBounds_toArray, List.set_cons_zero, List.set_cons_succ, i64_w, i32_w]
      rfl
     refine yp 8 42 ?_
     refine yp 9 6 ?_
     refine done_ (done_of HT_.out (by kernel_rfl)) ?_
     try go_wp2
     go_ret
     exact ⟨by first | rfl | (simp [errW_none, errW_some] <;> rfl) | (simp [*, errW_none, errW_some] <;> rfl), yB⟩
    ·rw [if_neg c17] at H
     have c17b0 : (t671 == t679) = false := beq_eq_false_iff_ne.mpr c17
     have c17b1 : (t671 != t679) = true := bne_iff_ne.mpr c17
     exact absurd H (by simp)
end Go.Proofs.Ytehkhbnhmehobaa.P
namespace Go.Proofs.Ytehkhbnhmehobaa.P
set_option linter.unusedVariables false
open Go.RowKit Go.Proofs.YtehkhbnhmehobaaW.PrintWords Go.Proofs.YtehkhbnhmehobaaW.PrintLast Go.Proofs.YtehkhbnhmehobaaW.PrintMore
theorem wf_I64 {a : Int} (h : (Lit.int .i64 a).wf = true) : I64 a := by
  unfold I64
  have h2 : IntKind.i64.min ≤ a ∧ a ≤ IntKind.i64.max := by simpa [Lit.wf] using h
  have e1 : IntKind.i64.min = -9223372036854775808 := by decide
  have e2 : IntKind.i64.max = 9223372036854775807 := by decide
  omega
theorem pure_SubprogramFold (l : List Bk) (num n : Int) (hm : l.length ≤ maxLen) (hb : ∀ b ∈ l, okBlock b) (hnum : (Lit.int .i64 num).wf = true) (hn0 : (Lit.int .i64 n).wf = true) : ∃ k, swarflaw43_SubprogramFold.f k l num n = some true := by
  refine Ev.get (g := fun k => swarflaw43_SubprogramFold.f k l num n) ?_
  have hn : I64 n := wf_I64 hn0
  unfold swarflaw43_SubprogramFold.f
  obtain ⟨r, h1, h2⟩ := valid_ev l 40 (by unfold maxLen at hm; omega) hb
  have aw : swarflaw43_awake.f = some true := rfl
  rw [aw]
  refine Ev.bind Ev.some (Ev.pos rfl (Ev.bind h1 (Ev.step (fun k => by rw [swarflaw43_SubprogramFold.j0]) ?_)))
  cases r with
  | false =>
    refine Ev.pos rfl ?_
    rw [aw]
    exact Ev.bind Ev.some Ev.some
  | true =>
    obtain ⟨hl, hg⟩ := h2 rfl
    refine Ev.neg (by decide) ?_
    have clone : Clone_Block.f l = some l := by unfold Clone_Block.f; rw [if_pos (by omega)]
    rw [clone]
    refine Ev.bind Ev.some (Ev.bind (FoldO_ev (by omega) hg num n hn) (Ev.bind (FoldR_ev (by omega) hg num n hn) (Ev.pos rfl ?_)))
    have hsub : (foldSpec l num n).2.1.length ≤ 1 ∧ (∀ x ∈ (foldSpec l num n).2.1, ∀ b ∈ x.2, b ∈ l) ∧ (∀ x ∈ (foldSpec l num n).2.1, x.2.length ≤ l.length) ∧ (foldSpec l num n).1.length ≤ 1000 ∧ ∀ b ∈ (foldSpec l num n).1, b.f1.length ≤ 1000000 := by
      have hlb : ∀ b ∈ l, b.f1.length ≤ 1000000 := fun b hb => (hg b hb).len
      unfold foldSpec
      split
      · simp
      · split
        · exact ⟨by simp, by simp, by simp, (show l.length ≤ 1000 by omega), hlb⟩
        · rename_i a _
          refine ⟨by simp, fun x hx b hbx => ?_, fun x hx => ?_, ?_, fun b hbx => ?_⟩
          · rw [List.mem_singleton] at hx; subst hx; exact List.mem_of_mem_take (List.mem_of_mem_drop hbx)
          · rw [List.mem_singleton] at hx; subst hx; simp; omega
          · have := mainB_len l num a n.toNat (by omega) (l.length + 1) 0 [] (by omega)
            simp at this; show (mainB _ _ _ _ _ _ _).length ≤ 1000; omega
          · rcases mainB_mem l num a n.toNat _ _ _ b hbx with h | h | h
            · cases h
            · subst h; simp [callB]
            · exact hlb b h
    have e1 : (toO (foldSpec l num n).2.1).length ≤ 1000000 := by unfold toO; rw [List.length_map]; omega
    refine Ev.bind (back_ev _ _ e1) ?_
    rw [toO_back]
    refine Ev.bind (SameR_refl _ _ ⟨Nat.le_trans hsub.2.2.2.1 (by omega), fun b hb => Nat.le_trans (hsub.2.2.2.2 b hb) (by omega)⟩ (by unfold toR; rw [List.length_map]; omega) (fun x hx => ?_)) Ev.some
    unfold toR at hx
    obtain ⟨y, hy, rfl⟩ := List.mem_map.mp hx
    exact ⟨by have := hsub.2.2.1 y hy; show y.2.length ≤ _; omega, fun b hb => by have := (hg b (hsub.2.1 y hy b hb)).len; omega⟩
end Go.Proofs.Ytehkhbnhmehobaa.P
namespace Go.Proofs.Ytehkhbnhmehobaa.subprogramFold
open Go.ChangeShapes Go.WideShapes Go.ChangeAt Go.RowKit
open Go.ChangeMaps (open_string shut_string)
set_option linter.unusedVariables false
theorem own : ownKnob Try.prog.godebug = none := by kernel_rfl
theorem laidOut : laidOutB Try.prog = true := by kernel_rfl
set_option maxRecDepth 100000 in
theorem lifted (os : Os) (started : os.Started) (H : Type) (enc : TypeId × Value → H) :
    ReturnsInHanded {} Try.checked os 7 .any (Rows.subprogramFoldSpec.pre6 enc Try.prog Try.f7 Rows.subprogramFoldRow.domain false) (Rows.subprogramFoldSpec.post enc Try.prog Try.f7 false true false false) := by
  refine returnsInHanded_of_change_sized (C := Try.checked) own started (by kernel_rfl) Try.func7
    (ChangeSpec.witness6 (enc := enc) (C := Try.checked) false ⟨#[], #[.slice none 0 0, .int .i64 0, .int .i64 0], []⟩ 8 (by kernel_rfl) (by kernel_rfl) (by kernel_rfl) (by kernel_rfl)) ?_
  intro W base args ds gs before hval0 hW hcnd hsz0 _
  have hsz : (DataW.weightsEach Try.prog (Try.f7.params.toList ++ Rows.subprogramFoldSpec.plain.varTypes Try.prog) (ds ++ gs)).all (· ≤ reachBytes) = true := hsz0
  have hval : ∀ (j : Nat) t v, Try.f7.params[j]? = some t → args[j]? = some v → Value.okWide Try.prog W .any base t v := hval0
  have hW' := hW
  obtain ⟨p, q, hA0, hV, rfl, hfz, hnd⟩ := hW
  have hA : DataW.TrodAll enc Try.prog W 0 (fun _ => true) true Try.f7.params.toList args.toList ds p := hA0
  rw [Try.params7] at hA hval hsz
  obtain ⟨v0, vs0, d0, ds0, p0, q0, hargs, rfl, rfl, h0, r0⟩ := trodAll_cons hA
  obtain ⟨v1, vs1, d1, ds1, p1, q1, rfl, rfl, rfl, h1, r1⟩ := trodAll_cons r0
  obtain ⟨v2, vs2, d2, ds2, p2, q2, rfl, rfl, rfl, h2, r2⟩ := trodAll_cons r1
  obtain ⟨rfl, rfl, rfl⟩ := trodAll_nil r2
  obtain rfl : args = #[v0, v1, v2] := by cases args; simp_all
  obtain ⟨rfl, rfl⟩ := trodVars_none hV
  have k0 := h0
  have lt0 : ∀ x ∈ p0, x.block < W.heap.size := by obtain ⟨m, hm⟩ := k0; exact DataW.trod_lt m _ _ _ hm
  obtain ⟨b0, A0, c0, rfl, l0, r0_, m0, w0⟩ := P.arg_Blocks (hval 0 35 v0 rfl rfl) h0
  obtain ⟨a1, rfl, rfl, rfl, w1⟩ := open_int Try.underlying2 (hval 1 2 v1 rfl rfl) h1
  obtain ⟨a2, rfl, rfl, rfl, w2⟩ := open_int Try.underlying3 (hval 2 3 v2 rfl rfl) h2
  clear hA0 hval0 hsz0 hsz
  obtain ⟨k_, pure_⟩ := P.pure_SubprogramFold b0 a1 a2 m0 w0 w1 w2
  refine (P.swarflaw43_SubprogramFold.calls k_ A0 c0 b0 a1 a2 true W r0_ l0 pure_).mono fun e W' ⟨he, bel⟩ => ?_
  subst he
  exact ⟨_, rfl, _, _, _, [], _, [], hW', trodAll_mk1 (shut_bool Try.underlying4 _), (trodAll_cons_mk (Below.trod laidOut (by kernel_rfl) (of_decide_eq_true (by kernel_rfl)) k0 bel lt0) (trodAll_cons_mk (shut_int Try.underlying2 w1) (trodAll_cons_mk (shut_int Try.underlying3 w2) trodAll_mk0))), rfl, bel.frame _, fun h => by cases h⟩
theorem over : Rows.subprogramFoldRow.holds Try.pinned (OpenSpec.ofChange Rows.subprogramFoldSpec) :=
  OpenClaim.holds_of_wide 7 Try.f7 rfl rfl rfl rfl rfl rfl rfl ⟨rfl, rfl, rfl, rfl, rfl⟩ rfl rfl rfl rfl rfl (by kernel_rfl) Try.func7 (by kernel_rfl)
    (of_decide_eq_true (by kernel_rfl)) (by unfold Func.isWrapper; first | (rw [if_pos (by decide +kernel)]; kernel_rfl) | (rw [if_neg (by decide +kernel)]; exact ⟨rfl, rfl⟩))
    (fun os started H enc _ => lifted os started H enc)
theorem proved : Rows.SubprogramFoldSaid := over
#print axioms proved
end Go.Proofs.Ytehkhbnhmehobaa.subprogramFold
namespace Go.Proofs.Ytehkhbnhmehobaa
theorem subprogramFold_holds : Rows.SubprogramFoldSaid := subprogramFold.proved
end Go.Proofs.Ytehkhbnhmehobaa
