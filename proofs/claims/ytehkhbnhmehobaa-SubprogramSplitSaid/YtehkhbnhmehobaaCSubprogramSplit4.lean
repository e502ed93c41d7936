/- A part of the proof of SubprogramSplit. -/

import Derived.Test.YtehkhbnhmehobaaCSubprogramSplit1
import Derived.Test.YtehkhbnhmehobaaCSubprogramSplit2
import Derived.Test.YtehkhbnhmehobaaCSubprogramSplit3
namespace Go.Proofs.Ytehkhbnhmehobaa.P
open Go.RowKit Go.Proofs.YtehkhbnhmehobaaW.PrintWords Go.Proofs.YtehkhbnhmehobaaW.PrintLast Go.Proofs.YtehkhbnhmehobaaW.PrintMore
attribute [local go_sem] max2_int min2_int max_two min_two max_three min_three max_four min_four
set_option linter.unusedVariables false
set_option linter.unusedSimpArgs false
def subprogram_Split.l0 : Nat → List (S32) → List (S32) → List (S81) → Option ((List (S32)) × (List (S81)) × Int)
 | 0, _, _, _ => none
 | k + 1, x6, x466000, x466001 => if (x6.length : Int) > 0 then (if 0 < (x6.length : Int) then ((subprogram_beginning.f ((rd_T32 x6 0).f0) ((rd_T32 x6 0).f1) ((rd_T32 x6 0).f2)).bind fun bt472 => ((IndexFunc_back.f k x6).bind fun t474 => (if bt472.2 = true then (if t474 < 0 then (some (([] : List (S32)), ([] : List (S81)), 1)) else (if 1 ≤ t474 then (if t474 ≤ (x6.length : Int) then ((Clone_Block.f ((x6.take (t474 : Int).toNat).drop 1)).bind fun t480 => (if x466001.length < 4398046511104 then (if 0 ≤ (wrap64 (t474 + 1)) then (if (wrap64 (t474 + 1)) ≤ (x6.length : Int) then (subprogram_Split.l0 k (x6.drop ((wrap64 (t474 + 1)) : Int).toNat) x466000 (x466001 ++ [(⟨bt472.1, t480⟩ : S81)])) else (none)) else (none)) else (none))) else (none)) else (none))) else (some (([] : List (S32)), ([] : List (S81)), 1))))) else (none)) else ((subprogram_ordered.f k x466000 x466001).bind fun t491 => (if t491 = true then ((subprogram_repeated.f x466001).bind fun t492 => (if t492 = true then (some (([] : List (S32)), ([] : List (S81)), 5)) else (some (x466000, x466001, 0)))) else (some (([] : List (S32)), ([] : List (S81)), 1))))
def subprogram_Split.f (k : Nat) (l0 : List (S32)) : Option ((List (S32)) × (List (S81)) × Int) := (IndexFunc_end.f k l0).bind fun t456 => (if t456 < 0 then (some (([] : List (S32)), ([] : List (S81)), 1)) else (if 0 ≤ (wrap64 (t456 + 1)) then (if (wrap64 (t456 + 1)) ≤ (l0.length : Int) then ((Clone_Block.f (l0.take ((wrap64 (t456 + 1)) : Int).toNat)).bind fun t462 => (subprogram_Split.l0 k (l0.drop ((wrap64 (t456 + 1)) : Int).toNat) t462 ([] : List (S81)))) else (none)) else (none)))
def subprogram_Split.T11 : Bool × List (List Nat × List Nat) := (true, [([], []), ([0], [0]), ([], []), ([], []), ([], []), ([3, 4], [3, 4]), ([5], [5]), ([2, 6], [2, 6]), ([7], [7]), ([1, 8, 6], [1, 8]), ([0, 1, 2, 3, 4, 5, 6, 7, 8, 9], []), ([10, 9, 9, 0, 1, 2, 3, 4, 5, 6, 7, 8, 9], [9, 10])])
def subprogram_Split.B11 : List Nat := [0, 1, 0, 0, 0, 24, 56, 124, 252, 511, 1023, 2047]
theorem subprogram_Split.tab11 : rtab .any (opsOf Try.f45 11) = subprogram_Split.T11 := by kernel_rfl
theorem subprogram_Split.bits11 : waitsOk subprogram_Split.T11.2 subprogram_Split.B11 = true := by kernel_rfl
set_option maxHeartbeats 8000000 in
set_option maxRecDepth 100000 in
theorem subprogram_Split.calls (k : Nat) (P0_ : Nat → Prop) (A0 : Option Addr) (c0 : Nat) (l0 : List (S32)) (r1 : List (S32)) (r2 : List (S81)) (r3 : Int) (w : World) (hs0 : Kd.V k32 32 w w.heap.size (fun k_ => P0_ k_) (.slice A0 l0.length c0) l0) (h : subprogram_Split.f k l0 = some (r1, r2, r3)) :
  Calls Try.prog 45 #[.slice A0 l0.length c0] w fun e w' => ∃ v0_ v1_ : Value, e = .returned (.tuple #[.agg #[v0_, v1_], .int .i64 r3]) ∧ Kd.N k32 32 w' w.heap.size (fun k_ => (P0_ k_ ∨ w.heap.size ≤ k_) ∧ some k_ ≠ (v1_ : Value).ownBlock) v0_ r1 ∧ Kd.N k81 81 w' w.heap.size (fun k_ => (P0_ k_ ∨ w.heap.size ≤ k_) ∧ some k_ ≠ (v0_ : Value).ownBlock) v1_ r2 ∧ Below w.heap.size w w' := by
 have hu54 := Try.underlying54
 have hu32 := Try.underlying32
 have hu81 := Try.underlying81
 have HO0 := Aside0.mk (show Kd.V k32 32 w w.heap.size (fun k_ => (P0_ k_ ∨ w.heap.size ≤ k_)) (.slice A0 l0.length c0) l0 from Kd.V_mono hs0 (fun k_ hk => .inl hk))
 have HB := Aside0.mk (Below.refl w.heap.size w)
 have H : ((IndexFunc_end.f k l0).bind fun t456 => (if t456 < 0 then (some (([] : List (S32)), ([] : List (S81)), 1)) else (if 0 ≤ (wrap64 (t456 + 1)) then (if (wrap64 (t456 + 1)) ≤ (l0.length : Int) then ((Clone_Block.f (l0.take ((wrap64 (t456 + 1)) : Int).toNat)).bind fun t462 => (subprogram_Split.l0 k (l0.drop ((wrap64 (t456 + 1)) : Int).toNat) t462 ([] : List (S81)))) else (none)) else (none)))) = some (r1, r2, r3) := h
 clear h
 replace H := Option.bind_eq_some_iff.mp H
 obtain ⟨t456, A20, H⟩ := H
 have A2 := Aside0.mk A20
 clear A20
 by_cases c3 : t456 < 0
 ·rw [if_pos c3] at H
  have c3b0 := decide_eq_true c3
  clear c3
  simp only [Option.some.injEq, Prod.mk.injEq] at H
  obtain ⟨rfl, rfl, rfl⟩ := H
  go_enter Try.func45, Try.ntmps45
  go_wp2_with (first | ((with_reducible refine gate_dst (N := 2) rfl ?_); refine yX 2 #[.slice none 0 0, .slice none 0 0] 54 ?_; intro gb455 hg w4 hbox hb; replace HO0 := Aside0.mk (Kd.V_below (Kd.V_elderB (yV HO0.out) gb455 (Nat.le_of_eq hg.symm)) hb); have BK455 := Aside0.mk (hbox); have GW455 := Aside0.mk ((yG hg : w.heap.size ≤ gb455)); have GE455 := Aside0.mk ((yG hg : w.heap.size ≤ gb455)); replace HB := Aside0.mk (below_step yB hb); clear hb hbox hg) | ((with_reducible refine gate_callee (f := 73) rfl ?_); refine goesL_ (some 11) rfl rfl Try.func73 (by kernel_rfl) rfl #[.slice A0 l0.length c0, .func (.func 75) #[] #[]] rfl yQ ?_; (with_reducible refine (IndexFunc_end.calls k _ _ l0  t456 _ ?side1 ?side2 A2.out).mono ?_); (case side1 => repeat (first | exact (Kd.V_reads' HO0.out).2.2 | (with_reducible refine Kd.C_alloc ?_ _) | (with_reducible refine Kd.C_drewN ?_ _) | (with_reducible refine Kd.C_drew ?_))); (case side2 => exact (Kd.V_reads' HO0.out).2.1); rintro e w5 ⟨rfl, hb⟩; refine ⟨_, rfl, ?_⟩; replace HO0 := Aside0.mk (Kd.V_below (yV HO0.out) hb); replace BK455 := Aside0.mk (blk_below (g := gb455) yK hb); replace HB := Aside0.mk (below_step yB hb); (try clear hb); have hcz6_0 := yZ0 BK455.out; have hcz6_1 := yZ1 BK455.out; have hfz6_0 := blk_frozen BK455.out 0; have hfz6_1 := blk_frozen BK455.out 1))
  refine bodyPost_ret (results_ct rfl _ _ gb455 54 #[.slice none 0 0, .slice none 0 0] (0, 0) _ rfl (by refine yH ?_; refine blk_put (cs := #[.slice none 0 0, .slice none 0 0]) ?_ 1 _ rfl; refine yH ?_; refine blk_put (cs := #[.slice none 0 0, .slice none 0 0]) ?_ 0 _ rfl; refine yH ?_; exact BK455.out) Try.underlying54 rfl (by kernel_rfl)) rfl ?_
  exact ⟨_, _, yE, by first | exact Kd.S_nil _ _ _ _ _ | exact Kd.N_nil _ _ _ _ _ | exact Kd.V_nil _ _ _ _ _ | exact Kd.Q_nil _ _ _ _ _ | exact Kd.R_nil _ _ _ _ _, by first | exact Kd.R_nil _ _ _ _ _ | exact Kd.N_nil _ _ _ _ _ | exact Kd.V_nil _ _ _ _ _ | exact Kd.Q_nil _ _ _ _ _ | exact Kd.S_nil _ _ _ _ _, yB⟩
 rw [if_neg c3] at H
 have c3b0 := decide_eq_false c3
 clear c3
 obtain ⟨ji7, hji7⟩ : ∃ j_ : Int, (wrap64 (t456 + 1)) = j_ := ⟨_, rfl⟩
 replace H : (if 0 ≤ (ji7) then (if (ji7) ≤ (l0.length : Int) then ((Clone_Block.f (l0.take ((ji7) : Int).toNat)).bind fun t462 => (subprogram_Split.l0 k (l0.drop ((ji7) : Int).toNat) t462 ([] : List (S81)))) else (none)) else (none)) = some (r1, r2, r3) := by first | (rw [hji7] at H; exact H) | (simp only [hji7] at H ⊢; exact H)
 (try rw [hji7] at A2)
 have hji7w : (IntKind.i64.wrap (t456 + 1)) = ji7 := (i64_w _).trans hji7
 by_cases c8 : 0 ≤ (ji7)
 ·rw [if_pos c8] at H
  have c8b0 := eq_true c8
  have c8b1 := decide_eq_true c8
  clear c8
  by_cases c9 : (ji7) ≤ (l0.length : Int)
  ·rw [if_pos c9] at H
   have c9b0 := eq_true c9
   have c9b1 := decide_eq_true c9
   clear c9
   obtain ⟨y457, hy457⟩ : ∃ y_ : List (S32), y_ = (l0.take ((ji7) : Int).toNat) := ⟨_, rfl⟩
   replace H : ((Clone_Block.f y457).bind fun t462 => (subprogram_Split.l0 k (l0.drop ((ji7) : Int).toNat) t462 ([] : List (S81)))) = some (r1, r2, r3) := by first | (rw [hy457]; with_reducible exact H) | (have H2_ := (Option.bind_some _ _).symm.trans H; rw [hy457]; with_reducible exact H2_) | (have H2_ := (Option.bind_some _ _).symm.trans H; with_reducible exact H2_) | with_reducible exact H | (rw [hy457]; exact H) | exact H
   have Ny457 := Aside0.mk hy457
   clear hy457
   replace H := Option.bind_eq_some_iff.mp H
   obtain ⟨t462, A100, H⟩ := H
   have A10 := Aside0.mk A100
   clear A100
   have c11b0 := eq_true (yD : 0 ≤ (ji7))
   have c12b0 := eq_true (yD : (ji7) ≤ (l0.length : Int))
   obtain ⟨y466, hy466⟩ : ∃ y_ : List (S32), y_ = (l0.drop ((ji7) : Int).toNat) := ⟨_, rfl⟩
   replace H : (subprogram_Split.l0 k y466 t462 ([] : List (S81))) = some (r1, r2, r3) := by first | (rw [hy466]; with_reducible exact H) | (have H2_ := (Option.bind_some _ _).symm.trans H; rw [hy466]; with_reducible exact H2_) | (have H2_ := (Option.bind_some _ _).symm.trans H; with_reducible exact H2_) | with_reducible exact H | (rw [hy466]; exact H) | exact H
   have Ny466 := Aside0.mk hy466
   clear hy466
   have H' := Aside0.mk H
   clear H
   go_enter Try.func45, Try.ntmps45
   go_wp2_with (first | ((with_reducible refine gate_dst (N := 2) rfl ?_); refine yX 2 #[.slice none 0 0, .slice none 0 0] 54 ?_; intro gb455 hg w13 hbox hb; replace HO0 := Aside0.mk (Kd.V_below (Kd.V_elderB (yV HO0.out) gb455 (Nat.le_of_eq hg.symm)) hb); have BK455 := Aside0.mk (hbox); have GW455 := Aside0.mk ((yG hg : w.heap.size ≤ gb455)); have GE455 := Aside0.mk ((yG hg : w.heap.size ≤ gb455)); replace HB := Aside0.mk (below_step yB hb); clear hb hbox hg) | ((with_reducible refine gate_callee (f := 73) rfl ?_); refine goesL_ (some 11) rfl rfl Try.func73 (by kernel_rfl) rfl #[.slice A0 l0.length c0, .func (.func 75) #[] #[]] rfl yQ ?_; (with_reducible refine (IndexFunc_end.calls k _ _ l0  t456 _ ?side1 ?side2 A2.out).mono ?_); (case side1 => repeat (first | exact (Kd.V_reads' HO0.out).2.2 | (with_reducible refine Kd.C_alloc ?_ _) | (with_reducible refine Kd.C_drewN ?_ _) | (with_reducible refine Kd.C_drew ?_))); (case side2 => exact (Kd.V_reads' HO0.out).2.1); rintro e w14 ⟨rfl, hb⟩; refine ⟨_, rfl, ?_⟩; replace HO0 := Aside0.mk (Kd.V_below (yV HO0.out) hb); replace BK455 := Aside0.mk (blk_below (g := gb455) yK hb); replace HB := Aside0.mk (below_step yB hb); (try clear hb); have q15 : ((ji7) : Int) ≤ ((l0.length : Int) : Int) := yD; obtain ⟨i015, hi015, _, hsz15, _⟩ := info_parts info32; have hroom15 : l0.length ≤ c0 := (Kd.V_reads' HO0.out).2.1; have hC15 : Kd.F k32 _ _ A0 l0.length l0 := (Kd.V_at (base := w.heap.size) HO0.out).2.2; have hcut15 := cut_to (P := Try.prog) 35 32 .i64 Try.underlying35 hi015 A0 l0.length c0 (ji7) (yD) q15 hroom15; have hr15 := Kd.F_take (m := ((ji7) : Int).toNat) hC15 (by omega); have hy15 : y457.length = ((ji7) : Int).toNat := (by rw [Ny457.out, List.length_take]; omega); rw [← Ny457.out] at hr15; rw [← hy15] at hcut15; have HO461 := Aside0.mk (show Kd.V k32 32 _ w.heap.size _ (.slice A0 y457.length c0) y457 from Kd.V_mk (by omega) hr15); have HC461 := Aside0.mk (show y457.length ≤ c0 from by omega); clear hr15 hC15 hroom15 hi015 hsz15; have KY15 := Aside0.mk hy15; clear hy15; replace q15 := eq_true q15) | ((with_reducible refine gate_callee (f := 33) rfl ?_); refine goesL_ (some 19) rfl rfl Try.func33 (by kernel_rfl) rfl #[.slice A0 y457.length c0] rfl yQ ?_; (with_reducible refine (Clone_Block.calls (fun k_ => ((P0_ k_ ∨ w.heap.size ≤ k_) ∧ k_ ≠ gb455)) _ _ y457 t462 _ ?side1 A10.out).mono ?_); (case side1 => exact HO461.out); rintro e w16 ⟨v463, rfl, ho0, hb⟩; refine ⟨_, rfl, ?_⟩; replace HO0 := Aside0.mk (Kd.V_elder' (yV HO0.out) (by first | exact Kd.N_base ho0 | exact Kd.S_base ho0) hb); replace HO461 := Aside0.mk (Kd.V_elder' (yV HO461.out) (by first | exact Kd.N_base ho0 | exact Kd.S_base ho0) hb); have HO464 := Aside0.mk (Kd.N_lower (Kd.N_mono (ok' := fun k_ => (P0_ k_ ∨ w.heap.size ≤ k_) ∧ k_ ≠ gb455) ho0 (fun k_ hk_ => ⟨Or.elim hk_ (fun hs_ => hs_.1) (fun hn_ => (.inr (Nat.le_trans (below_size yB) hn_))), Or.elim hk_ (fun hs_ => hs_.2) (fun hn_ => (Kd.freshB (g := gb455) yK k_ hn_))⟩)) (below_size yB)); replace BK455 := Aside0.mk (blk_below (g := gb455) yK hb); replace HB := Aside0.mk (below_step yB hb); (try clear hb); (try clear ho0); obtain ⟨Ao17, co17, eo17⟩ := Kd.N_slice HO464.out; subst eo17) | ((with_reducible refine gate_dst (N := 5) rfl ?_); refine yX 5 #[.slice none 0 0, .slice none 0 0] 54 ?_; intro gb465 hg w18 hbox hb; replace HO0 := Aside0.mk (Kd.V_below (Kd.V_elderB (yV HO0.out) gb465 (Nat.le_of_eq hg.symm)) hb); replace HO461 := Aside0.mk (Kd.V_below (Kd.V_elderB (yV HO461.out) gb465 (Nat.le_of_eq hg.symm)) hb); replace HO464 := Aside0.mk (Kd.N_below (Kd.N_elderB (yN HO464.out) gb465 (Nat.le_of_eq hg.symm)) hb); have BK465 := Aside0.mk (hbox); have GE465 := Aside0.mk ((yG hg : w.heap.size ≤ gb465)); replace HB := Aside0.mk (below_step yB hb); have NB455_465 := Aside0.mk ((yJ hg yK : gb455 ≠ gb465)); have NB465_455 := Aside0.mk ((yI hg yK : gb465 ≠ gb455)); replace BK455 := Aside0.mk (blk_below (g := gb455) yK hb); clear hb hbox hg; have hnb19 := NB465_455.out; have hnc19 := NB455_465.out; have hcz20_0 := yZ0 BK465.out; have hcz20_1 := yZ1 BK465.out; have hfz20_0 := blk_frozen BK465.out 0; have hfz20_1 := blk_frozen BK465.out 1) | ((with_reducible refine gate_store (t := 54) (p := 5) rfl ?_); refine store_event (t := 54) (p := 5) (v := ?vo_w21) (w1 := ((w18.setCell ⟨gb465, 0, none⟩ (.slice Ao17 t462.length co17)).setCell ⟨gb465, 1, none⟩ (.slice none 0 0))) ?hg ?ho ?hn ?hr ?_; (case ho => rfl); (case hg => rfl); (case hn => rfl); (case hr => first | (go_simp; done) | (go_simp; rfl)); intro w21 hw; have n0_ : Aside0 (Kd.V k32 32 w21 w.heap.size (fun k_ => (P0_ k_ ∨ w.heap.size ≤ k_) ∧ some k_ ≠ (.slice Ao17 t462.length co17 : Value).ownBlock ∧ k_ ≠ gb455 ∧ k_ ≠ gb465) (.slice A0 l0.length c0) l0) := ⟨(by rw [hw]; exact (yV (Kd.V_mono (Kd.V_far (p := ⟨gb465, 1, none⟩) (Kd.V_far (p := ⟨gb465, 0, none⟩) (Kd.V_mono HO0.out (fun k_ hk => (⟨hk, hk.2⟩ : _ ∧ k_ ≠ gb465))) (fun _ hk => hk.2) (.slice Ao17 t462.length co17)) (fun _ hk => hk.2) (.slice none 0 0)) (fun _ hk => ⟨hk.1.1.1.1, ⟨hk.1.1.2, ⟨hk.1.1.1.2, hk.1.2⟩⟩⟩))))⟩; have n1_ : Aside0 (Kd.V k32 32 w21 w.heap.size (fun k_ => (P0_ k_ ∨ w.heap.size ≤ k_) ∧ some k_ ≠ (.slice Ao17 t462.length co17 : Value).ownBlock ∧ k_ ≠ gb455 ∧ k_ ≠ gb465) (.slice A0 y457.length c0) y457) := ⟨(by rw [hw]; exact (yV (Kd.V_mono (Kd.V_far (p := ⟨gb465, 1, none⟩) (Kd.V_far (p := ⟨gb465, 0, none⟩) (Kd.V_mono HO461.out (fun k_ hk => (⟨hk, hk.2⟩ : _ ∧ k_ ≠ gb465))) (fun _ hk => hk.2) (.slice Ao17 t462.length co17)) (fun _ hk => hk.2) (.slice none 0 0)) (fun _ hk => ⟨hk.1.1.1.1, ⟨hk.1.1.2, ⟨hk.1.1.1.2, hk.1.2⟩⟩⟩))))⟩; have n2_ : Aside0 (Kd.N k32 32 w21 w.heap.size (fun k_ => (P0_ k_ ∨ w.heap.size ≤ k_) ∧ k_ ≠ gb455 ∧ k_ ≠ gb465) (.slice Ao17 t462.length co17) t462) := ⟨(by rw [hw]; exact (yN (Kd.N_mono (Kd.N_far (p := ⟨gb465, 1, none⟩) (Kd.N_far (p := ⟨gb465, 0, none⟩) (Kd.N_mono HO464.out (fun k_ hk => (⟨hk, hk.2⟩ : _ ∧ k_ ≠ gb465))) (fun _ hk => hk.2) (.slice Ao17 t462.length co17)) (fun _ hk => hk.2) (.slice none 0 0)) (fun _ hk => ⟨hk.1.1.1, ⟨hk.1.1.2, hk.1.2⟩⟩))))⟩; have n3_ : Aside0 (w21.heap[gb455]? = some (.cells #[.slice none 0 0, .slice none 0 0] 54 (0, 0))) := ⟨(by rw [hw]; exact (by refine yH ?_; refine blk_far ?_ NB455_465.out _; refine yH ?_; refine blk_far ?_ NB455_465.out _; refine yH ?_; exact BK455.out))⟩; have n4_ : Aside0 (w21.heap[gb465]? = some (.cells #[.slice Ao17 t462.length co17, .slice none 0 0] 54 (0, 0))) := ⟨(by rw [hw]; exact (by refine yH ?_; refine blk_put (cs := #[.slice Ao17 t462.length co17, .slice none 0 0]) ?_ 1 _ rfl; refine yH ?_; refine blk_put (cs := #[.slice none 0 0, .slice none 0 0]) ?_ 0 _ rfl; refine yH ?_; exact BK465.out))⟩; have n5_ : Aside0 (Below w.heap.size w w21) := ⟨(by rw [hw]; exact yB)⟩; clear hw; clear HO0; clear HO461; clear HO464; clear BK455; clear BK465; clear HB; have HO0 := n0_; have HO461 := n1_; have HO464 := n2_; have BK455 := n3_; have BK465 := n4_; have HB := n5_; clear n0_ n1_ n2_ n3_ n4_ n5_; have q22 : ((ji7) : Int) ≤ ((l0.length : Int) : Int) := yD; obtain ⟨i022, hi022, _, hsz22, _⟩ := info_parts info32; have hroom22 : l0.length ≤ c0 := (Kd.V_reads' HO0.out).2.1; have hC22 : Kd.F k32 _ _ A0 l0.length l0 := (Kd.V_at (base := w.heap.size) HO0.out).2.2; have q022 : (0 : Int) ≤ ((ji7) : Int) := yD; have hcut22 := cut_from (P := Try.prog) 35 32 .i64 Try.underlying35 hi022 3 hsz22 A0 l0.length c0 (ji7) q022 q22; have hr22 := Kd.F_cut (m := ((ji7) : Int).toNat) (c := c0) hC22 (by omega) hroom22; obtain ⟨A22, hA22⟩ : ∃ A1, A1 = (if c0 = ((ji7) : Int).toNat then A0 else (A0 : Option Addr).map (·.add (((ji7) : Int).toNat * 3))) := ⟨_, rfl⟩; obtain ⟨c22, hc22⟩ : ∃ c1, c1 = c0 - ((ji7) : Int).toNat := ⟨_, rfl⟩; have hy22 : y466.length = l0.length - ((ji7) : Int).toNat := (by rw [Ny466.out, List.length_drop] <;> omega); rw [show (l0).drop ((ji7) : Int).toNat = y466 from Ny466.out.symm] at hr22; replace hr22 : Kd.F k32 _ _ A22 y466.length y466 := (by rw [hA22]; exact hr22); rw [← hy22, ← hA22, ← hc22] at hcut22; have HO470 := Aside0.mk (show Kd.V k32 32 _ w.heap.size _ (.slice A22 y466.length c22) y466 from Kd.V_mk (by rw [hy22, hc22]; exact Nat.sub_le_sub_right hroom22 _) hr22); have HC470 := Aside0.mk (show y466.length ≤ c22 from by rw [hy22, hc22]; exact Nat.sub_le_sub_right hroom22 _); clear hr22 hC22 hroom22 hi022 hsz22 hc22; have KY22 := Aside0.mk hy22; have KA22 := Aside0.mk hA22; clear hy22 hA22; replace q22 := eq_true q22))
   go_loopg [6] k (fun kq v6 w' => ∃ (x6_1 : List (S32)) (x466001_1 : List (S81)) (u466001 : Value), Aside0 (subprogram_Split.l0 kq x6_1 t462 x466001_1 = some (r1, r2, r3)) ∧ Aside0 (kq ≤ k) ∧ Aside0 (Kd.V k32 32 w' w.heap.size (fun k_ => (P0_ k_ ∨ w.heap.size ≤ k_) ∧ some k_ ≠ ((.slice Ao17 t462.length co17) : Value).ownBlock ∧ some k_ ≠ (u466001 : Value).ownBlock ∧ k_ ≠ gb455 ∧ k_ ≠ gb465) v6 x6_1) ∧ Aside0 (Kd.N k32 32 w' w.heap.size (fun k_ => (P0_ k_ ∨ w.heap.size ≤ k_) ∧ some k_ ≠ (u466001 : Value).ownBlock ∧ k_ ≠ gb455 ∧ k_ ≠ gb465) (.slice Ao17 t462.length co17) t462) ∧ Aside0 (Kd.N k81 81 w' w.heap.size (fun k_ => (P0_ k_ ∨ w.heap.size ≤ k_) ∧ some k_ ≠ ((.slice Ao17 t462.length co17) : Value).ownBlock ∧ k_ ≠ gb455 ∧ k_ ≠ gb465) u466001 x466001_1) ∧ Aside0 (w'.heap[gb455]? = some (.cells #[(.slice none 0 0), (.slice none 0 0)] 54 (0, 0))) ∧ Aside0 (w'.heap[gb465]? = some (.cells #[(.slice Ao17 t462.length co17), u466001] 54 (0, 0))) ∧ Aside0 (Below w.heap.size w w'))
   case atStart => exact ⟨(y466), (([] : List (S81))), (.slice none 0 0), H', ⟨Nat.le_refl _⟩, ⟨by refine yV ?_; exact Kd.V_mono HO470.out (fun _ hk => ⟨hk.1, ⟨hk.2.1, ⟨(by simp [Value.ownBlock]), ⟨hk.2.2.1, hk.2.2.2⟩⟩⟩⟩)⟩, ⟨by refine yN ?_; exact Kd.N_mono HO464.out (fun _ hk => ⟨hk.1, ⟨(by simp [Value.ownBlock]), ⟨hk.2.1, hk.2.2⟩⟩⟩)⟩, ⟨by first | exact Kd.R_nil _ _ _ _ _ | exact Kd.N_nil _ _ _ _ _ | exact Kd.V_nil _ _ _ _ _ | exact Kd.Q_nil _ _ _ _ _ | exact Kd.S_nil _ _ _ _ _⟩, ⟨by refine yH ?_; exact BK455.out⟩, ⟨by refine yH ?_; exact BK465.out⟩, ⟨yB⟩⟩
   case round =>
    clear H'
    try clear c1
    try clear q1
    try clear c2
    try clear p2
    try clear q2
    try clear c3
    try clear c3b0
    try clear c4
    try clear p6
    try clear c7
    try clear c8
    try clear c8b0
    try clear c8b1
    try clear c9
    try clear c9b0
    try clear c9b1
    try clear c11
    try clear c11b0
    try clear c12
    try clear c12b0
    try clear q15
    try clear c19
    try clear c22
    try clear q22
    try clear hcz20_0
    try clear hcz20_1
    try clear hcz6_0
    try clear hcz6_1
    try clear hfz20_0
    try clear hfz20_1
    try clear hfz6_0
    try clear hfz6_1
    try clear q022
    try clear q15
    try clear q22
    obtain ⟨x6_1, x466001_1, u466001, HA, HK1, HO_6, HO_466000, HO_466001, BK455, BK465, HB⟩ := hrel
    cases gk with
    | zero => exact absurd HA.out (by simp [subprogram_Split.l0])
    | succ k1 =>
     have H := HA.out
     clear HA
     simp only [subprogram_Split.l0] at H
     by_cases c23 : (x6_1.length : Int) > 0
     ·rw [if_pos c23] at H
      have c23b0 := decide_eq_true c23
      have c23b1 : decide (0 < x6_1.length) = true := decide_eq_true (by omega)
      clear c23
      by_cases c24 : 0 < (x6_1.length : Int)
      ·rw [if_pos c24] at H
       have c24b0 := decide_eq_true c24
       have c24b1 : decide (0 < x6_1.length) = true := decide_eq_true (by omega)
       clear c24
       replace H := Option.bind_eq_some_iff.mp H
       obtain ⟨⟨t472, t473⟩, A250, H⟩ := H
       have A25 := Aside0.mk A250
       clear A250
       replace H := Option.bind_eq_some_iff.mp H
       obtain ⟨t474, A260, H⟩ := H
       have A26 := Aside0.mk A260
       clear A260
       by_cases c27 : t473 = true
       ·subst c27
        rw [if_pos rfl] at H
        by_cases c28 : t474 < 0
        ·rw [if_pos c28] at H
         have c28b0 := decide_eq_true c28
         clear c28
         simp only [Option.some.injEq, Prod.mk.injEq] at H
         obtain ⟨rfl, rfl, rfl⟩ := H
         obtain ⟨Ao29, co29, eo29⟩ := Kd.V_slice HO_6.out
         subst eo29
         have p471 : 0 ≤ (0 : Int) := (by omega)
         have q471 : 0 < (x6_1.length : Int) := yD
         obtain ⟨ad471, A471_1, c471_1, e471, hx471_0, hx471_1, hx471_2, hl471_1, hi471_1⟩ := at_T32 (Kd.V_reads' HO_6.out).2.2 0 p471 q471
         cases e471
         obtain ⟨ce471, hce471, hMe471, hcc471⟩ := Kd.V_get HO_6.out z32 0 p471 (by first | exact q471 | exact yD | (have e_ := (Kd.V_reads' HO_6.out).1; omega))
         obtain ⟨ua471_1, uc471_1, rfl, ul471_1, ge471_1⟩ := k32_openF hMe471
         have hv471_1 := hcc471 1 _ rfl
         rw [add_field _ _ 1 (by omega)] at hv471_1
         replace hv471_1 := Option.some.inj (hv471_1.symm.trans hx471_1)
         injection hv471_1 with hva_ hvn_ hvc_
         rw [hva_] at ge471_1
         rw [hvc_] at ul471_1
         have HL471_1 := Aside0.mk (show Kd.V k78 78 _ w.heap.size _ _ ((rd_T32 x6_1 0).f1) from Kd.V_mk ul471_1 ge471_1)
         clear hva_ hvn_ hvc_ ge471_1 ul471_1
         clear hcc471 hce471
         have qi471 : (0 < x6_1.length) = True := eq_true (by omega)
         (try rw [show ((0 : Int)).toNat = 0 from rfl] at hx471_0)
         (try rw [show 0 * 3 = 0 from rfl] at hx471_0)
         (try rw [Addr.add_zero'] at hx471_0)
         (try rw [show ((0 : Int)).toNat = 0 from rfl] at hx471_1)
         (try rw [show 0 * 3 = 0 from rfl] at hx471_1)
         (try rw [Addr.add_zero'] at hx471_1)
         (try rw [show ((0 : Int)).toNat = 0 from rfl] at hx471_2)
         (try rw [show 0 * 3 = 0 from rfl] at hx471_2)
         (try rw [Addr.add_zero'] at hx471_2)
         have HR471_1 := Aside0.mk hi471_1
         have HC471_1 := Aside0.mk hl471_1
         clear hi471_1 hl471_1
         replace p471 := eq_true p471
         replace q471 := eq_true q471
         go_wp2_with (first | ((with_reducible refine gate_callee (f := 76) rfl ?_); refine goesL_ (some 32) rfl rfl Try.func76 (by kernel_rfl) rfl #[.agg #[.bool ((rd_T32 x6_1 0).f0), .slice A471_1 ((rd_T32 x6_1 0).f1).length c471_1, .string ((rd_T32 x6_1 0).f2)]] rfl yQ ?_; (with_reducible refine (subprogram_beginning.calls ((rd_T32 x6_1 0).f0) _ _ ((rd_T32 x6_1 0).f1) ((rd_T32 x6_1 0).f2) t472 true _ ?side1 ?side2 A25.out).mono ?_); (case side1 => repeat (first | exact (by repeat (first | (with_reducible exact HR471_1.out) | (with_reducible refine Kd.C_alloc ?_ _) | (with_reducible refine Kd.C_drewN ?_ _) | (with_reducible refine Kd.C_drew ?_) | exact HR471_1.out)) | (with_reducible refine Kd.C_alloc ?_ _) | (with_reducible refine Kd.C_drewN ?_ _) | (with_reducible refine Kd.C_drew ?_))); (case side2 => exact HC471_1.out); rintro e w30 ⟨rfl, hb⟩; refine ⟨_, rfl, ?_⟩; replace HO_6 := Aside0.mk (Kd.V_below (yV HO_6.out) hb); replace HO_466000 := Aside0.mk (Kd.N_below (yN HO_466000.out) hb); replace HO_466001 := Aside0.mk (Kd.N_below (yN HO_466001.out) hb); replace HL471_1 := Aside0.mk (Kd.V_below (yV HL471_1.out) hb); replace BK455 := Aside0.mk (blk_below (g := gb455) yK hb); replace BK465 := Aside0.mk (blk_below (g := gb465) yK hb); replace HR471_1 := Aside0.mk (Kd.C_below (by repeat (first | (with_reducible exact HR471_1.out) | (with_reducible refine Kd.C_alloc ?_ _) | (with_reducible refine Kd.C_drewN ?_ _) | (with_reducible refine Kd.C_drew ?_) | exact HR471_1.out)) hb); replace HB := Aside0.mk (below_step yB hb); (try clear hb)) | ((with_reducible refine gate_callee (f := 73) rfl ?_); refine goesL_ (some 36) rfl rfl Try.func73 (by kernel_rfl) rfl #[.slice (some ad471) x6_1.length co29, .func (.func 77) #[] #[]] rfl yQ ?_; (with_reducible refine (IndexFunc_back.calls k1 _ _ x6_1  t474 _ ?side1 ?side2 A26.out).mono ?_); (case side1 => repeat (first | exact (Kd.V_reads' HO_6.out).2.2 | (with_reducible refine Kd.C_alloc ?_ _) | (with_reducible refine Kd.C_drewN ?_ _) | (with_reducible refine Kd.C_drew ?_))); (case side2 => exact (Kd.V_reads' HO_6.out).2.1); rintro e w31 ⟨rfl, hb⟩; refine ⟨_, rfl, ?_⟩; replace HO_6 := Aside0.mk (Kd.V_below (yV HO_6.out) hb); replace HO_466000 := Aside0.mk (Kd.N_below (yN HO_466000.out) hb); replace HO_466001 := Aside0.mk (Kd.N_below (yN HO_466001.out) hb); replace HL471_1 := Aside0.mk (Kd.V_below (yV HL471_1.out) hb); replace BK455 := Aside0.mk (blk_below (g := gb455) yK hb); replace BK465 := Aside0.mk (blk_below (g := gb465) yK hb); replace HR471_1 := Aside0.mk (Kd.C_below (by repeat (first | (with_reducible exact HR471_1.out) | (with_reducible refine Kd.C_alloc ?_ _) | (with_reducible refine Kd.C_drewN ?_ _) | (with_reducible refine Kd.C_drew ?_) | exact HR471_1.out)) hb); replace HB := Aside0.mk (below_step yB hb); (try clear hb); have hnb32 := NB455_465.out; have hnc32 := NB465_455.out; have hcz33_0 := yZ0 BK455.out; have hcz33_1 := yZ1 BK455.out; have hfz33_0 := blk_frozen BK455.out 0; have hfz33_1 := blk_frozen BK455.out 1))
         refine bodyPost_ret (results_ct rfl _ _ gb455 54 #[.slice none 0 0, .slice none 0 0] (0, 0) _ rfl (by refine yH ?_; refine blk_put (cs := #[.slice none 0 0, .slice none 0 0]) ?_ 1 _ rfl; refine yH ?_; refine blk_put (cs := #[.slice none 0 0, .slice none 0 0]) ?_ 0 _ rfl; refine yH ?_; exact BK455.out) Try.underlying54 rfl (by kernel_rfl)) rfl ?_
         exact ⟨_, _, by first | rfl | (simp [errW_none, errW_some] <;> rfl) | (simp only [← hji7]; first | rfl | (simp [errW_none, errW_some] <;> rfl)) | (simp [*, errW_none, errW_some] <;> rfl), by first | exact Kd.S_nil _ _ _ _ _ | exact Kd.N_nil _ _ _ _ _ | exact Kd.V_nil _ _ _ _ _ | exact Kd.Q_nil _ _ _ _ _ | exact Kd.R_nil _ _ _ _ _, by first | exact Kd.R_nil _ _ _ _ _ | exact Kd.N_nil _ _ _ _ _ | exact Kd.V_nil _ _ _ _ _ | exact Kd.Q_nil _ _ _ _ _ | exact Kd.S_nil _ _ _ _ _, yB⟩
        rw [if_neg c28] at H
        have c28b0 := decide_eq_false c28
        clear c28
        by_cases c34 : 1 ≤ t474
        ·rw [if_pos c34] at H
         have c34b0 := eq_true c34
         have c34b1 := decide_eq_true c34
         clear c34
         by_cases c35 : t474 ≤ (x6_1.length : Int)
         ·rw [if_pos c35] at H
          have c35b0 := eq_true c35
          have c35b1 := decide_eq_true c35
          clear c35
          obtain ⟨y475, hy475⟩ : ∃ y_ : List (S32), y_ = ((x6_1.take (t474 : Int).toNat).drop 1) := ⟨_, rfl⟩
          replace H : ((Clone_Block.f y475).bind fun t480 => (if x466001_1.length < 4398046511104 then (if 0 ≤ (wrap64 (t474 + 1)) then (if (wrap64 (t474 + 1)) ≤ (x6_1.length : Int) then (subprogram_Split.l0 k1 (x6_1.drop ((wrap64 (t474 + 1)) : Int).toNat) t462 (x466001_1 ++ [(⟨t472, t480⟩ : S81)])) else (none)) else (none)) else (none))) = some (r1, r2, r3) := by first | (rw [hy475]; with_reducible exact H) | (have H2_ := (Option.bind_some _ _).symm.trans H; rw [hy475]; with_reducible exact H2_) | (have H2_ := (Option.bind_some _ _).symm.trans H; with_reducible exact H2_) | with_reducible exact H | (rw [hy475]; exact H) | exact H
          have Ny475 := Aside0.mk hy475
          clear hy475
          replace H := Option.bind_eq_some_iff.mp H
          obtain ⟨t480, A360, H⟩ := H
          have A36 := Aside0.mk A360
          clear A360
          by_cases c37 : x466001_1.length < 4398046511104
          ·rw [if_pos c37] at H
           have LMc37 := Aside0.mk c37
           clear c37
           obtain ⟨y483, hy483⟩ : ∃ y_ : List (S81), y_ = (x466001_1 ++ [(⟨t472, t480⟩ : S81)]) := ⟨_, rfl⟩
           replace H : (if 0 ≤ (wrap64 (t474 + 1)) then (if (wrap64 (t474 + 1)) ≤ (x6_1.length : Int) then (subprogram_Split.l0 k1 (x6_1.drop ((wrap64 (t474 + 1)) : Int).toNat) t462 y483) else (none)) else (none)) = some (r1, r2, r3) := by first | (rw [hy483]; with_reducible exact H) | (have H2_ := (Option.bind_some _ _).symm.trans H; rw [hy483]; with_reducible exact H2_) | (have H2_ := (Option.bind_some _ _).symm.trans H; with_reducible exact H2_) | with_reducible exact H | (rw [hy483]; exact H) | exact H
           have Ny483 := Aside0.mk hy483
           clear hy483
           obtain ⟨ji38, hji38⟩ : ∃ j_ : Int, (wrap64 (t474 + 1)) = j_ := ⟨_, rfl⟩
           replace H : (if 0 ≤ (ji38) then (if (ji38) ≤ (x6_1.length : Int) then (subprogram_Split.l0 k1 (x6_1.drop ((ji38) : Int).toNat) t462 y483) else (none)) else (none)) = some (r1, r2, r3) := by first | (rw [hji38] at H; exact H) | (simp only [hji38] at H ⊢; exact H)
           (try rw [hji38] at A25)
           (try rw [hji38] at A26)
           (try rw [hji38] at A36)
           have hji38w : (IntKind.i64.wrap (t474 + 1)) = ji38 := (i64_w _).trans hji38
           by_cases c39 : 0 ≤ (ji38)
           ·rw [if_pos c39] at H
            have c39b0 := eq_true c39
            have c39b1 := decide_eq_true c39
            clear c39
            by_cases c40 : (ji38) ≤ (x6_1.length : Int)
            ·rw [if_pos c40] at H
             have c40b0 := eq_true c40
             have c40b1 := decide_eq_true c40
             clear c40
             obtain ⟨y486, hy486⟩ : ∃ y_ : List (S32), y_ = (x6_1.drop ((ji38) : Int).toNat) := ⟨_, rfl⟩
             replace H : (subprogram_Split.l0 k1 y486 t462 y483) = some (r1, r2, r3) := by first | (rw [hy486]; with_reducible exact H) | (have H2_ := (Option.bind_some _ _).symm.trans H; rw [hy486]; with_reducible exact H2_) | (have H2_ := (Option.bind_some _ _).symm.trans H; with_reducible exact H2_) | with_reducible exact H | (rw [hy486]; exact H) | exact H
             have Ny486 := Aside0.mk hy486
             clear hy486
             have H' := Aside0.mk H
             clear H
             obtain ⟨Ao41, co41, eo41⟩ := Kd.V_slice HO_6.out
             subst eo41
             have p471 : 0 ≤ (0 : Int) := (by omega)
             have q471 : 0 < (x6_1.length : Int) := yD
             obtain ⟨ad471, A471_1, c471_1, e471, hx471_0, hx471_1, hx471_2, hl471_1, hi471_1⟩ := at_T32 (Kd.V_reads' HO_6.out).2.2 0 p471 q471
             cases e471
             obtain ⟨ce471, hce471, hMe471, hcc471⟩ := Kd.V_get HO_6.out z32 0 p471 (by first | exact q471 | exact yD | (have e_ := (Kd.V_reads' HO_6.out).1; omega))
             obtain ⟨ua471_1, uc471_1, rfl, ul471_1, ge471_1⟩ := k32_openF hMe471
             have hv471_1 := hcc471 1 _ rfl
             rw [add_field _ _ 1 (by omega)] at hv471_1
             replace hv471_1 := Option.some.inj (hv471_1.symm.trans hx471_1)
             injection hv471_1 with hva_ hvn_ hvc_
             rw [hva_] at ge471_1
             rw [hvc_] at ul471_1
             have HL471_1 := Aside0.mk (show Kd.V k78 78 _ w.heap.size _ _ ((rd_T32 x6_1 0).f1) from Kd.V_mk ul471_1 ge471_1)
             clear hva_ hvn_ hvc_ ge471_1 ul471_1
             clear hcc471 hce471
             have qi471 : (0 < x6_1.length) = True := eq_true (by omega)
             (try rw [show ((0 : Int)).toNat = 0 from rfl] at hx471_0)
             (try rw [show 0 * 3 = 0 from rfl] at hx471_0)
             (try rw [Addr.add_zero'] at hx471_0)
             (try rw [show ((0 : Int)).toNat = 0 from rfl] at hx471_1)
             (try rw [show 0 * 3 = 0 from rfl] at hx471_1)
             (try rw [Addr.add_zero'] at hx471_1)
             (try rw [show ((0 : Int)).toNat = 0 from rfl] at hx471_2)
             (try rw [show 0 * 3 = 0 from rfl] at hx471_2)
             (try rw [Addr.add_zero'] at hx471_2)
             have HR471_1 := Aside0.mk hi471_1
             have HC471_1 := Aside0.mk hl471_1
             clear hi471_1 hl471_1
             replace p471 := eq_true p471
             replace q471 := eq_true q471
             try go_wp2_with (first | ((with_reducible refine gate_callee (f := 76) rfl ?_); refine goesL_ (some 32) rfl rfl Try.func76 (by kernel_rfl) rfl #[.agg #[.bool ((rd_T32 x6_1 0).f0), .slice A471_1 ((rd_T32 x6_1 0).f1).length c471_1, .string ((rd_T32 x6_1 0).f2)]] rfl yQ ?_; (with_reducible refine (subprogram_beginning.calls ((rd_T32 x6_1 0).f0) _ _ ((rd_T32 x6_1 0).f1) ((rd_T32 x6_1 0).f2) t472 true _ ?side1 ?side2 A25.out).mono ?_); (case side1 => repeat (first | exact (by repeat (first | (with_reducible exact HR471_1.out) | (with_reducible refine Kd.C_alloc ?_ _) | (with_reducible refine Kd.C_drewN ?_ _) | (with_reducible refine Kd.C_drew ?_) | exact HR471_1.out)) | (with_reducible refine Kd.C_alloc ?_ _) | (with_reducible refine Kd.C_drewN ?_ _) | (with_reducible refine Kd.C_drew ?_))); (case side2 => exact HC471_1.out); rintro e w42 ⟨rfl, hb⟩; refine ⟨_, rfl, ?_⟩; replace HO_6 := Aside0.mk (Kd.V_below (yV HO_6.out) hb); replace HO_466000 := Aside0.mk (Kd.N_below (yN HO_466000.out) hb); replace HO_466001 := Aside0.mk (Kd.N_below (yN HO_466001.out) hb); replace HL471_1 := Aside0.mk (Kd.V_below (yV HL471_1.out) hb); replace BK455 := Aside0.mk (blk_below (g := gb455) yK hb); replace BK465 := Aside0.mk (blk_below (g := gb465) yK hb); replace HR471_1 := Aside0.mk (Kd.C_below (by repeat (first | (with_reducible exact HR471_1.out) | (with_reducible refine Kd.C_alloc ?_ _) | (with_reducible refine Kd.C_drewN ?_ _) | (with_reducible refine Kd.C_drew ?_) | exact HR471_1.out)) hb); replace HB := Aside0.mk (below_step yB hb); (try clear hb)) | ((with_reducible refine gate_callee (f := 73) rfl ?_); refine goesL_ (some 36) rfl rfl Try.func73 (by kernel_rfl) rfl #[.slice (some ad471) x6_1.length co41, .func (.func 77) #[] #[]] rfl yQ ?_; (with_reducible refine (IndexFunc_back.calls k1 _ _ x6_1  t474 _ ?side1 ?side2 A26.out).mono ?_); (case side1 => repeat (first | exact (Kd.V_reads' HO_6.out).2.2 | (with_reducible refine Kd.C_alloc ?_ _) | (with_reducible refine Kd.C_drewN ?_ _) | (with_reducible refine Kd.C_drew ?_))); (case side2 => exact (Kd.V_reads' HO_6.out).2.1); rintro e w43 ⟨rfl, hb⟩; refine ⟨_, rfl, ?_⟩; replace HO_6 := Aside0.mk (Kd.V_below (yV HO_6.out) hb); replace HO_466000 := Aside0.mk (Kd.N_below (yN HO_466000.out) hb); replace HO_466001 := Aside0.mk (Kd.N_below (yN HO_466001.out) hb); replace HL471_1 := Aside0.mk (Kd.V_below (yV HL471_1.out) hb); replace BK455 := Aside0.mk (blk_below (g := gb455) yK hb); replace BK465 := Aside0.mk (blk_below (g := gb465) yK hb); replace HR471_1 := Aside0.mk (Kd.C_below (by repeat (first | (with_reducible exact HR471_1.out) | (with_reducible refine Kd.C_alloc ?_ _) | (with_reducible refine Kd.C_drewN ?_ _) | (with_reducible refine Kd.C_drew ?_) | exact HR471_1.out)) hb); replace HB := Aside0.mk (below_step yB hb); (try clear hb)))
             replace HO_6 := Aside0.mk (Kd.V_drew HO_6.out)
             replace HO_466000 := Aside0.mk (Kd.N_drew HO_466000.out)
             replace HO_466001 := Aside0.mk (Kd.N_drew HO_466001.out)
             replace HL471_1 := Aside0.mk (Kd.V_drew HL471_1.out)
             replace BK455 := Aside0.mk (blk_drew BK455.out)
             replace BK465 := Aside0.mk (blk_drew BK465.out)
             replace HR471_1 := Aside0.mk (Kd.C_drew HR471_1.out)
             replace HB := Aside0.mk (below_drew1 HB.out)
             have q45 : (t474 : Int) ≤ ((x6_1.length : Int) : Int) := yD
             obtain ⟨i045, hi045, _, hsz45, _⟩ := info_parts info32
             have hroom45 : x6_1.length ≤ co41 := (Kd.V_reads' HO_6.out).2.1
             have hC45 : Kd.F k32 _ _ (some ad471) x6_1.length x6_1 := (Kd.V_at (base := w.heap.size) HO_6.out).2.2
             have ql45 : (1 : Int) ≤ (t474 : Int) := yD
             have hcut45 := cut_mid (P := Try.prog) 35 32 .i64 .i64 Try.underlying35 hi045 3 hsz45 (some ad471) x6_1.length co41 1 t474 (by omega) ql45 q45 hroom45
             have hr45 := Kd.F_mid (lo := (1 : Int).toNat) (hi := (t474 : Int).toNat) (c := co41) hC45 (by omega) (by omega) hroom45
             obtain ⟨A45, hA45⟩ : ∃ A1, A1 = (if co41 = (1 : Int).toNat then (some ad471) else ((some ad471) : Option Addr).map (·.add ((1 : Int).toNat * 3))) := ⟨_, rfl⟩
             obtain ⟨c45, hc45⟩ : ∃ c1, c1 = co41 - (1 : Int).toNat := ⟨_, rfl⟩
             have hy45 : y475.length = (t474 : Int).toNat - (1 : Int).toNat := (by rw [Ny475.out, List.length_drop, List.length_take] <;> omega)
             rw [show ((x6_1).take (t474 : Int).toNat).drop (1 : Int).toNat = y475 from Ny475.out.symm] at hr45
             replace hr45 : Kd.F k32 _ _ A45 y475.length y475 := (by rw [hA45]; exact hr45)
             rw [← hy45, ← hA45, ← hc45] at hcut45
             have HO479 := Aside0.mk (show Kd.V k32 32 _ w.heap.size _ (.slice A45 y475.length c45) y475 from Kd.V_mk (by rw [hy45, hc45]; exact Nat.sub_le_sub_right (Nat.le_trans (by omega) hroom45) _) hr45)
             have HC479 := Aside0.mk (show y475.length ≤ c45 from by rw [hy45, hc45]; exact Nat.sub_le_sub_right (Nat.le_trans (by omega) hroom45) _)
             clear hr45 hC45 hroom45 hi045 hsz45 hc45
             have KY45 := Aside0.mk hy45
             have KA45 := Aside0.mk hA45
             clear hy45 hA45
             replace q45 := eq_true q45
             refine start_ (n := 12) (S := fun w' => w'.cell? ⟨gb465, 0, none⟩ = some (.slice Ao17 t462.length co17) ∧ w'.cell? ⟨gb465, 1, none⟩ = some (u466001)) (ds := [11]) #[false, false, false, false, false, false, false, false, false, false, false, false] (by kernel_rfl) rfl rfl ⟨(blk_cell BK465.out 0).trans rfl, (blk_cell BK465.out 1).trans rfl⟩ (fun hHeld => ?_); refine with_tabW subprogram_Split.tab11 subprogram_Split.bits11 (fun HT_ HW_ => ?_)
             generalize w43.drew = w44 at HO_6 HO_466000 HO_466001 HL471_1 BK455 BK465 HR471_1 HB HO479 hHeld ⊢
             refine yp 0 44 ?_
             refine yp 2 46 ?_
             refine yp 3 47 ?_
             refine yp 4 48 ?_
             refine yp 5 49 ?_
             refine yt 1 45 hHeld ?_
             refine yo 6 (some 50) (fun K hK => ?_)
             refine goes_ Try.func33 (by kernel_rfl) rfl #[.slice A45 y475.length c45] (by rfl) rfl rfl yQ ?_
             with_reducible refine (Clone_Block.calls (fun k_ => ((P0_ k_ ∨ w.heap.size ≤ k_) ∧ (some k_ ≠ (.slice Ao17 t462.length co17 : Value).ownBlock ∧ (some k_ ≠ (u466001 : Value).ownBlock ∧ (k_ ≠ gb455 ∧ k_ ≠ gb465))))) _ _ y475 t480 _ ?side1 A36.out).mono ?_
             (case side1 => exact HO479.out)
             rintro e w46 ⟨v481, rfl, ho0, hb⟩
             refine ⟨_, rfl, ?_⟩
             replace HO_6 := Aside0.mk (Kd.V_elder' (yV HO_6.out) (by first | exact Kd.N_base ho0 | exact Kd.S_base ho0) hb)
             replace HL471_1 := Aside0.mk (Kd.V_elder' (yV HL471_1.out) (by first | exact Kd.N_base ho0 | exact Kd.S_base ho0) hb)
             replace HO479 := Aside0.mk (Kd.V_elder' (yV HO479.out) (by first | exact Kd.N_base ho0 | exact Kd.S_base ho0) hb)
             have HO482 := Aside0.mk (Kd.N_lower (Kd.N_mono (ok' := fun k_ => (P0_ k_ ∨ w.heap.size ≤ k_) ∧ some k_ ≠ (.slice Ao17 t462.length co17 : Value).ownBlock ∧ some k_ ≠ (u466001 : Value).ownBlock ∧ k_ ≠ gb455 ∧ k_ ≠ gb465) ho0 (fun k_ hk_ => ⟨Or.elim hk_ (fun hs_ => hs_.1) (fun hn_ => (.inr (Nat.le_trans (below_size yB) hn_))), Or.elim hk_ (fun hs_ => hs_.2.1) (fun hn_ => (Kd.fresh' (Kd.N_lt (yN HO_466000.out)) k_ hn_)), Or.elim hk_ (fun hs_ => hs_.2.2.1) (fun hn_ => (Kd.fresh' (Kd.N_lt (yN HO_466001.out)) k_ hn_)), Or.elim hk_ (fun hs_ => hs_.2.2.2.1) (fun hn_ => (Kd.freshB (g := gb455) yK k_ hn_)), Or.elim hk_ (fun hs_ => hs_.2.2.2.2) (fun hn_ => (Kd.freshB (g := gb465) yK k_ hn_))⟩)) (below_size yB))
             replace HO_466000 := Aside0.mk (Kd.N_elder' (yN HO_466000.out) (by first | exact Kd.N_base ho0 | exact Kd.S_base ho0) hb)
             replace HO_466001 := Aside0.mk (Kd.N_elder' (yN HO_466001.out) (by first | exact Kd.N_base ho0 | exact Kd.S_base ho0) hb)
             replace BK455 := Aside0.mk (blk_below (g := gb455) yK hb)
             replace BK465 := Aside0.mk (blk_below (g := gb465) yK hb)
             replace HR471_1 := Aside0.mk (Kd.C_below (by repeat (first | (with_reducible exact HR471_1.out) | (with_reducible refine Kd.C_alloc ?_ _) | (with_reducible refine Kd.C_drewN ?_ _) | (with_reducible refine Kd.C_drew ?_) | exact HR471_1.out)) hb)
             replace HB := Aside0.mk (below_step yB hb)
             (try clear hb)
             (try clear ho0)
             obtain ⟨Ao47, co47, eo47⟩ := Kd.N_slice HO482.out
             (first | subst eo47 | (injection eo47 with f1_ f2_ f3_; have f4_ := f1_.symm; have f5_ := f3_.symm; clear f1_ f2_ f3_; subst f4_; subst f5_))
             refine hK.out _ _ ⟨(blk_cell BK465.out 0).trans rfl, (blk_cell BK465.out 1).trans rfl⟩ (fun hHeld => ?_)
             clear hK K
             refine yn 50 ?_
             refine yp 7 51 ?_
             refine yo 8 (some 52) (fun K hK => ?_)
             refine value_ (w1 := ?_) (v := ?_) (by rfl) rfl ?_ ?_
             rotate_left 2
             ·go_simp
              constructor
              ·rfl
              rfl
             refine hK.out _ _ ⟨(blk_cell (blk_alloc BK465.out _) 0).trans rfl, (blk_cell (blk_alloc BK465.out _) 1).trans rfl⟩ (fun hHeld => ?_)
             clear hK K
             refine yn 52 ?_
             refine yo 9 (some 53) (fun K hK => ?_)
             refine Kd.N_append_step k81 (w0 := w) w.heap.size (by rfl) (.tmp 45) (.tmp 52) 52 81 (.agg #[(.int .i64 0), (.slice none 0 0)]) 32 rfl Try.underlying52 info81 rfl (by decide) (by omega) u466001 x466001_1 (⟨t472, t480⟩ : S81) [.int .i64 t472, .slice Ao47 t480.length co47] (fun k_ => (P0_ k_ ∨ w.heap.size ≤ k_) ∧ some k_ ≠ (.slice Ao17 t462.length co17 : Value).ownBlock ∧ k_ ≠ gb455 ∧ k_ ≠ gb465) (fun k_ => ((fun k_ => (P0_ k_ ∨ w.heap.size ≤ k_) ∧ some k_ ≠ (.slice Ao17 t462.length co17 : Value).ownBlock ∧ k_ ≠ gb455 ∧ k_ ≠ gb465)) k_ ∧ some k_ ≠ (u466001 : Value).ownBlock) rfl rfl ?aP (fun _ hk => hk) ?aF ?aO ?aB ?aS ?aL ?_
             (case aP => exact (k81_mkF _ _ (⟨t472, t480⟩ : S81) (Kd.N_reads' (Kd.N_mono (ok' := (fun k_ => ((fun k_ => (P0_ k_ ∨ w.heap.size ≤ k_) ∧ some k_ ≠ (.slice Ao17 t462.length co17 : Value).ownBlock ∧ k_ ≠ gb455 ∧ k_ ≠ gb465)) k_ ∧ some k_ ≠ (u466001 : Value).ownBlock)) (HO482.out) (fun k_ hk => ⟨⟨hk.1, ⟨hk.2.1, ⟨hk.2.2.2.1, hk.2.2.2.2⟩⟩⟩, hk.2.2.1⟩))).2.1 (Kd.N_F (Kd.N_mono (ok' := (fun k_ => ((fun k_ => (P0_ k_ ∨ w.heap.size ≤ k_) ∧ some k_ ≠ (.slice Ao17 t462.length co17 : Value).ownBlock ∧ k_ ≠ gb455 ∧ k_ ≠ gb465)) k_ ∧ some k_ ≠ (u466001 : Value).ownBlock)) (HO482.out) (fun k_ hk => ⟨⟨hk.1, ⟨hk.2.1, ⟨hk.2.2.2.1, hk.2.2.2.2⟩⟩⟩, hk.2.2.1⟩)))))
             (case aB => exact yB)
             (case aF => exact (fun k_ hk => ⟨(.inr (Nat.le_trans (below_size yB) hk)), Kd.fresh' (Kd.N_lt (yN HO_466000.out)) k_ hk, Kd.freshB (g := gb455) yK k_ hk, Kd.freshB (g := gb465) yK k_ hk⟩))
             (case aO => exact (yN (Kd.N_mono HO_466001.out (fun _ hk => ⟨hk.1.1, ⟨hk.1.2.1, ⟨hk.1.2.2.1, hk.1.2.2.2⟩⟩⟩))))
             (case aS => exact (below_size yB))
             (case aL => have := LMc37.out; omega)
             intro v484 w48 ho hb hg hat
             rw [← Ny483.out] at ho
             have n0_ := Aside0.mk (Kd.V_afterv (ok := (fun k_ => (P0_ k_ ∨ w.heap.size ≤ k_) ∧ some k_ ≠ (.slice Ao17 t462.length co17 : Value).ownBlock ∧ some k_ ≠ (.slice Ao47 t480.length co47 : Value).ownBlock ∧ k_ ≠ gb455 ∧ k_ ≠ gb465)) (yV (Kd.V_mono HO_6.out (fun _ hk => ⟨⟨hk.1.1, ⟨hk.1.2.1, ⟨hk.2, ⟨hk.1.2.2.2.1, hk.1.2.2.2.2⟩⟩⟩⟩, hk.1.2.2.1⟩))) hg hat)
             have n1_ := Aside0.mk (Kd.N_afterv (ok := (fun k_ => (P0_ k_ ∨ w.heap.size ≤ k_) ∧ some k_ ≠ (.slice Ao47 t480.length co47 : Value).ownBlock ∧ k_ ≠ gb455 ∧ k_ ≠ gb465)) (yN (Kd.N_mono HO_466000.out (fun _ hk => ⟨⟨hk.1.1, ⟨hk.2, ⟨hk.1.2.2.1, hk.1.2.2.2⟩⟩⟩, hk.1.2.1⟩))) hg hat)
             have n2_ := Aside0.mk (blk_grown (g := gb455) yK hg (Kd.N_ne HO_466001.out BK455.out (by decide)))
             have n3_ := Aside0.mk (blk_grown (g := gb465) yK hg (Kd.N_ne HO_466001.out BK465.out (by decide)))
             have n4_ := Aside0.mk (Kd.V_afterv (ok := (fun k_ => (P0_ k_ ∨ w.heap.size ≤ k_) ∧ some k_ ≠ (.slice Ao17 t462.length co17 : Value).ownBlock ∧ some k_ ≠ (.slice Ao47 t480.length co47 : Value).ownBlock ∧ k_ ≠ gb455 ∧ k_ ≠ gb465)) (yV (Kd.V_mono HL471_1.out (fun _ hk => ⟨⟨hk.1.1, ⟨hk.1.2.1, ⟨hk.2, ⟨hk.1.2.2.2.1, hk.1.2.2.2.2⟩⟩⟩⟩, hk.1.2.2.1⟩))) hg hat)
             have n5_ := Aside0.mk (Kd.V_afterv (ok := (fun k_ => (P0_ k_ ∨ w.heap.size ≤ k_) ∧ some k_ ≠ (.slice Ao17 t462.length co17 : Value).ownBlock ∧ some k_ ≠ (.slice Ao47 t480.length co47 : Value).ownBlock ∧ k_ ≠ gb455 ∧ k_ ≠ gb465)) (yV (Kd.V_mono HO479.out (fun _ hk => ⟨⟨hk.1.1, ⟨hk.1.2.1, ⟨hk.2, ⟨hk.1.2.2.2.1, hk.1.2.2.2.2⟩⟩⟩⟩, hk.1.2.2.1⟩))) hg hat)
             have n6_ := Aside0.mk (hb)
             have n7_ := Aside0.mk (ho)
             clear HO_6
             clear HO_466000
             clear BK455
             clear BK465
             clear HL471_1
             clear HO479
             clear HB
             clear HO_466001
             clear HO482
             have HO_6 := n0_
             have HO_466000 := n1_
             have BK455 := n2_
             have BK465 := n3_
             have HL471_1 := n4_
             have HO479 := n5_
             have HB := n6_
             have HO485 := n7_
             clear n0_ n1_ n2_ n3_ n4_ n5_ n6_ n7_
             clear ho hb hg hat
             obtain ⟨Ao49, co49, eo49⟩ := Kd.N_slice HO485.out
             (first | subst eo49 | (injection eo49 with f1_ f2_ f3_; have f4_ := f1_.symm; have f5_ := f3_.symm; clear f1_ f2_ f3_; subst f4_; subst f5_))
             refine hK.out _ _ ⟨(blk_cell BK465.out 0).trans rfl, (blk_cell BK465.out 1).trans rfl⟩ (fun hHeld => ?_)
             clear hK K
             refine yn 53 ?_
             refine yp 10 54 ?_
             refine last_ (i := 11) (N := none) #[true, true, true, true, true, true, true, true, true, true, true, true] rfl rfl (one_of HT_.out (by kernel_rfl)) (by decide) (fun K hK => ?_)
             have hs50 : w48.cell? ⟨gb465, 1, none⟩ = some (u466001) := (blk_cell BK465.out 1).trans rfl
             have hfs50 := blk_frozen BK465.out 1
             have hns50_0 := NB455_465.out
             have hms50_0 := NB465_455.out
             refine skip_ (w1 := ?_) (by rfl) rfl ?_ ?_
             rotate_left
             ·go_simp
              rfl
             refine hK.out _ _ ?_
             clear hK K
             refine done_ (done_of HT_.out (by kernel_rfl)) ?_
             have n0_ : Aside0 (Kd.V k32 32 (w48.setCell ⟨gb465, 1, none⟩ (.slice Ao49 y483.length co49)) w.heap.size (fun k_ => (P0_ k_ ∨ w.heap.size ≤ k_) ∧ some k_ ≠ (.slice Ao17 t462.length co17 : Value).ownBlock ∧ some k_ ≠ (.slice Ao49 y483.length co49 : Value).ownBlock ∧ k_ ≠ gb455 ∧ k_ ≠ gb465) (.slice (some ad471) x6_1.length co41) x6_1) := ⟨by refine yV ?_; exact Kd.V_mono (Kd.V_far (p := ⟨gb465, 1, none⟩) (Kd.V_mono HO_6.out (fun k_ hk => (⟨hk, hk.1.2.2.2.2⟩ : _ ∧ k_ ≠ gb465))) (fun _ hk => hk.2) (.slice Ao49 y483.length co49)) (fun _ hk => ⟨hk.1.1.1, ⟨hk.1.1.2.1, ⟨hk.1.2, ⟨hk.1.1.2.2.2.1, hk.1.1.2.2.2.2⟩⟩⟩⟩)⟩
             have n1_ : Aside0 (Kd.N k32 32 (w48.setCell ⟨gb465, 1, none⟩ (.slice Ao49 y483.length co49)) w.heap.size (fun k_ => (P0_ k_ ∨ w.heap.size ≤ k_) ∧ some k_ ≠ (.slice Ao49 y483.length co49 : Value).ownBlock ∧ k_ ≠ gb455 ∧ k_ ≠ gb465) (.slice Ao17 t462.length co17) t462) := ⟨by refine yN ?_; exact Kd.N_mono (Kd.N_far (p := ⟨gb465, 1, none⟩) (Kd.N_mono HO_466000.out (fun k_ hk => (⟨hk, hk.1.2.2.2⟩ : _ ∧ k_ ≠ gb465))) (fun _ hk => hk.2) (.slice Ao49 y483.length co49)) (fun _ hk => ⟨hk.1.1.1, ⟨hk.1.2, ⟨hk.1.1.2.2.1, hk.1.1.2.2.2⟩⟩⟩)⟩
             have n2_ : Aside0 (Kd.V k78 78 (w48.setCell ⟨gb465, 1, none⟩ (.slice Ao49 y483.length co49)) w.heap.size (fun k_ => (P0_ k_ ∨ w.heap.size ≤ k_) ∧ some k_ ≠ (.slice Ao17 t462.length co17 : Value).ownBlock ∧ some k_ ≠ (.slice Ao49 y483.length co49 : Value).ownBlock ∧ k_ ≠ gb455 ∧ k_ ≠ gb465) (.slice A471_1 ((rd_T32 x6_1 0).f1).length c471_1) ((rd_T32 x6_1 0).f1)) := ⟨by refine yV ?_; exact Kd.V_mono (Kd.V_far (p := ⟨gb465, 1, none⟩) (Kd.V_mono HL471_1.out (fun k_ hk => (⟨hk, hk.1.2.2.2.2⟩ : _ ∧ k_ ≠ gb465))) (fun _ hk => hk.2) (.slice Ao49 y483.length co49)) (fun _ hk => ⟨hk.1.1.1, ⟨hk.1.1.2.1, ⟨hk.1.2, ⟨hk.1.1.2.2.2.1, hk.1.1.2.2.2.2⟩⟩⟩⟩)⟩
             have n3_ : Aside0 (Kd.V k32 32 (w48.setCell ⟨gb465, 1, none⟩ (.slice Ao49 y483.length co49)) w.heap.size (fun k_ => (P0_ k_ ∨ w.heap.size ≤ k_) ∧ some k_ ≠ (.slice Ao17 t462.length co17 : Value).ownBlock ∧ some k_ ≠ (.slice Ao49 y483.length co49 : Value).ownBlock ∧ k_ ≠ gb455 ∧ k_ ≠ gb465) (.slice A45 y475.length c45) y475) := ⟨by refine yV ?_; exact Kd.V_mono (Kd.V_far (p := ⟨gb465, 1, none⟩) (Kd.V_mono HO479.out (fun k_ hk => (⟨hk, hk.1.2.2.2.2⟩ : _ ∧ k_ ≠ gb465))) (fun _ hk => hk.2) (.slice Ao49 y483.length co49)) (fun _ hk => ⟨hk.1.1.1, ⟨hk.1.1.2.1, ⟨hk.1.2, ⟨hk.1.1.2.2.2.1, hk.1.1.2.2.2.2⟩⟩⟩⟩)⟩
             have n4_ : Aside0 (Kd.N k81 81 (w48.setCell ⟨gb465, 1, none⟩ (.slice Ao49 y483.length co49)) w.heap.size (fun k_ => (P0_ k_ ∨ w.heap.size ≤ k_) ∧ some k_ ≠ (.slice Ao17 t462.length co17 : Value).ownBlock ∧ k_ ≠ gb455 ∧ k_ ≠ gb465) (.slice Ao49 y483.length co49) y483) := ⟨by refine yN ?_; exact Kd.N_mono (Kd.N_far (p := ⟨gb465, 1, none⟩) (Kd.N_mono HO485.out (fun k_ hk => (⟨hk, hk.2.2.2⟩ : _ ∧ k_ ≠ gb465))) (fun _ hk => hk.2) (.slice Ao49 y483.length co49)) (fun _ hk => ⟨hk.1.1, ⟨hk.1.2.1, ⟨hk.1.2.2.1, hk.1.2.2.2⟩⟩⟩)⟩
             have n5_ : Aside0 ((w48.setCell ⟨gb465, 1, none⟩ (.slice Ao49 y483.length co49)).heap[gb455]? = some (.cells #[.slice none 0 0, .slice none 0 0] 54 (0, 0))) := ⟨by refine yH ?_; refine blk_far ?_ NB455_465.out _; refine yH ?_; exact BK455.out⟩
             have n6_ : Aside0 ((w48.setCell ⟨gb465, 1, none⟩ (.slice Ao49 y483.length co49)).heap[gb465]? = some (.cells #[.slice Ao17 t462.length co17, .slice Ao49 y483.length co49] 54 (0, 0))) := ⟨by refine yH ?_; refine blk_put (cs := #[.slice Ao17 t462.length co17, u466001]) ?_ 1 _ rfl; refine yH ?_; exact BK465.out⟩
             have n7_ : Aside0 (Below w.heap.size w (w48.setCell ⟨gb465, 1, none⟩ (.slice Ao49 y483.length co49))) := ⟨yB⟩
             (try clear HO_6)
             (try clear HO_466000)
             (try clear HL471_1)
             (try clear HO479)
             (try clear HO485)
             (try clear BK455)
             (try clear BK465)
             (try clear HB)
             generalize (w48.setCell ⟨gb465, 1, none⟩ (.slice Ao49 y483.length co49)) = w51 at n0_ n1_ n2_ n3_ n4_ n5_ n6_ n7_ ⊢
             have HO_6 := n0_
             have HO_466000 := n1_
             have HL471_1 := n2_
             have HO479 := n3_
             have HO485 := n4_
             have BK455 := n5_
             have BK465 := n6_
             have HB := n7_
             clear n0_ n1_ n2_ n3_ n4_ n5_ n6_ n7_
             have q52 : ((ji38) : Int) ≤ ((x6_1.length : Int) : Int) := yD
             obtain ⟨i052, hi052, _, hsz52, _⟩ := info_parts info32
             have hroom52 : x6_1.length ≤ co41 := (Kd.V_reads' HO_6.out).2.1
             have hC52 : Kd.F k32 _ _ (some ad471) x6_1.length x6_1 := (Kd.V_at (base := w.heap.size) HO_6.out).2.2
             have q052 : (0 : Int) ≤ ((ji38) : Int) := yD
             have hcut52 := cut_from (P := Try.prog) 35 32 .i64 Try.underlying35 hi052 3 hsz52 (some ad471) x6_1.length co41 (ji38) q052 q52
             have hr52 := Kd.F_cut (m := ((ji38) : Int).toNat) (c := co41) hC52 (by omega) hroom52
             obtain ⟨A52, hA52⟩ : ∃ A1, A1 = (if co41 = ((ji38) : Int).toNat then (some ad471) else ((some ad471) : Option Addr).map (·.add (((ji38) : Int).toNat * 3))) := ⟨_, rfl⟩
             obtain ⟨c52, hc52⟩ : ∃ c1, c1 = co41 - ((ji38) : Int).toNat := ⟨_, rfl⟩
             have hy52 : y486.length = x6_1.length - ((ji38) : Int).toNat := (by rw [Ny486.out, List.length_drop] <;> omega)
             rw [show (x6_1).drop ((ji38) : Int).toNat = y486 from Ny486.out.symm] at hr52
             replace hr52 : Kd.F k32 _ _ A52 y486.length y486 := (by rw [hA52]; exact hr52)
             rw [← hy52, ← hA52, ← hc52] at hcut52
             have HO490 := Aside0.mk (show Kd.V k32 32 _ w.heap.size _ (.slice A52 y486.length c52) y486 from Kd.V_mk (by rw [hy52, hc52]; exact Nat.sub_le_sub_right hroom52 _) hr52)
             have HC490 := Aside0.mk (show y486.length ≤ c52 from by rw [hy52, hc52]; exact Nat.sub_le_sub_right hroom52 _)
             clear hr52 hC52 hroom52 hi052 hsz52 hc52
             have KY52 := Aside0.mk hy52
             have KA52 := Aside0.mk hA52
             clear hy52 hA52
             replace q52 := eq_true q52
             try go_wp2
             go_roundg k1
             case measure => have := HK1.out; omega
             case rel => exact ⟨(y486), (y483), (.slice Ao49 y483.length co49), H', ⟨by have := HK1.out; omega⟩, ⟨by refine yV ?_; exact HO490.out⟩, ⟨by refine yN ?_; exact HO_466000.out⟩, ⟨by refine yN ?_; exact HO485.out⟩, ⟨by refine yH ?_; exact BK455.out⟩, ⟨by refine yH ?_; exact BK465.out⟩, ⟨yB⟩⟩
            rw [if_neg c40] at H
            exact absurd H (by simp)
           rw [if_neg c39] at H
           exact absurd H (by simp)
          rw [if_neg c37] at H
          exact absurd H (by simp)
         rw [if_neg c35] at H
         exact absurd H (by simp)
        rw [if_neg c34] at H
        exact absurd H (by simp)
       replace c27 := Bool.eq_false_iff.mpr c27
       subst c27
       replace H : (some (([] : List (S32)), ([] : List (S81)), 1)) = some (r1, r2, r3) := by rw [if_neg (show ¬ (false = true) by decide)] at H; exact H
       simp only [Option.some.injEq, Prod.mk.injEq] at H
       obtain ⟨rfl, rfl, rfl⟩ := H
       obtain ⟨Ao53, co53, eo53⟩ := Kd.V_slice HO_6.out
       subst eo53
       have p471 : 0 ≤ (0 : Int) := (by omega)
       have q471 : 0 < (x6_1.length : Int) := yD
       obtain ⟨ad471, A471_1, c471_1, e471, hx471_0, hx471_1, hx471_2, hl471_1, hi471_1⟩ := at_T32 (Kd.V_reads' HO_6.out).2.2 0 p471 q471
       cases e471
       obtain ⟨ce471, hce471, hMe471, hcc471⟩ := Kd.V_get HO_6.out z32 0 p471 (by first | exact q471 | exact yD | (have e_ := (Kd.V_reads' HO_6.out).1; omega))
       obtain ⟨ua471_1, uc471_1, rfl, ul471_1, ge471_1⟩ := k32_openF hMe471
       have hv471_1 := hcc471 1 _ rfl
       rw [add_field _ _ 1 (by omega)] at hv471_1
       replace hv471_1 := Option.some.inj (hv471_1.symm.trans hx471_1)
       injection hv471_1 with hva_ hvn_ hvc_
       rw [hva_] at ge471_1
       rw [hvc_] at ul471_1
       have HL471_1 := Aside0.mk (show Kd.V k78 78 _ w.heap.size _ _ ((rd_T32 x6_1 0).f1) from Kd.V_mk ul471_1 ge471_1)
       clear hva_ hvn_ hvc_ ge471_1 ul471_1
       clear hcc471 hce471
       have qi471 : (0 < x6_1.length) = True := eq_true (by omega)
       (try rw [show ((0 : Int)).toNat = 0 from rfl] at hx471_0)
       (try rw [show 0 * 3 = 0 from rfl] at hx471_0)
       (try rw [Addr.add_zero'] at hx471_0)
       (try rw [show ((0 : Int)).toNat = 0 from rfl] at hx471_1)
       (try rw [show 0 * 3 = 0 from rfl] at hx471_1)
       (try rw [Addr.add_zero'] at hx471_1)
       (try rw [show ((0 : Int)).toNat = 0 from rfl] at hx471_2)
       (try rw [show 0 * 3 = 0 from rfl] at hx471_2)
       (try rw [Addr.add_zero'] at hx471_2)
       have HR471_1 := Aside0.mk hi471_1
       have HC471_1 := Aside0.mk hl471_1
       clear hi471_1 hl471_1
       replace p471 := eq_true p471
       replace q471 := eq_true q471
       go_wp2_with (first | ((with_reducible refine gate_callee (f := 76) rfl ?_); refine goesL_ (some 32) rfl rfl Try.func76 (by kernel_rfl) rfl #[.agg #[.bool ((rd_T32 x6_1 0).f0), .slice A471_1 ((rd_T32 x6_1 0).f1).length c471_1, .string ((rd_T32 x6_1 0).f2)]] rfl yQ ?_; (with_reducible refine (subprogram_beginning.calls ((rd_T32 x6_1 0).f0) _ _ ((rd_T32 x6_1 0).f1) ((rd_T32 x6_1 0).f2) t472 false _ ?side1 ?side2 A25.out).mono ?_); (case side1 => repeat (first | exact (by repeat (first | (with_reducible exact HR471_1.out) | (with_reducible refine Kd.C_alloc ?_ _) | (with_reducible refine Kd.C_drewN ?_ _) | (with_reducible refine Kd.C_drew ?_) | exact HR471_1.out)) | (with_reducible refine Kd.C_alloc ?_ _) | (with_reducible refine Kd.C_drewN ?_ _) | (with_reducible refine Kd.C_drew ?_))); (case side2 => exact HC471_1.out); rintro e w54 ⟨rfl, hb⟩; refine ⟨_, rfl, ?_⟩; replace HO_6 := Aside0.mk (Kd.V_below (yV HO_6.out) hb); replace HO_466000 := Aside0.mk (Kd.N_below (yN HO_466000.out) hb); replace HO_466001 := Aside0.mk (Kd.N_below (yN HO_466001.out) hb); replace HL471_1 := Aside0.mk (Kd.V_below (yV HL471_1.out) hb); replace BK455 := Aside0.mk (blk_below (g := gb455) yK hb); replace BK465 := Aside0.mk (blk_below (g := gb465) yK hb); replace HR471_1 := Aside0.mk (Kd.C_below (by repeat (first | (with_reducible exact HR471_1.out) | (with_reducible refine Kd.C_alloc ?_ _) | (with_reducible refine Kd.C_drewN ?_ _) | (with_reducible refine Kd.C_drew ?_) | exact HR471_1.out)) hb); replace HB := Aside0.mk (below_step yB hb); (try clear hb)) | ((with_reducible refine gate_callee (f := 73) rfl ?_); refine goesL_ (some 36) rfl rfl Try.func73 (by kernel_rfl) rfl #[.slice (some ad471) x6_1.length co53, .func (.func 77) #[] #[]] rfl yQ ?_; (with_reducible refine (IndexFunc_back.calls k1 _ _ x6_1  t474 _ ?side1 ?side2 A26.out).mono ?_); (case side1 => repeat (first | exact (Kd.V_reads' HO_6.out).2.2 | (with_reducible refine Kd.C_alloc ?_ _) | (with_reducible refine Kd.C_drewN ?_ _) | (with_reducible refine Kd.C_drew ?_))); (case side2 => exact (Kd.V_reads' HO_6.out).2.1); rintro e w55 ⟨rfl, hb⟩; refine ⟨_, rfl, ?_⟩; replace HO_6 := Aside0.mk (Kd.V_below (yV HO_6.out) hb); replace HO_466000 := Aside0.mk (Kd.N_below (yN HO_466000.out) hb); replace HO_466001 := Aside0.mk (Kd.N_below (yN HO_466001.out) hb); replace HL471_1 := Aside0.mk (Kd.V_below (yV HL471_1.out) hb); replace BK455 := Aside0.mk (blk_below (g := gb455) yK hb); replace BK465 := Aside0.mk (blk_below (g := gb465) yK hb); replace HR471_1 := Aside0.mk (Kd.C_below (by repeat (first | (with_reducible exact HR471_1.out) | (with_reducible refine Kd.C_alloc ?_ _) | (with_reducible refine Kd.C_drewN ?_ _) | (with_reducible refine Kd.C_drew ?_) | exact HR471_1.out)) hb); replace HB := Aside0.mk (below_step yB hb); (try clear hb); have hnb56 := NB455_465.out; have hnc56 := NB465_455.out; have hcz57_0 := yZ0 BK455.out; have hcz57_1 := yZ1 BK455.out; have hfz57_0 := blk_frozen BK455.out 0; have hfz57_1 := blk_frozen BK455.out 1))
       refine bodyPost_ret (results_ct rfl _ _ gb455 54 #[.slice none 0 0, .slice none 0 0] (0, 0) _ rfl (by refine yH ?_; refine blk_put (cs := #[.slice none 0 0, .slice none 0 0]) ?_ 1 _ rfl; refine yH ?_; refine blk_put (cs := #[.slice none 0 0, .slice none 0 0]) ?_ 0 _ rfl; refine yH ?_; exact BK455.out) Try.underlying54 rfl (by kernel_rfl)) rfl ?_
       exact ⟨_, _, by first | rfl | (simp [errW_none, errW_some] <;> rfl) | (simp only [← hji7]; first | rfl | (simp [errW_none, errW_some] <;> rfl)) | (simp [*, errW_none, errW_some] <;> rfl), by first | exact Kd.S_nil _ _ _ _ _ | exact Kd.N_nil _ _ _ _ _ | exact Kd.V_nil _ _ _ _ _ | exact Kd.Q_nil _ _ _ _ _ | exact Kd.R_nil _ _ _ _ _, by first | exact Kd.R_nil _ _ _ _ _ | exact Kd.N_nil _ _ _ _ _ | exact Kd.V_nil _ _ _ _ _ | exact Kd.Q_nil _ _ _ _ _ | exact Kd.S_nil _ _ _ _ _, yB⟩
      rw [if_neg c24] at H
      exact absurd H (by simp)
     rw [if_neg c23] at H
     have c23b0 := decide_eq_false c23
     have c23b1 : decide (0 < x6_1.length) = false := decide_eq_false (by omega)
     clear c23
     replace H := Option.bind_eq_some_iff.mp H
     obtain ⟨t491, A580, H⟩ := H
     have A58 := Aside0.mk A580
     clear A580
     by_cases c59 : t491 = true
     ·subst c59
      rw [if_pos rfl] at H
      replace H := Option.bind_eq_some_iff.mp H
      obtain ⟨t492, A600, H⟩ := H
      have A60 := Aside0.mk A600
      clear A600
      by_cases c61 : t492 = true
      ·subst c61
       rw [if_pos rfl] at H
       simp only [Option.some.injEq, Prod.mk.injEq] at H
       obtain ⟨rfl, rfl, rfl⟩ := H
       obtain ⟨Ao62, co62, eo62⟩ := Kd.V_slice HO_6.out
       subst eo62
       have hnb63 := NB465_455.out
       have hnc63 := NB455_465.out
       have hcz64_0 := yZ0 BK465.out
       have hcz64_1 := yZ1 BK465.out
       have hfz64_0 := blk_frozen BK465.out 0
       have hfz64_1 := blk_frozen BK465.out 1
       obtain ⟨Ao65, co65, eo65⟩ := Kd.N_slice HO_466001.out
       subst eo65
       go_wp2_with (first | ((with_reducible refine gate_callee (f := 79) rfl ?_); refine goesL_ (some 60) rfl rfl Try.func79 (by kernel_rfl) rfl #[.agg #[.slice Ao17 t462.length co17, .slice Ao65 x466001_1.length co65]] rfl yQ ?_; (with_reducible refine (subprogram_ordered.calls k1 _ _ t462 _ _ x466001_1 true _ ?side1 ?side2 ?side3 ?side4 A58.out).mono ?_); (case side1 => repeat (first | exact (Kd.N_reads' HO_466000.out).2.2 | (with_reducible refine Kd.C_alloc ?_ _) | (with_reducible refine Kd.C_drewN ?_ _) | (with_reducible refine Kd.C_drew ?_))); (case side2 => exact (Kd.N_reads' HO_466000.out).2.1); (case side3 => repeat (first | exact (Kd.N_reads' HO_466001.out).2.2 | (with_reducible refine Kd.C_alloc ?_ _) | (with_reducible refine Kd.C_drewN ?_ _) | (with_reducible refine Kd.C_drew ?_))); (case side4 => exact (Kd.N_reads' HO_466001.out).2.1); rintro e w66 ⟨rfl, hb⟩; refine ⟨_, rfl, ?_⟩; replace HO_6 := Aside0.mk (Kd.V_below (yV HO_6.out) hb); replace HO_466000 := Aside0.mk (Kd.N_below (yN HO_466000.out) hb); replace HO_466001 := Aside0.mk (Kd.N_below (yN HO_466001.out) hb); replace BK455 := Aside0.mk (blk_below (g := gb455) yK hb); replace BK465 := Aside0.mk (blk_below (g := gb465) yK hb); replace HB := Aside0.mk (below_step yB hb); (try clear hb); have hcz67_0 := yZ0 BK465.out; have hcz67_1 := yZ1 BK465.out; have hfz67_0 := blk_frozen BK465.out 0; have hfz67_1 := blk_frozen BK465.out 1) | ((with_reducible refine gate_callee (f := 80) rfl ?_); refine goesL_ (some 65) rfl rfl Try.func80 (by kernel_rfl) rfl #[.slice Ao65 x466001_1.length co65] rfl yQ ?_; (with_reducible refine (subprogram_repeated.calls _ _ x466001_1 true _ ?side1 ?side2 A60.out).mono ?_); (case side1 => repeat (first | exact (Kd.N_reads' HO_466001.out).2.2 | (with_reducible refine Kd.C_alloc ?_ _) | (with_reducible refine Kd.C_drewN ?_ _) | (with_reducible refine Kd.C_drew ?_))); (case side2 => exact (Kd.N_reads' HO_466001.out).2.1); rintro e w68 ⟨rfl, hb⟩; refine ⟨_, rfl, ?_⟩; replace HO_6 := Aside0.mk (Kd.V_below (yV HO_6.out) hb); replace HO_466000 := Aside0.mk (Kd.N_below (yN HO_466000.out) hb); replace HO_466001 := Aside0.mk (Kd.N_below (yN HO_466001.out) hb); replace BK455 := Aside0.mk (blk_below (g := gb455) yK hb); replace BK465 := Aside0.mk (blk_below (g := gb465) yK hb); replace HB := Aside0.mk (below_step yB hb); (try clear hb); have hcz69_0 := yZ0 BK455.out; have hcz69_1 := yZ1 BK455.out; have hfz69_0 := blk_frozen BK455.out 0; have hfz69_1 := blk_frozen BK455.out 1))
       refine bodyPost_ret (results_ct rfl _ _ gb455 54 #[.slice none 0 0, .slice none 0 0] (0, 0) _ rfl (by refine yH ?_; refine blk_put (cs := #[.slice none 0 0, .slice none 0 0]) ?_ 1 _ rfl; refine yH ?_; refine blk_put (cs := #[.slice none 0 0, .slice none 0 0]) ?_ 0 _ rfl; refine yH ?_; exact BK455.out) Try.underlying54 rfl (by kernel_rfl)) rfl ?_
       exact ⟨_, _, by first | rfl | (simp [errW_none, errW_some] <;> rfl) | (simp only [← hji7]; first | rfl | (simp [errW_none, errW_some] <;> rfl)) | (simp [*, errW_none, errW_some] <;> rfl), by first | exact Kd.S_nil _ _ _ _ _ | exact Kd.N_nil _ _ _ _ _ | exact Kd.V_nil _ _ _ _ _ | exact Kd.Q_nil _ _ _ _ _ | exact Kd.R_nil _ _ _ _ _, by first | exact Kd.R_nil _ _ _ _ _ | exact Kd.N_nil _ _ _ _ _ | exact Kd.V_nil _ _ _ _ _ | exact Kd.Q_nil _ _ _ _ _ | exact Kd.S_nil _ _ _ _ _, yB⟩
      replace c61 := Bool.eq_false_iff.mpr c61
      subst c61
      replace H : (some (t462, x466001_1, 0)) = some (r1, r2, r3) := by rw [if_neg (show ¬ (false = true) by decide)] at H; exact H
      simp only [Option.some.injEq, Prod.mk.injEq] at H
      obtain ⟨rfl, rfl, rfl⟩ := H
      obtain ⟨Ao70, co70, eo70⟩ := Kd.V_slice HO_6.out
      subst eo70
      have hnb71 := NB465_455.out
      have hnc71 := NB455_465.out
      have hcz72_0 := yZ0 BK465.out
      have hcz72_1 := yZ1 BK465.out
      have hfz72_0 := blk_frozen BK465.out 0
      have hfz72_1 := blk_frozen BK465.out 1
      obtain ⟨Ao73, co73, eo73⟩ := Kd.N_slice HO_466001.out
      subst eo73
      go_wp2_with (first | ((with_reducible refine gate_callee (f := 79) rfl ?_); refine goesL_ (some 60) rfl rfl Try.func79 (by kernel_rfl) rfl #[.agg #[.slice Ao17 t462.length co17, .slice Ao73 x466001_1.length co73]] rfl yQ ?_; (with_reducible refine (subprogram_ordered.calls k1 _ _ t462 _ _ x466001_1 true _ ?side1 ?side2 ?side3 ?side4 A58.out).mono ?_); (case side1 => repeat (first | exact (Kd.N_reads' HO_466000.out).2.2 | (with_reducible refine Kd.C_alloc ?_ _) | (with_reducible refine Kd.C_drewN ?_ _) | (with_reducible refine Kd.C_drew ?_))); (case side2 => exact (Kd.N_reads' HO_466000.out).2.1); (case side3 => repeat (first | exact (Kd.N_reads' HO_466001.out).2.2 | (with_reducible refine Kd.C_alloc ?_ _) | (with_reducible refine Kd.C_drewN ?_ _) | (with_reducible refine Kd.C_drew ?_))); (case side4 => exact (Kd.N_reads' HO_466001.out).2.1); rintro e w74 ⟨rfl, hb⟩; refine ⟨_, rfl, ?_⟩; replace HO_6 := Aside0.mk (Kd.V_below (yV HO_6.out) hb); replace HO_466000 := Aside0.mk (Kd.N_below (yN HO_466000.out) hb); replace HO_466001 := Aside0.mk (Kd.N_below (yN HO_466001.out) hb); replace BK455 := Aside0.mk (blk_below (g := gb455) yK hb); replace BK465 := Aside0.mk (blk_below (g := gb465) yK hb); replace HB := Aside0.mk (below_step yB hb); (try clear hb); have hcz75_0 := yZ0 BK465.out; have hcz75_1 := yZ1 BK465.out; have hfz75_0 := blk_frozen BK465.out 0; have hfz75_1 := blk_frozen BK465.out 1) | ((with_reducible refine gate_callee (f := 80) rfl ?_); refine goesL_ (some 65) rfl rfl Try.func80 (by kernel_rfl) rfl #[.slice Ao73 x466001_1.length co73] rfl yQ ?_; (with_reducible refine (subprogram_repeated.calls _ _ x466001_1 false _ ?side1 ?side2 A60.out).mono ?_); (case side1 => repeat (first | exact (Kd.N_reads' HO_466001.out).2.2 | (with_reducible refine Kd.C_alloc ?_ _) | (with_reducible refine Kd.C_drewN ?_ _) | (with_reducible refine Kd.C_drew ?_))); (case side2 => exact (Kd.N_reads' HO_466001.out).2.1); rintro e w76 ⟨rfl, hb⟩; refine ⟨_, rfl, ?_⟩; replace HO_6 := Aside0.mk (Kd.V_below (yV HO_6.out) hb); replace HO_466000 := Aside0.mk (Kd.N_below (yN HO_466000.out) hb); replace HO_466001 := Aside0.mk (Kd.N_below (yN HO_466001.out) hb); replace BK455 := Aside0.mk (blk_below (g := gb455) yK hb); replace BK465 := Aside0.mk (blk_below (g := gb465) yK hb); replace HB := Aside0.mk (below_step yB hb); (try clear hb); have hcz77_0 := yZ0 BK465.out; have hcz77_1 := yZ1 BK465.out; have hfz77_0 := blk_frozen BK465.out 0; have hfz77_1 := blk_frozen BK465.out 1; have hcz78_0 := yZ0 BK455.out; have hcz78_1 := yZ1 BK455.out; have hfz78_0 := blk_frozen BK455.out 0; have hfz78_1 := blk_frozen BK455.out 1))
      refine bodyPost_ret (results_ct rfl _ _ gb455 54 #[.slice Ao17 t462.length co17, .slice Ao73 x466001_1.length co73] (0, 0) _ rfl (by refine yH ?_; refine blk_put (cs := #[.slice Ao17 t462.length co17, .slice none 0 0]) ?_ 1 _ rfl; refine yH ?_; refine blk_put (cs := #[.slice none 0 0, .slice none 0 0]) ?_ 0 _ rfl; refine yH ?_; exact BK455.out) Try.underlying54 rfl (by kernel_rfl)) rfl ?_
      exact ⟨_, _, by first | rfl | (simp [errW_none, errW_some] <;> rfl) | (simp only [← hji7]; first | rfl | (simp [errW_none, errW_some] <;> rfl)) | (simp [*, errW_none, errW_some] <;> rfl), by refine yN ?_; exact Kd.N_mono (Kd.N_far (p := ⟨gb455, 1, none⟩) (Kd.N_far (p := ⟨gb455, 0, none⟩) (Kd.N_mono HO_466000.out (fun k_ hk => (⟨hk, hk.2.2.1⟩ : _ ∧ k_ ≠ gb455))) (fun _ hk => hk.2) (.slice Ao17 t462.length co17)) (fun _ hk => hk.2) (.slice Ao73 x466001_1.length co73)) (fun _ hk => ⟨hk.1.1, hk.1.2.1⟩), by refine yN ?_; exact Kd.N_mono (Kd.N_far (p := ⟨gb455, 1, none⟩) (Kd.N_far (p := ⟨gb455, 0, none⟩) (Kd.N_mono HO_466001.out (fun k_ hk => (⟨hk, hk.2.2.1⟩ : _ ∧ k_ ≠ gb455))) (fun _ hk => hk.2) (.slice Ao17 t462.length co17)) (fun _ hk => hk.2) (.slice Ao73 x466001_1.length co73)) (fun _ hk => ⟨hk.1.1, hk.1.2.1⟩), yB⟩
     replace c59 := Bool.eq_false_iff.mpr c59
     subst c59
     replace H : (some (([] : List (S32)), ([] : List (S81)), 1)) = some (r1, r2, r3) := by rw [if_neg (show ¬ (false = true) by decide)] at H; exact H
     simp only [Option.some.injEq, Prod.mk.injEq] at H
     obtain ⟨rfl, rfl, rfl⟩ := H
     obtain ⟨Ao79, co79, eo79⟩ := Kd.V_slice HO_6.out
     subst eo79
     have hnb80 := NB465_455.out
     have hnc80 := NB455_465.out
     have hcz81_0 := yZ0 BK465.out
     have hcz81_1 := yZ1 BK465.out
     have hfz81_0 := blk_frozen BK465.out 0
     have hfz81_1 := blk_frozen BK465.out 1
     obtain ⟨Ao82, co82, eo82⟩ := Kd.N_slice HO_466001.out
     subst eo82
     go_wp2_with (first | ((with_reducible refine gate_callee (f := 79) rfl ?_); refine goesL_ (some 60) rfl rfl Try.func79 (by kernel_rfl) rfl #[.agg #[.slice Ao17 t462.length co17, .slice Ao82 x466001_1.length co82]] rfl yQ ?_; (with_reducible refine (subprogram_ordered.calls k1 _ _ t462 _ _ x466001_1 false _ ?side1 ?side2 ?side3 ?side4 A58.out).mono ?_); (case side1 => repeat (first | exact (Kd.N_reads' HO_466000.out).2.2 | (with_reducible refine Kd.C_alloc ?_ _) | (with_reducible refine Kd.C_drewN ?_ _) | (with_reducible refine Kd.C_drew ?_))); (case side2 => exact (Kd.N_reads' HO_466000.out).2.1); (case side3 => repeat (first | exact (Kd.N_reads' HO_466001.out).2.2 | (with_reducible refine Kd.C_alloc ?_ _) | (with_reducible refine Kd.C_drewN ?_ _) | (with_reducible refine Kd.C_drew ?_))); (case side4 => exact (Kd.N_reads' HO_466001.out).2.1); rintro e w83 ⟨rfl, hb⟩; refine ⟨_, rfl, ?_⟩; replace HO_6 := Aside0.mk (Kd.V_below (yV HO_6.out) hb); replace HO_466000 := Aside0.mk (Kd.N_below (yN HO_466000.out) hb); replace HO_466001 := Aside0.mk (Kd.N_below (yN HO_466001.out) hb); replace BK455 := Aside0.mk (blk_below (g := gb455) yK hb); replace BK465 := Aside0.mk (blk_below (g := gb465) yK hb); replace HB := Aside0.mk (below_step yB hb); (try clear hb); have hcz84_0 := yZ0 BK455.out; have hcz84_1 := yZ1 BK455.out; have hfz84_0 := blk_frozen BK455.out 0; have hfz84_1 := blk_frozen BK455.out 1))
     refine bodyPost_ret (results_ct rfl _ _ gb455 54 #[.slice none 0 0, .slice none 0 0] (0, 0) _ rfl (by refine yH ?_; refine blk_put (cs := #[.slice none 0 0, .slice none 0 0]) ?_ 1 _ rfl; refine yH ?_; refine blk_put (cs := #[.slice none 0 0, .slice none 0 0]) ?_ 0 _ rfl; refine yH ?_; exact BK455.out) Try.underlying54 rfl (by kernel_rfl)) rfl ?_
     exact ⟨_, _, by first | rfl | (simp [errW_none, errW_some] <;> rfl) | (simp only [← hji7]; first | rfl | (simp [errW_none, errW_some] <;> rfl)) | (simp [*, errW_none, errW_some] <;> rfl), by first | exact Kd.S_nil _ _ _ _ _ | exact Kd.N_nil _ _ _ _ _ | exact Kd.V_nil _ _ _ _ _ | exact Kd.Q_nil _ _ _ _ _ | exact Kd.R_nil _ _ _ _ _, by first | exact Kd.R_nil _ _ _ _ _ | exact Kd.N_nil _ _ _ _ _ | exact Kd.V_nil _ _ _ _ _ | exact Kd.Q_nil _ _ _ _ _ | exact Kd.S_nil _ _ _ _ _, yB⟩
  rw [if_neg c9] at H
  exact absurd H (by simp)
 rw [if_neg c8] at H
 exact absurd H (by simp)
def swarfref43_Find.l0 : Nat → Int → Int → List (S32) → List (S58) → Option (Int)
 | 0, _, _, _, _ => none
 | k + 1, x1, x5, x541000, x541001 => if x5 < (x541001.length : Int) then (if 0 ≤ x5 then (if ((rd_T58 x541001 x5).f0) = x1 then (some x5) else (swarfref43_Find.l0 k x1 (wrap64 (x5 + 1)) x541000 x541001)) else (none)) else (some (-1))
def swarfref43_Find.f (k : Nat) (l0_0 : List (S32)) (l0_1 : List (S58)) (a1 : Int) : Option (Int) := swarfref43_Find.l0 k a1 0 l0_0 l0_1
set_option maxHeartbeats 8000000 in
set_option maxRecDepth 100000 in
theorem swarfref43_Find.calls (k : Nat) (A0_0 : Option Addr) (c0_0 : Nat) (l0_0 : List (S32)) (A0_1 : Option Addr) (c0_1 : Nat) (l0_1 : List (S58)) (a1 : Int) (r : Int) (w : World) (hr0_0 : Kd.C k32 w A0_0 l0_0.length l0_0) (hc0_0 : l0_0.length ≤ c0_0) (hr0_1 : Kd.C k58 w A0_1 l0_1.length l0_1) (hc0_1 : l0_1.length ≤ c0_1) (h : swarfref43_Find.f k l0_0 l0_1 a1 = some r) :
  Calls Try.prog 30 #[.agg #[.slice A0_0 l0_0.length c0_0, .slice A0_1 l0_1.length c0_1], .int .i64 a1] w fun e w' => e = .returned (.int .i64 r) ∧ Below w.heap.size w w' := by
 have hu48 := Try.underlying48
 have HR0_0 := Aside0.mk hr0_0
 have HC0_0 := Aside0.mk hc0_0
 clear hr0_0 hc0_0
 have HR0_1 := Aside0.mk hr0_1
 have HC0_1 := Aside0.mk hc0_1
 clear hr0_1 hc0_1
 have HB := Aside0.mk (Below.refl w.heap.size w)
 have H : (swarfref43_Find.l0 k a1 0 l0_0 l0_1) = some r := h
 clear h
 have H' := Aside0.mk H
 clear H
 go_enter Try.func30, Try.ntmps30
 go_wp2_with (first | ((with_reducible refine gate_dst (N := 2) rfl ?_); refine yX 2 #[.slice A0_0 l0_0.length c0_0, .slice A0_1 l0_1.length c0_1] 48 ?_; intro gb540 hg w3 hbox hb; have BK540 := Aside0.mk (hbox); have GE540 := Aside0.mk ((yG hg : w.heap.size ≤ gb540)); replace HB := Aside0.mk (below_step yB hb); clear hb hbox hg))
 go_loopg [5] k (fun kq v5 w' => ∃ (x5_1 : Int), v5 = .int .i64 x5_1 ∧ Aside0 (swarfref43_Find.l0 kq a1 x5_1 l0_0 l0_1 = some r) ∧ Aside0 (kq ≤ k) ∧ Aside0 (w'.heap[gb540]? = some (.cells #[(.slice A0_0 l0_0.length c0_0), (.slice A0_1 l0_1.length c0_1)] 48 (0, 0))) ∧ Aside0 (Below w.heap.size w w'))
 case atStart => exact ⟨(0), yS, H', ⟨Nat.le_refl _⟩, ⟨by refine yH ?_; exact BK540.out⟩, ⟨yB⟩⟩
 case round =>
  clear H'
  try clear p2
  try clear c3
  obtain ⟨x5_1, rfl, HA, HK1, BK540, HB⟩ := hrel
  cases gk with
  | zero => exact absurd HA.out (by simp [swarfref43_Find.l0])
  | succ k1 =>
   have H := HA.out
   clear HA
   simp only [swarfref43_Find.l0] at H
   by_cases c4 : x5_1 < (l0_1.length : Int)
   ·rw [if_pos c4] at H
    have c4b0 := decide_eq_true c4
    clear c4
    by_cases c5 : 0 ≤ x5_1
    ·rw [if_pos c5] at H
     have c5b0 := decide_eq_true c5
     clear c5
     by_cases c6 : ((rd_T58 l0_1 x5_1).f0) = a1
     ·rw [if_pos c6] at H
      have c6b0 : (((rd_T58 l0_1 x5_1).f0) == a1) = true := beq_iff_eq.mpr c6
      have c6b1 : (((rd_T58 l0_1 x5_1).f0) != a1) = false := bne_eq_false_iff_eq.mpr c6
      clear c6
      obtain rfl := Option.some.inj H
      have hcz7_0 := yZ0 BK540.out
      have hcz7_1 := yZ1 BK540.out
      have hfz7_0 := blk_frozen BK540.out 0
      have hfz7_1 := blk_frozen BK540.out 1
      have p541 : 0 ≤ (x5_1 : Int) := yD
      have q541 : x5_1 < (l0_1.length : Int) := yD
      obtain ⟨ad541, A541_1, c541_1, e541, hx541_0, hx541_1, hl541_1, hi541_1⟩ := at_T58 HR0_1.out x5_1 p541 q541
      cases e541
      replace hx541_0 := yM HB.out hx541_0
      replace hx541_1 := yM HB.out hx541_1
      have HR541_1 := Aside0.mk hi541_1
      have HC541_1 := Aside0.mk hl541_1
      clear hi541_1 hl541_1
      replace p541 := eq_true p541
      replace q541 := eq_true q541
      go_wp2
      go_ret
      exact ⟨yE, yB⟩
     rw [if_neg c6] at H
     have c6b0 : (((rd_T58 l0_1 x5_1).f0) == a1) = false := beq_eq_false_iff_ne.mpr c6
     have c6b1 : (((rd_T58 l0_1 x5_1).f0) != a1) = true := bne_iff_ne.mpr c6
     have H' := Aside0.mk H
     clear H
     have hcz8_0 := yZ0 BK540.out
     have hcz8_1 := yZ1 BK540.out
     have hfz8_0 := blk_frozen BK540.out 0
     have hfz8_1 := blk_frozen BK540.out 1
     have p541 : 0 ≤ (x5_1 : Int) := yD
     have q541 : x5_1 < (l0_1.length : Int) := yD
     obtain ⟨ad541, A541_1, c541_1, e541, hx541_0, hx541_1, hl541_1, hi541_1⟩ := at_T58 HR0_1.out x5_1 p541 q541
     cases e541
     replace hx541_0 := yM HB.out hx541_0
     replace hx541_1 := yM HB.out hx541_1
     have HR541_1 := Aside0.mk hi541_1
     have HC541_1 := Aside0.mk hl541_1
     clear hi541_1 hl541_1
     replace p541 := eq_true p541
     replace q541 := eq_true q541
     go_wp2
     go_roundg k1
     case measure => have := HK1.out; omega
     case rel => exact ⟨(wrap64 (x5_1 + 1)), yS, H', ⟨by have := HK1.out; omega⟩, ⟨by refine yH ?_; exact BK540.out⟩, ⟨yB⟩⟩
    rw [if_neg c5] at H
    exact absurd H (by simp)
   rw [if_neg c4] at H
   have c4b0 := decide_eq_false c4
   clear c4
   obtain rfl := Option.some.inj H
   have hcz9_0 := yZ0 BK540.out
   have hcz9_1 := yZ1 BK540.out
   have hfz9_0 := blk_frozen BK540.out 0
   have hfz9_1 := blk_frozen BK540.out 1
   go_wp2
   go_ret
   exact ⟨yE, yB⟩
end Go.Proofs.Ytehkhbnhmehobaa.P
namespace Go.Proofs.Ytehkhbnhmehobaa.P
open Go.RowKit Go.Proofs.YtehkhbnhmehobaaW.PrintWords Go.Proofs.YtehkhbnhmehobaaW.PrintLast Go.Proofs.YtehkhbnhmehobaaW.PrintMore
set_option linter.unusedVariables false
set_option linter.unusedSimpArgs false
def idxS {α : Type} (q : α → Bool) : List α → Int → Int
  | [], _ => -1
  | x :: l, i => if q x = true then i else idxS q l (i + 1)
theorem idx_ev {α : Type} {P : Nat → α → Option Bool} {q : α → Bool} : ∀ (l : List α) (i : Int), (∀ x ∈ l, Ev (fun k => P k x) (q x)) → Ev (fun k => idxF (P k) l i) (idxS q l i)
  | [], i, h => Ev.some
  | x :: l, i, h => by
    unfold idxS
    refine Ev.bind (h x List.mem_cons_self) ?_
    cases hq : q x with
    | true => exact Ev.pos rfl Ev.some
    | false => exact Ev.neg (by decide) (idx_ev l (i + 1) (fun y hy => h y (List.mem_cons_of_mem _ hy)))
theorem idxS_at {α : Type} {q : α → Bool} {b : α} (c : List α) (hb : q b = true) : ∀ (a : List α) (i : Int), (∀ x ∈ a, q x = false) → idxS q (a ++ b :: c) i = i + (a.length : Int)
  | [], i, h => by rw [List.nil_append, idxS, if_pos hb]; simp
  | x :: a, i, h => by
    rw [List.cons_append, idxS, if_neg (by rw [h x List.mem_cons_self]; decide), idxS_at c hb a (i + 1) (fun y hy => h y (List.mem_cons_of_mem _ hy))]
    simp only [List.length_cons]
    omega
theorem Ev.map {α β : Type} {g : Nat → Option α} {v : α} (f : α → β) (h : Ev g v) : Ev (fun k => (g k).map f) (f v) := by
  obtain ⟨k0, hk⟩ := h
  exact ⟨k0, fun k h => by show (g k).map f = _; rw [hk k h]; rfl⟩
structure ProperP (m : List Bk) (s : List Rb) : Prop where
  ne : 1 ≤ m.length
  main : ∀ (j : Nat) (h : j < m.length), hasS m[j].f1 77 99000 = false ∧ anyS m[j].f1 79 = false ∧ hasS m[j].f1 77 30000 = decide (j + 1 = m.length)
  sub : ∀ (j : Nat) (h : j < s.length), 1 ≤ s[j].f0 ∧ s[j].f0 ≤ 9999 ∧ (∀ (i : Nat) (h2 : i < j), s[i].f0 ≠ s[j].f0) ∧ ∀ b ∈ s[j].f1, markS b.f1 = false
section
variable {m : List Bk} {s : List Rb} (hg : goodP m s) (hp : ProperP m s)
include hp
include hg
end
section
variable {m : List Bk} {s : List Rb} (hg : goodP m s) (hp : ProperP m s)
include hg hp
end
end Go.Proofs.Ytehkhbnhmehobaa.P
namespace Go.Proofs.Ytehkhbnhmehobaa.P
open Go.RowKit Go.Proofs.YtehkhbnhmehobaaW.PrintWords Go.Proofs.YtehkhbnhmehobaaW.PrintLast Go.Proofs.YtehkhbnhmehobaaW.PrintMore
attribute [local go_sem] max2_int min2_int max_two min_two max_three min_three max_four min_four
set_option linter.unusedVariables false
set_option linter.unusedSimpArgs false
end Go.Proofs.Ytehkhbnhmehobaa.P
namespace Go.Proofs.Ytehkhbnhmehobaa.P
open Go.RowKit Go.Proofs.YtehkhbnhmehobaaW.PrintWords Go.Proofs.YtehkhbnhmehobaaW.PrintLast Go.Proofs.YtehkhbnhmehobaaW.PrintMore
set_option linter.unusedVariables false
set_option linter.unusedSimpArgs false
theorem idxS_lt {α : Type} {q : α → Bool} : ∀ (l : List α) (i : Int), 0 ≤ i → -1 ≤ idxS q l i ∧ idxS q l i < i + (l.length : Int)
  | [], i, h => by simp only [idxS, List.length_nil]; omega
  | x :: l, i, h => by
    rw [idxS]
    split
    · simp only [List.length_cons]; omega
    have := idxS_lt (q := q) l (i + 1) (by omega)
    simp only [List.length_cons]; omega
def findS (s : List Rb) (n : Int) : Int := idxS (fun x : Rb => decide (x.f0 = n)) s 0
theorem find_l0 (m : List Bk) (s : List Rb) (v : Int) (hs : s.length ≤ 1000000) : ∀ (n j : Nat), j + n = s.length → Ev (fun k => swarfref43_Find.l0 k v (j : Int) m s) (idxS (fun x : Rb => decide (x.f0 = v)) (s.drop j) (j : Int)) := by
  intro n
  induction n with
  | zero =>
    intro j hj
    refine Ev.step (fun k => by rw [swarfref43_Find.l0]) ?_
    rw [List.drop_eq_nil_of_le (by omega)]
    exact Ev.neg (by omega) Ev.some
  | succ n ih =>
    intro j hj
    have h0 := ih (j + 1) (by omega)
    refine Ev.step (fun k => by rw [swarfref43_Find.l0]) (Ev.pos (by omega) (Ev.pos (by omega) ?_))
    rw [List.drop_eq_getElem_cons (show j < s.length by omega), idxS, rd_Rb (show j < s.length by omega), wrapI (by omega)]
    by_cases h : (s[j]'(by omega)).f0 = v
    · rw [if_pos (decide_eq_true h)]; exact Ev.pos h Ev.some
    rw [if_neg (by rw [decide_eq_false h]; decide)]; exact Ev.neg h h0
theorem find_ev (m : List Bk) (s : List Rb) (v : Int) (hs : s.length ≤ 1000000) : Ev (fun k => swarfref43_Find.f k m s v) (findS s v) := by
  unfold swarfref43_Find.f findS
  simpa using find_l0 m s v hs s.length 0 (by omega)
section
variable {m : List Bk} {s : List Rb} (hg : goodP m s)
include hg
end
end Go.Proofs.Ytehkhbnhmehobaa.P
namespace Go.Proofs.Ytehkhbnhmehobaa.P
open Go.RowKit Go.Proofs.YtehkhbnhmehobaaW.PrintWords Go.Proofs.YtehkhbnhmehobaaW.PrintLast Go.Proofs.YtehkhbnhmehobaaW.PrintMore
attribute [local go_sem] max2_int min2_int max_two min_two max_three min_three max_four min_four
set_option linter.unusedVariables false
set_option linter.unusedSimpArgs false
def swarfref43_only.f (a0_0 : Bool) (l0_1 : List (S78)) (a0_2 : ByteArray) (a1 : Int) : Option (Bool) := if (l0_1.length : Int) = 1 then (if 0 < (l0_1.length : Int) then (if ((rd_T78 l0_1 0).f0) = a1 then (if a0_0 = true then (some false) else (some (a0_2.toList == ([] : List UInt8)))) else (some false)) else (none)) else (some false)
set_option maxHeartbeats 8000000 in
set_option maxRecDepth 100000 in
theorem swarfref43_only.calls (a0_0 : Bool) (A0_1 : Option Addr) (c0_1 : Nat) (l0_1 : List (S78)) (a0_2 : ByteArray) (a1 : Int) (r : Bool) (w : World) (hr0_1 : Kd.C k78 w A0_1 l0_1.length l0_1) (hc0_1 : l0_1.length ≤ c0_1) (h : swarfref43_only.f a0_0 l0_1 a0_2 a1 = some r) :
  Calls Try.prog 84 #[.agg #[.bool a0_0, .slice A0_1 l0_1.length c0_1, .string a0_2], .int .u8 a1] w fun e w' => e = .returned (.bool r) ∧ Below w.heap.size w w' := by
 have hu32 := Try.underlying32
 have HR0_1 := Aside0.mk hr0_1
 have HC0_1 := Aside0.mk hc0_1
 clear hr0_1 hc0_1
 have HB := Aside0.mk (Below.refl w.heap.size w)
 have H : (if (l0_1.length : Int) = 1 then (if 0 < (l0_1.length : Int) then (if ((rd_T78 l0_1 0).f0) = a1 then (if a0_0 = true then (some false) else (some (a0_2.toList == ([] : List UInt8)))) else (some false)) else (none)) else (some false)) = some r := h
 clear h
 by_cases c3 : (l0_1.length : Int) = 1
 ·rw [if_pos c3] at H
  have c3b0 : ((l0_1.length : Int) == 1) = true := beq_iff_eq.mpr c3
  have c3b1 : ((l0_1.length : Int) != 1) = false := bne_eq_false_iff_eq.mpr c3
  clear c3
  by_cases c4 : 0 < (l0_1.length : Int)
  ·rw [if_pos c4] at H
   have c4b0 := decide_eq_true c4
   have c4b1 : decide (0 < l0_1.length) = true := decide_eq_true (by omega)
   clear c4
   by_cases c5 : ((rd_T78 l0_1 0).f0) = a1
   ·rw [if_pos c5] at H
    have c5b0 : (((rd_T78 l0_1 0).f0) == a1) = true := beq_iff_eq.mpr c5
    have c5b1 : (((rd_T78 l0_1 0).f0) != a1) = false := bne_eq_false_iff_eq.mpr c5
    clear c5
    by_cases c6 : a0_0 = true
    ·subst c6
     rw [if_pos rfl] at H
     obtain rfl := Option.some.inj H
     go_enter Try.func84, Try.ntmps84
     go_wp2_with (first | ((with_reducible refine gate_dst (N := 2) rfl ?_); refine yX 2 #[.bool true, .slice A0_1 l0_1.length c0_1, .string a0_2] 32 ?_; intro gb836 hg w7 hbox hb; have BK836 := Aside0.mk (hbox); have GW836 := Aside0.mk ((yG hg : w.heap.size ≤ gb836)); have GE836 := Aside0.mk ((yG hg : w.heap.size ≤ gb836)); replace HB := Aside0.mk (below_step yB hb); clear hb hbox hg; have hcz8_0 := yZ0 BK836.out; have hcz8_1 := yZ1 BK836.out; have hcz8_2 := yZ2 BK836.out; have hfz8_0 := blk_frozen BK836.out 0; have hfz8_1 := blk_frozen BK836.out 1; have hfz8_2 := blk_frozen BK836.out 2; have p837 : 0 ≤ (0 : Int) := (by omega); have q837 : 0 < (l0_1.length : Int) := yD; obtain ⟨ad837, e837, hx837_0, hx837_1⟩ := at_T78 HR0_1.out 0 p837 q837; cases e837; have qi837 : (0 < l0_1.length) = True := eq_true (by omega); (try rw [show ((0 : Int)).toNat = 0 from rfl] at hx837_0); (try rw [show 0 * 2 = 0 from rfl] at hx837_0); (try rw [Addr.add_zero'] at hx837_0); (try rw [show ((0 : Int)).toNat = 0 from rfl] at hx837_1); (try rw [show 0 * 2 = 0 from rfl] at hx837_1); (try rw [Addr.add_zero'] at hx837_1); replace hx837_0 := yM HB.out hx837_0; replace hx837_1 := yM HB.out hx837_1; replace p837 := eq_true p837; replace q837 := eq_true q837))
     go_ret
     exact ⟨yE, yB⟩
    replace c6 := Bool.eq_false_iff.mpr c6
    subst c6
    replace H : (some (a0_2.toList == ([] : List UInt8))) = some r := by rw [if_neg (show ¬ (false = true) by decide)] at H; exact H
    obtain rfl := Option.some.inj H
    go_enter Try.func84, Try.ntmps84
    go_wp2_with (first | ((with_reducible refine gate_dst (N := 2) rfl ?_); refine yX 2 #[.bool false, .slice A0_1 l0_1.length c0_1, .string a0_2] 32 ?_; intro gb836 hg w9 hbox hb; have BK836 := Aside0.mk (hbox); have GW836 := Aside0.mk ((yG hg : w.heap.size ≤ gb836)); have GE836 := Aside0.mk ((yG hg : w.heap.size ≤ gb836)); replace HB := Aside0.mk (below_step yB hb); clear hb hbox hg; have hcz10_0 := yZ0 BK836.out; have hcz10_1 := yZ1 BK836.out; have hcz10_2 := yZ2 BK836.out; have hfz10_0 := blk_frozen BK836.out 0; have hfz10_1 := blk_frozen BK836.out 1; have hfz10_2 := blk_frozen BK836.out 2; have p837 : 0 ≤ (0 : Int) := (by omega); have q837 : 0 < (l0_1.length : Int) := yD; obtain ⟨ad837, e837, hx837_0, hx837_1⟩ := at_T78 HR0_1.out 0 p837 q837; cases e837; have qi837 : (0 < l0_1.length) = True := eq_true (by omega); (try rw [show ((0 : Int)).toNat = 0 from rfl] at hx837_0); (try rw [show 0 * 2 = 0 from rfl] at hx837_0); (try rw [Addr.add_zero'] at hx837_0); (try rw [show ((0 : Int)).toNat = 0 from rfl] at hx837_1); (try rw [show 0 * 2 = 0 from rfl] at hx837_1); (try rw [Addr.add_zero'] at hx837_1); replace hx837_0 := yM HB.out hx837_0; replace hx837_1 := yM HB.out hx837_1; replace p837 := eq_true p837; replace q837 := eq_true q837))
    go_ret
    exact ⟨yE, yB⟩
   rw [if_neg c5] at H
   have c5b0 : (((rd_T78 l0_1 0).f0) == a1) = false := beq_eq_false_iff_ne.mpr c5
   have c5b1 : (((rd_T78 l0_1 0).f0) != a1) = true := bne_iff_ne.mpr c5
   obtain rfl := Option.some.inj H
   go_enter Try.func84, Try.ntmps84
   go_wp2_with (first | ((with_reducible refine gate_dst (N := 2) rfl ?_); refine yX 2 #[.bool a0_0, .slice A0_1 l0_1.length c0_1, .string a0_2] 32 ?_; intro gb836 hg w11 hbox hb; have BK836 := Aside0.mk (hbox); have GW836 := Aside0.mk ((yG hg : w.heap.size ≤ gb836)); have GE836 := Aside0.mk ((yG hg : w.heap.size ≤ gb836)); replace HB := Aside0.mk (below_step yB hb); clear hb hbox hg; have hcz12_0 := yZ0 BK836.out; have hcz12_1 := yZ1 BK836.out; have hcz12_2 := yZ2 BK836.out; have hfz12_0 := blk_frozen BK836.out 0; have hfz12_1 := blk_frozen BK836.out 1; have hfz12_2 := blk_frozen BK836.out 2; have p837 : 0 ≤ (0 : Int) := (by omega); have q837 : 0 < (l0_1.length : Int) := yD; obtain ⟨ad837, e837, hx837_0, hx837_1⟩ := at_T78 HR0_1.out 0 p837 q837; cases e837; have qi837 : (0 < l0_1.length) = True := eq_true (by omega); (try rw [show ((0 : Int)).toNat = 0 from rfl] at hx837_0); (try rw [show 0 * 2 = 0 from rfl] at hx837_0); (try rw [Addr.add_zero'] at hx837_0); (try rw [show ((0 : Int)).toNat = 0 from rfl] at hx837_1); (try rw [show 0 * 2 = 0 from rfl] at hx837_1); (try rw [Addr.add_zero'] at hx837_1); replace hx837_0 := yM HB.out hx837_0; replace hx837_1 := yM HB.out hx837_1; replace p837 := eq_true p837; replace q837 := eq_true q837))
   go_ret
   exact ⟨yE, yB⟩
  rw [if_neg c4] at H
  exact absurd H (by simp)
 rw [if_neg c3] at H
 have c3b0 : ((l0_1.length : Int) == 1) = false := beq_eq_false_iff_ne.mpr c3
 have c3b1 : ((l0_1.length : Int) != 1) = true := bne_iff_ne.mpr c3
 obtain rfl := Option.some.inj H
 go_enter Try.func84, Try.ntmps84
 go_wp2_with (first | ((with_reducible refine gate_dst (N := 2) rfl ?_); refine yX 2 #[.bool a0_0, .slice A0_1 l0_1.length c0_1, .string a0_2] 32 ?_; intro gb836 hg w13 hbox hb; have BK836 := Aside0.mk (hbox); have GW836 := Aside0.mk ((yG hg : w.heap.size ≤ gb836)); have GE836 := Aside0.mk ((yG hg : w.heap.size ≤ gb836)); replace HB := Aside0.mk (below_step yB hb); clear hb hbox hg; have hcz14_0 := yZ0 BK836.out; have hcz14_1 := yZ1 BK836.out; have hcz14_2 := yZ2 BK836.out; have hfz14_0 := blk_frozen BK836.out 0; have hfz14_1 := blk_frozen BK836.out 1; have hfz14_2 := blk_frozen BK836.out 2))
 go_ret
 exact ⟨yE, yB⟩
mutual
def swarfref43_Split.l0 : Nat → List (S32) → Int → List (S32) → Option ((List (S32)) × (List (S58)) × Int)
 | 0, _, _, _ => none
 | k + 1, x0, x5, x840000 => if x5 < (x0.length : Int) then (if x5 = 0 then (swarfref43_Split.j1 k x0 x5 true x840000) else (if 0 ≤ (wrap64 (x5 - 1)) then (if (wrap64 (x5 - 1)) < (x0.length : Int) then ((swarfref43_End.f k ((rd_T32 x0 (wrap64 (x5 - 1))).f0) ((rd_T32 x0 (wrap64 (x5 - 1))).f1) ((rd_T32 x0 (wrap64 (x5 - 1))).f2)).bind fun t841 => (swarfref43_Split.j1 k x0 x5 (!t841) x840000)) else (none)) else (none))) else (swarfref43_Split.j1 k x0 x5 false x840000)
def swarfref43_Split.j1 : Nat → List (S32) → Int → Bool → List (S32) → Option ((List (S32)) × (List (S58)) × Int)
 | 0, _, _, _, _ => none
 | k + 1, x0, x5, x24, x840000 => if x24 = true then (if 0 ≤ x5 then (if x5 < (x0.length : Int) then ((swarfref43_Return.f k ((rd_T32 x0 x5).f0) ((rd_T32 x0 x5).f1) ((rd_T32 x0 x5).f2)).bind fun t843 => (if t843 = true then (some (([] : List (S32)), ([] : List (S58)), 1)) else ((swarfref43_letter.f k ((rd_T32 x0 x5).f0) ((rd_T32 x0 x5).f1) ((rd_T32 x0 x5).f2) 79).bind fun t845 => (if t845 = true then (some (([] : List (S32)), ([] : List (S58)), 1)) else (if x840000.length < 2932031007402 then (swarfref43_Split.l0 k x0 (wrap64 (x5 + 1)) (x840000 ++ [(⟨(rd_T32 x0 x5).f0, (rd_T32 x0 x5).f1, (rd_T32 x0 x5).f2⟩ : S32)])) else (none)))))) else (none)) else (none)) else (if x5 = 0 then (swarfref43_Split.j2 k x0 x5 true x840000) else (if 0 ≤ (wrap64 (x5 - 1)) then (if (wrap64 (x5 - 1)) < (x0.length : Int) then ((swarfref43_End.f k ((rd_T32 x0 (wrap64 (x5 - 1))).f0) ((rd_T32 x0 (wrap64 (x5 - 1))).f1) ((rd_T32 x0 (wrap64 (x5 - 1))).f2)).bind fun t851 => (swarfref43_Split.j2 k x0 x5 (!t851) x840000)) else (none)) else (none)))
def swarfref43_Split.j2 : Nat → List (S32) → Int → Bool → List (S32) → Option ((List (S32)) × (List (S58)) × Int)
 | 0, _, _, _, _ => none
 | k + 1, x0, x5, x59, x840000 => if x59 = true then (some (([] : List (S32)), ([] : List (S58)), 1)) else (swarfref43_Split.l1 k x0 x5 false x840000 ([] : List (S58)))
def swarfref43_Split.l1 : Nat → List (S32) → Int → Bool → List (S32) → List (S58) → Option ((List (S32)) × (List (S58)) × Int)
 | 0, _, _, _, _, _ => none
 | k + 1, x0, x5, x6, x840000, x840001 => if x5 < (x0.length : Int) then (if 0 ≤ x5 then ((swarfref43_only.f ((rd_T32 x0 x5).f0) ((rd_T32 x0 x5).f1) ((rd_T32 x0 x5).f2) 79).bind fun t853 => (if t853 = true then (if 0 < (((rd_T32 x0 x5).f1).length : Int) then ((swarfref43_whole.f ((rd_T78 ((rd_T32 x0 x5).f1) 0).f1)).bind fun t856 => (swarfref43_Split.j4 k x0 x5 x6 (t856 == 0) x840000 x840001)) else (none)) else (swarfref43_Split.j4 k x0 x5 x6 true x840000 x840001))) else (none)) else (if x6 = true then (some (([] : List (S32)), ([] : List (S58)), 5)) else (some (x840000, x840001, 0)))
def swarfref43_Split.j4 : Nat → List (S32) → Int → Bool → Bool → List (S32) → List (S58) → Option ((List (S32)) × (List (S58)) × Int)
 | 0, _, _, _, _, _, _ => none
 | k + 1, x0, x5, x6, x82, x840000, x840001 => if x82 = true then (some (([] : List (S32)), ([] : List (S58)), 1)) else (if 0 ≤ x5 then (if x5 < (x0.length : Int) then (if 0 < (((rd_T32 x0 x5).f1).length : Int) then ((swarfref43_whole.f ((rd_T78 ((rd_T32 x0 x5).f1) 0).f1)).bind fun t859 => (if x6 = true then (swarfref43_Split.j5 k x0 x5 true x840000 x840001 t859) else ((swarfref43_Find.f k x840000 x840001 t859).bind fun t861 => (swarfref43_Split.j5 k x0 x5 (decide (t861 ≥ 0)) x840000 x840001 t859)))) else (none)) else (none)) else (none))
def swarfref43_Split.j5 : Nat → List (S32) → Int → Bool → List (S32) → List (S58) → Int → Option ((List (S32)) × (List (S58)) × Int)
 | 0, _, _, _, _, _, _ => none
 | k + 1, x0, x5, x6, x840000, x840001, x861000 => swarfref43_Split.l2 k x0 (wrap64 (x5 + 1)) x6 x840000 x840001 x861000 ([] : List (S32))
def swarfref43_Split.l2 : Nat → List (S32) → Int → Bool → List (S32) → List (S58) → Int → List (S32) → Option ((List (S32)) × (List (S58)) × Int)
 | 0, _, _, _, _, _, _, _ => none
 | k + 1, x0, x5, x6, x840000, x840001, x861000, x861001 => if x5 < (x0.length : Int) then (if 0 ≤ x5 then ((swarfref43_Return.f k ((rd_T32 x0 x5).f0) ((rd_T32 x0 x5).f1) ((rd_T32 x0 x5).f2)).bind fun t863 => (swarfref43_Split.j7 k x0 x5 x6 (!t863) x840000 x840001 x861000 x861001)) else (none)) else (swarfref43_Split.j7 k x0 x5 x6 false x840000 x840001 x861000 x861001)
def swarfref43_Split.j7 : Nat → List (S32) → Int → Bool → Bool → List (S32) → List (S58) → Int → List (S32) → Option ((List (S32)) × (List (S58)) × Int)
 | 0, _, _, _, _, _, _, _, _ => none
 | k + 1, x0, x5, x6, x115, x840000, x840001, x861000, x861001 => if x115 = true then (if 0 ≤ x5 then (if x5 < (x0.length : Int) then ((swarfref43_End.f k ((rd_T32 x0 x5).f0) ((rd_T32 x0 x5).f1) ((rd_T32 x0 x5).f2)).bind fun t870 => (if t870 = true then (some (([] : List (S32)), ([] : List (S58)), 1)) else ((swarfref43_letter.f k ((rd_T32 x0 x5).f0) ((rd_T32 x0 x5).f1) ((rd_T32 x0 x5).f2) 79).bind fun t872 => (if t872 = true then (some (([] : List (S32)), ([] : List (S58)), 1)) else (if x861001.length < 2932031007402 then (swarfref43_Split.l2 k x0 (wrap64 (x5 + 1)) x6 x840000 x840001 x861000 (x861001 ++ [(⟨(rd_T32 x0 x5).f0, (rd_T32 x0 x5).f1, (rd_T32 x0 x5).f2⟩ : S32)])) else (none)))))) else (none)) else (none)) else (if x5 = (x0.length : Int) then (some (([] : List (S32)), ([] : List (S58)), 1)) else (if 0 ≤ x5 then (if x5 < (x0.length : Int) then ((swarfref43_only.f ((rd_T32 x0 x5).f0) ((rd_T32 x0 x5).f1) ((rd_T32 x0 x5).f2) 77).bind fun t865 => (if t865 = true then (if x840001.length < 4398046511104 then (swarfref43_Split.l1 k x0 (wrap64 (x5 + 1)) x6 x840000 (x840001 ++ [(⟨x861000, x861001⟩ : S58)])) else (none)) else (some (([] : List (S32)), ([] : List (S58)), 1)))) else (none)) else (none)))
end
def swarfref43_Split.f (k : Nat) (l0 : List (S32)) : Option ((List (S32)) × (List (S58)) × Int) := swarfref43_Split.l0 k l0 0 ([] : List (S32))
def swarfref43_Split.T6 : Bool × List (List Nat × List Nat) := (true, [([], []), ([0], [0]), ([], []), ([], []), ([2, 3], [2, 3]), ([4], [4]), ([5], [5]), ([1, 6], [1, 6]), ([0, 1, 2, 3, 4, 5, 6, 7], []), ([8, 7, 7, 0, 1, 2, 3, 4, 5, 6, 7], [7, 8])])
def swarfref43_Split.B6 : List Nat := [0, 1, 0, 0, 12, 28, 60, 127, 255, 511]
theorem swarfref43_Split.tab6 : rtab .any (opsOf Try.f46 6) = swarfref43_Split.T6 := by kernel_rfl
theorem swarfref43_Split.bits6 : waitsOk swarfref43_Split.T6.2 swarfref43_Split.B6 = true := by kernel_rfl
def swarfref43_Split.T20 : Bool × List (List Nat × List Nat) := (true, [([], []), ([0], [0]), ([], []), ([], []), ([2, 3], [2, 3]), ([4], [4]), ([5], [5]), ([1, 6], [1, 6]), ([0, 1, 2, 3, 4, 5, 6, 7], []), ([8, 7, 7, 0, 1, 2, 3, 4, 5, 6, 7], [7, 8])])
def swarfref43_Split.B20 : List Nat := [0, 1, 0, 0, 12, 28, 60, 127, 255, 511]
theorem swarfref43_Split.tab20 : rtab .any (opsOf Try.f46 20) = swarfref43_Split.T20 := by kernel_rfl
theorem swarfref43_Split.bits20 : waitsOk swarfref43_Split.T20.2 swarfref43_Split.B20 = true := by kernel_rfl
set_option maxHeartbeats 8000000 in
set_option maxRecDepth 100000 in
theorem swarfref43_Split.calls (k : Nat) (P0_ : Nat → Prop) (A0 : Option Addr) (c0 : Nat) (l0 : List (S32)) (r1 : List (S32)) (r2 : List (S58)) (r3 : Int) (w : World) (hs0 : Kd.V k32 32 w w.heap.size (fun k_ => P0_ k_) (.slice A0 l0.length c0) l0) (h : swarfref43_Split.f k l0 = some (r1, r2, r3)) :
  Calls Try.prog 46 #[.slice A0 l0.length c0] w fun e w' => ∃ v0_ v1_ : Value, e = .returned (.tuple #[.agg #[v0_, v1_], .int .i64 r3]) ∧ Kd.N k32 32 w' w.heap.size (fun k_ => (P0_ k_ ∨ w.heap.size ≤ k_) ∧ some k_ ≠ (v1_ : Value).ownBlock) v0_ r1 ∧ Kd.N k58 58 w' w.heap.size (fun k_ => (P0_ k_ ∨ w.heap.size ≤ k_) ∧ some k_ ≠ (v0_ : Value).ownBlock) v1_ r2 ∧ Below w.heap.size w w' := by
 have hu48 := Try.underlying48
 have hu32 := Try.underlying32
 have hu58 := Try.underlying58
 have HO0 := Aside0.mk (show Kd.V k32 32 w w.heap.size (fun k_ => (P0_ k_ ∨ w.heap.size ≤ k_)) (.slice A0 l0.length c0) l0 from Kd.V_mono hs0 (fun k_ hk => .inl hk))
 have HB := Aside0.mk (Below.refl w.heap.size w)
 have H : (swarfref43_Split.l0 k l0 0 ([] : List (S32))) = some (r1, r2, r3) := h
 clear h
 have H' := Aside0.mk H
 clear H
 go_enter Try.func46, Try.ntmps46
 go_wp2_with (first | ((with_reducible refine gate_dst (N := 2) rfl ?_); refine yX 2 #[.slice none 0 0, .slice none 0 0] 48 ?_; intro gb838 hg w2 hbox hb; replace HO0 := Aside0.mk (Kd.V_below (Kd.V_elderB (yV HO0.out) gb838 (Nat.le_of_eq hg.symm)) hb); have BK838 := Aside0.mk (hbox); have GE838 := Aside0.mk ((yG hg : w.heap.size ≤ gb838)); replace HB := Aside0.mk (below_step yB hb); clear hb hbox hg) | ((with_reducible refine gate_dst (N := 4) rfl ?_); refine yX 4 #[.slice none 0 0, .slice none 0 0] 48 ?_; intro gb839 hg w3 hbox hb; replace HO0 := Aside0.mk (Kd.V_below (Kd.V_elderB (yV HO0.out) gb839 (Nat.le_of_eq hg.symm)) hb); have BK839 := Aside0.mk (hbox); have GE839 := Aside0.mk ((yG hg : w.heap.size ≤ gb839)); replace HB := Aside0.mk (below_step yB hb); have NB838_839 := Aside0.mk ((yJ hg yK : gb838 ≠ gb839)); have NB839_838 := Aside0.mk ((yI hg yK : gb839 ≠ gb838)); replace BK838 := Aside0.mk (blk_below (g := gb838) yK hb); clear hb hbox hg))
 go_loopg [5] k (fun kq v5 w' => ∃ (x5_1 : Int) (x840000_1 : List (S32)) (u840000 : Value), v5 = .int .i64 x5_1 ∧ Aside0 (swarfref43_Split.l0 kq l0 x5_1 x840000_1 = some (r1, r2, r3)) ∧ Aside0 (kq ≤ k) ∧ Aside0 (Kd.V k32 32 w' w.heap.size (fun k_ => (P0_ k_ ∨ w.heap.size ≤ k_) ∧ some k_ ≠ (u840000 : Value).ownBlock ∧ k_ ≠ gb838 ∧ k_ ≠ gb839) (.slice A0 l0.length c0) l0) ∧ Aside0 (Kd.N k32 32 w' w.heap.size (fun k_ => (P0_ k_ ∨ w.heap.size ≤ k_) ∧ k_ ≠ gb838 ∧ k_ ≠ gb839) u840000 x840000_1) ∧ Aside0 (w'.heap[gb838]? = some (.cells #[(.slice none 0 0), (.slice none 0 0)] 48 (0, 0))) ∧ Aside0 (w'.heap[gb839]? = some (.cells #[u840000, (.slice none 0 0)] 48 (0, 0))) ∧ Aside0 (Below w.heap.size w w'))
 case atStart => exact ⟨(0), (([] : List (S32))), (.slice none 0 0), yS, H', ⟨Nat.le_refl _⟩, ⟨by refine yV ?_; exact Kd.V_mono HO0.out (fun _ hk => ⟨hk.1.1, ⟨(by simp [Value.ownBlock]), ⟨hk.1.2, hk.2⟩⟩⟩)⟩, ⟨by first | exact Kd.S_nil _ _ _ _ _ | exact Kd.N_nil _ _ _ _ _ | exact Kd.V_nil _ _ _ _ _ | exact Kd.Q_nil _ _ _ _ _ | exact Kd.R_nil _ _ _ _ _⟩, ⟨by refine yH ?_; exact BK838.out⟩, ⟨by refine yH ?_; exact BK839.out⟩, ⟨yB⟩⟩
 case round =>
  clear H'
  try clear p2
  obtain ⟨x5_1, x840000_1, u840000, rfl, HA, HK1, HO_0, HO_840000, BK838, BK839, HB⟩ := hrel
  cases gk with
  | zero => exact absurd HA.out (by simp [swarfref43_Split.l0])
  | succ k1 =>
   have H := HA.out
   clear HA
   simp only [swarfref43_Split.l0] at H
   have HC4 := Aside0.mk H
   clear H
   go_upto_region 3 with (fail)
   go_cut [24] (fun v24 wc => ∃ (kq : Nat) (x24_3 : Bool), v24 = .bool x24_3 ∧ Aside0 (swarfref43_Split.j1 kq l0 x5_1 x24_3 x840000_1 = some (r1, r2, r3)) ∧ Aside0 (kq ≤ k1) ∧ Aside0 (Kd.V k32 32 wc w.heap.size (fun k_ => (P0_ k_ ∨ w.heap.size ≤ k_) ∧ some k_ ≠ (u840000 : Value).ownBlock ∧ k_ ≠ gb838 ∧ k_ ≠ gb839) (.slice A0 l0.length c0) l0) ∧ Aside0 (Kd.N k32 32 wc w.heap.size (fun k_ => (P0_ k_ ∨ w.heap.size ≤ k_) ∧ k_ ≠ gb838 ∧ k_ ≠ gb839) u840000 x840000_1) ∧ Aside0 (wc.heap[gb838]? = some (.cells #[(.slice none 0 0), (.slice none 0 0)] 48 (0, 0))) ∧ Aside0 (wc.heap[gb839]? = some (.cells #[u840000, (.slice none 0 0)] 48 (0, 0))) ∧ Aside0 (Below w.heap.size w wc))
   case first =>
    have H := HC4.out
    clear HC4
    by_cases c5 : x5_1 < (l0.length : Int)
    ·rw [if_pos c5] at H
     have c5b0 := decide_eq_true c5
     clear c5
     (first | rw [c5b0] | (simp only [i64_w, i32_w]; rw [c5b0]) | skip)
     by_cases c6 : x5_1 = 0
     ·rw [if_pos c6] at H
      have c6b0 : (x5_1 == 0) = true := beq_iff_eq.mpr c6
      have c6b1 : (x5_1 != 0) = false := bne_eq_false_iff_eq.mpr c6
      clear c6
      have H' := Aside0.mk H
      clear H
      go_wp2
      go_meet
      case rel => exact ⟨_, (true), yS, H', ⟨by have := HK1.out; first | omega | exact Nat.le_refl _⟩, ⟨by refine yV ?_; exact HO_0.out⟩, ⟨by refine yN ?_; exact HO_840000.out⟩, ⟨by refine yH ?_; exact BK838.out⟩, ⟨by refine yH ?_; exact BK839.out⟩, ⟨yB⟩⟩
     rw [if_neg c6] at H
     have c6b0 : (x5_1 == 0) = false := beq_eq_false_iff_ne.mpr c6
     have c6b1 : (x5_1 != 0) = true := bne_iff_ne.mpr c6
     obtain ⟨ji7, hji7⟩ : ∃ j_ : Int, (wrap64 (x5_1 - 1)) = j_ := ⟨_, rfl⟩
     replace H : (if 0 ≤ (ji7) then (if (ji7) < (l0.length : Int) then ((swarfref43_End.f k1 ((rd_T32 l0 (ji7)).f0) ((rd_T32 l0 (ji7)).f1) ((rd_T32 l0 (ji7)).f2)).bind fun t841 => (swarfref43_Split.j1 k1 l0 x5_1 (!t841) x840000_1)) else (none)) else (none)) = some (r1, r2, r3) := by first | (rw [hji7] at H; exact H) | (simp only [hji7] at H ⊢; exact H)
     have hji7w : (IntKind.i64.wrap (x5_1 - 1)) = ji7 := (i64_w _).trans hji7
     by_cases c8 : 0 ≤ (ji7)
     ·rw [if_pos c8] at H
      have c8b0 := decide_eq_true c8
      clear c8
      by_cases c9 : (ji7) < (l0.length : Int)
      ·rw [if_pos c9] at H
       have c9b0 := decide_eq_true c9
       clear c9
       replace H := Option.bind_eq_some_iff.mp H
       obtain ⟨t841, A100, H⟩ := H
       have A10 := Aside0.mk A100
       clear A100
       have H' := Aside0.mk H
       clear H
       have p840 : 0 ≤ ((ji7) : Int) := yD
       have q840 : (ji7) < (l0.length : Int) := yD
       obtain ⟨ad840, A840_1, c840_1, e840, hx840_0, hx840_1, hx840_2, hl840_1, hi840_1⟩ := at_T32 (Kd.V_reads' HO_0.out).2.2 (ji7) p840 q840
       cases e840
       obtain ⟨ce840, hce840, hMe840, hcc840⟩ := Kd.V_get HO_0.out z32 (ji7) p840 (by first | exact q840 | exact yD | (have e_ := (Kd.V_reads' HO_0.out).1; omega))
       obtain ⟨ua840_1, uc840_1, rfl, ul840_1, ge840_1⟩ := k32_openF hMe840
       have hv840_1 := hcc840 1 _ rfl
       rw [add_field _ _ 1 (by omega)] at hv840_1
       replace hv840_1 := Option.some.inj (hv840_1.symm.trans hx840_1)
       injection hv840_1 with hva_ hvn_ hvc_
       rw [hva_] at ge840_1
       rw [hvc_] at ul840_1
       have HL840_1 := Aside0.mk (show Kd.V k78 78 _ w.heap.size _ _ ((rd_T32 l0 (ji7)).f1) from Kd.V_mk ul840_1 ge840_1)
       clear hva_ hvn_ hvc_ ge840_1 ul840_1
       clear hcc840 hce840
       have HR840_1 := Aside0.mk hi840_1
       have HC840_1 := Aside0.mk hl840_1
       clear hi840_1 hl840_1
       replace p840 := eq_true p840
       replace q840 := eq_true q840
       go_wp2_with (first | (go_at_call 81; (with_reducible refine (swarfref43_End.calls k1 ((rd_T32 l0 (ji7)).f0) _ _ ((rd_T32 l0 (ji7)).f1) ((rd_T32 l0 (ji7)).f2) t841 _ ?side1 ?side2 A10.out).mono ?_); (case side1 => repeat (first | exact (by repeat (first | (with_reducible exact HR840_1.out) | (with_reducible refine Kd.C_alloc ?_ _) | (with_reducible refine Kd.C_drewN ?_ _) | (with_reducible refine Kd.C_drew ?_) | exact HR840_1.out)) | (with_reducible refine Kd.C_alloc ?_ _) | (with_reducible refine Kd.C_drewN ?_ _) | (with_reducible refine Kd.C_drew ?_))); (case side2 => exact HC840_1.out); rintro e w11 ⟨rfl, hb⟩; replace HO_0 := Aside0.mk (Kd.V_below (yV HO_0.out) hb); replace HO_840000 := Aside0.mk (Kd.N_below (yN HO_840000.out) hb); replace HL840_1 := Aside0.mk (Kd.V_below (yV HL840_1.out) hb); replace BK838 := Aside0.mk (blk_below (g := gb838) yK hb); replace BK839 := Aside0.mk (blk_below (g := gb839) yK hb); replace HR840_1 := Aside0.mk (Kd.C_below (by repeat (first | (with_reducible exact HR840_1.out) | (with_reducible refine Kd.C_alloc ?_ _) | (with_reducible refine Kd.C_drewN ?_ _) | (with_reducible refine Kd.C_drew ?_) | exact HR840_1.out)) hb); replace HB := Aside0.mk (below_step yB hb); (try clear hb)))
       go_meet
       case rel => exact ⟨_, (!t841), yS, H', ⟨by have := HK1.out; first | omega | exact Nat.le_refl _⟩, ⟨by refine yV ?_; exact HO_0.out⟩, ⟨by refine yN ?_; exact HO_840000.out⟩, ⟨by refine yH ?_; exact BK838.out⟩, ⟨by refine yH ?_; exact BK839.out⟩, ⟨yB⟩⟩
      rw [if_neg c9] at H
      exact absurd H (by simp)
     rw [if_neg c8] at H
     exact absurd H (by simp)
    rw [if_neg c5] at H
    have c5b0 := decide_eq_false c5
    clear c5
    (first | rw [c5b0] | (simp only [i64_w, i32_w]; rw [c5b0]) | skip)
    have H' := Aside0.mk H
    clear H
    go_wp2
    go_meet
    case rel => exact ⟨_, (false), yS, H', ⟨by have := HK1.out; first | omega | exact Nat.le_refl _⟩, ⟨by refine yV ?_; exact HO_0.out⟩, ⟨by refine yN ?_; exact HO_840000.out⟩, ⟨by refine yH ?_; exact BK838.out⟩, ⟨by refine yH ?_; exact BK839.out⟩, ⟨yB⟩⟩
   case rest =>
    clear HC4
    try clear p2
    try clear c4
    try clear c5
    try clear c5b0
    try clear c6
    try clear c6b0
    try clear c6b1
    try clear p6
    try clear c8
    try clear c8b0
    try clear p8
    try clear q8
    try clear hx8
    try clear c9
    try clear c9b0
    try clear hx840_0
    try clear hx840_1
    try clear hx840_2
    try clear p2
    try clear p840
    try clear q840
    obtain ⟨kq, x24_3, rfl, HA, HJ3, HO_0, HO_840000, BK838, BK839, HB⟩ := hcut
    cases kq with
    | zero => exact absurd HA.out (by simp [swarfref43_Split.j1])
    | succ kj3 =>
     have H := HA.out
     clear HA
     simp only [swarfref43_Split.j1] at H
     by_cases c12 : x24_3 = true
     ·subst c12
      rw [if_pos rfl] at H
      by_cases c13 : 0 ≤ x5_1
      ·rw [if_pos c13] at H
       have c13b0 := decide_eq_true c13
       clear c13
       by_cases c14 : x5_1 < (l0.length : Int)
       ·rw [if_pos c14] at H
        have c14b0 := decide_eq_true c14
        clear c14
        replace H := Option.bind_eq_some_iff.mp H
        obtain ⟨t843, A150, H⟩ := H
        have A15 := Aside0.mk A150
        clear A150
        by_cases c16 : t843 = true
        ·subst c16
         rw [if_pos rfl] at H
         simp only [Option.some.injEq, Prod.mk.injEq] at H
         obtain ⟨rfl, rfl, rfl⟩ := H
         have p842 : 0 ≤ (x5_1 : Int) := yD
         have q842 : x5_1 < (l0.length : Int) := yD
         obtain ⟨ad842, A842_1, c842_1, e842, hx842_0, hx842_1, hx842_2, hl842_1, hi842_1⟩ := at_T32 (Kd.V_reads' HO_0.out).2.2 x5_1 p842 q842
         cases e842
         obtain ⟨ce842, hce842, hMe842, hcc842⟩ := Kd.V_get HO_0.out z32 x5_1 p842 (by first | exact q842 | exact yD | (have e_ := (Kd.V_reads' HO_0.out).1; omega))
         obtain ⟨ua842_1, uc842_1, rfl, ul842_1, ge842_1⟩ := k32_openF hMe842
         have hv842_1 := hcc842 1 _ rfl
         rw [add_field _ _ 1 (by omega)] at hv842_1
         replace hv842_1 := Option.some.inj (hv842_1.symm.trans hx842_1)
         injection hv842_1 with hva_ hvn_ hvc_
         rw [hva_] at ge842_1
         rw [hvc_] at ul842_1
         have HL842_1 := Aside0.mk (show Kd.V k78 78 _ w.heap.size _ _ ((rd_T32 l0 x5_1).f1) from Kd.V_mk ul842_1 ge842_1)
         clear hva_ hvn_ hvc_ ge842_1 ul842_1
         clear hcc842 hce842
         have HR842_1 := Aside0.mk hi842_1
         have HC842_1 := Aside0.mk hl842_1
         clear hi842_1 hl842_1
         replace p842 := eq_true p842
         replace q842 := eq_true q842
         go_wp2_with (first | ((with_reducible refine gate_callee (f := 82) rfl ?_); refine goesL_ (some 29) rfl rfl Try.func82 (by kernel_rfl) rfl #[.agg #[.bool ((rd_T32 l0 x5_1).f0), .slice A842_1 ((rd_T32 l0 x5_1).f1).length c842_1, .string ((rd_T32 l0 x5_1).f2)]] rfl yQ ?_; (with_reducible refine (swarfref43_Return.calls kj3 ((rd_T32 l0 x5_1).f0) _ _ ((rd_T32 l0 x5_1).f1) ((rd_T32 l0 x5_1).f2) true _ ?side1 ?side2 A15.out).mono ?_); (case side1 => repeat (first | exact (by repeat (first | (with_reducible exact HR842_1.out) | (with_reducible refine Kd.C_alloc ?_ _) | (with_reducible refine Kd.C_drewN ?_ _) | (with_reducible refine Kd.C_drew ?_) | exact HR842_1.out)) | (with_reducible refine Kd.C_alloc ?_ _) | (with_reducible refine Kd.C_drewN ?_ _) | (with_reducible refine Kd.C_drew ?_))); (case side2 => exact HC842_1.out); rintro e w17 ⟨rfl, hb⟩; refine ⟨_, rfl, ?_⟩; replace HO_0 := Aside0.mk (Kd.V_below (yV HO_0.out) hb); replace HO_840000 := Aside0.mk (Kd.N_below (yN HO_840000.out) hb); replace HL842_1 := Aside0.mk (Kd.V_below (yV HL842_1.out) hb); replace BK838 := Aside0.mk (blk_below (g := gb838) yK hb); replace BK839 := Aside0.mk (blk_below (g := gb839) yK hb); replace HR842_1 := Aside0.mk (Kd.C_below (by repeat (first | (with_reducible exact HR842_1.out) | (with_reducible refine Kd.C_alloc ?_ _) | (with_reducible refine Kd.C_drewN ?_ _) | (with_reducible refine Kd.C_drew ?_) | exact HR842_1.out)) hb); replace HB := Aside0.mk (below_step yB hb); (try clear hb); have hnb18 := NB838_839.out; have hnc18 := NB839_838.out; have hcz19_0 := yZ0 BK838.out; have hcz19_1 := yZ1 BK838.out; have hfz19_0 := blk_frozen BK838.out 0; have hfz19_1 := blk_frozen BK838.out 1))
         refine bodyPost_ret (results_ct rfl _ _ gb838 48 #[.slice none 0 0, .slice none 0 0] (0, 0) _ rfl (by refine yH ?_; refine blk_put (cs := #[.slice none 0 0, .slice none 0 0]) ?_ 1 _ rfl; refine yH ?_; refine blk_put (cs := #[.slice none 0 0, .slice none 0 0]) ?_ 0 _ rfl; refine yH ?_; exact BK838.out) Try.underlying48 rfl (by kernel_rfl)) rfl ?_
         exact ⟨_, _, yE, by first | exact Kd.S_nil _ _ _ _ _ | exact Kd.N_nil _ _ _ _ _ | exact Kd.V_nil _ _ _ _ _ | exact Kd.Q_nil _ _ _ _ _ | exact Kd.R_nil _ _ _ _ _, by first | exact Kd.R_nil _ _ _ _ _ | exact Kd.N_nil _ _ _ _ _ | exact Kd.V_nil _ _ _ _ _ | exact Kd.Q_nil _ _ _ _ _ | exact Kd.S_nil _ _ _ _ _, yB⟩
        replace c16 := Bool.eq_false_iff.mpr c16
        subst c16
        replace H : ((swarfref43_letter.f kj3 ((rd_T32 l0 x5_1).f0) ((rd_T32 l0 x5_1).f1) ((rd_T32 l0 x5_1).f2) 79).bind fun t845 => (if t845 = true then (some (([] : List (S32)), ([] : List (S58)), 1)) else (if x840000_1.length < 2932031007402 then (swarfref43_Split.l0 kj3 l0 (wrap64 (x5_1 + 1)) (x840000_1 ++ [(⟨(rd_T32 l0 x5_1).f0, (rd_T32 l0 x5_1).f1, (rd_T32 l0 x5_1).f2⟩ : S32)])) else (none)))) = some (r1, r2, r3) := by rw [if_neg (show ¬ (false = true) by decide)] at H; exact H
        replace H := Option.bind_eq_some_iff.mp H
        obtain ⟨t845, A200, H⟩ := H
        have A20 := Aside0.mk A200
        clear A200
        by_cases c21 : t845 = true
        ·subst c21
         rw [if_pos rfl] at H
         simp only [Option.some.injEq, Prod.mk.injEq] at H
         obtain ⟨rfl, rfl, rfl⟩ := H
         have p842 : 0 ≤ (x5_1 : Int) := yD
         have q842 : x5_1 < (l0.length : Int) := yD
         obtain ⟨ad842, A842_1, c842_1, e842, hx842_0, hx842_1, hx842_2, hl842_1, hi842_1⟩ := at_T32 (Kd.V_reads' HO_0.out).2.2 x5_1 p842 q842
         cases e842
         obtain ⟨ce842, hce842, hMe842, hcc842⟩ := Kd.V_get HO_0.out z32 x5_1 p842 (by first | exact q842 | exact yD | (have e_ := (Kd.V_reads' HO_0.out).1; omega))
         obtain ⟨ua842_1, uc842_1, rfl, ul842_1, ge842_1⟩ := k32_openF hMe842
         have hv842_1 := hcc842 1 _ rfl
         rw [add_field _ _ 1 (by omega)] at hv842_1
         replace hv842_1 := Option.some.inj (hv842_1.symm.trans hx842_1)
         injection hv842_1 with hva_ hvn_ hvc_
         rw [hva_] at ge842_1
         rw [hvc_] at ul842_1
         have HL842_1 := Aside0.mk (show Kd.V k78 78 _ w.heap.size _ _ ((rd_T32 l0 x5_1).f1) from Kd.V_mk ul842_1 ge842_1)
         clear hva_ hvn_ hvc_ ge842_1 ul842_1
         clear hcc842 hce842
         have HR842_1 := Aside0.mk hi842_1
         have HC842_1 := Aside0.mk hl842_1
         clear hi842_1 hl842_1
         replace p842 := eq_true p842
         replace q842 := eq_true q842
         go_wp2_with (first | ((with_reducible refine gate_callee (f := 82) rfl ?_); refine goesL_ (some 29) rfl rfl Try.func82 (by kernel_rfl) rfl #[.agg #[.bool ((rd_T32 l0 x5_1).f0), .slice A842_1 ((rd_T32 l0 x5_1).f1).length c842_1, .string ((rd_T32 l0 x5_1).f2)]] rfl yQ ?_; (with_reducible refine (swarfref43_Return.calls kj3 ((rd_T32 l0 x5_1).f0) _ _ ((rd_T32 l0 x5_1).f1) ((rd_T32 l0 x5_1).f2) false _ ?side1 ?side2 A15.out).mono ?_); (case side1 => repeat (first | exact (by repeat (first | (with_reducible exact HR842_1.out) | (with_reducible refine Kd.C_alloc ?_ _) | (with_reducible refine Kd.C_drewN ?_ _) | (with_reducible refine Kd.C_drew ?_) | exact HR842_1.out)) | (with_reducible refine Kd.C_alloc ?_ _) | (with_reducible refine Kd.C_drewN ?_ _) | (with_reducible refine Kd.C_drew ?_))); (case side2 => exact HC842_1.out); rintro e w22 ⟨rfl, hb⟩; refine ⟨_, rfl, ?_⟩; replace HO_0 := Aside0.mk (Kd.V_below (yV HO_0.out) hb); replace HO_840000 := Aside0.mk (Kd.N_below (yN HO_840000.out) hb); replace HL842_1 := Aside0.mk (Kd.V_below (yV HL842_1.out) hb); replace BK838 := Aside0.mk (blk_below (g := gb838) yK hb); replace BK839 := Aside0.mk (blk_below (g := gb839) yK hb); replace HR842_1 := Aside0.mk (Kd.C_below (by repeat (first | (with_reducible exact HR842_1.out) | (with_reducible refine Kd.C_alloc ?_ _) | (with_reducible refine Kd.C_drewN ?_ _) | (with_reducible refine Kd.C_drew ?_) | exact HR842_1.out)) hb); replace HB := Aside0.mk (below_step yB hb); (try clear hb); have p844 : 0 ≤ (x5_1 : Int) := yD; have q844 : x5_1 < (l0.length : Int) := yD; obtain ⟨ad844, A844_1, c844_1, e844, hx844_0, hx844_1, hx844_2, hl844_1, hi844_1⟩ := at_T32 (Kd.V_reads' HO_0.out).2.2 x5_1 p844 q844; obtain rfl : ad842 = ad844 := (by injection e844); obtain ⟨ce844, hce844, hMe844, hcc844⟩ := Kd.V_get HO_0.out z32 x5_1 p844 (by first | exact q844 | exact yD | (have e_ := (Kd.V_reads' HO_0.out).1; omega)); obtain ⟨ua844_1, uc844_1, rfl, ul844_1, ge844_1⟩ := k32_openF hMe844; have hv844_1 := hcc844 1 _ rfl; rw [add_field _ _ 1 (by omega)] at hv844_1; replace hv844_1 := Option.some.inj (hv844_1.symm.trans hx844_1); injection hv844_1 with hva_ hvn_ hvc_; rw [hva_] at ge844_1; rw [hvc_] at ul844_1; have HL844_1 := Aside0.mk (show Kd.V k78 78 _ w.heap.size _ _ ((rd_T32 l0 x5_1).f1) from Kd.V_mk ul844_1 ge844_1); clear hva_ hvn_ hvc_ ge844_1 ul844_1; clear hcc844 hce844; have HR844_1 := Aside0.mk hi844_1; have HC844_1 := Aside0.mk hl844_1; clear hi844_1 hl844_1; replace p844 := eq_true p844; replace q844 := eq_true q844) | (go_at_call 83; (with_reducible refine (swarfref43_letter.calls kj3 ((rd_T32 l0 x5_1).f0) _ _ ((rd_T32 l0 x5_1).f1) ((rd_T32 l0 x5_1).f2) 79 true _ ?side1 ?side2 A20.out).mono ?_); (case side1 => repeat (first | exact (by repeat (first | (with_reducible exact HR844_1.out) | (with_reducible refine Kd.C_alloc ?_ _) | (with_reducible refine Kd.C_drewN ?_ _) | (with_reducible refine Kd.C_drew ?_) | exact HR844_1.out)) | (with_reducible refine Kd.C_alloc ?_ _) | (with_reducible refine Kd.C_drewN ?_ _) | (with_reducible refine Kd.C_drew ?_))); (case side2 => exact HC844_1.out); rintro e w23 ⟨rfl, hb⟩; replace HO_0 := Aside0.mk (Kd.V_below (yV HO_0.out) hb); replace HO_840000 := Aside0.mk (Kd.N_below (yN HO_840000.out) hb); replace HL842_1 := Aside0.mk (Kd.V_below (yV HL842_1.out) hb); replace HL844_1 := Aside0.mk (Kd.V_below (yV HL844_1.out) hb); replace BK838 := Aside0.mk (blk_below (g := gb838) yK hb); replace BK839 := Aside0.mk (blk_below (g := gb839) yK hb); replace HR842_1 := Aside0.mk (Kd.C_below (by repeat (first | (with_reducible exact HR842_1.out) | (with_reducible refine Kd.C_alloc ?_ _) | (with_reducible refine Kd.C_drewN ?_ _) | (with_reducible refine Kd.C_drew ?_) | exact HR842_1.out)) hb); replace HR844_1 := Aside0.mk (Kd.C_below (by repeat (first | (with_reducible exact HR844_1.out) | (with_reducible refine Kd.C_alloc ?_ _) | (with_reducible refine Kd.C_drewN ?_ _) | (with_reducible refine Kd.C_drew ?_) | exact HR844_1.out)) hb); replace HB := Aside0.mk (below_step yB hb); (try clear hb); have hnb24 := NB838_839.out; have hnc24 := NB839_838.out; have hcz25_0 := yZ0 BK838.out; have hcz25_1 := yZ1 BK838.out; have hfz25_0 := blk_frozen BK838.out 0; have hfz25_1 := blk_frozen BK838.out 1))
         refine bodyPost_ret (results_ct rfl _ _ gb838 48 #[.slice none 0 0, .slice none 0 0] (0, 0) _ rfl (by refine yH ?_; refine blk_put (cs := #[.slice none 0 0, .slice none 0 0]) ?_ 1 _ rfl; refine yH ?_; refine blk_put (cs := #[.slice none 0 0, .slice none 0 0]) ?_ 0 _ rfl; refine yH ?_; exact BK838.out) Try.underlying48 rfl (by kernel_rfl)) rfl ?_
         exact ⟨_, _, yE, by first | exact Kd.S_nil _ _ _ _ _ | exact Kd.N_nil _ _ _ _ _ | exact Kd.V_nil _ _ _ _ _ | exact Kd.Q_nil _ _ _ _ _ | exact Kd.R_nil _ _ _ _ _, by first | exact Kd.R_nil _ _ _ _ _ | exact Kd.N_nil _ _ _ _ _ | exact Kd.V_nil _ _ _ _ _ | exact Kd.Q_nil _ _ _ _ _ | exact Kd.S_nil _ _ _ _ _, yB⟩
        replace c21 := Bool.eq_false_iff.mpr c21
        subst c21
        replace H : (if x840000_1.length < 2932031007402 then (swarfref43_Split.l0 kj3 l0 (wrap64 (x5_1 + 1)) (x840000_1 ++ [(⟨(rd_T32 l0 x5_1).f0, (rd_T32 l0 x5_1).f1, (rd_T32 l0 x5_1).f2⟩ : S32)])) else (none)) = some (r1, r2, r3) := by rw [if_neg (show ¬ (false = true) by decide)] at H; exact H
        by_cases c26 : x840000_1.length < 2932031007402
        ·rw [if_pos c26] at H
         have LMc26 := Aside0.mk c26
         clear c26
         obtain ⟨y847, hy847⟩ : ∃ y_ : List (S32), y_ = (x840000_1 ++ [(⟨(rd_T32 l0 x5_1).f0, (rd_T32 l0 x5_1).f1, (rd_T32 l0 x5_1).f2⟩ : S32)]) := ⟨_, rfl⟩
         replace H : (swarfref43_Split.l0 kj3 l0 (wrap64 (x5_1 + 1)) y847) = some (r1, r2, r3) := by first | (rw [hy847]; with_reducible exact H) | (have H2_ := (Option.bind_some _ _).symm.trans H; rw [hy847]; with_reducible exact H2_) | (have H2_ := (Option.bind_some _ _).symm.trans H; with_reducible exact H2_) | with_reducible exact H | (rw [hy847]; exact H) | exact H
         have Ny847 := Aside0.mk hy847
         clear hy847
         have H' := Aside0.mk H
         clear H
         have p842 : 0 ≤ (x5_1 : Int) := yD
         have q842 : x5_1 < (l0.length : Int) := yD
         obtain ⟨ad842, A842_1, c842_1, e842, hx842_0, hx842_1, hx842_2, hl842_1, hi842_1⟩ := at_T32 (Kd.V_reads' HO_0.out).2.2 x5_1 p842 q842
         cases e842
         obtain ⟨ce842, hce842, hMe842, hcc842⟩ := Kd.V_get HO_0.out z32 x5_1 p842 (by first | exact q842 | exact yD | (have e_ := (Kd.V_reads' HO_0.out).1; omega))
         obtain ⟨ua842_1, uc842_1, rfl, ul842_1, ge842_1⟩ := k32_openF hMe842
         have hv842_1 := hcc842 1 _ rfl
         rw [add_field _ _ 1 (by omega)] at hv842_1
         replace hv842_1 := Option.some.inj (hv842_1.symm.trans hx842_1)
         injection hv842_1 with hva_ hvn_ hvc_
         rw [hva_] at ge842_1
         rw [hvc_] at ul842_1
         have HL842_1 := Aside0.mk (show Kd.V k78 78 _ w.heap.size _ _ ((rd_T32 l0 x5_1).f1) from Kd.V_mk ul842_1 ge842_1)
         clear hva_ hvn_ hvc_ ge842_1 ul842_1
         clear hcc842 hce842
         have HR842_1 := Aside0.mk hi842_1
         have HC842_1 := Aside0.mk hl842_1
         clear hi842_1 hl842_1
         replace p842 := eq_true p842
         replace q842 := eq_true q842
         try go_wp2_with (first | ((with_reducible refine gate_callee (f := 82) rfl ?_); refine goesL_ (some 29) rfl rfl Try.func82 (by kernel_rfl) rfl #[.agg #[.bool ((rd_T32 l0 x5_1).f0), .slice A842_1 ((rd_T32 l0 x5_1).f1).length c842_1, .string ((rd_T32 l0 x5_1).f2)]] rfl yQ ?_; (with_reducible refine (swarfref43_Return.calls kj3 ((rd_T32 l0 x5_1).f0) _ _ ((rd_T32 l0 x5_1).f1) ((rd_T32 l0 x5_1).f2) false _ ?side1 ?side2 A15.out).mono ?_); (case side1 => repeat (first | exact (by repeat (first | (with_reducible exact HR842_1.out) | (with_reducible refine Kd.C_alloc ?_ _) | (with_reducible refine Kd.C_drewN ?_ _) | (with_reducible refine Kd.C_drew ?_) | exact HR842_1.out)) | (with_reducible refine Kd.C_alloc ?_ _) | (with_reducible refine Kd.C_drewN ?_ _) | (with_reducible refine Kd.C_drew ?_))); (case side2 => exact HC842_1.out); rintro e w27 ⟨rfl, hb⟩; refine ⟨_, rfl, ?_⟩; replace HO_0 := Aside0.mk (Kd.V_below (yV HO_0.out) hb); replace HO_840000 := Aside0.mk (Kd.N_below (yN HO_840000.out) hb); replace HL842_1 := Aside0.mk (Kd.V_below (yV HL842_1.out) hb); replace BK838 := Aside0.mk (blk_below (g := gb838) yK hb); replace BK839 := Aside0.mk (blk_below (g := gb839) yK hb); replace HR842_1 := Aside0.mk (Kd.C_below (by repeat (first | (with_reducible exact HR842_1.out) | (with_reducible refine Kd.C_alloc ?_ _) | (with_reducible refine Kd.C_drewN ?_ _) | (with_reducible refine Kd.C_drew ?_) | exact HR842_1.out)) hb); replace HB := Aside0.mk (below_step yB hb); (try clear hb); have p844 : 0 ≤ (x5_1 : Int) := yD; have q844 : x5_1 < (l0.length : Int) := yD; obtain ⟨ad844, A844_1, c844_1, e844, hx844_0, hx844_1, hx844_2, hl844_1, hi844_1⟩ := at_T32 (Kd.V_reads' HO_0.out).2.2 x5_1 p844 q844; obtain rfl : ad842 = ad844 := (by injection e844); obtain ⟨ce844, hce844, hMe844, hcc844⟩ := Kd.V_get HO_0.out z32 x5_1 p844 (by first | exact q844 | exact yD | (have e_ := (Kd.V_reads' HO_0.out).1; omega)); obtain ⟨ua844_1, uc844_1, rfl, ul844_1, ge844_1⟩ := k32_openF hMe844; have hv844_1 := hcc844 1 _ rfl; rw [add_field _ _ 1 (by omega)] at hv844_1; replace hv844_1 := Option.some.inj (hv844_1.symm.trans hx844_1); injection hv844_1 with hva_ hvn_ hvc_; rw [hva_] at ge844_1; rw [hvc_] at ul844_1; have HL844_1 := Aside0.mk (show Kd.V k78 78 _ w.heap.size _ _ ((rd_T32 l0 x5_1).f1) from Kd.V_mk ul844_1 ge844_1); clear hva_ hvn_ hvc_ ge844_1 ul844_1; clear hcc844 hce844; have HR844_1 := Aside0.mk hi844_1; have HC844_1 := Aside0.mk hl844_1; clear hi844_1 hl844_1; replace p844 := eq_true p844; replace q844 := eq_true q844) | (go_at_call 83; (with_reducible refine (swarfref43_letter.calls kj3 ((rd_T32 l0 x5_1).f0) _ _ ((rd_T32 l0 x5_1).f1) ((rd_T32 l0 x5_1).f2) 79 false _ ?side1 ?side2 A20.out).mono ?_); (case side1 => repeat (first | exact (by repeat (first | (with_reducible exact HR844_1.out) | (with_reducible refine Kd.C_alloc ?_ _) | (with_reducible refine Kd.C_drewN ?_ _) | (with_reducible refine Kd.C_drew ?_) | exact HR844_1.out)) | (with_reducible refine Kd.C_alloc ?_ _) | (with_reducible refine Kd.C_drewN ?_ _) | (with_reducible refine Kd.C_drew ?_))); (case side2 => exact HC844_1.out); rintro e w28 ⟨rfl, hb⟩; replace HO_0 := Aside0.mk (Kd.V_below (yV HO_0.out) hb); replace HO_840000 := Aside0.mk (Kd.N_below (yN HO_840000.out) hb); replace HL842_1 := Aside0.mk (Kd.V_below (yV HL842_1.out) hb); replace HL844_1 := Aside0.mk (Kd.V_below (yV HL844_1.out) hb); replace BK838 := Aside0.mk (blk_below (g := gb838) yK hb); replace BK839 := Aside0.mk (blk_below (g := gb839) yK hb); replace HR842_1 := Aside0.mk (Kd.C_below (by repeat (first | (with_reducible exact HR842_1.out) | (with_reducible refine Kd.C_alloc ?_ _) | (with_reducible refine Kd.C_drewN ?_ _) | (with_reducible refine Kd.C_drew ?_) | exact HR842_1.out)) hb); replace HR844_1 := Aside0.mk (Kd.C_below (by repeat (first | (with_reducible exact HR844_1.out) | (with_reducible refine Kd.C_alloc ?_ _) | (with_reducible refine Kd.C_drewN ?_ _) | (with_reducible refine Kd.C_drew ?_) | exact HR844_1.out)) hb); replace HB := Aside0.mk (below_step yB hb); (try clear hb)))
         replace HO_0 := Aside0.mk (Kd.V_drew HO_0.out)
         replace HO_840000 := Aside0.mk (Kd.N_drew HO_840000.out)
         replace HL842_1 := Aside0.mk (Kd.V_drew HL842_1.out)
         replace HL844_1 := Aside0.mk (Kd.V_drew HL844_1.out)
         replace BK838 := Aside0.mk (blk_drew BK838.out)
         replace BK839 := Aside0.mk (blk_drew BK839.out)
         replace HR842_1 := Aside0.mk (Kd.C_drew HR842_1.out)
         replace HR844_1 := Aside0.mk (Kd.C_drew HR844_1.out)
         replace HB := Aside0.mk (below_drew1 HB.out)
         have p846 : 0 ≤ (x5_1 : Int) := yD
         have q846 : x5_1 < (l0.length : Int) := yD
         obtain ⟨ad846, A846_1, c846_1, e846, hx846_0, hx846_1, hx846_2, hl846_1, hi846_1⟩ := at_T32 (Kd.V_reads' HO_0.out).2.2 x5_1 p846 q846
         obtain rfl : ad842 = ad846 := (by injection e846)
         first | have HQA846_1 := Aside0.mk (show A846_1 = A842_1 from by first | (have e_ := Option.some.inj (hw842_1.symm.trans hw846_1); injection e_ with e1_ e2_ e3_; exact e1_.symm) | (have e_ := Option.some.inj (hx842_1.symm.trans hx846_1); injection e_ with e1_ e2_ e3_; exact e1_.symm)) | skip
         first | have HQc846_1 := Aside0.mk (show c846_1 = c842_1 from by first | (have e_ := Option.some.inj (hw842_1.symm.trans hw846_1); injection e_ with e1_ e2_ e3_; exact e3_.symm) | (have e_ := Option.some.inj (hx842_1.symm.trans hx846_1); injection e_ with e1_ e2_ e3_; exact e3_.symm)) | skip
         obtain ⟨ce846, hce846, hMe846, hcc846⟩ := Kd.V_get HO_0.out z32 x5_1 p846 (by first | exact q846 | exact yD | (have e_ := (Kd.V_reads' HO_0.out).1; omega))
         obtain ⟨ua846_1, uc846_1, rfl, ul846_1, ge846_1⟩ := k32_openF hMe846
         have hv846_1 := hcc846 1 _ rfl
         rw [add_field _ _ 1 (by omega)] at hv846_1
         replace hv846_1 := Option.some.inj (hv846_1.symm.trans hx846_1)
         injection hv846_1 with hva_ hvn_ hvc_
         rw [hva_] at ge846_1
         rw [hvc_] at ul846_1
         have HL846_1 := Aside0.mk (show Kd.V k78 78 _ w.heap.size _ _ ((rd_T32 l0 x5_1).f1) from Kd.V_mk ul846_1 ge846_1)
         clear hva_ hvn_ hvc_ ge846_1 ul846_1
         clear hcc846 hce846
         have HR846_1 := Aside0.mk hi846_1
         have HC846_1 := Aside0.mk hl846_1
         clear hi846_1 hl846_1
         replace p846 := eq_true p846
         replace q846 := eq_true q846
         refine start_ (n := 10) (S := fun w' => w'.cell? ⟨gb839, 0, none⟩ = some (u840000) ∧ w'.cell? ⟨gb839, 1, none⟩ = some (.slice none 0 0) ∧ w'.cell? (ad842.add ((x5_1).toNat * 3)) = some (.bool ((rd_T32 l0 x5_1).f0)) ∧ w'.cell? ⟨(ad842.add ((x5_1).toNat * 3)).block, (ad842.add ((x5_1).toNat * 3)).off + 1, none⟩ = some (.slice A846_1 ((rd_T32 l0 x5_1).f1).length c846_1) ∧ w'.cell? ⟨(ad842.add ((x5_1).toNat * 3)).block, (ad842.add ((x5_1).toNat * 3)).off + 2, none⟩ = some (.string ((rd_T32 l0 x5_1).f2))) (ds := [7, 9]) #[false, false, false, false, false, false, false, false, false, false] (by kernel_rfl) rfl rfl ⟨(blk_cell BK839.out 0).trans rfl, (blk_cell BK839.out 1).trans rfl, hx846_0, hx846_1, hx846_2⟩ (fun hHeld => ?_); refine with_tabW swarfref43_Split.tab6 swarfref43_Split.bits6 (fun HT_ HW_ => ?_)
         generalize w28.drew = w29 at HO_0 HO_840000 HL842_1 HL844_1 BK838 BK839 HR842_1 HR844_1 HB HL846_1 HR846_1 hx846_0 hx846_1 hx846_2 hHeld ⊢
         refine yp 0 38 ?_
         refine yp 2 40 ?_
         refine yp 3 41 ?_
         refine yp 4 42 ?_
         refine yt 1 39 hHeld ?_
         refine yt 5 43 hHeld ?_
         refine yo 6 (some 44) (fun K hK => ?_)
         refine value_ (w1 := ?_) (v := ?_) (by rfl) rfl ?_ ?_
         rotate_left 2
         ·go_simp
          constructor
          ·rfl
          rfl
         refine hK.out _ _ ⟨(blk_cell (blk_alloc BK839.out _) 0).trans rfl, (blk_cell (blk_alloc BK839.out _) 1).trans rfl, (World.cell?_alloc_lt _ _ _ (yL (hHeld.2.2.1))).trans (hHeld.2.2.1), (World.cell?_alloc_lt _ _ _ (yL (hHeld.2.2.2.1))).trans (hHeld.2.2.2.1), (World.cell?_alloc_lt _ _ _ (yL (hHeld.2.2.2.2))).trans (hHeld.2.2.2.2)⟩ (fun hHeld => ?_)
         clear hK K
         refine yn 44 ?_
         refine last_ (i := 7) (N := some 45) #[true, true, true, true, true, true, true, true, false, false] rfl rfl (one_of HT_.out (by kernel_rfl)) (by decide) (fun K hK => ?_)
         refine Kd.N_append_step k32 (w0 := w) w.heap.size (by rfl) (.tmp 39) (.tmp 44) 35 32 (.agg #[(.bool false), (.slice none 0 0), (.string ⟨#[]⟩)]) 48 rfl Try.underlying35 info32 rfl (by decide) (by omega) u840000 x840000_1 (⟨(rd_T32 l0 x5_1).f0, (rd_T32 l0 x5_1).f1, (rd_T32 l0 x5_1).f2⟩ : S32) [.bool ((rd_T32 l0 x5_1).f0), .slice A846_1 ((rd_T32 l0 x5_1).f1).length c846_1, .string ((rd_T32 l0 x5_1).f2)] (fun k_ => (P0_ k_ ∨ w.heap.size ≤ k_) ∧ k_ ≠ gb838 ∧ k_ ≠ gb839) (fun k_ => ((fun k_ => (P0_ k_ ∨ w.heap.size ≤ k_) ∧ k_ ≠ gb838 ∧ k_ ≠ gb839)) k_ ∧ some k_ ≠ (u840000 : Value).ownBlock) rfl rfl ?aP (fun _ hk => hk) ?aF ?aO ?aB ?aS ?aL ?_
         (case aP => exact (k32_mkF _ _ (⟨(rd_T32 l0 x5_1).f0, (rd_T32 l0 x5_1).f1, (rd_T32 l0 x5_1).f2⟩ : S32) (Kd.V_reads' (Kd.V_mono (ok' := (fun k_ => ((fun k_ => (P0_ k_ ∨ w.heap.size ≤ k_) ∧ k_ ≠ gb838 ∧ k_ ≠ gb839)) k_ ∧ some k_ ≠ (u840000 : Value).ownBlock)) (HL846_1.out) (fun k_ hk => ⟨⟨hk.1, ⟨hk.2.2.1, hk.2.2.2⟩⟩, hk.2.1⟩))).2.1 (Kd.V_F (Kd.V_mono (ok' := (fun k_ => ((fun k_ => (P0_ k_ ∨ w.heap.size ≤ k_) ∧ k_ ≠ gb838 ∧ k_ ≠ gb839)) k_ ∧ some k_ ≠ (u840000 : Value).ownBlock)) (HL846_1.out) (fun k_ hk => ⟨⟨hk.1, ⟨hk.2.2.1, hk.2.2.2⟩⟩, hk.2.1⟩)))))
         (case aB => exact yB)
         (case aF => exact (fun k_ hk => ⟨(.inr (Nat.le_trans (below_size yB) hk)), Kd.freshB (g := gb838) yK k_ hk, Kd.freshB (g := gb839) yK k_ hk⟩))
         (case aO => exact (yN HO_840000.out))
         (case aS => exact (below_size yB))
         (case aL => have := LMc26.out; omega)
         intro v848 w30 ho hb hg hat
         rw [← Ny847.out] at ho
         have n0_ := Aside0.mk (Kd.V_afterv (ok := (fun k_ => (P0_ k_ ∨ w.heap.size ≤ k_) ∧ k_ ≠ gb838 ∧ k_ ≠ gb839)) (yV (Kd.V_mono HO_0.out (fun _ hk => ⟨⟨hk.1, ⟨hk.2.2.1, hk.2.2.2⟩⟩, hk.2.1⟩))) hg hat)
         have n1_ := Aside0.mk (blk_grown (g := gb838) yK hg (Kd.N_ne HO_840000.out BK838.out (by decide)))
         have n2_ := Aside0.mk (blk_grown (g := gb839) yK hg (Kd.N_ne HO_840000.out BK839.out (by decide)))
         have n3_ := Aside0.mk (Kd.V_afterv (ok := (fun k_ => (P0_ k_ ∨ w.heap.size ≤ k_) ∧ k_ ≠ gb838 ∧ k_ ≠ gb839)) (yV (Kd.V_mono HL842_1.out (fun _ hk => ⟨⟨hk.1, ⟨hk.2.2.1, hk.2.2.2⟩⟩, hk.2.1⟩))) hg hat)
         have n4_ := Aside0.mk (Kd.V_afterv (ok := (fun k_ => (P0_ k_ ∨ w.heap.size ≤ k_) ∧ k_ ≠ gb838 ∧ k_ ≠ gb839)) (yV (Kd.V_mono HL844_1.out (fun _ hk => ⟨⟨hk.1, ⟨hk.2.2.1, hk.2.2.2⟩⟩, hk.2.1⟩))) hg hat)
         have n5_ := Aside0.mk (Kd.V_afterv (ok := (fun k_ => (P0_ k_ ∨ w.heap.size ≤ k_) ∧ k_ ≠ gb838 ∧ k_ ≠ gb839)) (yV (Kd.V_mono HL846_1.out (fun _ hk => ⟨⟨hk.1, ⟨hk.2.2.1, hk.2.2.2⟩⟩, hk.2.1⟩))) hg hat)
         have n6_ := Aside0.mk (hb)
         have n7_ := Aside0.mk (ho)
         clear HO_0
         clear BK838
         clear BK839
         clear HL842_1
         clear HL844_1
         clear HL846_1
         clear HB
         clear HO_840000
         have HO_0 := n0_
         have BK838 := n1_
         have BK839 := n2_
         have HL842_1 := n3_
         have HL844_1 := n4_
         have HL846_1 := n5_
         have HB := n6_
         have HO849 := n7_
         clear n0_ n1_ n2_ n3_ n4_ n5_ n6_ n7_
         clear ho hb hg hat
         obtain ⟨Ao31, co31, eo31⟩ := Kd.N_slice HO849.out
         (first | subst eo31 | (injection eo31 with f1_ f2_ f3_; have f4_ := f1_.symm; have f5_ := f3_.symm; clear f1_ f2_ f3_; subst f4_; subst f5_))
         refine hK.out _ _ ?_
         clear hK K
         refine yn 45 ?_
         refine yp 8 46 ?_
         refine last_ (i := 9) (N := none) #[true, true, true, true, true, true, true, true, true, true] rfl rfl (one_of HT_.out (by kernel_rfl)) (by decide) (fun K hK => ?_)
         have hs32 : w30.cell? ⟨gb839, 0, none⟩ = some (u840000) := (blk_cell BK839.out 0).trans rfl
         have hfs32 := blk_frozen BK839.out 0
         have hns32_0 := NB838_839.out
         have hms32_0 := NB839_838.out
         refine skip_ (w1 := ?_) (by rfl) rfl ?_ ?_
         rotate_left
         ·go_simp
          rfl
         refine hK.out _ _ ?_
         clear hK K
         refine done_ (done_of HT_.out (by kernel_rfl)) ?_
         try go_wp2
         go_roundg kj3
         case measure => have := HK1.out; have := HJ3.out; omega
         case rel => exact ⟨(wrap64 (x5_1 + 1)), (y847), (.slice Ao31 y847.length co31), yS, H', ⟨by have := HK1.out; have := HJ3.out; omega⟩, ⟨by refine yV ?_; exact Kd.V_mono (Kd.V_far (p := ⟨gb839, 0, none⟩) (Kd.V_mono HO_0.out (fun k_ hk => (⟨hk, hk.1.2.2⟩ : _ ∧ k_ ≠ gb839))) (fun _ hk => hk.2) (.slice Ao31 y847.length co31)) (fun _ hk => ⟨hk.1.1.1, ⟨hk.1.2, ⟨hk.1.1.2.1, hk.1.1.2.2⟩⟩⟩)⟩, ⟨by refine yN ?_; exact Kd.N_mono (Kd.N_far (p := ⟨gb839, 0, none⟩) (Kd.N_mono HO849.out (fun k_ hk => (⟨hk, hk.2.2⟩ : _ ∧ k_ ≠ gb839))) (fun _ hk => hk.2) (.slice Ao31 y847.length co31)) (fun _ hk => ⟨hk.1.1, ⟨hk.1.2.1, hk.1.2.2⟩⟩)⟩, ⟨by refine yH ?_; refine blk_far ?_ NB838_839.out _; refine yH ?_; exact BK838.out⟩, ⟨by refine yH ?_; refine blk_put (cs := #[u840000, .slice none 0 0]) ?_ 0 _ rfl; refine yH ?_; exact BK839.out⟩, ⟨yB⟩⟩
        rw [if_neg c26] at H
        exact absurd H (by simp)
       rw [if_neg c14] at H
       exact absurd H (by simp)
      rw [if_neg c13] at H
      exact absurd H (by simp)
     replace c12 := Bool.eq_false_iff.mpr c12
     subst c12
     replace H : (if x5_1 = 0 then (swarfref43_Split.j2 kj3 l0 x5_1 true x840000_1) else (if 0 ≤ (wrap64 (x5_1 - 1)) then (if (wrap64 (x5_1 - 1)) < (l0.length : Int) then ((swarfref43_End.f kj3 ((rd_T32 l0 (wrap64 (x5_1 - 1))).f0) ((rd_T32 l0 (wrap64 (x5_1 - 1))).f1) ((rd_T32 l0 (wrap64 (x5_1 - 1))).f2)).bind fun t851 => (swarfref43_Split.j2 kj3 l0 x5_1 (!t851) x840000_1)) else (none)) else (none))) = some (r1, r2, r3) := by rw [if_neg (show ¬ (false = true) by decide)] at H; exact H
     have HC33 := Aside0.mk H
     clear H
     go_upto_region 8 with (fail)
     go_cut [59] (fun v59 wc => ∃ (kq : Nat) (x59_32 : Bool), v59 = .bool x59_32 ∧ Aside0 (swarfref43_Split.j2 kq l0 x5_1 x59_32 x840000_1 = some (r1, r2, r3)) ∧ Aside0 (kq ≤ kj3) ∧ Aside0 (Kd.V k32 32 wc w.heap.size (fun k_ => (P0_ k_ ∨ w.heap.size ≤ k_) ∧ some k_ ≠ (u840000 : Value).ownBlock ∧ k_ ≠ gb838 ∧ k_ ≠ gb839) (.slice A0 l0.length c0) l0) ∧ Aside0 (Kd.N k32 32 wc w.heap.size (fun k_ => (P0_ k_ ∨ w.heap.size ≤ k_) ∧ k_ ≠ gb838 ∧ k_ ≠ gb839) u840000 x840000_1) ∧ Aside0 (wc.heap[gb838]? = some (.cells #[(.slice none 0 0), (.slice none 0 0)] 48 (0, 0))) ∧ Aside0 (wc.heap[gb839]? = some (.cells #[u840000, (.slice none 0 0)] 48 (0, 0))) ∧ Aside0 (Below w.heap.size w wc))
     case first =>
      have H := HC33.out
      clear HC33
      by_cases c34 : x5_1 = 0
      ·rw [if_pos c34] at H
       have c34b0 : (x5_1 == 0) = true := beq_iff_eq.mpr c34
       have c34b1 : (x5_1 != 0) = false := bne_eq_false_iff_eq.mpr c34
       clear c34
       (first | rw [c34b0] | (simp only [i64_w, i32_w]; rw [c34b0]) | skip)
       have H' := Aside0.mk H
       clear H
       go_wp2
       go_meet
       case rel => exact ⟨_, (true), yS, H', ⟨by have := HK1.out; have := HJ3.out; first | omega | exact Nat.le_refl _⟩, ⟨by refine yV ?_; exact HO_0.out⟩, ⟨by refine yN ?_; exact HO_840000.out⟩, ⟨by refine yH ?_; exact BK838.out⟩, ⟨by refine yH ?_; exact BK839.out⟩, ⟨yB⟩⟩
      rw [if_neg c34] at H
      have c34b0 : (x5_1 == 0) = false := beq_eq_false_iff_ne.mpr c34
      have c34b1 : (x5_1 != 0) = true := bne_iff_ne.mpr c34
      (first | rw [c34b0] | (simp only [i64_w, i32_w]; rw [c34b0]) | skip)
      obtain ⟨ji35, hji35⟩ : ∃ j_ : Int, (wrap64 (x5_1 - 1)) = j_ := ⟨_, rfl⟩
      replace H : (if 0 ≤ (ji35) then (if (ji35) < (l0.length : Int) then ((swarfref43_End.f kj3 ((rd_T32 l0 (ji35)).f0) ((rd_T32 l0 (ji35)).f1) ((rd_T32 l0 (ji35)).f2)).bind fun t851 => (swarfref43_Split.j2 kj3 l0 x5_1 (!t851) x840000_1)) else (none)) else (none)) = some (r1, r2, r3) := by first | (rw [hji35] at H; exact H) | (simp only [hji35] at H ⊢; exact H)
      have hji35w : (IntKind.i64.wrap (x5_1 - 1)) = ji35 := (i64_w _).trans hji35
      by_cases c36 : 0 ≤ (ji35)
      ·rw [if_pos c36] at H
       have c36b0 := decide_eq_true c36
       clear c36
       by_cases c37 : (ji35) < (l0.length : Int)
       ·rw [if_pos c37] at H
        have c37b0 := decide_eq_true c37
        clear c37
        replace H := Option.bind_eq_some_iff.mp H
        obtain ⟨t851, A380, H⟩ := H
        have A38 := Aside0.mk A380
        clear A380
        have H' := Aside0.mk H
        clear H
        have p850 : 0 ≤ ((ji35) : Int) := yD
        have q850 : (ji35) < (l0.length : Int) := yD
        obtain ⟨ad850, A850_1, c850_1, e850, hx850_0, hx850_1, hx850_2, hl850_1, hi850_1⟩ := at_T32 (Kd.V_reads' HO_0.out).2.2 (ji35) p850 q850
        cases e850
        obtain ⟨ce850, hce850, hMe850, hcc850⟩ := Kd.V_get HO_0.out z32 (ji35) p850 (by first | exact q850 | exact yD | (have e_ := (Kd.V_reads' HO_0.out).1; omega))
        obtain ⟨ua850_1, uc850_1, rfl, ul850_1, ge850_1⟩ := k32_openF hMe850
        have hv850_1 := hcc850 1 _ rfl
        rw [add_field _ _ 1 (by omega)] at hv850_1
        replace hv850_1 := Option.some.inj (hv850_1.symm.trans hx850_1)
        injection hv850_1 with hva_ hvn_ hvc_
        rw [hva_] at ge850_1
        rw [hvc_] at ul850_1
        have HL850_1 := Aside0.mk (show Kd.V k78 78 _ w.heap.size _ _ ((rd_T32 l0 (ji35)).f1) from Kd.V_mk ul850_1 ge850_1)
        clear hva_ hvn_ hvc_ ge850_1 ul850_1
        clear hcc850 hce850
        have HR850_1 := Aside0.mk hi850_1
        have HC850_1 := Aside0.mk hl850_1
        clear hi850_1 hl850_1
        replace p850 := eq_true p850
        replace q850 := eq_true q850
        go_wp2_with (first | (go_at_call 81; (with_reducible refine (swarfref43_End.calls kj3 ((rd_T32 l0 (ji35)).f0) _ _ ((rd_T32 l0 (ji35)).f1) ((rd_T32 l0 (ji35)).f2) t851 _ ?side1 ?side2 A38.out).mono ?_); (case side1 => repeat (first | exact (by repeat (first | (with_reducible exact HR850_1.out) | (with_reducible refine Kd.C_alloc ?_ _) | (with_reducible refine Kd.C_drewN ?_ _) | (with_reducible refine Kd.C_drew ?_) | exact HR850_1.out)) | (with_reducible refine Kd.C_alloc ?_ _) | (with_reducible refine Kd.C_drewN ?_ _) | (with_reducible refine Kd.C_drew ?_))); (case side2 => exact HC850_1.out); rintro e w39 ⟨rfl, hb⟩; replace HO_0 := Aside0.mk (Kd.V_below (yV HO_0.out) hb); replace HO_840000 := Aside0.mk (Kd.N_below (yN HO_840000.out) hb); replace HL850_1 := Aside0.mk (Kd.V_below (yV HL850_1.out) hb); replace BK838 := Aside0.mk (blk_below (g := gb838) yK hb); replace BK839 := Aside0.mk (blk_below (g := gb839) yK hb); replace HR850_1 := Aside0.mk (Kd.C_below (by repeat (first | (with_reducible exact HR850_1.out) | (with_reducible refine Kd.C_alloc ?_ _) | (with_reducible refine Kd.C_drewN ?_ _) | (with_reducible refine Kd.C_drew ?_) | exact HR850_1.out)) hb); replace HB := Aside0.mk (below_step yB hb); (try clear hb)))
        go_meet
        case rel => exact ⟨_, (!t851), yS, H', ⟨by have := HK1.out; have := HJ3.out; first | omega | exact Nat.le_refl _⟩, ⟨by refine yV ?_; exact HO_0.out⟩, ⟨by refine yN ?_; exact HO_840000.out⟩, ⟨by refine yH ?_; exact BK838.out⟩, ⟨by refine yH ?_; exact BK839.out⟩, ⟨yB⟩⟩
       rw [if_neg c37] at H
       exact absurd H (by simp)
      rw [if_neg c36] at H
      exact absurd H (by simp)
     case rest =>
      clear HC33
      try clear c1
      try clear c2
      try clear p2
      try clear c3
      try clear c4
      try clear c5
      try clear c5b0
      try clear c6
      try clear c6b0
      try clear c6b1
      try clear p6
      try clear c8
      try clear c8b0
      try clear p8
      try clear q8
      try clear hx8
      try clear c9
      try clear c9b0
      try clear c12
      try clear c13
      try clear c13b0
      try clear c14
      try clear c14b0
      try clear c16
      try clear c18
      try clear c21
      try clear c24
      try clear c26
      try clear c34
      try clear c34b0
      try clear c34b1
      try clear c36
      try clear c36b0
      try clear c37
      try clear c37b0
      try clear hcz19_0
      try clear hcz19_1
      try clear hcz25_0
      try clear hcz25_1
      try clear hfz19_0
      try clear hfz19_1
      try clear hfz25_0
      try clear hfz25_1
      try clear hx840_0
      try clear hx840_1
      try clear hx840_2
      try clear hx842_0
      try clear hx842_1
      try clear hx842_2
      try clear hx844_0
      try clear hx844_1
      try clear hx844_2
      try clear hx846_0
      try clear hx846_1
      try clear hx846_2
      try clear hx850_0
      try clear hx850_1
      try clear hx850_2
      try clear p2
      try clear p6
      try clear p8
      try clear p840
      try clear p842
      try clear p844
      try clear p846
      try clear p850
      try clear q8
      try clear q840
      try clear q842
      try clear q844
      try clear q846
      try clear q850
      obtain ⟨kq, x59_32, rfl, HA, HJ32, HO_0, HO_840000, BK838, BK839, HB⟩ := hcut
      cases kq with
      | zero => exact absurd HA.out (by simp [swarfref43_Split.j2])
      | succ kj32 =>
       have H := HA.out
       clear HA
       simp only [swarfref43_Split.j2] at H
       by_cases c40 : x59_32 = true
       ·subst c40
        rw [if_pos rfl] at H
        simp only [Option.some.injEq, Prod.mk.injEq] at H
        obtain ⟨rfl, rfl, rfl⟩ := H
        have hnb41 := NB838_839.out
        have hnc41 := NB839_838.out
        have hcz42_0 := yZ0 BK838.out
        have hcz42_1 := yZ1 BK838.out
        have hfz42_0 := blk_frozen BK838.out 0
        have hfz42_1 := blk_frozen BK838.out 1
        go_wp2
        refine bodyPost_ret (results_ct rfl _ _ gb838 48 #[.slice none 0 0, .slice none 0 0] (0, 0) _ rfl (by refine yH ?_; refine blk_put (cs := #[.slice none 0 0, .slice none 0 0]) ?_ 1 _ rfl; refine yH ?_; refine blk_put (cs := #[.slice none 0 0, .slice none 0 0]) ?_ 0 _ rfl; refine yH ?_; exact BK838.out) Try.underlying48 rfl (by kernel_rfl)) rfl ?_
        exact ⟨_, _, yE, by first | exact Kd.S_nil _ _ _ _ _ | exact Kd.N_nil _ _ _ _ _ | exact Kd.V_nil _ _ _ _ _ | exact Kd.Q_nil _ _ _ _ _ | exact Kd.R_nil _ _ _ _ _, by first | exact Kd.R_nil _ _ _ _ _ | exact Kd.N_nil _ _ _ _ _ | exact Kd.V_nil _ _ _ _ _ | exact Kd.Q_nil _ _ _ _ _ | exact Kd.S_nil _ _ _ _ _, yB⟩
       replace c40 := Bool.eq_false_iff.mpr c40
       subst c40
       replace H : (swarfref43_Split.l1 kj32 l0 x5_1 false x840000_1 ([] : List (S58))) = some (r1, r2, r3) := by rw [if_neg (show ¬ (false = true) by decide)] at H; exact H
       have H' := Aside0.mk H
       clear H
       go_wp2
       go_loopg [5, 6] kj32 (fun kq v5 v6 w' => ∃ (x5_4 : Int) (x6_4 : Bool) (x840001_4 : List (S58)) (u840001 : Value), v5 = .int .i64 x5_4 ∧ v6 = .bool x6_4 ∧ Aside0 (swarfref43_Split.l1 kq l0 x5_4 x6_4 x840000_1 x840001_4 = some (r1, r2, r3)) ∧ Aside0 (kq ≤ kj32) ∧ Aside0 (Kd.V k32 32 w' w.heap.size (fun k_ => (P0_ k_ ∨ w.heap.size ≤ k_) ∧ some k_ ≠ (u840000 : Value).ownBlock ∧ some k_ ≠ (u840001 : Value).ownBlock ∧ k_ ≠ gb838 ∧ k_ ≠ gb839) (.slice A0 l0.length c0) l0) ∧ Aside0 (Kd.N k32 32 w' w.heap.size (fun k_ => (P0_ k_ ∨ w.heap.size ≤ k_) ∧ some k_ ≠ (u840001 : Value).ownBlock ∧ k_ ≠ gb838 ∧ k_ ≠ gb839) u840000 x840000_1) ∧ Aside0 (Kd.N k58 58 w' w.heap.size (fun k_ => (P0_ k_ ∨ w.heap.size ≤ k_) ∧ some k_ ≠ (u840000 : Value).ownBlock ∧ k_ ≠ gb838 ∧ k_ ≠ gb839) u840001 x840001_4) ∧ Aside0 (w'.heap[gb838]? = some (.cells #[(.slice none 0 0), (.slice none 0 0)] 48 (0, 0))) ∧ Aside0 (w'.heap[gb839]? = some (.cells #[u840000, u840001] 48 (0, 0))) ∧ Aside0 (Below w.heap.size w w'))
       case atStart => exact ⟨(x5_1), (false), (([] : List (S58))), (.slice none 0 0), yS, yS, H', ⟨Nat.le_refl _⟩, ⟨by refine yV ?_; exact Kd.V_mono HO_0.out (fun _ hk => ⟨hk.1, ⟨hk.2.1, ⟨(by simp [Value.ownBlock]), ⟨hk.2.2.1, hk.2.2.2⟩⟩⟩⟩)⟩, ⟨by refine yN ?_; exact Kd.N_mono HO_840000.out (fun _ hk => ⟨hk.1, ⟨(by simp [Value.ownBlock]), ⟨hk.2.1, hk.2.2⟩⟩⟩)⟩, ⟨by first | exact Kd.R_nil _ _ _ _ _ | exact Kd.N_nil _ _ _ _ _ | exact Kd.V_nil _ _ _ _ _ | exact Kd.Q_nil _ _ _ _ _ | exact Kd.S_nil _ _ _ _ _⟩, ⟨by refine yH ?_; exact BK838.out⟩, ⟨by refine yH ?_; exact BK839.out⟩, ⟨yB⟩⟩
       case round =>
        clear H'
        try clear c1
        try clear c2
        try clear p2
        try clear c3
        try clear c4
        try clear c5
        try clear c5b0
        try clear c6
        try clear c6b0
        try clear c6b1
        try clear p6
        try clear c8
        try clear c8b0
        try clear p8
        try clear q8
        try clear hx8
        try clear c9
        try clear c9b0
        try clear c12
        try clear c13
        try clear c13b0
        try clear c14
        try clear c14b0
        try clear c16
        try clear c18
        try clear c21
        try clear c24
        try clear c26
        try clear c34
        try clear c34b0
        try clear c34b1
        try clear c36
        try clear c36b0
        try clear c37
        try clear c37b0
        try clear c40
        try clear c41
        try clear hcz19_0
        try clear hcz19_1
        try clear hcz25_0
        try clear hcz25_1
        try clear hcz42_0
        try clear hcz42_1
        try clear hfz19_0
        try clear hfz19_1
        try clear hfz25_0
        try clear hfz25_1
        try clear hfz42_0
        try clear hfz42_1
        try clear hx840_0
        try clear hx840_1
        try clear hx840_2
        try clear hx842_0
        try clear hx842_1
        try clear hx842_2
        try clear hx844_0
        try clear hx844_1
        try clear hx844_2
        try clear hx846_0
        try clear hx846_1
        try clear hx846_2
        try clear hx850_0
        try clear hx850_1
        try clear hx850_2
        try clear p2
        try clear p6
        try clear p8
        try clear p840
        try clear p842
        try clear p844
        try clear p846
        try clear p850
        try clear q8
        try clear q840
        try clear q842
        try clear q844
        try clear q846
        try clear q850
        obtain ⟨x5_4, x6_4, x840001_4, u840001, rfl, rfl, HA, HK4, HO_0, HO_840000, HO_840001, BK838, BK839, HB⟩ := hrel
        cases gk with
        | zero => exact absurd HA.out (by simp [swarfref43_Split.l1])
        | succ k4 =>
         have H := HA.out
         clear HA
         simp only [swarfref43_Split.l1] at H
         by_cases c43 : x5_4 < (l0.length : Int)
         ·rw [if_pos c43] at H
          have c43b0 := decide_eq_true c43
          clear c43
          have HC44 := Aside0.mk H
          clear H
          go_upto_region 12 with (fail)
          go_cut [82] (fun v82 wc => ∃ (kq : Nat) (x82_43 : Bool), v82 = .bool x82_43 ∧ Aside0 (swarfref43_Split.j4 kq l0 x5_4 x6_4 x82_43 x840000_1 x840001_4 = some (r1, r2, r3)) ∧ Aside0 (kq ≤ k4) ∧ Aside0 (Kd.V k32 32 wc w.heap.size (fun k_ => (P0_ k_ ∨ w.heap.size ≤ k_) ∧ some k_ ≠ (u840000 : Value).ownBlock ∧ some k_ ≠ (u840001 : Value).ownBlock ∧ k_ ≠ gb838 ∧ k_ ≠ gb839) (.slice A0 l0.length c0) l0) ∧ Aside0 (Kd.N k32 32 wc w.heap.size (fun k_ => (P0_ k_ ∨ w.heap.size ≤ k_) ∧ some k_ ≠ (u840001 : Value).ownBlock ∧ k_ ≠ gb838 ∧ k_ ≠ gb839) u840000 x840000_1) ∧ Aside0 (Kd.N k58 58 wc w.heap.size (fun k_ => (P0_ k_ ∨ w.heap.size ≤ k_) ∧ some k_ ≠ (u840000 : Value).ownBlock ∧ k_ ≠ gb838 ∧ k_ ≠ gb839) u840001 x840001_4) ∧ Aside0 (wc.heap[gb838]? = some (.cells #[(.slice none 0 0), (.slice none 0 0)] 48 (0, 0))) ∧ Aside0 (wc.heap[gb839]? = some (.cells #[u840000, u840001] 48 (0, 0))) ∧ Aside0 (Below w.heap.size w wc))
          case first =>
           have H := HC44.out
           clear HC44
           by_cases c45 : 0 ≤ x5_4
           ·rw [if_pos c45] at H
            have c45b0 := decide_eq_true c45
            clear c45
            (first | rw [c45b0] | (simp only [i64_w, i32_w]; rw [c45b0]) | skip)
            replace H := Option.bind_eq_some_iff.mp H
            obtain ⟨t853, A460, H⟩ := H
            have A46 := Aside0.mk A460
            clear A460
            by_cases c47 : t853 = true
            ·subst c47
             rw [if_pos rfl] at H
             by_cases c48 : 0 < (((rd_T32 l0 x5_4).f1).length : Int)
             ·rw [if_pos c48] at H
              have c48b0 := decide_eq_true c48
              have c48b1 : decide (0 < ((rd_T32 l0 x5_4).f1).length) = true := decide_eq_true (by omega)
              clear c48
              replace H := Option.bind_eq_some_iff.mp H
              obtain ⟨t856, A490, H⟩ := H
              have A49 := Aside0.mk A490
              clear A490
              have H' := Aside0.mk H
              clear H
              have p852 : 0 ≤ (x5_4 : Int) := yD
              have q852 : x5_4 < (l0.length : Int) := yD
              obtain ⟨ad852, A852_1, c852_1, e852, hx852_0, hx852_1, hx852_2, hl852_1, hi852_1⟩ := at_T32 (Kd.V_reads' HO_0.out).2.2 x5_4 p852 q852
              cases e852
              obtain ⟨ce852, hce852, hMe852, hcc852⟩ := Kd.V_get HO_0.out z32 x5_4 p852 (by first | exact q852 | exact yD | (have e_ := (Kd.V_reads' HO_0.out).1; omega))
              obtain ⟨ua852_1, uc852_1, rfl, ul852_1, ge852_1⟩ := k32_openF hMe852
              have hv852_1 := hcc852 1 _ rfl
              rw [add_field _ _ 1 (by omega)] at hv852_1
              replace hv852_1 := Option.some.inj (hv852_1.symm.trans hx852_1)
              injection hv852_1 with hva_ hvn_ hvc_
              rw [hva_] at ge852_1
              rw [hvc_] at ul852_1
              have HL852_1 := Aside0.mk (show Kd.V k78 78 _ w.heap.size _ _ ((rd_T32 l0 x5_4).f1) from Kd.V_mk ul852_1 ge852_1)
              clear hva_ hvn_ hvc_ ge852_1 ul852_1
              clear hcc852 hce852
              have HR852_1 := Aside0.mk hi852_1
              have HC852_1 := Aside0.mk hl852_1
              clear hi852_1 hl852_1
              replace p852 := eq_true p852
              replace q852 := eq_true q852
              go_wp2_with (first | ((with_reducible refine gate_callee (f := 84) rfl ?_); refine goesL_ (some 69) rfl rfl Try.func84 (by kernel_rfl) rfl #[.agg #[.bool ((rd_T32 l0 x5_4).f0), .slice A852_1 ((rd_T32 l0 x5_4).f1).length c852_1, .string ((rd_T32 l0 x5_4).f2)], .int .u8 79] rfl yQ ?_; (with_reducible refine (swarfref43_only.calls ((rd_T32 l0 x5_4).f0) _ _ ((rd_T32 l0 x5_4).f1) ((rd_T32 l0 x5_4).f2) 79 true _ ?side1 ?side2 A46.out).mono ?_); (case side1 => repeat (first | exact (by repeat (first | (with_reducible exact HR852_1.out) | (with_reducible refine Kd.C_alloc ?_ _) | (with_reducible refine Kd.C_drewN ?_ _) | (with_reducible refine Kd.C_drew ?_) | exact HR852_1.out)) | (with_reducible refine Kd.C_alloc ?_ _) | (with_reducible refine Kd.C_drewN ?_ _) | (with_reducible refine Kd.C_drew ?_))); (case side2 => exact HC852_1.out); rintro e w50 ⟨rfl, hb⟩; refine ⟨_, rfl, ?_⟩; replace HO_0 := Aside0.mk (Kd.V_below (yV HO_0.out) hb); replace HO_840000 := Aside0.mk (Kd.N_below (yN HO_840000.out) hb); replace HO_840001 := Aside0.mk (Kd.N_below (yN HO_840001.out) hb); replace HL852_1 := Aside0.mk (Kd.V_below (yV HL852_1.out) hb); replace BK838 := Aside0.mk (blk_below (g := gb838) yK hb); replace BK839 := Aside0.mk (blk_below (g := gb839) yK hb); replace HR852_1 := Aside0.mk (Kd.C_below (by repeat (first | (with_reducible exact HR852_1.out) | (with_reducible refine Kd.C_alloc ?_ _) | (with_reducible refine Kd.C_drewN ?_ _) | (with_reducible refine Kd.C_drew ?_) | exact HR852_1.out)) hb); replace HB := Aside0.mk (below_step yB hb); (try clear hb); have p854 : 0 ≤ (x5_4 : Int) := yD; have q854 : x5_4 < (l0.length : Int) := yD; obtain ⟨ad854, A854_1, c854_1, e854, hx854_0, hx854_1, hx854_2, hl854_1, hi854_1⟩ := at_T32 (Kd.V_reads' HO_0.out).2.2 x5_4 p854 q854; obtain rfl : ad852 = ad854 := (by injection e854); obtain ⟨ce854, hce854, hMe854, hcc854⟩ := Kd.V_get HO_0.out z32 x5_4 p854 (by first | exact q854 | exact yD | (have e_ := (Kd.V_reads' HO_0.out).1; omega)); obtain ⟨ua854_1, uc854_1, rfl, ul854_1, ge854_1⟩ := k32_openF hMe854; have hv854_1 := hcc854 1 _ rfl; rw [add_field _ _ 1 (by omega)] at hv854_1; replace hv854_1 := Option.some.inj (hv854_1.symm.trans hx854_1); injection hv854_1 with hva_ hvn_ hvc_; rw [hva_] at ge854_1; rw [hvc_] at ul854_1; have HL854_1 := Aside0.mk (show Kd.V k78 78 _ w.heap.size _ _ ((rd_T32 l0 x5_4).f1) from Kd.V_mk ul854_1 ge854_1); clear hva_ hvn_ hvc_ ge854_1 ul854_1; clear hcc854 hce854; have HR854_1 := Aside0.mk hi854_1; have HC854_1 := Aside0.mk hl854_1; clear hi854_1 hl854_1; replace p854 := eq_true p854; replace q854 := eq_true q854; have p855 : 0 ≤ (0 : Int) := (by omega); have q855 : 0 < (((rd_T32 l0 x5_4).f1).length : Int) := yD; obtain ⟨ad855, e855, hx855_0, hx855_1⟩ := at_T78 (by repeat (first | (with_reducible exact HR854_1.out) | (with_reducible refine Kd.C_alloc ?_ _) | (with_reducible refine Kd.C_drewN ?_ _) | (with_reducible refine Kd.C_drew ?_) | exact HR854_1.out)) 0 p855 q855; cases e855; have qi855 : (0 < ((rd_T32 l0 x5_4).f1).length) = True := eq_true (by omega); (try rw [show ((0 : Int)).toNat = 0 from rfl] at hx855_0); (try rw [show 0 * 2 = 0 from rfl] at hx855_0); (try rw [Addr.add_zero'] at hx855_0); (try rw [show ((0 : Int)).toNat = 0 from rfl] at hx855_1); (try rw [show 0 * 2 = 0 from rfl] at hx855_1); (try rw [Addr.add_zero'] at hx855_1); replace p855 := eq_true p855; replace q855 := eq_true q855) | (go_at_call 61; (with_reducible refine (swarfref43_whole.calls ((rd_T78 ((rd_T32 l0 x5_4).f1) 0).f1) t856 _ A49.out).mono ?_); rintro e w' ⟨rfl, ⟨nd, rfl⟩⟩))
              go_meet
              case rel => exact ⟨_, ((t856 == 0)), yS, H', ⟨by have := HK1.out; have := HJ3.out; have := HJ32.out; have := HK4.out; first | omega | exact Nat.le_refl _⟩, ⟨by refine yV ?_; exact HO_0.out⟩, ⟨by refine yN ?_; exact HO_840000.out⟩, ⟨by refine yN ?_; exact HO_840001.out⟩, ⟨by refine yH ?_; exact BK838.out⟩, ⟨by refine yH ?_; exact BK839.out⟩, ⟨yB⟩⟩
             rw [if_neg c48] at H
             exact absurd H (by simp)
            replace c47 := Bool.eq_false_iff.mpr c47
            subst c47
            replace H : (swarfref43_Split.j4 k4 l0 x5_4 x6_4 true x840000_1 x840001_4) = some (r1, r2, r3) := by rw [if_neg (show ¬ (false = true) by decide)] at H; exact H
            have H' := Aside0.mk H
            clear H
            have p852 : 0 ≤ (x5_4 : Int) := yD
            have q852 : x5_4 < (l0.length : Int) := yD
            obtain ⟨ad852, A852_1, c852_1, e852, hx852_0, hx852_1, hx852_2, hl852_1, hi852_1⟩ := at_T32 (Kd.V_reads' HO_0.out).2.2 x5_4 p852 q852
            cases e852
            obtain ⟨ce852, hce852, hMe852, hcc852⟩ := Kd.V_get HO_0.out z32 x5_4 p852 (by first | exact q852 | exact yD | (have e_ := (Kd.V_reads' HO_0.out).1; omega))
            obtain ⟨ua852_1, uc852_1, rfl, ul852_1, ge852_1⟩ := k32_openF hMe852
            have hv852_1 := hcc852 1 _ rfl
            rw [add_field _ _ 1 (by omega)] at hv852_1
            replace hv852_1 := Option.some.inj (hv852_1.symm.trans hx852_1)
            injection hv852_1 with hva_ hvn_ hvc_
            rw [hva_] at ge852_1
            rw [hvc_] at ul852_1
            have HL852_1 := Aside0.mk (show Kd.V k78 78 _ w.heap.size _ _ ((rd_T32 l0 x5_4).f1) from Kd.V_mk ul852_1 ge852_1)
            clear hva_ hvn_ hvc_ ge852_1 ul852_1
            clear hcc852 hce852
            have HR852_1 := Aside0.mk hi852_1
            have HC852_1 := Aside0.mk hl852_1
            clear hi852_1 hl852_1
            replace p852 := eq_true p852
            replace q852 := eq_true q852
            go_wp2_with (first | ((with_reducible refine gate_callee (f := 84) rfl ?_); refine goesL_ (some 69) rfl rfl Try.func84 (by kernel_rfl) rfl #[.agg #[.bool ((rd_T32 l0 x5_4).f0), .slice A852_1 ((rd_T32 l0 x5_4).f1).length c852_1, .string ((rd_T32 l0 x5_4).f2)], .int .u8 79] rfl yQ ?_; (with_reducible refine (swarfref43_only.calls ((rd_T32 l0 x5_4).f0) _ _ ((rd_T32 l0 x5_4).f1) ((rd_T32 l0 x5_4).f2) 79 false _ ?side1 ?side2 A46.out).mono ?_); (case side1 => repeat (first | exact (by repeat (first | (with_reducible exact HR852_1.out) | (with_reducible refine Kd.C_alloc ?_ _) | (with_reducible refine Kd.C_drewN ?_ _) | (with_reducible refine Kd.C_drew ?_) | exact HR852_1.out)) | (with_reducible refine Kd.C_alloc ?_ _) | (with_reducible refine Kd.C_drewN ?_ _) | (with_reducible refine Kd.C_drew ?_))); (case side2 => exact HC852_1.out); rintro e w51 ⟨rfl, hb⟩; refine ⟨_, rfl, ?_⟩; replace HO_0 := Aside0.mk (Kd.V_below (yV HO_0.out) hb); replace HO_840000 := Aside0.mk (Kd.N_below (yN HO_840000.out) hb); replace HO_840001 := Aside0.mk (Kd.N_below (yN HO_840001.out) hb); replace HL852_1 := Aside0.mk (Kd.V_below (yV HL852_1.out) hb); replace BK838 := Aside0.mk (blk_below (g := gb838) yK hb); replace BK839 := Aside0.mk (blk_below (g := gb839) yK hb); replace HR852_1 := Aside0.mk (Kd.C_below (by repeat (first | (with_reducible exact HR852_1.out) | (with_reducible refine Kd.C_alloc ?_ _) | (with_reducible refine Kd.C_drewN ?_ _) | (with_reducible refine Kd.C_drew ?_) | exact HR852_1.out)) hb); replace HB := Aside0.mk (below_step yB hb); (try clear hb)))
            go_meet
            case rel => exact ⟨_, (true), yS, H', ⟨by have := HK1.out; have := HJ3.out; have := HJ32.out; have := HK4.out; first | omega | exact Nat.le_refl _⟩, ⟨by refine yV ?_; exact HO_0.out⟩, ⟨by refine yN ?_; exact HO_840000.out⟩, ⟨by refine yN ?_; exact HO_840001.out⟩, ⟨by refine yH ?_; exact BK838.out⟩, ⟨by refine yH ?_; exact BK839.out⟩, ⟨yB⟩⟩
           rw [if_neg c45] at H
           exact absurd H (by simp)
          case rest =>
           clear HC44
           try clear c1
           try clear c2
           try clear p2
           try clear c3
           try clear c4
           try clear c5
           try clear c5b0
           try clear c6
           try clear c6b0
           try clear c6b1
           try clear p6
           try clear c8
           try clear c8b0
           try clear p8
           try clear q8
           try clear hx8
           try clear qi8
           try clear c9
           try clear c9b0
           try clear c12
           try clear c13
           try clear c13b0
           try clear c14
           try clear c14b0
           try clear c16
           try clear c18
           try clear c21
           try clear c24
           try clear c26
           try clear c34
           try clear c34b0
           try clear c34b1
           try clear c36
           try clear c36b0
           try clear c37
           try clear c37b0
           try clear c40
           try clear c41
           try clear c43
           try clear c43b0
           try clear c45
           try clear c45b0
           try clear c47
           try clear c48
           try clear c48b0
           try clear c48b1
           try clear hcz19_0
           try clear hcz19_1
           try clear hcz25_0
           try clear hcz25_1
           try clear hcz42_0
           try clear hcz42_1
           try clear hfz19_0
           try clear hfz19_1
           try clear hfz25_0
           try clear hfz25_1
           try clear hfz42_0
           try clear hfz42_1
           try clear hx840_0
           try clear hx840_1
           try clear hx840_2
           try clear hx842_0
           try clear hx842_1
           try clear hx842_2
           try clear hx844_0
           try clear hx844_1
           try clear hx844_2
           try clear hx846_0
           try clear hx846_1
           try clear hx846_2
           try clear hx850_0
           try clear hx850_1
           try clear hx850_2
           try clear hx852_0
           try clear hx852_1
           try clear hx852_2
           try clear hx854_0
           try clear hx854_1
           try clear hx854_2
           try clear hx855_0
           try clear hx855_1
           try clear p2
           try clear p6
           try clear p8
           try clear p840
           try clear p842
           try clear p844
           try clear p846
           try clear p850
           try clear p852
           try clear p854
           try clear p855
           try clear q8
           try clear q840
           try clear q842
           try clear q844
           try clear q846
           try clear q850
           try clear q852
           try clear q854
           try clear q855
           obtain ⟨kq, x82_43, rfl, HA, HJ43, HO_0, HO_840000, HO_840001, BK838, BK839, HB⟩ := hcut
           cases kq with
           | zero => exact absurd HA.out (by simp [swarfref43_Split.j4])
           | succ kj43 =>
            have H := HA.out
            clear HA
            simp only [swarfref43_Split.j4] at H
            by_cases c52 : x82_43 = true
            ·subst c52
             rw [if_pos rfl] at H
             simp only [Option.some.injEq, Prod.mk.injEq] at H
             obtain ⟨rfl, rfl, rfl⟩ := H
             have hnb53 := NB838_839.out
             have hnc53 := NB839_838.out
             have hcz54_0 := yZ0 BK838.out
             have hcz54_1 := yZ1 BK838.out
             have hfz54_0 := blk_frozen BK838.out 0
             have hfz54_1 := blk_frozen BK838.out 1
             go_wp2
             refine bodyPost_ret (results_ct rfl _ _ gb838 48 #[.slice none 0 0, .slice none 0 0] (0, 0) _ rfl (by refine yH ?_; refine blk_put (cs := #[.slice none 0 0, .slice none 0 0]) ?_ 1 _ rfl; refine yH ?_; refine blk_put (cs := #[.slice none 0 0, .slice none 0 0]) ?_ 0 _ rfl; refine yH ?_; exact BK838.out) Try.underlying48 rfl (by kernel_rfl)) rfl ?_
             exact ⟨_, _, yE, by first | exact Kd.S_nil _ _ _ _ _ | exact Kd.N_nil _ _ _ _ _ | exact Kd.V_nil _ _ _ _ _ | exact Kd.Q_nil _ _ _ _ _ | exact Kd.R_nil _ _ _ _ _, by first | exact Kd.R_nil _ _ _ _ _ | exact Kd.N_nil _ _ _ _ _ | exact Kd.V_nil _ _ _ _ _ | exact Kd.Q_nil _ _ _ _ _ | exact Kd.S_nil _ _ _ _ _, yB⟩
            replace c52 := Bool.eq_false_iff.mpr c52
            subst c52
            replace H : (if 0 ≤ x5_4 then (if x5_4 < (l0.length : Int) then (if 0 < (((rd_T32 l0 x5_4).f1).length : Int) then ((swarfref43_whole.f ((rd_T78 ((rd_T32 l0 x5_4).f1) 0).f1)).bind fun t859 => (if x6_4 = true then (swarfref43_Split.j5 kj43 l0 x5_4 true x840000_1 x840001_4 t859) else ((swarfref43_Find.f kj43 x840000_1 x840001_4 t859).bind fun t861 => (swarfref43_Split.j5 kj43 l0 x5_4 (decide (t861 ≥ 0)) x840000_1 x840001_4 t859)))) else (none)) else (none)) else (none)) = some (r1, r2, r3) := by rw [if_neg (show ¬ (false = true) by decide)] at H; exact H
            by_cases c55 : 0 ≤ x5_4
            ·rw [if_pos c55] at H
             have c55b0 := decide_eq_true c55
             clear c55
             by_cases c56 : x5_4 < (l0.length : Int)
             ·rw [if_pos c56] at H
              have c56b0 := decide_eq_true c56
              clear c56
              by_cases c57 : 0 < (((rd_T32 l0 x5_4).f1).length : Int)
              ·rw [if_pos c57] at H
               have c57b0 := decide_eq_true c57
               have c57b1 : decide (0 < ((rd_T32 l0 x5_4).f1).length) = true := decide_eq_true (by omega)
               clear c57
               replace H := Option.bind_eq_some_iff.mp H
               obtain ⟨t859, A580, H⟩ := H
               have A58 := Aside0.mk A580
               clear A580
               have HC59 := Aside0.mk H
               clear H
               have p857 : 0 ≤ (x5_4 : Int) := yD
               have q857 : x5_4 < (l0.length : Int) := yD
               obtain ⟨ad857, A857_1, c857_1, e857, hx857_0, hx857_1, hx857_2, hl857_1, hi857_1⟩ := at_T32 (Kd.V_reads' HO_0.out).2.2 x5_4 p857 q857
               cases e857
               obtain ⟨ce857, hce857, hMe857, hcc857⟩ := Kd.V_get HO_0.out z32 x5_4 p857 (by first | exact q857 | exact yD | (have e_ := (Kd.V_reads' HO_0.out).1; omega))
               obtain ⟨ua857_1, uc857_1, rfl, ul857_1, ge857_1⟩ := k32_openF hMe857
               have hv857_1 := hcc857 1 _ rfl
               rw [add_field _ _ 1 (by omega)] at hv857_1
               replace hv857_1 := Option.some.inj (hv857_1.symm.trans hx857_1)
               injection hv857_1 with hva_ hvn_ hvc_
               rw [hva_] at ge857_1
               rw [hvc_] at ul857_1
               have HL857_1 := Aside0.mk (show Kd.V k78 78 _ w.heap.size _ _ ((rd_T32 l0 x5_4).f1) from Kd.V_mk ul857_1 ge857_1)
               clear hva_ hvn_ hvc_ ge857_1 ul857_1
               clear hcc857 hce857
               have HR857_1 := Aside0.mk hi857_1
               have HC857_1 := Aside0.mk hl857_1
               clear hi857_1 hl857_1
               replace p857 := eq_true p857
               replace q857 := eq_true q857
               have p858 : 0 ≤ (0 : Int) := (by omega)
               have q858 : 0 < (((rd_T32 l0 x5_4).f1).length : Int) := yD
               obtain ⟨ad858, e858, hx858_0, hx858_1⟩ := at_T78 (by repeat (first | (with_reducible exact HR857_1.out) | (with_reducible refine Kd.C_alloc ?_ _) | (with_reducible refine Kd.C_drewN ?_ _) | (with_reducible refine Kd.C_drew ?_) | exact HR857_1.out)) 0 p858 q858
               cases e858
               have qi858 : (0 < ((rd_T32 l0 x5_4).f1).length) = True := eq_true (by omega)
               (try rw [show ((0 : Int)).toNat = 0 from rfl] at hx858_0)
               (try rw [show 0 * 2 = 0 from rfl] at hx858_0)
               (try rw [Addr.add_zero'] at hx858_0)
               (try rw [show ((0 : Int)).toNat = 0 from rfl] at hx858_1)
               (try rw [show 0 * 2 = 0 from rfl] at hx858_1)
               (try rw [Addr.add_zero'] at hx858_1)
               replace p858 := eq_true p858
               replace q858 := eq_true q858
               go_upto_region 15 with (first | ((with_reducible refine gate_callee (f := 61) rfl ?_); refine goesL_ (some 92) rfl rfl Try.func61 (by kernel_rfl) rfl #[.int .i64 ((rd_T78 ((rd_T32 l0 x5_4).f1) 0).f1)] rfl yQ ?_; (with_reducible refine (swarfref43_whole.calls ((rd_T78 ((rd_T32 l0 x5_4).f1) 0).f1) t859 _ A58.out).mono ?_); rintro e w' ⟨rfl, ⟨nd, rfl⟩⟩; refine ⟨_, rfl, ?_⟩; (try (rw [drewN_self wc]; generalize hq_ : World.drewN wc _ = wc; have n0_ : Aside0 (Kd.V k78 78 wc w.heap.size (fun k_ => (P0_ k_ ∨ w.heap.size ≤ k_) ∧ some k_ ≠ (u840000 : Value).ownBlock ∧ some k_ ≠ (u840001 : Value).ownBlock ∧ k_ ≠ gb838 ∧ k_ ≠ gb839) (.slice (some ad858) ((rd_T32 l0 x5_4).f1).length c857_1) ((rd_T32 l0 x5_4).f1)) := ⟨by rw [← hq_]; exact (yV HL857_1.out)⟩; have n1_ : Aside0 (Kd.V k32 32 wc w.heap.size (fun k_ => (P0_ k_ ∨ w.heap.size ≤ k_) ∧ some k_ ≠ (u840000 : Value).ownBlock ∧ some k_ ≠ (u840001 : Value).ownBlock ∧ k_ ≠ gb838 ∧ k_ ≠ gb839) (.slice (some ad857) l0.length c0) l0) := ⟨by rw [← hq_]; exact (yV HO_0.out)⟩; have n2_ : Aside0 (Kd.N k32 32 wc w.heap.size (fun k_ => (P0_ k_ ∨ w.heap.size ≤ k_) ∧ some k_ ≠ (u840001 : Value).ownBlock ∧ k_ ≠ gb838 ∧ k_ ≠ gb839) u840000 x840000_1) := ⟨by rw [← hq_]; exact (yN HO_840000.out)⟩; have n3_ : Aside0 (Kd.N k58 58 wc w.heap.size (fun k_ => (P0_ k_ ∨ w.heap.size ≤ k_) ∧ some k_ ≠ (u840000 : Value).ownBlock ∧ k_ ≠ gb838 ∧ k_ ≠ gb839) u840001 x840001_4) := ⟨by rw [← hq_]; exact (yN HO_840001.out)⟩; have n4_ : Aside0 (wc.heap[gb838]? = some (.cells #[.slice none 0 0, .slice none 0 0] 48 (0, 0))) := ⟨by rw [← hq_]; exact yK⟩; have n5_ : Aside0 (wc.heap[gb839]? = some (.cells #[u840000, u840001] 48 (0, 0))) := ⟨by rw [← hq_]; exact yK⟩; have n6_ : Aside0 (Below w.heap.size w wc) := ⟨by rw [← hq_]; exact yB⟩; have n7_ : Aside0 (Kd.C k78 wc (some ad858) ((rd_T32 l0 x5_4).f1).length ((rd_T32 l0 x5_4).f1)) := ⟨by rw [← hq_]; exact (by repeat (first | (with_reducible exact HR857_1.out) | (with_reducible refine Kd.C_alloc ?_ _) | (with_reducible refine Kd.C_drewN ?_ _) | (with_reducible refine Kd.C_drew ?_) | exact HR857_1.out))⟩; clear HL857_1 HO_0 HO_840000 HO_840001 BK838 BK839 HB HR857_1 hq_; have HL857_1 := n0_; have HO_0 := n1_; have HO_840000 := n2_; have HO_840001 := n3_; have BK838 := n4_; have BK839 := n5_; have HB := n6_; have HR857_1 := n7_; clear n0_ n1_ n2_ n3_ n4_ n5_ n6_ n7_))) | ((with_reducible refine gate_dst (N := 7) rfl ?_); refine yX 7 #[.int .i64 0, .slice none 0 0] 58 ?_; intro gb860 hg w60 hbox hb; replace HO_0 := Aside0.mk (Kd.V_below (Kd.V_elderB (yV HO_0.out) gb860 (Nat.le_of_eq hg.symm)) hb); replace HO_840000 := Aside0.mk (Kd.N_below (Kd.N_elderB (yN HO_840000.out) gb860 (Nat.le_of_eq hg.symm)) hb); replace HO_840001 := Aside0.mk (Kd.N_below (Kd.N_elderB (yN HO_840001.out) gb860 (Nat.le_of_eq hg.symm)) hb); replace HL857_1 := Aside0.mk (Kd.V_below (Kd.V_elderB (yV HL857_1.out) gb860 (Nat.le_of_eq hg.symm)) hb); replace HR857_1 := Aside0.mk (Kd.C_below (by repeat (first | (with_reducible exact HR857_1.out) | (with_reducible refine Kd.C_alloc ?_ _) | (with_reducible refine Kd.C_drewN ?_ _) | (with_reducible refine Kd.C_drew ?_) | exact HR857_1.out)) hb); have BK860 := Aside0.mk (hbox); have GE860 := Aside0.mk ((yG hg : w.heap.size ≤ gb860)); replace HB := Aside0.mk (below_step yB hb); have NB838_860 := Aside0.mk ((yJ hg yK : gb838 ≠ gb860)); have NB860_838 := Aside0.mk ((yI hg yK : gb860 ≠ gb838)); replace BK838 := Aside0.mk (blk_below (g := gb838) yK hb); have NB839_860 := Aside0.mk ((yJ hg yK : gb839 ≠ gb860)); have NB860_839 := Aside0.mk ((yI hg yK : gb860 ≠ gb839)); replace BK839 := Aside0.mk (blk_below (g := gb839) yK hb); clear hb hbox hg; have hnb61 := NB860_838.out; have hnc61 := NB838_860.out; have hnb62 := NB860_839.out; have hnc62 := NB839_860.out; have hcz63_0 := yZ0 BK860.out; have hcz63_1 := yZ1 BK860.out; have hfz63_0 := blk_frozen BK860.out 0; have hfz63_1 := blk_frozen BK860.out 1))
               (try simp only [Act.put, List.setIfInBounds_toArray, List.set_cons_zero, List.set_cons_succ])
               go_cut [6] (fun v6 wc => ∃ (kq : Nat) (x6_58 : Bool), v6 = .bool x6_58 ∧ Aside0 (swarfref43_Split.j5 kq l0 x5_4 x6_58 x840000_1 x840001_4 t859 = some (r1, r2, r3)) ∧ Aside0 (kq ≤ kj43) ∧ Aside0 (Kd.V k32 32 wc w.heap.size (fun k_ => (P0_ k_ ∨ w.heap.size ≤ k_) ∧ some k_ ≠ (u840000 : Value).ownBlock ∧ some k_ ≠ (u840001 : Value).ownBlock ∧ k_ ≠ gb838 ∧ k_ ≠ gb839 ∧ k_ ≠ gb860) (.slice (some ad857) l0.length c0) l0) ∧ Aside0 (Kd.N k32 32 wc w.heap.size (fun k_ => (P0_ k_ ∨ w.heap.size ≤ k_) ∧ some k_ ≠ (u840001 : Value).ownBlock ∧ k_ ≠ gb838 ∧ k_ ≠ gb839 ∧ k_ ≠ gb860) u840000 x840000_1) ∧ Aside0 (Kd.N k58 58 wc w.heap.size (fun k_ => (P0_ k_ ∨ w.heap.size ≤ k_) ∧ some k_ ≠ (u840000 : Value).ownBlock ∧ k_ ≠ gb838 ∧ k_ ≠ gb839 ∧ k_ ≠ gb860) u840001 x840001_4) ∧ Aside0 (wc.heap[gb838]? = some (.cells #[(.slice none 0 0), (.slice none 0 0)] 48 (0, 0))) ∧ Aside0 (wc.heap[gb839]? = some (.cells #[u840000, u840001] 48 (0, 0))) ∧ Aside0 (wc.heap[gb860]? = some (.cells #[.int .i64 t859, (.slice none 0 0)] 58 (0, 0))) ∧ Aside0 (Kd.C k78 wc (some ad858) ((rd_T32 l0 x5_4).f1).length ((rd_T32 l0 x5_4).f1)) ∧ Aside0 (Below w.heap.size w wc))
               case first =>
                have H := HC59.out
                clear HC59
                by_cases c64 : x6_4 = true
                ·subst c64
                 rw [if_pos rfl] at H
                 have H' := Aside0.mk H
                 clear H
                 go_wp2
                 go_meet
                 case rel => exact ⟨_, (true), yS, H', ⟨by have := HK1.out; have := HJ3.out; have := HJ32.out; have := HK4.out; have := HJ43.out; first | omega | exact Nat.le_refl _⟩, ⟨by refine yV ?_; exact Kd.V_mono (Kd.V_far (p := ⟨gb860, 1, none⟩) (Kd.V_far (p := ⟨gb860, 0, none⟩) (Kd.V_mono HO_0.out (fun k_ hk => (⟨hk, hk.2⟩ : _ ∧ k_ ≠ gb860))) (fun _ hk => hk.2) (.int .i64 t859)) (fun _ hk => hk.2) (.slice none 0 0)) (fun _ hk => ⟨hk.1.1.1, ⟨hk.1.1.2.1, ⟨hk.1.1.2.2.1, ⟨hk.1.1.2.2.2.1, ⟨hk.1.1.2.2.2.2, hk.1.2⟩⟩⟩⟩⟩)⟩, ⟨by refine yN ?_; exact Kd.N_mono (Kd.N_far (p := ⟨gb860, 1, none⟩) (Kd.N_far (p := ⟨gb860, 0, none⟩) (Kd.N_mono HO_840000.out (fun k_ hk => (⟨hk, hk.2⟩ : _ ∧ k_ ≠ gb860))) (fun _ hk => hk.2) (.int .i64 t859)) (fun _ hk => hk.2) (.slice none 0 0)) (fun _ hk => ⟨hk.1.1.1, ⟨hk.1.1.2.1, ⟨hk.1.1.2.2.1, ⟨hk.1.1.2.2.2, hk.1.2⟩⟩⟩⟩)⟩, ⟨by refine yN ?_; exact Kd.N_mono (Kd.N_far (p := ⟨gb860, 1, none⟩) (Kd.N_far (p := ⟨gb860, 0, none⟩) (Kd.N_mono HO_840001.out (fun k_ hk => (⟨hk, hk.2⟩ : _ ∧ k_ ≠ gb860))) (fun _ hk => hk.2) (.int .i64 t859)) (fun _ hk => hk.2) (.slice none 0 0)) (fun _ hk => ⟨hk.1.1.1, ⟨hk.1.1.2.1, ⟨hk.1.1.2.2.1, ⟨hk.1.1.2.2.2, hk.1.2⟩⟩⟩⟩)⟩, ⟨by refine yH ?_; refine blk_far ?_ NB838_860.out _; refine yH ?_; refine blk_far ?_ NB838_860.out _; refine yH ?_; exact BK838.out⟩, ⟨by refine yH ?_; refine blk_far ?_ NB839_860.out _; refine yH ?_; refine blk_far ?_ NB839_860.out _; refine yH ?_; exact BK839.out⟩, ⟨by refine yH ?_; refine blk_put (cs := #[.int .i64 t859, .slice none 0 0]) ?_ 1 _ rfl; refine yH ?_; refine blk_put (cs := #[.int .i64 0, .slice none 0 0]) ?_ 0 _ rfl; refine yH ?_; exact BK860.out⟩, ⟨(Kd.V_reads' (yV (Kd.V_mono (Kd.V_far (p := ⟨gb860, 1, none⟩) (Kd.V_far (p := ⟨gb860, 0, none⟩) (Kd.V_mono HL857_1.out (fun k_ hk => (⟨hk, hk.2⟩ : _ ∧ k_ ≠ gb860))) (fun _ hk => hk.2) (.int .i64 t859)) (fun _ hk => hk.2) (.slice none 0 0)) (fun _ h_ => h_.1)))).2.2⟩, ⟨yB⟩⟩
                replace c64 := Bool.eq_false_iff.mpr c64
                subst c64
                replace H : ((swarfref43_Find.f kj43 x840000_1 x840001_4 t859).bind fun t861 => (swarfref43_Split.j5 kj43 l0 x5_4 (decide (t861 ≥ 0)) x840000_1 x840001_4 t859)) = some (r1, r2, r3) := by rw [if_neg (show ¬ (false = true) by decide)] at H; exact H
                replace H := Option.bind_eq_some_iff.mp H
                obtain ⟨t861, A650, H⟩ := H
                have A65 := Aside0.mk A650
                clear A650
                have H' := Aside0.mk H
                clear H
                have hnb66 := NB839_838.out
                have hnc66 := NB838_839.out
                have hnb67 := NB839_860.out
                have hnc67 := NB860_839.out
                have hcz68_0 := yZ0 BK839.out
                have hcz68_1 := yZ1 BK839.out
                have hfz68_0 := blk_frozen BK839.out 0
                have hfz68_1 := blk_frozen BK839.out 1
                have hnb69 := NB860_838.out
                have hnc69 := NB838_860.out
                have hcz70_0 := yZ0 BK860.out
                have hcz70_1 := yZ1 BK860.out
                have hfz70_0 := blk_frozen BK860.out 0
                have hfz70_1 := blk_frozen BK860.out 1
                obtain ⟨Ao71, co71, eo71⟩ := Kd.N_slice HO_840000.out
                subst eo71
                obtain ⟨Ao72, co72, eo72⟩ := Kd.N_slice HO_840001.out
                subst eo72
                go_wp2_with (first | (go_at_call 30; (with_reducible refine (swarfref43_Find.calls kj43 _ _ x840000_1 _ _ x840001_4 t859 t861 _ ?side1 ?side2 ?side3 ?side4 A65.out).mono ?_); (case side1 => refine (Kd.N_reads' (e := 32) (base := w.heap.size) (ok := fun k_ => (((P0_ k_ ∨ w.heap.size ≤ k_) ∧ (some k_ ≠ (.slice Ao72 x840001_4.length co72 : Value).ownBlock ∧ (k_ ≠ gb838 ∧ k_ ≠ gb839))) ∧ k_ ≠ gb860)) (n := x840000_1.length) (c := co71) ?_).2.2; exact (yN (Kd.N_mono (Kd.N_far (p := ⟨gb860, 1, none⟩) (Kd.N_far (p := ⟨gb860, 0, none⟩) (Kd.N_mono HO_840000.out (fun k_ hk => (⟨hk, hk.2⟩ : _ ∧ k_ ≠ gb860))) (fun _ hk => hk.2) (.int .i64 t859)) (fun _ hk => hk.2) (.slice none 0 0)) (fun _ h_ => h_.1)))); (case side2 => exact (Kd.N_reads' HO_840000.out).2.1); (case side3 => refine (Kd.N_reads' (e := 58) (base := w.heap.size) (ok := fun k_ => (((P0_ k_ ∨ w.heap.size ≤ k_) ∧ (some k_ ≠ (.slice Ao71 x840000_1.length co71 : Value).ownBlock ∧ (k_ ≠ gb838 ∧ k_ ≠ gb839))) ∧ k_ ≠ gb860)) (n := x840001_4.length) (c := co72) ?_).2.2; exact (yN (Kd.N_mono (Kd.N_far (p := ⟨gb860, 1, none⟩) (Kd.N_far (p := ⟨gb860, 0, none⟩) (Kd.N_mono HO_840001.out (fun k_ hk => (⟨hk, hk.2⟩ : _ ∧ k_ ≠ gb860))) (fun _ hk => hk.2) (.int .i64 t859)) (fun _ hk => hk.2) (.slice none 0 0)) (fun _ h_ => h_.1)))); (case side4 => exact (Kd.N_reads' HO_840001.out).2.1); rintro e w73 ⟨rfl, hb⟩; replace HO_0 := Aside0.mk (Kd.V_below (yV (Kd.V_mono (Kd.V_far (p := ⟨gb860, 1, none⟩) (Kd.V_far (p := ⟨gb860, 0, none⟩) (Kd.V_mono HO_0.out (fun k_ hk => (⟨hk, hk.2⟩ : _ ∧ k_ ≠ gb860))) (fun _ hk => hk.2) (.int .i64 t859)) (fun _ hk => hk.2) (.slice none 0 0)) (fun _ h_ => h_.1))) hb); replace HO_840000 := Aside0.mk (Kd.N_below (yN (Kd.N_mono (Kd.N_far (p := ⟨gb860, 1, none⟩) (Kd.N_far (p := ⟨gb860, 0, none⟩) (Kd.N_mono HO_840000.out (fun k_ hk => (⟨hk, hk.2⟩ : _ ∧ k_ ≠ gb860))) (fun _ hk => hk.2) (.int .i64 t859)) (fun _ hk => hk.2) (.slice none 0 0)) (fun _ h_ => h_.1))) hb); replace HO_840001 := Aside0.mk (Kd.N_below (yN (Kd.N_mono (Kd.N_far (p := ⟨gb860, 1, none⟩) (Kd.N_far (p := ⟨gb860, 0, none⟩) (Kd.N_mono HO_840001.out (fun k_ hk => (⟨hk, hk.2⟩ : _ ∧ k_ ≠ gb860))) (fun _ hk => hk.2) (.int .i64 t859)) (fun _ hk => hk.2) (.slice none 0 0)) (fun _ h_ => h_.1))) hb); replace BK838 := Aside0.mk (blk_below (g := gb838) (o := .cells #[.slice none 0 0, .slice none 0 0] 48 (0, 0)) (by refine yH ?_; refine blk_far ?_ NB838_860.out _; refine yH ?_; refine blk_far ?_ NB838_860.out _; refine yH ?_; exact BK838.out) hb); replace BK839 := Aside0.mk (blk_below (g := gb839) (o := .cells #[.slice Ao71 x840000_1.length co71, .slice Ao72 x840001_4.length co72] 48 (0, 0)) (by refine yH ?_; refine blk_far ?_ NB839_860.out _; refine yH ?_; refine blk_far ?_ NB839_860.out _; refine yH ?_; exact BK839.out) hb); replace HR857_1 := Aside0.mk (Kd.C_below ((Kd.V_reads' (yV (Kd.V_mono (Kd.V_far (p := ⟨gb860, 1, none⟩) (Kd.V_far (p := ⟨gb860, 0, none⟩) (Kd.V_mono HL857_1.out (fun k_ hk => (⟨hk, hk.2⟩ : _ ∧ k_ ≠ gb860))) (fun _ hk => hk.2) (.int .i64 t859)) (fun _ hk => hk.2) (.slice none 0 0)) (fun _ h_ => h_.1)))).2.2) hb); replace HL857_1 := Aside0.mk (Kd.V_below (yV (Kd.V_mono (Kd.V_far (p := ⟨gb860, 1, none⟩) (Kd.V_far (p := ⟨gb860, 0, none⟩) (Kd.V_mono HL857_1.out (fun k_ hk => (⟨hk, hk.2⟩ : _ ∧ k_ ≠ gb860))) (fun _ hk => hk.2) (.int .i64 t859)) (fun _ hk => hk.2) (.slice none 0 0)) (fun _ h_ => h_.1))) hb); replace BK860 := Aside0.mk (blk_below (g := gb860) (o := .cells #[.int .i64 t859, .slice none 0 0] 58 (0, 0)) (by refine yH ?_; refine blk_put (cs := #[.int .i64 t859, .slice none 0 0]) ?_ 1 _ rfl; refine yH ?_; refine blk_put (cs := #[.int .i64 0, .slice none 0 0]) ?_ 0 _ rfl; refine yH ?_; exact BK860.out) hb); replace HB := Aside0.mk (below_step yB hb); (try clear hb); (try clear hk)))
                go_meet
                case rel => exact ⟨_, (decide (t861 ≥ 0)), yS, H', ⟨by have := HK1.out; have := HJ3.out; have := HJ32.out; have := HK4.out; have := HJ43.out; first | omega | exact Nat.le_refl _⟩, ⟨by refine yV ?_; exact Kd.V_mono HO_0.out (fun _ hk => ⟨hk.1.1, ⟨hk.1.2.1, ⟨hk.1.2.2.1, ⟨hk.1.2.2.2.1, ⟨hk.1.2.2.2.2, hk.2⟩⟩⟩⟩⟩)⟩, ⟨by refine yN ?_; exact Kd.N_mono HO_840000.out (fun _ hk => ⟨hk.1.1, ⟨hk.1.2.1, ⟨hk.1.2.2.1, ⟨hk.1.2.2.2, hk.2⟩⟩⟩⟩)⟩, ⟨by refine yN ?_; exact Kd.N_mono HO_840001.out (fun _ hk => ⟨hk.1.1, ⟨hk.1.2.1, ⟨hk.1.2.2.1, ⟨hk.1.2.2.2, hk.2⟩⟩⟩⟩)⟩, ⟨by refine yH ?_; exact BK838.out⟩, ⟨by refine yH ?_; exact BK839.out⟩, ⟨by refine yH ?_; exact BK860.out⟩, ⟨by repeat (first | (with_reducible exact HR857_1.out) | (with_reducible refine Kd.C_alloc ?_ _) | (with_reducible refine Kd.C_drewN ?_ _) | (with_reducible refine Kd.C_drew ?_) | exact HR857_1.out)⟩, ⟨yB⟩⟩
               case rest =>
                clear HC59
                try clear c1
                try clear c2
                try clear p2
                try clear c3
                try clear c4
                try clear c5
                try clear c5b0
                try clear c6
                try clear c6b0
                try clear c6b1
                try clear p6
                try clear c8
                try clear c8b0
                try clear p8
                try clear q8
                try clear hx8
                try clear qi8
                try clear c9
                try clear c9b0
                try clear c12
                try clear c13
                try clear c13b0
                try clear c14
                try clear c14b0
                try clear c16
                try clear c18
                try clear c21
                try clear c24
                try clear c26
                try clear c34
                try clear c34b0
                try clear c34b1
                try clear c36
                try clear c36b0
                try clear c37
                try clear c37b0
                try clear c40
                try clear c41
                try clear c43
                try clear c43b0
                try clear c45
                try clear c45b0
                try clear c47
                try clear c48
                try clear c48b0
                try clear c48b1
                try clear c52
                try clear c53
                try clear c55
                try clear c55b0
                try clear c56
                try clear c56b0
                try clear c57
                try clear c57b0
                try clear c57b1
                try clear c61
                try clear c62
                try clear c64
                try clear p64
                try clear c66
                try clear c67
                try clear c69
                try clear hcz19_0
                try clear hcz19_1
                try clear hcz25_0
                try clear hcz25_1
                try clear hcz42_0
                try clear hcz42_1
                try clear hcz54_0
                try clear hcz54_1
                try clear hcz63_0
                try clear hcz63_1
                try clear hcz68_0
                try clear hcz68_1
                try clear hcz70_0
                try clear hcz70_1
                try clear hfz19_0
                try clear hfz19_1
                try clear hfz25_0
                try clear hfz25_1
                try clear hfz42_0
                try clear hfz42_1
                try clear hfz54_0
                try clear hfz54_1
                try clear hfz63_0
                try clear hfz63_1
                try clear hfz68_0
                try clear hfz68_1
                try clear hfz70_0
                try clear hfz70_1
                try clear hx840_0
                try clear hx840_1
                try clear hx840_2
                try clear hx842_0
                try clear hx842_1
                try clear hx842_2
                try clear hx844_0
                try clear hx844_1
                try clear hx844_2
                try clear hx846_0
                try clear hx846_1
                try clear hx846_2
                try clear hx850_0
                try clear hx850_1
                try clear hx850_2
                try clear hx852_0
                try clear hx852_1
                try clear hx852_2
                try clear hx854_0
                try clear hx854_1
                try clear hx854_2
                try clear hx855_0
                try clear hx855_1
                try clear hx857_0
                try clear hx857_1
                try clear hx857_2
                try clear hx858_0
                try clear hx858_1
                try clear p2
                try clear p6
                try clear p8
                try clear p840
                try clear p842
                try clear p844
                try clear p846
                try clear p850
                try clear p852
                try clear p854
                try clear p855
                try clear p857
                try clear p858
                try clear q8
                try clear q840
                try clear q842
                try clear q844
                try clear q846
                try clear q850
                try clear q852
                try clear q854
                try clear q855
                try clear q857
                try clear q858
                obtain ⟨kq, x6_58, rfl, HA, HJ58, HO_0, HO_840000, HO_840001, BK838, BK839, BK860, HR857_1, HB⟩ := hcut
                cases kq with
                | zero => exact absurd HA.out (by simp [swarfref43_Split.j5])
                | succ kj58 =>
                 have H := HA.out
                 clear HA
                 simp only [swarfref43_Split.j5] at H
                 have H' := Aside0.mk H
                 clear H
                 go_wp2
                 go_loopg [5] kj58 (fun kq v5 w' => ∃ (x5_7 : Int) (x861001_7 : List (S32)) (u861001 : Value), v5 = .int .i64 x5_7 ∧ Aside0 (swarfref43_Split.l2 kq l0 x5_7 x6_58 x840000_1 x840001_4 t859 x861001_7 = some (r1, r2, r3)) ∧ Aside0 (kq ≤ kj58) ∧ Aside0 (Kd.V k32 32 w' w.heap.size (fun k_ => (P0_ k_ ∨ w.heap.size ≤ k_) ∧ some k_ ≠ (u840000 : Value).ownBlock ∧ some k_ ≠ (u840001 : Value).ownBlock ∧ some k_ ≠ (u861001 : Value).ownBlock ∧ k_ ≠ gb838 ∧ k_ ≠ gb839 ∧ k_ ≠ gb860) (.slice (some ad857) l0.length c0) l0) ∧ Aside0 (Kd.N k32 32 w' w.heap.size (fun k_ => (P0_ k_ ∨ w.heap.size ≤ k_) ∧ some k_ ≠ (u840001 : Value).ownBlock ∧ some k_ ≠ (u861001 : Value).ownBlock ∧ k_ ≠ gb838 ∧ k_ ≠ gb839 ∧ k_ ≠ gb860) u840000 x840000_1) ∧ Aside0 (Kd.N k58 58 w' w.heap.size (fun k_ => (P0_ k_ ∨ w.heap.size ≤ k_) ∧ some k_ ≠ (u840000 : Value).ownBlock ∧ some k_ ≠ (u861001 : Value).ownBlock ∧ k_ ≠ gb838 ∧ k_ ≠ gb839 ∧ k_ ≠ gb860) u840001 x840001_4) ∧ Aside0 (Kd.N k32 32 w' w.heap.size (fun k_ => (P0_ k_ ∨ w.heap.size ≤ k_) ∧ some k_ ≠ (u840000 : Value).ownBlock ∧ some k_ ≠ (u840001 : Value).ownBlock ∧ k_ ≠ gb838 ∧ k_ ≠ gb839 ∧ k_ ≠ gb860) u861001 x861001_7) ∧ Aside0 (w'.heap[gb838]? = some (.cells #[(.slice none 0 0), (.slice none 0 0)] 48 (0, 0))) ∧ Aside0 (w'.heap[gb839]? = some (.cells #[u840000, u840001] 48 (0, 0))) ∧ Aside0 (w'.heap[gb860]? = some (.cells #[.int .i64 t859, u861001] 58 (0, 0))) ∧ Aside0 (Below w.heap.size w w'))
                 case atStart => exact ⟨(wrap64 (x5_4 + 1)), (([] : List (S32))), (.slice none 0 0), yS, H', ⟨Nat.le_refl _⟩, ⟨by refine yV ?_; exact Kd.V_mono HO_0.out (fun _ hk => ⟨hk.1, ⟨hk.2.1, ⟨hk.2.2.1, ⟨(by simp [Value.ownBlock]), ⟨hk.2.2.2.1, ⟨hk.2.2.2.2.1, hk.2.2.2.2.2⟩⟩⟩⟩⟩⟩)⟩, ⟨by refine yN ?_; exact Kd.N_mono HO_840000.out (fun _ hk => ⟨hk.1, ⟨hk.2.1, ⟨(by simp [Value.ownBlock]), ⟨hk.2.2.1, ⟨hk.2.2.2.1, hk.2.2.2.2⟩⟩⟩⟩⟩)⟩, ⟨by refine yN ?_; exact Kd.N_mono HO_840001.out (fun _ hk => ⟨hk.1, ⟨hk.2.1, ⟨(by simp [Value.ownBlock]), ⟨hk.2.2.1, ⟨hk.2.2.2.1, hk.2.2.2.2⟩⟩⟩⟩⟩)⟩, ⟨by first | exact Kd.S_nil _ _ _ _ _ | exact Kd.N_nil _ _ _ _ _ | exact Kd.V_nil _ _ _ _ _ | exact Kd.Q_nil _ _ _ _ _ | exact Kd.R_nil _ _ _ _ _⟩, ⟨by refine yH ?_; exact BK838.out⟩, ⟨by refine yH ?_; exact BK839.out⟩, ⟨by refine yH ?_; exact BK860.out⟩, ⟨yB⟩⟩
                 case round =>
                  clear H'
                  try clear c1
                  try clear c2
                  try clear p2
                  try clear c3
                  try clear c4
                  try clear c5
                  try clear c5b0
                  try clear c6
                  try clear c6b0
                  try clear c6b1
                  try clear p6
                  try clear c8
                  try clear c8b0
                  try clear p8
                  try clear q8
                  try clear hx8
                  try clear qi8
                  try clear c9
                  try clear c9b0
                  try clear c12
                  try clear c13
                  try clear c13b0
                  try clear c14
                  try clear c14b0
                  try clear c16
                  try clear c18
                  try clear c21
                  try clear c24
                  try clear c26
                  try clear c34
                  try clear c34b0
                  try clear c34b1
                  try clear c36
                  try clear c36b0
                  try clear c37
                  try clear c37b0
                  try clear c40
                  try clear c41
                  try clear c43
                  try clear c43b0
                  try clear c45
                  try clear c45b0
                  try clear c47
                  try clear c48
                  try clear c48b0
                  try clear c48b1
                  try clear c52
                  try clear c53
                  try clear c55
                  try clear c55b0
                  try clear c56
                  try clear c56b0
                  try clear c57
                  try clear c57b0
                  try clear c57b1
                  try clear c61
                  try clear c62
                  try clear c64
                  try clear p64
                  try clear c66
                  try clear c67
                  try clear c69
                  try clear hcz19_0
                  try clear hcz19_1
                  try clear hcz25_0
                  try clear hcz25_1
                  try clear hcz42_0
                  try clear hcz42_1
                  try clear hcz54_0
                  try clear hcz54_1
                  try clear hcz63_0
                  try clear hcz63_1
                  try clear hcz68_0
                  try clear hcz68_1
                  try clear hcz70_0
                  try clear hcz70_1
                  try clear hfz19_0
                  try clear hfz19_1
                  try clear hfz25_0
                  try clear hfz25_1
                  try clear hfz42_0
                  try clear hfz42_1
                  try clear hfz54_0
                  try clear hfz54_1
                  try clear hfz63_0
                  try clear hfz63_1
                  try clear hfz68_0
                  try clear hfz68_1
                  try clear hfz70_0
                  try clear hfz70_1
                  try clear hx840_0
                  try clear hx840_1
                  try clear hx840_2
                  try clear hx842_0
                  try clear hx842_1
                  try clear hx842_2
                  try clear hx844_0
                  try clear hx844_1
                  try clear hx844_2
                  try clear hx846_0
                  try clear hx846_1
                  try clear hx846_2
                  try clear hx850_0
                  try clear hx850_1
                  try clear hx850_2
                  try clear hx852_0
                  try clear hx852_1
                  try clear hx852_2
                  try clear hx854_0
                  try clear hx854_1
                  try clear hx854_2
                  try clear hx855_0
                  try clear hx855_1
                  try clear hx857_0
                  try clear hx857_1
                  try clear hx857_2
                  try clear hx858_0
                  try clear hx858_1
                  try clear p2
                  try clear p6
                  try clear p64
                  try clear p8
                  try clear p840
                  try clear p842
                  try clear p844
                  try clear p846
                  try clear p850
                  try clear p852
                  try clear p854
                  try clear p855
                  try clear p857
                  try clear p858
                  try clear q8
                  try clear q840
                  try clear q842
                  try clear q844
                  try clear q846
                  try clear q850
                  try clear q852
                  try clear q854
                  try clear q855
                  try clear q857
                  try clear q858
                  obtain ⟨x5_7, x861001_7, u861001, rfl, HA, HK7, HO_0, HO_840000, HO_840001, HO_861001, BK838, BK839, BK860, HB⟩ := hrel
                  cases gk with
                  | zero => exact absurd HA.out (by simp [swarfref43_Split.l2])
                  | succ k7 =>
                   have H := HA.out
                   clear HA
                   simp only [swarfref43_Split.l2] at H
                   have HC74 := Aside0.mk H
                   clear H
                   go_upto_region 17 with (fail)
                   go_cut [115] (fun v115 wc => ∃ (kq : Nat) (x115_73 : Bool), v115 = .bool x115_73 ∧ Aside0 (swarfref43_Split.j7 kq l0 x5_7 x6_58 x115_73 x840000_1 x840001_4 t859 x861001_7 = some (r1, r2, r3)) ∧ Aside0 (kq ≤ k7) ∧ Aside0 (Kd.V k32 32 wc w.heap.size (fun k_ => (P0_ k_ ∨ w.heap.size ≤ k_) ∧ some k_ ≠ (u840000 : Value).ownBlock ∧ some k_ ≠ (u840001 : Value).ownBlock ∧ some k_ ≠ (u861001 : Value).ownBlock ∧ k_ ≠ gb838 ∧ k_ ≠ gb839 ∧ k_ ≠ gb860) (.slice (some ad857) l0.length c0) l0) ∧ Aside0 (Kd.N k32 32 wc w.heap.size (fun k_ => (P0_ k_ ∨ w.heap.size ≤ k_) ∧ some k_ ≠ (u840001 : Value).ownBlock ∧ some k_ ≠ (u861001 : Value).ownBlock ∧ k_ ≠ gb838 ∧ k_ ≠ gb839 ∧ k_ ≠ gb860) u840000 x840000_1) ∧ Aside0 (Kd.N k58 58 wc w.heap.size (fun k_ => (P0_ k_ ∨ w.heap.size ≤ k_) ∧ some k_ ≠ (u840000 : Value).ownBlock ∧ some k_ ≠ (u861001 : Value).ownBlock ∧ k_ ≠ gb838 ∧ k_ ≠ gb839 ∧ k_ ≠ gb860) u840001 x840001_4) ∧ Aside0 (Kd.N k32 32 wc w.heap.size (fun k_ => (P0_ k_ ∨ w.heap.size ≤ k_) ∧ some k_ ≠ (u840000 : Value).ownBlock ∧ some k_ ≠ (u840001 : Value).ownBlock ∧ k_ ≠ gb838 ∧ k_ ≠ gb839 ∧ k_ ≠ gb860) u861001 x861001_7) ∧ Aside0 (wc.heap[gb838]? = some (.cells #[(.slice none 0 0), (.slice none 0 0)] 48 (0, 0))) ∧ Aside0 (wc.heap[gb839]? = some (.cells #[u840000, u840001] 48 (0, 0))) ∧ Aside0 (wc.heap[gb860]? = some (.cells #[.int .i64 t859, u861001] 58 (0, 0))) ∧ Aside0 (Below w.heap.size w wc))
                   case first =>
                    have H := HC74.out
                    clear HC74
                    by_cases c75 : x5_7 < (l0.length : Int)
                    ·rw [if_pos c75] at H
                     have c75b0 := decide_eq_true c75
                     clear c75
                     (first | rw [c75b0] | (simp only [i64_w, i32_w]; rw [c75b0]) | skip)
                     by_cases c76 : 0 ≤ x5_7
                     ·rw [if_pos c76] at H
                      have c76b0 := decide_eq_true c76
                      clear c76
                      replace H := Option.bind_eq_some_iff.mp H
                      obtain ⟨t863, A770, H⟩ := H
                      have A77 := Aside0.mk A770
                      clear A770
                      have H' := Aside0.mk H
                      clear H
                      have p862 : 0 ≤ (x5_7 : Int) := yD
                      have q862 : x5_7 < (l0.length : Int) := yD
                      obtain ⟨ad862, A862_1, c862_1, e862, hx862_0, hx862_1, hx862_2, hl862_1, hi862_1⟩ := at_T32 (Kd.V_reads' HO_0.out).2.2 x5_7 p862 q862
                      obtain rfl : ad857 = ad862 := (by injection e862)
                      obtain ⟨ce862, hce862, hMe862, hcc862⟩ := Kd.V_get HO_0.out z32 x5_7 p862 (by first | exact q862 | exact yD | (have e_ := (Kd.V_reads' HO_0.out).1; omega))
                      obtain ⟨ua862_1, uc862_1, rfl, ul862_1, ge862_1⟩ := k32_openF hMe862
                      have hv862_1 := hcc862 1 _ rfl
                      rw [add_field _ _ 1 (by omega)] at hv862_1
                      replace hv862_1 := Option.some.inj (hv862_1.symm.trans hx862_1)
                      injection hv862_1 with hva_ hvn_ hvc_
                      rw [hva_] at ge862_1
                      rw [hvc_] at ul862_1
                      have HL862_1 := Aside0.mk (show Kd.V k78 78 _ w.heap.size _ _ ((rd_T32 l0 x5_7).f1) from Kd.V_mk ul862_1 ge862_1)
                      clear hva_ hvn_ hvc_ ge862_1 ul862_1
                      clear hcc862 hce862
                      have HR862_1 := Aside0.mk hi862_1
                      have HC862_1 := Aside0.mk hl862_1
                      clear hi862_1 hl862_1
                      replace p862 := eq_true p862
                      replace q862 := eq_true q862
                      go_wp2_with (first | (go_at_call 82; (with_reducible refine (swarfref43_Return.calls k7 ((rd_T32 l0 x5_7).f0) _ _ ((rd_T32 l0 x5_7).f1) ((rd_T32 l0 x5_7).f2) t863 _ ?side1 ?side2 A77.out).mono ?_); (case side1 => repeat (first | exact (by repeat (first | (with_reducible exact HR862_1.out) | (with_reducible refine Kd.C_alloc ?_ _) | (with_reducible refine Kd.C_drewN ?_ _) | (with_reducible refine Kd.C_drew ?_) | exact HR862_1.out)) | (with_reducible refine Kd.C_alloc ?_ _) | (with_reducible refine Kd.C_drewN ?_ _) | (with_reducible refine Kd.C_drew ?_))); (case side2 => exact HC862_1.out); rintro e w78 ⟨rfl, hb⟩; replace HO_0 := Aside0.mk (Kd.V_below (yV HO_0.out) hb); replace HO_840000 := Aside0.mk (Kd.N_below (yN HO_840000.out) hb); replace HO_840001 := Aside0.mk (Kd.N_below (yN HO_840001.out) hb); replace HO_861001 := Aside0.mk (Kd.N_below (yN HO_861001.out) hb); replace HL862_1 := Aside0.mk (Kd.V_below (yV HL862_1.out) hb); replace BK838 := Aside0.mk (blk_below (g := gb838) yK hb); replace BK839 := Aside0.mk (blk_below (g := gb839) yK hb); replace BK860 := Aside0.mk (blk_below (g := gb860) yK hb); replace HR862_1 := Aside0.mk (Kd.C_below (by repeat (first | (with_reducible exact HR862_1.out) | (with_reducible refine Kd.C_alloc ?_ _) | (with_reducible refine Kd.C_drewN ?_ _) | (with_reducible refine Kd.C_drew ?_) | exact HR862_1.out)) hb); replace HB := Aside0.mk (below_step yB hb); (try clear hb)))
                      go_meet
                      case rel => exact ⟨_, (!t863), yS, H', ⟨by have := HK1.out; have := HJ3.out; have := HJ32.out; have := HK4.out; have := HJ43.out; have := HJ58.out; have := HK7.out; first | omega | exact Nat.le_refl _⟩, ⟨by refine yV ?_; exact HO_0.out⟩, ⟨by refine yN ?_; exact HO_840000.out⟩, ⟨by refine yN ?_; exact HO_840001.out⟩, ⟨by refine yN ?_; exact HO_861001.out⟩, ⟨by refine yH ?_; exact BK838.out⟩, ⟨by refine yH ?_; exact BK839.out⟩, ⟨by refine yH ?_; exact BK860.out⟩, ⟨yB⟩⟩
                     rw [if_neg c76] at H
                     exact absurd H (by simp)
                    rw [if_neg c75] at H
                    have c75b0 := decide_eq_false c75
                    clear c75
                    (first | rw [c75b0] | (simp only [i64_w, i32_w]; rw [c75b0]) | skip)
                    have H' := Aside0.mk H
                    clear H
                    go_wp2
                    go_meet
                    case rel => exact ⟨_, (false), yS, H', ⟨by have := HK1.out; have := HJ3.out; have := HJ32.out; have := HK4.out; have := HJ43.out; have := HJ58.out; have := HK7.out; first | omega | exact Nat.le_refl _⟩, ⟨by refine yV ?_; exact HO_0.out⟩, ⟨by refine yN ?_; exact HO_840000.out⟩, ⟨by refine yN ?_; exact HO_840001.out⟩, ⟨by refine yN ?_; exact HO_861001.out⟩, ⟨by refine yH ?_; exact BK838.out⟩, ⟨by refine yH ?_; exact BK839.out⟩, ⟨by refine yH ?_; exact BK860.out⟩, ⟨yB⟩⟩
                   case rest =>
                    clear HC74
                    try clear c1
                    try clear c2
                    try clear p2
                    try clear c3
                    try clear c4
                    try clear c5
                    try clear c5b0
                    try clear c6
                    try clear c6b0
                    try clear c6b1
                    try clear p6
                    try clear c7
                    try clear c8
                    try clear c8b0
                    try clear p8
                    try clear q8
                    try clear hx8
                    try clear qi8
                    try clear c9
                    try clear c9b0
                    try clear c12
                    try clear c13
                    try clear c13b0
                    try clear c14
                    try clear c14b0
                    try clear c16
                    try clear c18
                    try clear c21
                    try clear c24
                    try clear c26
                    try clear c34
                    try clear c34b0
                    try clear c34b1
                    try clear c36
                    try clear c36b0
                    try clear c37
                    try clear c37b0
                    try clear c40
                    try clear c41
                    try clear c43
                    try clear c43b0
                    try clear c45
                    try clear c45b0
                    try clear c47
                    try clear c48
                    try clear c48b0
                    try clear c48b1
                    try clear c52
                    try clear c53
                    try clear c55
                    try clear c55b0
                    try clear c56
                    try clear c56b0
                    try clear c57
                    try clear c57b0
                    try clear c57b1
                    try clear c61
                    try clear c62
                    try clear c64
                    try clear p64
                    try clear c66
                    try clear c67
                    try clear c69
                    try clear c75
                    try clear c75b0
                    try clear c76
                    try clear c76b0
                    try clear hcz19_0
                    try clear hcz19_1
                    try clear hcz25_0
                    try clear hcz25_1
                    try clear hcz42_0
                    try clear hcz42_1
                    try clear hcz54_0
                    try clear hcz54_1
                    try clear hcz63_0
                    try clear hcz63_1
                    try clear hcz68_0
                    try clear hcz68_1
                    try clear hcz70_0
                    try clear hcz70_1
                    try clear hfz19_0
                    try clear hfz19_1
                    try clear hfz25_0
                    try clear hfz25_1
                    try clear hfz42_0
                    try clear hfz42_1
                    try clear hfz54_0
                    try clear hfz54_1
                    try clear hfz63_0
                    try clear hfz63_1
                    try clear hfz68_0
                    try clear hfz68_1
                    try clear hfz70_0
                    try clear hfz70_1
                    try clear hx840_0
                    try clear hx840_1
                    try clear hx840_2
                    try clear hx842_0
                    try clear hx842_1
                    try clear hx842_2
                    try clear hx844_0
                    try clear hx844_1
                    try clear hx844_2
                    try clear hx846_0
                    try clear hx846_1
                    try clear hx846_2
                    try clear hx850_0
                    try clear hx850_1
                    try clear hx850_2
                    try clear hx852_0
                    try clear hx852_1
                    try clear hx852_2
                    try clear hx854_0
                    try clear hx854_1
                    try clear hx854_2
                    try clear hx855_0
                    try clear hx855_1
                    try clear hx857_0
                    try clear hx857_1
                    try clear hx857_2
                    try clear hx858_0
                    try clear hx858_1
                    try clear hx862_0
                    try clear hx862_1
                    try clear hx862_2
                    try clear p2
                    try clear p6
                    try clear p64
                    try clear p8
                    try clear p840
                    try clear p842
                    try clear p844
                    try clear p846
                    try clear p850
                    try clear p852
                    try clear p854
                    try clear p855
                    try clear p857
                    try clear p858
                    try clear p862
                    try clear q8
                    try clear q840
                    try clear q842
                    try clear q844
                    try clear q846
                    try clear q850
                    try clear q852
                    try clear q854
                    try clear q855
                    try clear q857
                    try clear q858
                    try clear q862
                    obtain ⟨kq, x115_73, rfl, HA, HJ73, HO_0, HO_840000, HO_840001, HO_861001, BK838, BK839, BK860, HB⟩ := hcut
                    cases kq with
                    | zero => exact absurd HA.out (by simp [swarfref43_Split.j7])
                    | succ kj73 =>
                     have H := HA.out
                     clear HA
                     simp only [swarfref43_Split.j7] at H
                     by_cases c79 : x115_73 = true
                     ·subst c79
                      rw [if_pos rfl] at H
                      by_cases c80 : 0 ≤ x5_7
                      ·rw [if_pos c80] at H
                       have c80b0 := decide_eq_true c80
                       clear c80
                       by_cases c81 : x5_7 < (l0.length : Int)
                       ·rw [if_pos c81] at H
                        have c81b0 := decide_eq_true c81
                        clear c81
                        replace H := Option.bind_eq_some_iff.mp H
                        obtain ⟨t870, A820, H⟩ := H
                        have A82 := Aside0.mk A820
                        clear A820
                        by_cases c83 : t870 = true
                        ·subst c83
                         rw [if_pos rfl] at H
                         simp only [Option.some.injEq, Prod.mk.injEq] at H
                         obtain ⟨rfl, rfl, rfl⟩ := H
                         have p869 : 0 ≤ (x5_7 : Int) := yD
                         have q869 : x5_7 < (l0.length : Int) := yD
                         obtain ⟨ad869, A869_1, c869_1, e869, hx869_0, hx869_1, hx869_2, hl869_1, hi869_1⟩ := at_T32 (Kd.V_reads' HO_0.out).2.2 x5_7 p869 q869
                         obtain rfl : ad857 = ad869 := (by injection e869)
                         obtain ⟨ce869, hce869, hMe869, hcc869⟩ := Kd.V_get HO_0.out z32 x5_7 p869 (by first | exact q869 | exact yD | (have e_ := (Kd.V_reads' HO_0.out).1; omega))
                         obtain ⟨ua869_1, uc869_1, rfl, ul869_1, ge869_1⟩ := k32_openF hMe869
                         have hv869_1 := hcc869 1 _ rfl
                         rw [add_field _ _ 1 (by omega)] at hv869_1
                         replace hv869_1 := Option.some.inj (hv869_1.symm.trans hx869_1)
                         injection hv869_1 with hva_ hvn_ hvc_
                         rw [hva_] at ge869_1
                         rw [hvc_] at ul869_1
                         have HL869_1 := Aside0.mk (show Kd.V k78 78 _ w.heap.size _ _ ((rd_T32 l0 x5_7).f1) from Kd.V_mk ul869_1 ge869_1)
                         clear hva_ hvn_ hvc_ ge869_1 ul869_1
                         clear hcc869 hce869
                         have HR869_1 := Aside0.mk hi869_1
                         have HC869_1 := Aside0.mk hl869_1
                         clear hi869_1 hl869_1
                         replace p869 := eq_true p869
                         replace q869 := eq_true q869
                         go_wp2_with (first | ((with_reducible refine gate_callee (f := 81) rfl ?_); refine goesL_ (some 120) rfl rfl Try.func81 (by kernel_rfl) rfl #[.agg #[.bool ((rd_T32 l0 x5_7).f0), .slice A869_1 ((rd_T32 l0 x5_7).f1).length c869_1, .string ((rd_T32 l0 x5_7).f2)]] rfl yQ ?_; (with_reducible refine (swarfref43_End.calls kj73 ((rd_T32 l0 x5_7).f0) _ _ ((rd_T32 l0 x5_7).f1) ((rd_T32 l0 x5_7).f2) true _ ?side1 ?side2 A82.out).mono ?_); (case side1 => repeat (first | exact (by repeat (first | (with_reducible exact HR869_1.out) | (with_reducible refine Kd.C_alloc ?_ _) | (with_reducible refine Kd.C_drewN ?_ _) | (with_reducible refine Kd.C_drew ?_) | exact HR869_1.out)) | (with_reducible refine Kd.C_alloc ?_ _) | (with_reducible refine Kd.C_drewN ?_ _) | (with_reducible refine Kd.C_drew ?_))); (case side2 => exact HC869_1.out); rintro e w84 ⟨rfl, hb⟩; refine ⟨_, rfl, ?_⟩; replace HO_0 := Aside0.mk (Kd.V_below (yV HO_0.out) hb); replace HO_840000 := Aside0.mk (Kd.N_below (yN HO_840000.out) hb); replace HO_840001 := Aside0.mk (Kd.N_below (yN HO_840001.out) hb); replace HO_861001 := Aside0.mk (Kd.N_below (yN HO_861001.out) hb); replace HL869_1 := Aside0.mk (Kd.V_below (yV HL869_1.out) hb); replace BK838 := Aside0.mk (blk_below (g := gb838) yK hb); replace BK839 := Aside0.mk (blk_below (g := gb839) yK hb); replace BK860 := Aside0.mk (blk_below (g := gb860) yK hb); replace HR869_1 := Aside0.mk (Kd.C_below (by repeat (first | (with_reducible exact HR869_1.out) | (with_reducible refine Kd.C_alloc ?_ _) | (with_reducible refine Kd.C_drewN ?_ _) | (with_reducible refine Kd.C_drew ?_) | exact HR869_1.out)) hb); replace HB := Aside0.mk (below_step yB hb); (try clear hb); have hnb85 := NB838_839.out; have hnc85 := NB839_838.out; have hnb86 := NB838_860.out; have hnc86 := NB860_838.out; have hcz87_0 := yZ0 BK838.out; have hcz87_1 := yZ1 BK838.out; have hfz87_0 := blk_frozen BK838.out 0; have hfz87_1 := blk_frozen BK838.out 1))
                         refine bodyPost_ret (results_ct rfl _ _ gb838 48 #[.slice none 0 0, .slice none 0 0] (0, 0) _ rfl (by refine yH ?_; refine blk_put (cs := #[.slice none 0 0, .slice none 0 0]) ?_ 1 _ rfl; refine yH ?_; refine blk_put (cs := #[.slice none 0 0, .slice none 0 0]) ?_ 0 _ rfl; refine yH ?_; exact BK838.out) Try.underlying48 rfl (by kernel_rfl)) rfl ?_
                         exact ⟨_, _, yE, by first | exact Kd.S_nil _ _ _ _ _ | exact Kd.N_nil _ _ _ _ _ | exact Kd.V_nil _ _ _ _ _ | exact Kd.Q_nil _ _ _ _ _ | exact Kd.R_nil _ _ _ _ _, by first | exact Kd.R_nil _ _ _ _ _ | exact Kd.N_nil _ _ _ _ _ | exact Kd.V_nil _ _ _ _ _ | exact Kd.Q_nil _ _ _ _ _ | exact Kd.S_nil _ _ _ _ _, yB⟩
                        replace c83 := Bool.eq_false_iff.mpr c83
                        subst c83
                        replace H : ((swarfref43_letter.f kj73 ((rd_T32 l0 x5_7).f0) ((rd_T32 l0 x5_7).f1) ((rd_T32 l0 x5_7).f2) 79).bind fun t872 => (if t872 = true then (some (([] : List (S32)), ([] : List (S58)), 1)) else (if x861001_7.length < 2932031007402 then (swarfref43_Split.l2 kj73 l0 (wrap64 (x5_7 + 1)) x6_58 x840000_1 x840001_4 t859 (x861001_7 ++ [(⟨(rd_T32 l0 x5_7).f0, (rd_T32 l0 x5_7).f1, (rd_T32 l0 x5_7).f2⟩ : S32)])) else (none)))) = some (r1, r2, r3) := by rw [if_neg (show ¬ (false = true) by decide)] at H; exact H
                        replace H := Option.bind_eq_some_iff.mp H
                        obtain ⟨t872, A880, H⟩ := H
                        have A88 := Aside0.mk A880
                        clear A880
                        by_cases c89 : t872 = true
                        ·subst c89
                         rw [if_pos rfl] at H
                         simp only [Option.some.injEq, Prod.mk.injEq] at H
                         obtain ⟨rfl, rfl, rfl⟩ := H
                         have p869 : 0 ≤ (x5_7 : Int) := yD
                         have q869 : x5_7 < (l0.length : Int) := yD
                         obtain ⟨ad869, A869_1, c869_1, e869, hx869_0, hx869_1, hx869_2, hl869_1, hi869_1⟩ := at_T32 (Kd.V_reads' HO_0.out).2.2 x5_7 p869 q869
                         obtain rfl : ad857 = ad869 := (by injection e869)
                         obtain ⟨ce869, hce869, hMe869, hcc869⟩ := Kd.V_get HO_0.out z32 x5_7 p869 (by first | exact q869 | exact yD | (have e_ := (Kd.V_reads' HO_0.out).1; omega))
                         obtain ⟨ua869_1, uc869_1, rfl, ul869_1, ge869_1⟩ := k32_openF hMe869
                         have hv869_1 := hcc869 1 _ rfl
                         rw [add_field _ _ 1 (by omega)] at hv869_1
                         replace hv869_1 := Option.some.inj (hv869_1.symm.trans hx869_1)
                         injection hv869_1 with hva_ hvn_ hvc_
                         rw [hva_] at ge869_1
                         rw [hvc_] at ul869_1
                         have HL869_1 := Aside0.mk (show Kd.V k78 78 _ w.heap.size _ _ ((rd_T32 l0 x5_7).f1) from Kd.V_mk ul869_1 ge869_1)
                         clear hva_ hvn_ hvc_ ge869_1 ul869_1
                         clear hcc869 hce869
                         have HR869_1 := Aside0.mk hi869_1
                         have HC869_1 := Aside0.mk hl869_1
                         clear hi869_1 hl869_1
                         replace p869 := eq_true p869
                         replace q869 := eq_true q869
                         go_wp2_with (first | ((with_reducible refine gate_callee (f := 81) rfl ?_); refine goesL_ (some 120) rfl rfl Try.func81 (by kernel_rfl) rfl #[.agg #[.bool ((rd_T32 l0 x5_7).f0), .slice A869_1 ((rd_T32 l0 x5_7).f1).length c869_1, .string ((rd_T32 l0 x5_7).f2)]] rfl yQ ?_; (with_reducible refine (swarfref43_End.calls kj73 ((rd_T32 l0 x5_7).f0) _ _ ((rd_T32 l0 x5_7).f1) ((rd_T32 l0 x5_7).f2) false _ ?side1 ?side2 A82.out).mono ?_); (case side1 => repeat (first | exact (by repeat (first | (with_reducible exact HR869_1.out) | (with_reducible refine Kd.C_alloc ?_ _) | (with_reducible refine Kd.C_drewN ?_ _) | (with_reducible refine Kd.C_drew ?_) | exact HR869_1.out)) | (with_reducible refine Kd.C_alloc ?_ _) | (with_reducible refine Kd.C_drewN ?_ _) | (with_reducible refine Kd.C_drew ?_))); (case side2 => exact HC869_1.out); rintro e w90 ⟨rfl, hb⟩; refine ⟨_, rfl, ?_⟩; replace HO_0 := Aside0.mk (Kd.V_below (yV HO_0.out) hb); replace HO_840000 := Aside0.mk (Kd.N_below (yN HO_840000.out) hb); replace HO_840001 := Aside0.mk (Kd.N_below (yN HO_840001.out) hb); replace HO_861001 := Aside0.mk (Kd.N_below (yN HO_861001.out) hb); replace HL869_1 := Aside0.mk (Kd.V_below (yV HL869_1.out) hb); replace BK838 := Aside0.mk (blk_below (g := gb838) yK hb); replace BK839 := Aside0.mk (blk_below (g := gb839) yK hb); replace BK860 := Aside0.mk (blk_below (g := gb860) yK hb); replace HR869_1 := Aside0.mk (Kd.C_below (by repeat (first | (with_reducible exact HR869_1.out) | (with_reducible refine Kd.C_alloc ?_ _) | (with_reducible refine Kd.C_drewN ?_ _) | (with_reducible refine Kd.C_drew ?_) | exact HR869_1.out)) hb); replace HB := Aside0.mk (below_step yB hb); (try clear hb); have p871 : 0 ≤ (x5_7 : Int) := yD; have q871 : x5_7 < (l0.length : Int) := yD; obtain ⟨ad871, A871_1, c871_1, e871, hx871_0, hx871_1, hx871_2, hl871_1, hi871_1⟩ := at_T32 (Kd.V_reads' HO_0.out).2.2 x5_7 p871 q871; obtain rfl : ad857 = ad871 := (by injection e871); obtain ⟨ce871, hce871, hMe871, hcc871⟩ := Kd.V_get HO_0.out z32 x5_7 p871 (by first | exact q871 | exact yD | (have e_ := (Kd.V_reads' HO_0.out).1; omega)); obtain ⟨ua871_1, uc871_1, rfl, ul871_1, ge871_1⟩ := k32_openF hMe871; have hv871_1 := hcc871 1 _ rfl; rw [add_field _ _ 1 (by omega)] at hv871_1; replace hv871_1 := Option.some.inj (hv871_1.symm.trans hx871_1); injection hv871_1 with hva_ hvn_ hvc_; rw [hva_] at ge871_1; rw [hvc_] at ul871_1; have HL871_1 := Aside0.mk (show Kd.V k78 78 _ w.heap.size _ _ ((rd_T32 l0 x5_7).f1) from Kd.V_mk ul871_1 ge871_1); clear hva_ hvn_ hvc_ ge871_1 ul871_1; clear hcc871 hce871; have HR871_1 := Aside0.mk hi871_1; have HC871_1 := Aside0.mk hl871_1; clear hi871_1 hl871_1; replace p871 := eq_true p871; replace q871 := eq_true q871) | (go_at_call 83; (with_reducible refine (swarfref43_letter.calls kj73 ((rd_T32 l0 x5_7).f0) _ _ ((rd_T32 l0 x5_7).f1) ((rd_T32 l0 x5_7).f2) 79 true _ ?side1 ?side2 A88.out).mono ?_); (case side1 => repeat (first | exact (by repeat (first | (with_reducible exact HR871_1.out) | (with_reducible refine Kd.C_alloc ?_ _) | (with_reducible refine Kd.C_drewN ?_ _) | (with_reducible refine Kd.C_drew ?_) | exact HR871_1.out)) | (with_reducible refine Kd.C_alloc ?_ _) | (with_reducible refine Kd.C_drewN ?_ _) | (with_reducible refine Kd.C_drew ?_))); (case side2 => exact HC871_1.out); rintro e w91 ⟨rfl, hb⟩; replace HO_0 := Aside0.mk (Kd.V_below (yV HO_0.out) hb); replace HO_840000 := Aside0.mk (Kd.N_below (yN HO_840000.out) hb); replace HO_840001 := Aside0.mk (Kd.N_below (yN HO_840001.out) hb); replace HO_861001 := Aside0.mk (Kd.N_below (yN HO_861001.out) hb); replace HL869_1 := Aside0.mk (Kd.V_below (yV HL869_1.out) hb); replace HL871_1 := Aside0.mk (Kd.V_below (yV HL871_1.out) hb); replace BK838 := Aside0.mk (blk_below (g := gb838) yK hb); replace BK839 := Aside0.mk (blk_below (g := gb839) yK hb); replace BK860 := Aside0.mk (blk_below (g := gb860) yK hb); replace HR869_1 := Aside0.mk (Kd.C_below (by repeat (first | (with_reducible exact HR869_1.out) | (with_reducible refine Kd.C_alloc ?_ _) | (with_reducible refine Kd.C_drewN ?_ _) | (with_reducible refine Kd.C_drew ?_) | exact HR869_1.out)) hb); replace HR871_1 := Aside0.mk (Kd.C_below (by repeat (first | (with_reducible exact HR871_1.out) | (with_reducible refine Kd.C_alloc ?_ _) | (with_reducible refine Kd.C_drewN ?_ _) | (with_reducible refine Kd.C_drew ?_) | exact HR871_1.out)) hb); replace HB := Aside0.mk (below_step yB hb); (try clear hb); have hnb92 := NB838_839.out; have hnc92 := NB839_838.out; have hnb93 := NB838_860.out; have hnc93 := NB860_838.out; have hcz94_0 := yZ0 BK838.out; have hcz94_1 := yZ1 BK838.out; have hfz94_0 := blk_frozen BK838.out 0; have hfz94_1 := blk_frozen BK838.out 1))
                         refine bodyPost_ret (results_ct rfl _ _ gb838 48 #[.slice none 0 0, .slice none 0 0] (0, 0) _ rfl (by refine yH ?_; refine blk_put (cs := #[.slice none 0 0, .slice none 0 0]) ?_ 1 _ rfl; refine yH ?_; refine blk_put (cs := #[.slice none 0 0, .slice none 0 0]) ?_ 0 _ rfl; refine yH ?_; exact BK838.out) Try.underlying48 rfl (by kernel_rfl)) rfl ?_
                         exact ⟨_, _, yE, by first | exact Kd.S_nil _ _ _ _ _ | exact Kd.N_nil _ _ _ _ _ | exact Kd.V_nil _ _ _ _ _ | exact Kd.Q_nil _ _ _ _ _ | exact Kd.R_nil _ _ _ _ _, by first | exact Kd.R_nil _ _ _ _ _ | exact Kd.N_nil _ _ _ _ _ | exact Kd.V_nil _ _ _ _ _ | exact Kd.Q_nil _ _ _ _ _ | exact Kd.S_nil _ _ _ _ _, yB⟩
                        replace c89 := Bool.eq_false_iff.mpr c89
                        subst c89
                        replace H : (if x861001_7.length < 2932031007402 then (swarfref43_Split.l2 kj73 l0 (wrap64 (x5_7 + 1)) x6_58 x840000_1 x840001_4 t859 (x861001_7 ++ [(⟨(rd_T32 l0 x5_7).f0, (rd_T32 l0 x5_7).f1, (rd_T32 l0 x5_7).f2⟩ : S32)])) else (none)) = some (r1, r2, r3) := by rw [if_neg (show ¬ (false = true) by decide)] at H; exact H
                        by_cases c95 : x861001_7.length < 2932031007402
                        ·rw [if_pos c95] at H
                         have LMc95 := Aside0.mk c95
                         clear c95
                         obtain ⟨y874, hy874⟩ : ∃ y_ : List (S32), y_ = (x861001_7 ++ [(⟨(rd_T32 l0 x5_7).f0, (rd_T32 l0 x5_7).f1, (rd_T32 l0 x5_7).f2⟩ : S32)]) := ⟨_, rfl⟩
                         replace H : (swarfref43_Split.l2 kj73 l0 (wrap64 (x5_7 + 1)) x6_58 x840000_1 x840001_4 t859 y874) = some (r1, r2, r3) := by first | (rw [hy874]; with_reducible exact H) | (have H2_ := (Option.bind_some _ _).symm.trans H; rw [hy874]; with_reducible exact H2_) | (have H2_ := (Option.bind_some _ _).symm.trans H; with_reducible exact H2_) | with_reducible exact H | (rw [hy874]; exact H) | exact H
                         have Ny874 := Aside0.mk hy874
                         clear hy874
                         have H' := Aside0.mk H
                         clear H
                         have p869 : 0 ≤ (x5_7 : Int) := yD
                         have q869 : x5_7 < (l0.length : Int) := yD
                         obtain ⟨ad869, A869_1, c869_1, e869, hx869_0, hx869_1, hx869_2, hl869_1, hi869_1⟩ := at_T32 (Kd.V_reads' HO_0.out).2.2 x5_7 p869 q869
                         obtain rfl : ad857 = ad869 := (by injection e869)
                         obtain ⟨ce869, hce869, hMe869, hcc869⟩ := Kd.V_get HO_0.out z32 x5_7 p869 (by first | exact q869 | exact yD | (have e_ := (Kd.V_reads' HO_0.out).1; omega))
                         obtain ⟨ua869_1, uc869_1, rfl, ul869_1, ge869_1⟩ := k32_openF hMe869
                         have hv869_1 := hcc869 1 _ rfl
                         rw [add_field _ _ 1 (by omega)] at hv869_1
                         replace hv869_1 := Option.some.inj (hv869_1.symm.trans hx869_1)
                         injection hv869_1 with hva_ hvn_ hvc_
                         rw [hva_] at ge869_1
                         rw [hvc_] at ul869_1
                         have HL869_1 := Aside0.mk (show Kd.V k78 78 _ w.heap.size _ _ ((rd_T32 l0 x5_7).f1) from Kd.V_mk ul869_1 ge869_1)
                         clear hva_ hvn_ hvc_ ge869_1 ul869_1
                         clear hcc869 hce869
                         have HR869_1 := Aside0.mk hi869_1
                         have HC869_1 := Aside0.mk hl869_1
                         clear hi869_1 hl869_1
                         replace p869 := eq_true p869
                         replace q869 := eq_true q869
                         try go_wp2_with (first | ((with_reducible refine gate_callee (f := 81) rfl ?_); refine goesL_ (some 120) rfl rfl Try.func81 (by kernel_rfl) rfl #[.agg #[.bool ((rd_T32 l0 x5_7).f0), .slice A869_1 ((rd_T32 l0 x5_7).f1).length c869_1, .string ((rd_T32 l0 x5_7).f2)]] rfl yQ ?_; (with_reducible refine (swarfref43_End.calls kj73 ((rd_T32 l0 x5_7).f0) _ _ ((rd_T32 l0 x5_7).f1) ((rd_T32 l0 x5_7).f2) false _ ?side1 ?side2 A82.out).mono ?_); (case side1 => repeat (first | exact (by repeat (first | (with_reducible exact HR869_1.out) | (with_reducible refine Kd.C_alloc ?_ _) | (with_reducible refine Kd.C_drewN ?_ _) | (with_reducible refine Kd.C_drew ?_) | exact HR869_1.out)) | (with_reducible refine Kd.C_alloc ?_ _) | (with_reducible refine Kd.C_drewN ?_ _) | (with_reducible refine Kd.C_drew ?_))); (case side2 => exact HC869_1.out); rintro e w96 ⟨rfl, hb⟩; refine ⟨_, rfl, ?_⟩; replace HO_0 := Aside0.mk (Kd.V_below (yV HO_0.out) hb); replace HO_840000 := Aside0.mk (Kd.N_below (yN HO_840000.out) hb); replace HO_840001 := Aside0.mk (Kd.N_below (yN HO_840001.out) hb); replace HO_861001 := Aside0.mk (Kd.N_below (yN HO_861001.out) hb); replace HL869_1 := Aside0.mk (Kd.V_below (yV HL869_1.out) hb); replace BK838 := Aside0.mk (blk_below (g := gb838) yK hb); replace BK839 := Aside0.mk (blk_below (g := gb839) yK hb); replace BK860 := Aside0.mk (blk_below (g := gb860) yK hb); replace HR869_1 := Aside0.mk (Kd.C_below (by repeat (first | (with_reducible exact HR869_1.out) | (with_reducible refine Kd.C_alloc ?_ _) | (with_reducible refine Kd.C_drewN ?_ _) | (with_reducible refine Kd.C_drew ?_) | exact HR869_1.out)) hb); replace HB := Aside0.mk (below_step yB hb); (try clear hb); have p871 : 0 ≤ (x5_7 : Int) := yD; have q871 : x5_7 < (l0.length : Int) := yD; obtain ⟨ad871, A871_1, c871_1, e871, hx871_0, hx871_1, hx871_2, hl871_1, hi871_1⟩ := at_T32 (Kd.V_reads' HO_0.out).2.2 x5_7 p871 q871; obtain rfl : ad857 = ad871 := (by injection e871); obtain ⟨ce871, hce871, hMe871, hcc871⟩ := Kd.V_get HO_0.out z32 x5_7 p871 (by first | exact q871 | exact yD | (have e_ := (Kd.V_reads' HO_0.out).1; omega)); obtain ⟨ua871_1, uc871_1, rfl, ul871_1, ge871_1⟩ := k32_openF hMe871; have hv871_1 := hcc871 1 _ rfl; rw [add_field _ _ 1 (by omega)] at hv871_1; replace hv871_1 := Option.some.inj (hv871_1.symm.trans hx871_1); injection hv871_1 with hva_ hvn_ hvc_; rw [hva_] at ge871_1; rw [hvc_] at ul871_1; have HL871_1 := Aside0.mk (show Kd.V k78 78 _ w.heap.size _ _ ((rd_T32 l0 x5_7).f1) from Kd.V_mk ul871_1 ge871_1); clear hva_ hvn_ hvc_ ge871_1 ul871_1; clear hcc871 hce871; have HR871_1 := Aside0.mk hi871_1; have HC871_1 := Aside0.mk hl871_1; clear hi871_1 hl871_1; replace p871 := eq_true p871; replace q871 := eq_true q871) | (go_at_call 83; (with_reducible refine (swarfref43_letter.calls kj73 ((rd_T32 l0 x5_7).f0) _ _ ((rd_T32 l0 x5_7).f1) ((rd_T32 l0 x5_7).f2) 79 false _ ?side1 ?side2 A88.out).mono ?_); (case side1 => repeat (first | exact (by repeat (first | (with_reducible exact HR871_1.out) | (with_reducible refine Kd.C_alloc ?_ _) | (with_reducible refine Kd.C_drewN ?_ _) | (with_reducible refine Kd.C_drew ?_) | exact HR871_1.out)) | (with_reducible refine Kd.C_alloc ?_ _) | (with_reducible refine Kd.C_drewN ?_ _) | (with_reducible refine Kd.C_drew ?_))); (case side2 => exact HC871_1.out); rintro e w97 ⟨rfl, hb⟩; replace HO_0 := Aside0.mk (Kd.V_below (yV HO_0.out) hb); replace HO_840000 := Aside0.mk (Kd.N_below (yN HO_840000.out) hb); replace HO_840001 := Aside0.mk (Kd.N_below (yN HO_840001.out) hb); replace HO_861001 := Aside0.mk (Kd.N_below (yN HO_861001.out) hb); replace HL869_1 := Aside0.mk (Kd.V_below (yV HL869_1.out) hb); replace HL871_1 := Aside0.mk (Kd.V_below (yV HL871_1.out) hb); replace BK838 := Aside0.mk (blk_below (g := gb838) yK hb); replace BK839 := Aside0.mk (blk_below (g := gb839) yK hb); replace BK860 := Aside0.mk (blk_below (g := gb860) yK hb); replace HR869_1 := Aside0.mk (Kd.C_below (by repeat (first | (with_reducible exact HR869_1.out) | (with_reducible refine Kd.C_alloc ?_ _) | (with_reducible refine Kd.C_drewN ?_ _) | (with_reducible refine Kd.C_drew ?_) | exact HR869_1.out)) hb); replace HR871_1 := Aside0.mk (Kd.C_below (by repeat (first | (with_reducible exact HR871_1.out) | (with_reducible refine Kd.C_alloc ?_ _) | (with_reducible refine Kd.C_drewN ?_ _) | (with_reducible refine Kd.C_drew ?_) | exact HR871_1.out)) hb); replace HB := Aside0.mk (below_step yB hb); (try clear hb)))
                         replace HO_0 := Aside0.mk (Kd.V_drew HO_0.out)
                         replace HO_840000 := Aside0.mk (Kd.N_drew HO_840000.out)
                         replace HO_840001 := Aside0.mk (Kd.N_drew HO_840001.out)
                         replace HO_861001 := Aside0.mk (Kd.N_drew HO_861001.out)
                         replace HL869_1 := Aside0.mk (Kd.V_drew HL869_1.out)
                         replace HL871_1 := Aside0.mk (Kd.V_drew HL871_1.out)
                         replace BK838 := Aside0.mk (blk_drew BK838.out)
                         replace BK839 := Aside0.mk (blk_drew BK839.out)
                         replace BK860 := Aside0.mk (blk_drew BK860.out)
                         replace HR869_1 := Aside0.mk (Kd.C_drew HR869_1.out)
                         replace HR871_1 := Aside0.mk (Kd.C_drew HR871_1.out)
                         replace HB := Aside0.mk (below_drew1 HB.out)
                         have p873 : 0 ≤ (x5_7 : Int) := yD
                         have q873 : x5_7 < (l0.length : Int) := yD
                         obtain ⟨ad873, A873_1, c873_1, e873, hx873_0, hx873_1, hx873_2, hl873_1, hi873_1⟩ := at_T32 (Kd.V_reads' HO_0.out).2.2 x5_7 p873 q873
                         obtain rfl : ad857 = ad873 := (by injection e873)
                         first | have HQA873_1 := Aside0.mk (show A873_1 = A869_1 from by first | (have e_ := Option.some.inj (hw869_1.symm.trans hw873_1); injection e_ with e1_ e2_ e3_; exact e1_.symm) | (have e_ := Option.some.inj (hx869_1.symm.trans hx873_1); injection e_ with e1_ e2_ e3_; exact e1_.symm)) | skip
                         first | have HQc873_1 := Aside0.mk (show c873_1 = c869_1 from by first | (have e_ := Option.some.inj (hw869_1.symm.trans hw873_1); injection e_ with e1_ e2_ e3_; exact e3_.symm) | (have e_ := Option.some.inj (hx869_1.symm.trans hx873_1); injection e_ with e1_ e2_ e3_; exact e3_.symm)) | skip
                         obtain ⟨ce873, hce873, hMe873, hcc873⟩ := Kd.V_get HO_0.out z32 x5_7 p873 (by first | exact q873 | exact yD | (have e_ := (Kd.V_reads' HO_0.out).1; omega))
                         obtain ⟨ua873_1, uc873_1, rfl, ul873_1, ge873_1⟩ := k32_openF hMe873
                         have hv873_1 := hcc873 1 _ rfl
                         rw [add_field _ _ 1 (by omega)] at hv873_1
                         replace hv873_1 := Option.some.inj (hv873_1.symm.trans hx873_1)
                         injection hv873_1 with hva_ hvn_ hvc_
                         rw [hva_] at ge873_1
                         rw [hvc_] at ul873_1
                         have HL873_1 := Aside0.mk (show Kd.V k78 78 _ w.heap.size _ _ ((rd_T32 l0 x5_7).f1) from Kd.V_mk ul873_1 ge873_1)
                         clear hva_ hvn_ hvc_ ge873_1 ul873_1
                         clear hcc873 hce873
                         have HR873_1 := Aside0.mk hi873_1
                         have HC873_1 := Aside0.mk hl873_1
                         clear hi873_1 hl873_1
                         replace p873 := eq_true p873
                         replace q873 := eq_true q873
                         refine start_ (n := 10) (S := fun w' => w'.cell? ⟨gb860, 0, none⟩ = some (.int .i64 t859) ∧ w'.cell? ⟨gb860, 1, none⟩ = some (u861001) ∧ w'.cell? (ad857.add ((x5_7).toNat * 3)) = some (.bool ((rd_T32 l0 x5_7).f0)) ∧ w'.cell? ⟨(ad857.add ((x5_7).toNat * 3)).block, (ad857.add ((x5_7).toNat * 3)).off + 1, none⟩ = some (.slice A873_1 ((rd_T32 l0 x5_7).f1).length c873_1) ∧ w'.cell? ⟨(ad857.add ((x5_7).toNat * 3)).block, (ad857.add ((x5_7).toNat * 3)).off + 2, none⟩ = some (.string ((rd_T32 l0 x5_7).f2))) (ds := [7, 9]) #[false, false, false, false, false, false, false, false, false, false] (by kernel_rfl) rfl rfl ⟨(blk_cell BK860.out 0).trans rfl, (blk_cell BK860.out 1).trans rfl, hx873_0, hx873_1, hx873_2⟩ (fun hHeld => ?_); refine with_tabW swarfref43_Split.tab20 swarfref43_Split.bits20 (fun HT_ HW_ => ?_)
                         generalize w97.drew = w98 at HO_0 HO_840000 HO_840001 HO_861001 HL869_1 HL871_1 BK838 BK839 BK860 HR869_1 HR871_1 HB HL873_1 HR873_1 hx873_0 hx873_1 hx873_2 hHeld ⊢
                         refine yp 0 129 ?_
                         refine yp 2 131 ?_
                         refine yp 3 132 ?_
                         refine yp 4 133 ?_
                         refine yt 1 130 hHeld ?_
                         refine yt 5 134 hHeld ?_
                         refine yo 6 (some 135) (fun K hK => ?_)
                         refine value_ (w1 := ?_) (v := ?_) (by rfl) rfl ?_ ?_
                         rotate_left 2
                         ·go_simp
                          constructor
                          ·rfl
                          rfl
                         refine hK.out _ _ ⟨(blk_cell (blk_alloc BK860.out _) 0).trans rfl, (blk_cell (blk_alloc BK860.out _) 1).trans rfl, (World.cell?_alloc_lt _ _ _ (yL (hHeld.2.2.1))).trans (hHeld.2.2.1), (World.cell?_alloc_lt _ _ _ (yL (hHeld.2.2.2.1))).trans (hHeld.2.2.2.1), (World.cell?_alloc_lt _ _ _ (yL (hHeld.2.2.2.2))).trans (hHeld.2.2.2.2)⟩ (fun hHeld => ?_)
                         clear hK K
                         refine yn 135 ?_
                         refine last_ (i := 7) (N := some 136) #[true, true, true, true, true, true, true, true, false, false] rfl rfl (one_of HT_.out (by kernel_rfl)) (by decide) (fun K hK => ?_)
                         refine Kd.N_append_step k32 (w0 := w) w.heap.size (by rfl) (.tmp 130) (.tmp 135) 35 32 (.agg #[(.bool false), (.slice none 0 0), (.string ⟨#[]⟩)]) 48 rfl Try.underlying35 info32 rfl (by decide) (by omega) u861001 x861001_7 (⟨(rd_T32 l0 x5_7).f0, (rd_T32 l0 x5_7).f1, (rd_T32 l0 x5_7).f2⟩ : S32) [.bool ((rd_T32 l0 x5_7).f0), .slice A873_1 ((rd_T32 l0 x5_7).f1).length c873_1, .string ((rd_T32 l0 x5_7).f2)] (fun k_ => (P0_ k_ ∨ w.heap.size ≤ k_) ∧ some k_ ≠ (u840000 : Value).ownBlock ∧ some k_ ≠ (u840001 : Value).ownBlock ∧ k_ ≠ gb838 ∧ k_ ≠ gb839 ∧ k_ ≠ gb860) (fun k_ => ((fun k_ => (P0_ k_ ∨ w.heap.size ≤ k_) ∧ some k_ ≠ (u840000 : Value).ownBlock ∧ some k_ ≠ (u840001 : Value).ownBlock ∧ k_ ≠ gb838 ∧ k_ ≠ gb839 ∧ k_ ≠ gb860)) k_ ∧ some k_ ≠ (u861001 : Value).ownBlock) rfl rfl ?aP (fun _ hk => hk) ?aF ?aO ?aB ?aS ?aL ?_
                         (case aP => exact (k32_mkF _ _ (⟨(rd_T32 l0 x5_7).f0, (rd_T32 l0 x5_7).f1, (rd_T32 l0 x5_7).f2⟩ : S32) (Kd.V_reads' (Kd.V_mono (ok' := (fun k_ => ((fun k_ => (P0_ k_ ∨ w.heap.size ≤ k_) ∧ some k_ ≠ (u840000 : Value).ownBlock ∧ some k_ ≠ (u840001 : Value).ownBlock ∧ k_ ≠ gb838 ∧ k_ ≠ gb839 ∧ k_ ≠ gb860)) k_ ∧ some k_ ≠ (u861001 : Value).ownBlock)) (HL873_1.out) (fun k_ hk => ⟨⟨hk.1, ⟨hk.2.1, ⟨hk.2.2.1, ⟨hk.2.2.2.2.1, ⟨hk.2.2.2.2.2.1, hk.2.2.2.2.2.2⟩⟩⟩⟩⟩, hk.2.2.2.1⟩))).2.1 (Kd.V_F (Kd.V_mono (ok' := (fun k_ => ((fun k_ => (P0_ k_ ∨ w.heap.size ≤ k_) ∧ some k_ ≠ (u840000 : Value).ownBlock ∧ some k_ ≠ (u840001 : Value).ownBlock ∧ k_ ≠ gb838 ∧ k_ ≠ gb839 ∧ k_ ≠ gb860)) k_ ∧ some k_ ≠ (u861001 : Value).ownBlock)) (HL873_1.out) (fun k_ hk => ⟨⟨hk.1, ⟨hk.2.1, ⟨hk.2.2.1, ⟨hk.2.2.2.2.1, ⟨hk.2.2.2.2.2.1, hk.2.2.2.2.2.2⟩⟩⟩⟩⟩, hk.2.2.2.1⟩)))))
                         (case aB => exact yB)
                         (case aF => exact (fun k_ hk => ⟨(.inr (Nat.le_trans (below_size yB) hk)), Kd.fresh' (Kd.N_lt (yN HO_840000.out)) k_ hk, Kd.fresh' (Kd.N_lt (yN HO_840001.out)) k_ hk, Kd.freshB (g := gb838) yK k_ hk, Kd.freshB (g := gb839) yK k_ hk, Kd.freshB (g := gb860) yK k_ hk⟩))
                         (case aO => exact (yN HO_861001.out))
                         (case aS => exact (below_size yB))
                         (case aL => have := LMc95.out; omega)
                         intro v875 w99 ho hb hg hat
                         rw [← Ny874.out] at ho
                         have n0_ := Aside0.mk (Kd.V_afterv (ok := (fun k_ => (P0_ k_ ∨ w.heap.size ≤ k_) ∧ some k_ ≠ (u840000 : Value).ownBlock ∧ some k_ ≠ (u840001 : Value).ownBlock ∧ k_ ≠ gb838 ∧ k_ ≠ gb839 ∧ k_ ≠ gb860)) (yV (Kd.V_mono HO_0.out (fun _ hk => ⟨⟨hk.1, ⟨hk.2.1, ⟨hk.2.2.1, ⟨hk.2.2.2.2.1, ⟨hk.2.2.2.2.2.1, hk.2.2.2.2.2.2⟩⟩⟩⟩⟩, hk.2.2.2.1⟩))) hg hat)
                         have n1_ := Aside0.mk (Kd.N_afterv (ok := (fun k_ => (P0_ k_ ∨ w.heap.size ≤ k_) ∧ some k_ ≠ (u840001 : Value).ownBlock ∧ k_ ≠ gb838 ∧ k_ ≠ gb839 ∧ k_ ≠ gb860)) (yN (Kd.N_mono HO_840000.out (fun _ hk => ⟨⟨hk.1, ⟨hk.2.1, ⟨hk.2.2.2.1, ⟨hk.2.2.2.2.1, hk.2.2.2.2.2⟩⟩⟩⟩, hk.2.2.1⟩))) hg hat)
                         have n2_ := Aside0.mk (Kd.N_afterv (ok := (fun k_ => (P0_ k_ ∨ w.heap.size ≤ k_) ∧ some k_ ≠ (u840000 : Value).ownBlock ∧ k_ ≠ gb838 ∧ k_ ≠ gb839 ∧ k_ ≠ gb860)) (yN (Kd.N_mono HO_840001.out (fun _ hk => ⟨⟨hk.1, ⟨hk.2.1, ⟨hk.2.2.2.1, ⟨hk.2.2.2.2.1, hk.2.2.2.2.2⟩⟩⟩⟩, hk.2.2.1⟩))) hg hat)
                         have n3_ := Aside0.mk (blk_grown (g := gb838) yK hg (Kd.N_ne HO_861001.out BK838.out (by decide)))
                         have n4_ := Aside0.mk (blk_grown (g := gb839) yK hg (Kd.N_ne HO_861001.out BK839.out (by decide)))
                         have n5_ := Aside0.mk (blk_grown (g := gb860) yK hg (Kd.N_ne HO_861001.out BK860.out (by decide)))
                         have n6_ := Aside0.mk (Kd.V_afterv (ok := (fun k_ => (P0_ k_ ∨ w.heap.size ≤ k_) ∧ some k_ ≠ (u840000 : Value).ownBlock ∧ some k_ ≠ (u840001 : Value).ownBlock ∧ k_ ≠ gb838 ∧ k_ ≠ gb839 ∧ k_ ≠ gb860)) (yV (Kd.V_mono HL869_1.out (fun _ hk => ⟨⟨hk.1, ⟨hk.2.1, ⟨hk.2.2.1, ⟨hk.2.2.2.2.1, ⟨hk.2.2.2.2.2.1, hk.2.2.2.2.2.2⟩⟩⟩⟩⟩, hk.2.2.2.1⟩))) hg hat)
                         have n7_ := Aside0.mk (Kd.V_afterv (ok := (fun k_ => (P0_ k_ ∨ w.heap.size ≤ k_) ∧ some k_ ≠ (u840000 : Value).ownBlock ∧ some k_ ≠ (u840001 : Value).ownBlock ∧ k_ ≠ gb838 ∧ k_ ≠ gb839 ∧ k_ ≠ gb860)) (yV (Kd.V_mono HL871_1.out (fun _ hk => ⟨⟨hk.1, ⟨hk.2.1, ⟨hk.2.2.1, ⟨hk.2.2.2.2.1, ⟨hk.2.2.2.2.2.1, hk.2.2.2.2.2.2⟩⟩⟩⟩⟩, hk.2.2.2.1⟩))) hg hat)
                         have n8_ := Aside0.mk (Kd.V_afterv (ok := (fun k_ => (P0_ k_ ∨ w.heap.size ≤ k_) ∧ some k_ ≠ (u840000 : Value).ownBlock ∧ some k_ ≠ (u840001 : Value).ownBlock ∧ k_ ≠ gb838 ∧ k_ ≠ gb839 ∧ k_ ≠ gb860)) (yV (Kd.V_mono HL873_1.out (fun _ hk => ⟨⟨hk.1, ⟨hk.2.1, ⟨hk.2.2.1, ⟨hk.2.2.2.2.1, ⟨hk.2.2.2.2.2.1, hk.2.2.2.2.2.2⟩⟩⟩⟩⟩, hk.2.2.2.1⟩))) hg hat)
                         have n9_ := Aside0.mk (hb)
                         have n10_ := Aside0.mk (ho)
                         clear HO_0
                         clear HO_840000
                         clear HO_840001
                         clear BK838
                         clear BK839
                         clear BK860
                         clear HL869_1
                         clear HL871_1
                         clear HL873_1
                         clear HB
                         clear HO_861001
                         have HO_0 := n0_
                         have HO_840000 := n1_
                         have HO_840001 := n2_
                         have BK838 := n3_
                         have BK839 := n4_
                         have BK860 := n5_
                         have HL869_1 := n6_
                         have HL871_1 := n7_
                         have HL873_1 := n8_
                         have HB := n9_
                         have HO876 := n10_
                         clear n0_ n1_ n2_ n3_ n4_ n5_ n6_ n7_ n8_ n9_ n10_
                         clear ho hb hg hat
                         obtain ⟨Ao100, co100, eo100⟩ := Kd.N_slice HO876.out
                         (first | subst eo100 | (injection eo100 with f1_ f2_ f3_; have f4_ := f1_.symm; have f5_ := f3_.symm; clear f1_ f2_ f3_; subst f4_; subst f5_))
                         refine hK.out _ _ ?_
                         clear hK K
                         refine yn 136 ?_
                         refine yp 8 137 ?_
                         refine last_ (i := 9) (N := none) #[true, true, true, true, true, true, true, true, true, true] rfl rfl (one_of HT_.out (by kernel_rfl)) (by decide) (fun K hK => ?_)
                         have hs101 : w99.cell? ⟨gb860, 1, none⟩ = some (u861001) := (blk_cell BK860.out 1).trans rfl
                         have hfs101 := blk_frozen BK860.out 1
                         have hns101_0 := NB838_860.out
                         have hns101_1 := NB839_860.out
                         have hms101_0 := NB860_838.out
                         have hms101_1 := NB860_839.out
                         refine skip_ (w1 := ?_) (by rfl) rfl ?_ ?_
                         rotate_left
                         ·go_simp
                          rfl
                         refine hK.out _ _ ?_
                         clear hK K
                         refine done_ (done_of HT_.out (by kernel_rfl)) ?_
                         try go_wp2
                         go_roundg kj73
                         case measure => have := HK1.out; have := HJ3.out; have := HJ32.out; have := HK4.out; have := HJ43.out; have := HJ58.out; have := HK7.out; have := HJ73.out; omega
                         case rel => exact ⟨(wrap64 (x5_7 + 1)), (y874), (.slice Ao100 y874.length co100), yS, H', ⟨by have := HK1.out; have := HJ3.out; have := HJ32.out; have := HK4.out; have := HJ43.out; have := HJ58.out; have := HK7.out; have := HJ73.out; omega⟩, ⟨by refine yV ?_; exact Kd.V_mono (Kd.V_far (p := ⟨gb860, 1, none⟩) (Kd.V_mono HO_0.out (fun k_ hk => (⟨hk, hk.1.2.2.2.2.2⟩ : _ ∧ k_ ≠ gb860))) (fun _ hk => hk.2) (.slice Ao100 y874.length co100)) (fun _ hk => ⟨hk.1.1.1, ⟨hk.1.1.2.1, ⟨hk.1.1.2.2.1, ⟨hk.1.2, ⟨hk.1.1.2.2.2.1, ⟨hk.1.1.2.2.2.2.1, hk.1.1.2.2.2.2.2⟩⟩⟩⟩⟩⟩)⟩, ⟨by refine yN ?_; exact Kd.N_mono (Kd.N_far (p := ⟨gb860, 1, none⟩) (Kd.N_mono HO_840000.out (fun k_ hk => (⟨hk, hk.1.2.2.2.2⟩ : _ ∧ k_ ≠ gb860))) (fun _ hk => hk.2) (.slice Ao100 y874.length co100)) (fun _ hk => ⟨hk.1.1.1, ⟨hk.1.1.2.1, ⟨hk.1.2, ⟨hk.1.1.2.2.1, ⟨hk.1.1.2.2.2.1, hk.1.1.2.2.2.2⟩⟩⟩⟩⟩)⟩, ⟨by refine yN ?_; exact Kd.N_mono (Kd.N_far (p := ⟨gb860, 1, none⟩) (Kd.N_mono HO_840001.out (fun k_ hk => (⟨hk, hk.1.2.2.2.2⟩ : _ ∧ k_ ≠ gb860))) (fun _ hk => hk.2) (.slice Ao100 y874.length co100)) (fun _ hk => ⟨hk.1.1.1, ⟨hk.1.1.2.1, ⟨hk.1.2, ⟨hk.1.1.2.2.1, ⟨hk.1.1.2.2.2.1, hk.1.1.2.2.2.2⟩⟩⟩⟩⟩)⟩, ⟨by refine yN ?_; exact Kd.N_mono (Kd.N_far (p := ⟨gb860, 1, none⟩) (Kd.N_mono HO876.out (fun k_ hk => (⟨hk, hk.2.2.2.2.2⟩ : _ ∧ k_ ≠ gb860))) (fun _ hk => hk.2) (.slice Ao100 y874.length co100)) (fun _ hk => ⟨hk.1.1, ⟨hk.1.2.1, ⟨hk.1.2.2.1, ⟨hk.1.2.2.2.1, ⟨hk.1.2.2.2.2.1, hk.1.2.2.2.2.2⟩⟩⟩⟩⟩)⟩, ⟨by refine yH ?_; refine blk_far ?_ NB838_860.out _; refine yH ?_; exact BK838.out⟩, ⟨by refine yH ?_; refine blk_far ?_ NB839_860.out _; refine yH ?_; exact BK839.out⟩, ⟨by refine yH ?_; refine blk_put (cs := #[.int .i64 t859, u861001]) ?_ 1 _ rfl; refine yH ?_; exact BK860.out⟩, ⟨yB⟩⟩
                        rw [if_neg c95] at H
                        exact absurd H (by simp)
                       rw [if_neg c81] at H
                       exact absurd H (by simp)
                      rw [if_neg c80] at H
                      exact absurd H (by simp)
                     replace c79 := Bool.eq_false_iff.mpr c79
                     subst c79
                     replace H : (if x5_7 = (l0.length : Int) then (some (([] : List (S32)), ([] : List (S58)), 1)) else (if 0 ≤ x5_7 then (if x5_7 < (l0.length : Int) then ((swarfref43_only.f ((rd_T32 l0 x5_7).f0) ((rd_T32 l0 x5_7).f1) ((rd_T32 l0 x5_7).f2) 77).bind fun t865 => (if t865 = true then (if x840001_4.length < 4398046511104 then (swarfref43_Split.l1 kj73 l0 (wrap64 (x5_7 + 1)) x6_58 x840000_1 (x840001_4 ++ [(⟨t859, x861001_7⟩ : S58)])) else (none)) else (some (([] : List (S32)), ([] : List (S58)), 1)))) else (none)) else (none))) = some (r1, r2, r3) := by rw [if_neg (show ¬ (false = true) by decide)] at H; exact H
                     by_cases c102 : x5_7 = (l0.length : Int)
                     ·rw [if_pos c102] at H
                      have c102b0 : (x5_7 == (l0.length : Int)) = true := beq_iff_eq.mpr c102
                      have c102b1 : (x5_7 != (l0.length : Int)) = false := bne_eq_false_iff_eq.mpr c102
                      clear c102
                      simp only [Option.some.injEq, Prod.mk.injEq] at H
                      obtain ⟨rfl, rfl, rfl⟩ := H
                      have hnb103 := NB838_839.out
                      have hnc103 := NB839_838.out
                      have hnb104 := NB838_860.out
                      have hnc104 := NB860_838.out
                      have hcz105_0 := yZ0 BK838.out
                      have hcz105_1 := yZ1 BK838.out
                      have hfz105_0 := blk_frozen BK838.out 0
                      have hfz105_1 := blk_frozen BK838.out 1
                      go_wp2
                      refine bodyPost_ret (results_ct rfl _ _ gb838 48 #[.slice none 0 0, .slice none 0 0] (0, 0) _ rfl (by refine yH ?_; refine blk_put (cs := #[.slice none 0 0, .slice none 0 0]) ?_ 1 _ rfl; refine yH ?_; refine blk_put (cs := #[.slice none 0 0, .slice none 0 0]) ?_ 0 _ rfl; refine yH ?_; exact BK838.out) Try.underlying48 rfl (by kernel_rfl)) rfl ?_
                      exact ⟨_, _, yE, by first | exact Kd.S_nil _ _ _ _ _ | exact Kd.N_nil _ _ _ _ _ | exact Kd.V_nil _ _ _ _ _ | exact Kd.Q_nil _ _ _ _ _ | exact Kd.R_nil _ _ _ _ _, by first | exact Kd.R_nil _ _ _ _ _ | exact Kd.N_nil _ _ _ _ _ | exact Kd.V_nil _ _ _ _ _ | exact Kd.Q_nil _ _ _ _ _ | exact Kd.S_nil _ _ _ _ _, yB⟩
                     rw [if_neg c102] at H
                     have c102b0 : (x5_7 == (l0.length : Int)) = false := beq_eq_false_iff_ne.mpr c102
                     have c102b1 : (x5_7 != (l0.length : Int)) = true := bne_iff_ne.mpr c102
                     by_cases c106 : 0 ≤ x5_7
                     ·rw [if_pos c106] at H
                      have c106b0 := decide_eq_true c106
                      clear c106
                      by_cases c107 : x5_7 < (l0.length : Int)
                      ·rw [if_pos c107] at H
                       have c107b0 := decide_eq_true c107
                       clear c107
                       replace H := Option.bind_eq_some_iff.mp H
                       obtain ⟨t865, A1080, H⟩ := H
                       have A108 := Aside0.mk A1080
                       clear A1080
                       by_cases c109 : t865 = true
                       ·subst c109
                        rw [if_pos rfl] at H
                        by_cases c110 : x840001_4.length < 4398046511104
                        ·rw [if_pos c110] at H
                         have LMc110 := Aside0.mk c110
                         clear c110
                         obtain ⟨y866, hy866⟩ : ∃ y_ : List (S58), y_ = (x840001_4 ++ [(⟨t859, x861001_7⟩ : S58)]) := ⟨_, rfl⟩
                         replace H : (swarfref43_Split.l1 kj73 l0 (wrap64 (x5_7 + 1)) x6_58 x840000_1 y866) = some (r1, r2, r3) := by first | (rw [hy866]; with_reducible exact H) | (have H2_ := (Option.bind_some _ _).symm.trans H; rw [hy866]; with_reducible exact H2_) | (have H2_ := (Option.bind_some _ _).symm.trans H; with_reducible exact H2_) | with_reducible exact H | (rw [hy866]; exact H) | exact H
                         have Ny866 := Aside0.mk hy866
                         clear hy866
                         have H' := Aside0.mk H
                         clear H
                         have p864 : 0 ≤ (x5_7 : Int) := yD
                         have q864 : x5_7 < (l0.length : Int) := yD
                         obtain ⟨ad864, A864_1, c864_1, e864, hx864_0, hx864_1, hx864_2, hl864_1, hi864_1⟩ := at_T32 (Kd.V_reads' HO_0.out).2.2 x5_7 p864 q864
                         obtain rfl : ad857 = ad864 := (by injection e864)
                         obtain ⟨ce864, hce864, hMe864, hcc864⟩ := Kd.V_get HO_0.out z32 x5_7 p864 (by first | exact q864 | exact yD | (have e_ := (Kd.V_reads' HO_0.out).1; omega))
                         obtain ⟨ua864_1, uc864_1, rfl, ul864_1, ge864_1⟩ := k32_openF hMe864
                         have hv864_1 := hcc864 1 _ rfl
                         rw [add_field _ _ 1 (by omega)] at hv864_1
                         replace hv864_1 := Option.some.inj (hv864_1.symm.trans hx864_1)
                         injection hv864_1 with hva_ hvn_ hvc_
                         rw [hva_] at ge864_1
                         rw [hvc_] at ul864_1
                         have HL864_1 := Aside0.mk (show Kd.V k78 78 _ w.heap.size _ _ ((rd_T32 l0 x5_7).f1) from Kd.V_mk ul864_1 ge864_1)
                         clear hva_ hvn_ hvc_ ge864_1 ul864_1
                         clear hcc864 hce864
                         have HR864_1 := Aside0.mk hi864_1
                         have HC864_1 := Aside0.mk hl864_1
                         clear hi864_1 hl864_1
                         replace p864 := eq_true p864
                         replace q864 := eq_true q864
                         go_wp2_with (first | (go_at_call 84; (with_reducible refine (swarfref43_only.calls ((rd_T32 l0 x5_7).f0) _ _ ((rd_T32 l0 x5_7).f1) ((rd_T32 l0 x5_7).f2) 77 true _ ?side1 ?side2 A108.out).mono ?_); (case side1 => repeat (first | exact (by repeat (first | (with_reducible exact HR864_1.out) | (with_reducible refine Kd.C_alloc ?_ _) | (with_reducible refine Kd.C_drewN ?_ _) | (with_reducible refine Kd.C_drew ?_) | exact HR864_1.out)) | (with_reducible refine Kd.C_alloc ?_ _) | (with_reducible refine Kd.C_drewN ?_ _) | (with_reducible refine Kd.C_drew ?_))); (case side2 => exact HC864_1.out); rintro e w111 ⟨rfl, hb⟩; replace HO_0 := Aside0.mk (Kd.V_below (yV HO_0.out) hb); replace HO_840000 := Aside0.mk (Kd.N_below (yN HO_840000.out) hb); replace HO_840001 := Aside0.mk (Kd.N_below (yN HO_840001.out) hb); replace HO_861001 := Aside0.mk (Kd.N_below (yN HO_861001.out) hb); replace HL864_1 := Aside0.mk (Kd.V_below (yV HL864_1.out) hb); replace BK838 := Aside0.mk (blk_below (g := gb838) yK hb); replace BK839 := Aside0.mk (blk_below (g := gb839) yK hb); replace BK860 := Aside0.mk (blk_below (g := gb860) yK hb); replace HR864_1 := Aside0.mk (Kd.C_below (by repeat (first | (with_reducible exact HR864_1.out) | (with_reducible refine Kd.C_alloc ?_ _) | (with_reducible refine Kd.C_drewN ?_ _) | (with_reducible refine Kd.C_drew ?_) | exact HR864_1.out)) hb); replace HB := Aside0.mk (below_step yB hb); (try clear hb); have hnb112 := NB839_838.out; have hnc112 := NB838_839.out; have hnb113 := NB839_860.out; have hnc113 := NB860_839.out; have hcz114_0 := yZ0 BK839.out; have hcz114_1 := yZ1 BK839.out; have hfz114_0 := blk_frozen BK839.out 0; have hfz114_1 := blk_frozen BK839.out 1; have hnb115 := NB860_838.out; have hnc115 := NB838_860.out; have hcz116_0 := yZ0 BK860.out; have hcz116_1 := yZ1 BK860.out; have hfz116_0 := blk_frozen BK860.out 0; have hfz116_1 := blk_frozen BK860.out 1; obtain ⟨Ao118, co118, eo118⟩ := Kd.N_slice HO_861001.out; subst eo118) | ((with_reducible refine gate_builtin (b := .append) (xs := #[.tmp 154, .tmp 156]) rfl ?_); at_builtin; refine Kd.N_append k58 (w0 := w) w.heap.size rfl (.tmp 154) (.tmp 156) 46 58 (.agg #[(.int .i64 0), (.slice none 0 0)]) 32 rfl Try.underlying46 info58 rfl (by decide) (by omega) u840001 x840001_4 (⟨t859, x861001_7⟩ : S58) [.int .i64 t859, .slice Ao118 x861001_7.length co118] (fun k_ => (P0_ k_ ∨ w.heap.size ≤ k_) ∧ some k_ ≠ (u840000 : Value).ownBlock ∧ k_ ≠ gb838 ∧ k_ ≠ gb839 ∧ k_ ≠ gb860) (fun k_ => ((fun k_ => (P0_ k_ ∨ w.heap.size ≤ k_) ∧ some k_ ≠ (u840000 : Value).ownBlock ∧ k_ ≠ gb838 ∧ k_ ≠ gb839 ∧ k_ ≠ gb860)) k_ ∧ some k_ ≠ (u840001 : Value).ownBlock) rfl rfl ?aP (fun _ hk => hk) ?aF ?aO ?aB ?aS ?aL ?_; (case aP => exact (k58_mkF _ _ (⟨t859, x861001_7⟩ : S58) (Kd.N_reads' (Kd.N_mono (ok' := (fun k_ => ((fun k_ => (P0_ k_ ∨ w.heap.size ≤ k_) ∧ some k_ ≠ (u840000 : Value).ownBlock ∧ k_ ≠ gb838 ∧ k_ ≠ gb839 ∧ k_ ≠ gb860)) k_ ∧ some k_ ≠ (u840001 : Value).ownBlock)) (HO_861001.out) (fun k_ hk => ⟨⟨hk.1, ⟨hk.2.1, ⟨hk.2.2.2.1, ⟨hk.2.2.2.2.1, hk.2.2.2.2.2⟩⟩⟩⟩, hk.2.2.1⟩))).2.1 (Kd.N_F (Kd.N_mono (ok' := (fun k_ => ((fun k_ => (P0_ k_ ∨ w.heap.size ≤ k_) ∧ some k_ ≠ (u840000 : Value).ownBlock ∧ k_ ≠ gb838 ∧ k_ ≠ gb839 ∧ k_ ≠ gb860)) k_ ∧ some k_ ≠ (u840001 : Value).ownBlock)) (HO_861001.out) (fun k_ hk => ⟨⟨hk.1, ⟨hk.2.1, ⟨hk.2.2.2.1, ⟨hk.2.2.2.2.1, hk.2.2.2.2.2⟩⟩⟩⟩, hk.2.2.1⟩))))); (case aB => exact yB); (case aF => exact (fun k_ hk => ⟨(.inr (Nat.le_trans (below_size yB) hk)), Kd.fresh' (Kd.N_lt (yN HO_840000.out)) k_ hk, Kd.freshB (g := gb838) yK k_ hk, Kd.freshB (g := gb839) yK k_ hk, Kd.freshB (g := gb860) yK k_ hk⟩)); (case aO => exact (yN (Kd.N_mono HO_840001.out (fun _ hk => ⟨hk.1, ⟨hk.2.1, ⟨hk.2.2.2.1, ⟨hk.2.2.2.2.1, hk.2.2.2.2.2⟩⟩⟩⟩)))); (case aS => exact (below_size yB)); (case aL => have := LMc110.out; omega); intro v867 w117 ho hb hg hat; rw [← Ny866.out] at ho; have n0_ := Aside0.mk (Kd.V_afterv (ok := (fun k_ => (P0_ k_ ∨ w.heap.size ≤ k_) ∧ some k_ ≠ (u840000 : Value).ownBlock ∧ some k_ ≠ (.slice Ao118 x861001_7.length co118 : Value).ownBlock ∧ k_ ≠ gb838 ∧ k_ ≠ gb839 ∧ k_ ≠ gb860)) (yV (Kd.V_mono HO_0.out (fun _ hk => ⟨⟨hk.1, ⟨hk.2.1, ⟨hk.2.2.2.1, ⟨hk.2.2.2.2.1, ⟨hk.2.2.2.2.2.1, hk.2.2.2.2.2.2⟩⟩⟩⟩⟩, hk.2.2.1⟩))) hg hat); have n1_ := Aside0.mk (Kd.N_afterv (ok := (fun k_ => (P0_ k_ ∨ w.heap.size ≤ k_) ∧ some k_ ≠ (.slice Ao118 x861001_7.length co118 : Value).ownBlock ∧ k_ ≠ gb838 ∧ k_ ≠ gb839 ∧ k_ ≠ gb860)) (yN (Kd.N_mono HO_840000.out (fun _ hk => ⟨⟨hk.1, ⟨hk.2.2.1, ⟨hk.2.2.2.1, ⟨hk.2.2.2.2.1, hk.2.2.2.2.2⟩⟩⟩⟩, hk.2.1⟩))) hg hat); have n2_ := Aside0.mk (blk_grown (g := gb838) yK hg (Kd.N_ne HO_840001.out BK838.out (by decide))); have n3_ := Aside0.mk (blk_grown (g := gb839) yK hg (Kd.N_ne HO_840001.out BK839.out (by decide))); have n4_ := Aside0.mk (blk_grown (g := gb860) yK hg (Kd.N_away HO_840001.out (fun _ hk => hk.2.2.2.2.2))); have n5_ := Aside0.mk (Kd.V_afterv (ok := (fun k_ => (P0_ k_ ∨ w.heap.size ≤ k_) ∧ some k_ ≠ (u840000 : Value).ownBlock ∧ some k_ ≠ (.slice Ao118 x861001_7.length co118 : Value).ownBlock ∧ k_ ≠ gb838 ∧ k_ ≠ gb839 ∧ k_ ≠ gb860)) (yV (Kd.V_mono HL864_1.out (fun _ hk => ⟨⟨hk.1, ⟨hk.2.1, ⟨hk.2.2.2.1, ⟨hk.2.2.2.2.1, ⟨hk.2.2.2.2.2.1, hk.2.2.2.2.2.2⟩⟩⟩⟩⟩, hk.2.2.1⟩))) hg hat); have n6_ := Aside0.mk (hb); have n7_ := Aside0.mk (ho); clear HO_0; clear HO_840000; clear BK838; clear BK839; clear BK860; clear HL864_1; clear HB; clear HO_840001; clear HO_861001; have HO_0 := n0_; have HO_840000 := n1_; have BK838 := n2_; have BK839 := n3_; have BK860 := n4_; have HL864_1 := n5_; have HB := n6_; have HO868 := n7_; clear n0_ n1_ n2_ n3_ n4_ n5_ n6_ n7_; clear ho hb hg hat; obtain ⟨Ao119, co119, eo119⟩ := Kd.N_slice HO868.out; subst eo119; have hcz120_0 := yZ0 BK839.out; have hcz120_1 := yZ1 BK839.out; have hfz120_0 := blk_frozen BK839.out 0; have hfz120_1 := blk_frozen BK839.out 1))
                         go_roundg kj73
                         case measure => have := HK1.out; have := HJ3.out; have := HJ32.out; have := HK4.out; have := HJ43.out; have := HJ58.out; have := HK7.out; have := HJ73.out; omega
                         case rel => exact ⟨(wrap64 (x5_7 + 1)), (x6_58), (y866), (.slice Ao119 y866.length co119), yS, yS, H', ⟨by have := HK1.out; have := HJ3.out; have := HJ32.out; have := HK4.out; have := HJ43.out; have := HJ58.out; have := HK7.out; have := HJ73.out; omega⟩, ⟨by refine yV ?_; exact Kd.V_mono (Kd.V_far (p := ⟨gb839, 1, none⟩) (Kd.V_mono HO_0.out (fun k_ hk => (⟨hk, hk.1.2.2.2.2.1⟩ : _ ∧ k_ ≠ gb839))) (fun _ hk => hk.2) (.slice Ao119 y866.length co119)) (fun _ hk => ⟨hk.1.1.1, ⟨hk.1.1.2.1, ⟨hk.1.2, ⟨hk.1.1.2.2.2.1, hk.1.1.2.2.2.2.1⟩⟩⟩⟩)⟩, ⟨by refine yN ?_; exact Kd.N_mono (Kd.N_far (p := ⟨gb839, 1, none⟩) (Kd.N_mono HO_840000.out (fun k_ hk => (⟨hk, hk.1.2.2.2.1⟩ : _ ∧ k_ ≠ gb839))) (fun _ hk => hk.2) (.slice Ao119 y866.length co119)) (fun _ hk => ⟨hk.1.1.1, ⟨hk.1.2, ⟨hk.1.1.2.2.1, hk.1.1.2.2.2.1⟩⟩⟩)⟩, ⟨by refine yN ?_; exact Kd.N_mono (Kd.N_far (p := ⟨gb839, 1, none⟩) (Kd.N_mono HO868.out (fun k_ hk => (⟨hk, hk.2.2.2.1⟩ : _ ∧ k_ ≠ gb839))) (fun _ hk => hk.2) (.slice Ao119 y866.length co119)) (fun _ hk => ⟨hk.1.1, ⟨hk.1.2.1, ⟨hk.1.2.2.1, hk.1.2.2.2.1⟩⟩⟩)⟩, ⟨by refine yH ?_; refine blk_far ?_ NB838_839.out _; refine yH ?_; exact BK838.out⟩, ⟨by refine yH ?_; refine blk_put (cs := #[u840000, u840001]) ?_ 1 _ rfl; refine yH ?_; exact BK839.out⟩, ⟨yB⟩⟩
                        rw [if_neg c110] at H
                        exact absurd H (by simp)
                       replace c109 := Bool.eq_false_iff.mpr c109
                       subst c109
                       replace H : (some (([] : List (S32)), ([] : List (S58)), 1)) = some (r1, r2, r3) := by rw [if_neg (show ¬ (false = true) by decide)] at H; exact H
                       simp only [Option.some.injEq, Prod.mk.injEq] at H
                       obtain ⟨rfl, rfl, rfl⟩ := H
                       have p864 : 0 ≤ (x5_7 : Int) := yD
                       have q864 : x5_7 < (l0.length : Int) := yD
                       obtain ⟨ad864, A864_1, c864_1, e864, hx864_0, hx864_1, hx864_2, hl864_1, hi864_1⟩ := at_T32 (Kd.V_reads' HO_0.out).2.2 x5_7 p864 q864
                       obtain rfl : ad857 = ad864 := (by injection e864)
                       obtain ⟨ce864, hce864, hMe864, hcc864⟩ := Kd.V_get HO_0.out z32 x5_7 p864 (by first | exact q864 | exact yD | (have e_ := (Kd.V_reads' HO_0.out).1; omega))
                       obtain ⟨ua864_1, uc864_1, rfl, ul864_1, ge864_1⟩ := k32_openF hMe864
                       have hv864_1 := hcc864 1 _ rfl
                       rw [add_field _ _ 1 (by omega)] at hv864_1
                       replace hv864_1 := Option.some.inj (hv864_1.symm.trans hx864_1)
                       injection hv864_1 with hva_ hvn_ hvc_
                       rw [hva_] at ge864_1
                       rw [hvc_] at ul864_1
                       have HL864_1 := Aside0.mk (show Kd.V k78 78 _ w.heap.size _ _ ((rd_T32 l0 x5_7).f1) from Kd.V_mk ul864_1 ge864_1)
                       clear hva_ hvn_ hvc_ ge864_1 ul864_1
                       clear hcc864 hce864
                       have HR864_1 := Aside0.mk hi864_1
                       have HC864_1 := Aside0.mk hl864_1
                       clear hi864_1 hl864_1
                       replace p864 := eq_true p864
                       replace q864 := eq_true q864
                       go_wp2_with (first | (go_at_call 84; (with_reducible refine (swarfref43_only.calls ((rd_T32 l0 x5_7).f0) _ _ ((rd_T32 l0 x5_7).f1) ((rd_T32 l0 x5_7).f2) 77 false _ ?side1 ?side2 A108.out).mono ?_); (case side1 => repeat (first | exact (by repeat (first | (with_reducible exact HR864_1.out) | (with_reducible refine Kd.C_alloc ?_ _) | (with_reducible refine Kd.C_drewN ?_ _) | (with_reducible refine Kd.C_drew ?_) | exact HR864_1.out)) | (with_reducible refine Kd.C_alloc ?_ _) | (with_reducible refine Kd.C_drewN ?_ _) | (with_reducible refine Kd.C_drew ?_))); (case side2 => exact HC864_1.out); rintro e w121 ⟨rfl, hb⟩; replace HO_0 := Aside0.mk (Kd.V_below (yV HO_0.out) hb); replace HO_840000 := Aside0.mk (Kd.N_below (yN HO_840000.out) hb); replace HO_840001 := Aside0.mk (Kd.N_below (yN HO_840001.out) hb); replace HO_861001 := Aside0.mk (Kd.N_below (yN HO_861001.out) hb); replace HL864_1 := Aside0.mk (Kd.V_below (yV HL864_1.out) hb); replace BK838 := Aside0.mk (blk_below (g := gb838) yK hb); replace BK839 := Aside0.mk (blk_below (g := gb839) yK hb); replace BK860 := Aside0.mk (blk_below (g := gb860) yK hb); replace HR864_1 := Aside0.mk (Kd.C_below (by repeat (first | (with_reducible exact HR864_1.out) | (with_reducible refine Kd.C_alloc ?_ _) | (with_reducible refine Kd.C_drewN ?_ _) | (with_reducible refine Kd.C_drew ?_) | exact HR864_1.out)) hb); replace HB := Aside0.mk (below_step yB hb); (try clear hb); have hnb122 := NB838_839.out; have hnc122 := NB839_838.out; have hnb123 := NB838_860.out; have hnc123 := NB860_838.out; have hcz124_0 := yZ0 BK838.out; have hcz124_1 := yZ1 BK838.out; have hfz124_0 := blk_frozen BK838.out 0; have hfz124_1 := blk_frozen BK838.out 1))
                       refine bodyPost_ret (results_ct rfl _ _ gb838 48 #[.slice none 0 0, .slice none 0 0] (0, 0) _ rfl (by refine yH ?_; refine blk_put (cs := #[.slice none 0 0, .slice none 0 0]) ?_ 1 _ rfl; refine yH ?_; refine blk_put (cs := #[.slice none 0 0, .slice none 0 0]) ?_ 0 _ rfl; refine yH ?_; exact BK838.out) Try.underlying48 rfl (by kernel_rfl)) rfl ?_
                       exact ⟨_, _, yE, by first | exact Kd.S_nil _ _ _ _ _ | exact Kd.N_nil _ _ _ _ _ | exact Kd.V_nil _ _ _ _ _ | exact Kd.Q_nil _ _ _ _ _ | exact Kd.R_nil _ _ _ _ _, by first | exact Kd.R_nil _ _ _ _ _ | exact Kd.N_nil _ _ _ _ _ | exact Kd.V_nil _ _ _ _ _ | exact Kd.Q_nil _ _ _ _ _ | exact Kd.S_nil _ _ _ _ _, yB⟩
                      rw [if_neg c107] at H
                      exact absurd H (by simp)
                     rw [if_neg c106] at H
                     exact absurd H (by simp)
              rw [if_neg c57] at H
              exact absurd H (by simp)
             rw [if_neg c56] at H
             exact absurd H (by simp)
            rw [if_neg c55] at H
            exact absurd H (by simp)
         rw [if_neg c43] at H
         have c43b0 := decide_eq_false c43
         clear c43
         by_cases c125 : x6_4 = true
         ·subst c125
          rw [if_pos rfl] at H
          simp only [Option.some.injEq, Prod.mk.injEq] at H
          obtain ⟨rfl, rfl, rfl⟩ := H
          have hnb126 := NB838_839.out
          have hnc126 := NB839_838.out
          have hcz127_0 := yZ0 BK838.out
          have hcz127_1 := yZ1 BK838.out
          have hfz127_0 := blk_frozen BK838.out 0
          have hfz127_1 := blk_frozen BK838.out 1
          go_wp2
          refine bodyPost_ret (results_ct rfl _ _ gb838 48 #[.slice none 0 0, .slice none 0 0] (0, 0) _ rfl (by refine yH ?_; refine blk_put (cs := #[.slice none 0 0, .slice none 0 0]) ?_ 1 _ rfl; refine yH ?_; refine blk_put (cs := #[.slice none 0 0, .slice none 0 0]) ?_ 0 _ rfl; refine yH ?_; exact BK838.out) Try.underlying48 rfl (by kernel_rfl)) rfl ?_
          exact ⟨_, _, yE, by first | exact Kd.S_nil _ _ _ _ _ | exact Kd.N_nil _ _ _ _ _ | exact Kd.V_nil _ _ _ _ _ | exact Kd.Q_nil _ _ _ _ _ | exact Kd.R_nil _ _ _ _ _, by first | exact Kd.R_nil _ _ _ _ _ | exact Kd.N_nil _ _ _ _ _ | exact Kd.V_nil _ _ _ _ _ | exact Kd.Q_nil _ _ _ _ _ | exact Kd.S_nil _ _ _ _ _, yB⟩
         replace c125 := Bool.eq_false_iff.mpr c125
         subst c125
         replace H : (some (x840000_1, x840001_4, 0)) = some (r1, r2, r3) := by rw [if_neg (show ¬ (false = true) by decide)] at H; exact H
         simp only [Option.some.injEq, Prod.mk.injEq] at H
         obtain ⟨rfl, rfl, rfl⟩ := H
         have hnb128 := NB839_838.out
         have hnc128 := NB838_839.out
         have hcz129_0 := yZ0 BK839.out
         have hcz129_1 := yZ1 BK839.out
         have hfz129_0 := blk_frozen BK839.out 0
         have hfz129_1 := blk_frozen BK839.out 1
         obtain ⟨Ao130, co130, eo130⟩ := Kd.N_slice HO_840000.out
         subst eo130
         have hcz131_0 := yZ0 BK838.out
         have hcz131_1 := yZ1 BK838.out
         have hfz131_0 := blk_frozen BK838.out 0
         have hfz131_1 := blk_frozen BK838.out 1
         obtain ⟨Ao132, co132, eo132⟩ := Kd.N_slice HO_840001.out
         subst eo132
         go_wp2
         refine bodyPost_ret (results_ct rfl _ _ gb838 48 #[.slice Ao130 x840000_1.length co130, .slice Ao132 x840001_4.length co132] (0, 0) _ rfl (by refine yH ?_; refine blk_put (cs := #[.slice Ao130 x840000_1.length co130, .slice none 0 0]) ?_ 1 _ rfl; refine yH ?_; refine blk_put (cs := #[.slice none 0 0, .slice none 0 0]) ?_ 0 _ rfl; refine yH ?_; exact BK838.out) Try.underlying48 rfl (by kernel_rfl)) rfl ?_
         exact ⟨_, _, yE, by refine yN ?_; exact Kd.N_mono (Kd.N_far (p := ⟨gb838, 1, none⟩) (Kd.N_far (p := ⟨gb838, 0, none⟩) (Kd.N_mono HO_840000.out (fun k_ hk => (⟨hk, hk.2.2.1⟩ : _ ∧ k_ ≠ gb838))) (fun _ hk => hk.2) (.slice Ao130 x840000_1.length co130)) (fun _ hk => hk.2) (.slice Ao132 x840001_4.length co132)) (fun _ hk => ⟨hk.1.1, hk.1.2.1⟩), by refine yN ?_; exact Kd.N_mono (Kd.N_far (p := ⟨gb838, 1, none⟩) (Kd.N_far (p := ⟨gb838, 0, none⟩) (Kd.N_mono HO_840001.out (fun k_ hk => (⟨hk, hk.2.2.1⟩ : _ ∧ k_ ≠ gb838))) (fun _ hk => hk.2) (.slice Ao130 x840000_1.length co130)) (fun _ hk => hk.2) (.slice Ao132 x840001_4.length co132)) (fun _ hk => ⟨hk.1.1, hk.1.2.1⟩), yB⟩
end Go.Proofs.Ytehkhbnhmehobaa.P
