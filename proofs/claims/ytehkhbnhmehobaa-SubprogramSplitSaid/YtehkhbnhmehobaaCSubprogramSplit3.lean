/- A part of the proof of SubprogramSplit. -/

import Derived.Test.YtehkhbnhmehobaaCSubprogramSplit1
import Derived.Test.YtehkhbnhmehobaaCSubprogramSplit2
namespace Go.Proofs.Ytehkhbnhmehobaa.P
open Go.RowKit Go.Proofs.YtehkhbnhmehobaaW.PrintWords Go.Proofs.YtehkhbnhmehobaaW.PrintLast Go.Proofs.YtehkhbnhmehobaaW.PrintMore
attribute [local go_sem] max2_int min2_int max_two min_two max_three min_three max_four min_four
set_option linter.unusedVariables false
set_option linter.unusedSimpArgs false
mutual
def subprogram_Fold.j0 : Nat → List (S32) → Int → Int → Bool → Option ((List (S32)) × (List (S81)) × Int)
 | 0, _, _, _, _ => none
 | k + 1, x0, x1, x2, x20 => if x20 = true then (some (([] : List (S32)), ([] : List (S81)), 1)) else (if x2 ≤ (wrap64 ((x0.length : Int) / 2)) then ((subprogram_first.f k x0 x2).bind fun t416 => (subprogram_Fold.j1 k x0 x1 x2 t416)) else (subprogram_Fold.j1 k x0 x1 x2 (-1)))
def subprogram_Fold.j1 : Nat → List (S32) → Int → Int → Int → Option ((List (S32)) × (List (S81)) × Int)
 | 0, _, _, _, _ => none
 | k + 1, x0, x1, x2, x8 => if x8 < 0 then ((Clone_Block.f x0).bind fun t417 => (some (t417, ([] : List (S81)), 0))) else (subprogram_Fold.l0 k x0 x1 x2 x8 ([] : List (S32)) 0)
def subprogram_Fold.l0 : Nat → List (S32) → Int → Int → Int → List (S32) → Int → Option ((List (S32)) × (List (S81)) × Int)
 | 0, _, _, _, _, _, _ => none
 | k + 1, x0, x1, x2, x8, x9, x10 => if x10 < (x0.length : Int) then (if (wrap64 (x10 + x2)) ≤ (x0.length : Int) then ((subprogram_run.f k x0 x8 x10 x2).bind fun t420 => (if t420 = true then (if x9.length < 2932031007402 then (subprogram_Fold.l0 k x0 x1 x2 x8 (x9 ++ [(⟨false, (([(⟨77, 98000⟩ : S78), (⟨80, wrap64 (1000 * x1)⟩ : S78)] : List (S78))), (⟨#[]⟩ : ByteArray)⟩ : S32)]) (wrap64 (x10 + x2))) else (none)) else (if 0 ≤ x10 then (if x9.length < 2932031007402 then (subprogram_Fold.l0 k x0 x1 x2 x8 (x9 ++ [(⟨(rd_T32 x0 x10).f0, (rd_T32 x0 x10).f1, (rd_T32 x0 x10).f2⟩ : S32)]) (wrap64 (x10 + 1))) else (none)) else (none)))) else (if 0 ≤ x10 then (if x9.length < 2932031007402 then (subprogram_Fold.l0 k x0 x1 x2 x8 (x9 ++ [(⟨(rd_T32 x0 x10).f0, (rd_T32 x0 x10).f1, (rd_T32 x0 x10).f2⟩ : S32)]) (wrap64 (x10 + 1))) else (none)) else (none))) else (if 0 ≤ x8 then (if x8 ≤ (wrap64 (x8 + x2)) then (if (wrap64 (x8 + x2)) ≤ (x0.length : Int) then ((Clone_Block.f ((x0.take ((wrap64 (x8 + x2)) : Int).toNat).drop (x8 : Int).toNat)).bind fun t440 => (some (x9, (([(⟨x1, t440⟩ : S81)] : List (S81))), 0))) else (none)) else (none)) else (none))
end
def subprogram_Fold.f (k : Nat) (l0 : List (S32)) (a1 : Int) (a2 : Int) : Option ((List (S32)) × (List (S81)) × Int) := if a1 < 1 then (subprogram_Fold.j0 k l0 a1 a2 true) else (if a1 > 9999 then (subprogram_Fold.j0 k l0 a1 a2 true) else (subprogram_Fold.j0 k l0 a1 a2 (decide (a2 < 1))))
set_option maxHeartbeats 8000000 in
set_option maxRecDepth 100000 in
theorem subprogram_Fold.calls (k : Nat) (P0_ : Nat → Prop) (A0 : Option Addr) (c0 : Nat) (l0 : List (S32)) (a1 : Int) (a2 : Int) (r1 : List (S32)) (r2 : List (S81)) (r3 : Int) (w : World) (hs0 : Kd.V k32 32 w w.heap.size (fun k_ => P0_ k_) (.slice A0 l0.length c0) l0) (h : subprogram_Fold.f k l0 a1 a2 = some (r1, r2, r3)) :
  Calls Try.prog 32 #[.slice A0 l0.length c0, .int .i64 a1, .int .i64 a2] w fun e w' => ∃ v0_ v1_ : Value, e = .returned (.tuple #[.agg #[v0_, v1_], .int .i64 r3]) ∧ Kd.N k32 32 w' w.heap.size (fun k_ => (P0_ k_ ∨ w.heap.size ≤ k_) ∧ some k_ ≠ (v1_ : Value).ownBlock) v0_ r1 ∧ Kd.N k81 81 w' w.heap.size (fun k_ => (P0_ k_ ∨ w.heap.size ≤ k_) ∧ some k_ ≠ (v0_ : Value).ownBlock) v1_ r2 ∧ Below w.heap.size w w' := by
 have hu54 := Try.underlying54
 have hu78 := Try.underlying78
 have hu32 := Try.underlying32
 have hu81 := Try.underlying81
 have HO0 := Aside0.mk (show Kd.V k32 32 w w.heap.size (fun k_ => (P0_ k_ ∨ w.heap.size ≤ k_)) (.slice A0 l0.length c0) l0 from Kd.V_mono hs0 (fun k_ hk => .inl hk))
 have HB := Aside0.mk (Below.refl w.heap.size w)
 have H : (if a1 < 1 then (subprogram_Fold.j0 k l0 a1 a2 true) else (if a1 > 9999 then (subprogram_Fold.j0 k l0 a1 a2 true) else (subprogram_Fold.j0 k l0 a1 a2 (decide (a2 < 1))))) = some (r1, r2, r3) := h
 clear h
 have HC4 := Aside0.mk H
 clear H
 go_enter Try.func32, Try.ntmps32
 go_upto_region 1 with (first | ((with_reducible refine gate_dst (N := 6) rfl ?_); refine yX 6 #[.slice none 0 0, .slice none 0 0] 54 ?_; intro gb415 hg w5 hbox hb; replace HO0 := Aside0.mk (Kd.V_below (Kd.V_elderB (yV HO0.out) gb415 (Nat.le_of_eq hg.symm)) hb); have BK415 := Aside0.mk (hbox); have GE415 := Aside0.mk ((yG hg : w.heap.size ≤ gb415)); replace HB := Aside0.mk (below_step yB hb); clear hb hbox hg))
 (try simp only [Act.put, List.setIfInBounds_toArray, List.set_cons_zero, List.set_cons_succ])
 go_cut [20] (fun v20 wc => ∃ (kq : Nat) (x20_3 : Bool), v20 = .bool x20_3 ∧ Aside0 (subprogram_Fold.j0 kq l0 a1 a2 x20_3 = some (r1, r2, r3)) ∧ Aside0 (kq ≤ k) ∧ Aside0 (Kd.V k32 32 wc w.heap.size (fun k_ => (P0_ k_ ∨ w.heap.size ≤ k_) ∧ k_ ≠ gb415) (.slice A0 l0.length c0) l0) ∧ Aside0 (wc.heap[gb415]? = some (.cells #[(.slice none 0 0), (.slice none 0 0)] 54 (0, 0))) ∧ Aside0 (Below w.heap.size w wc))
 case first =>
  have H := HC4.out
  clear HC4
  by_cases c6 : a1 < 1
  ·rw [if_pos c6] at H
   have c6b0 := decide_eq_true c6
   clear c6
   (first | rw [c6b0] | (simp only [i64_w, i32_w]; rw [c6b0]) | skip)
   have H' := Aside0.mk H
   clear H
   go_wp2
   go_meet
   case rel => exact ⟨_, (true), yS, H', ⟨by first | omega | exact Nat.le_refl _⟩, ⟨by refine yV ?_; exact HO0.out⟩, ⟨by refine yH ?_; exact BK415.out⟩, ⟨yB⟩⟩
  rw [if_neg c6] at H
  have c6b0 := decide_eq_false c6
  clear c6
  (first | rw [c6b0] | (simp only [i64_w, i32_w]; rw [c6b0]) | skip)
  by_cases c7 : a1 > 9999
  ·rw [if_pos c7] at H
   have c7b0 := decide_eq_true c7
   clear c7
   have H' := Aside0.mk H
   clear H
   go_wp2
   go_meet
   case rel => exact ⟨_, (true), yS, H', ⟨by first | omega | exact Nat.le_refl _⟩, ⟨by refine yV ?_; exact HO0.out⟩, ⟨by refine yH ?_; exact BK415.out⟩, ⟨yB⟩⟩
  rw [if_neg c7] at H
  have c7b0 := decide_eq_false c7
  clear c7
  have H' := Aside0.mk H
  clear H
  go_wp2
  go_meet
  case rel => exact ⟨_, (decide (a2 < 1)), yS, H', ⟨by first | omega | exact Nat.le_refl _⟩, ⟨by refine yV ?_; exact HO0.out⟩, ⟨by refine yH ?_; exact BK415.out⟩, ⟨yB⟩⟩
 case rest =>
  clear HC4
  try clear p2
  try clear c3
  try clear c6
  try clear c6b0
  try clear c7
  try clear c7b0
  obtain ⟨kq, x20_3, rfl, HA, HJ3, HO_0, BK415, HB⟩ := hcut
  cases kq with
  | zero => exact absurd HA.out (by simp [subprogram_Fold.j0])
  | succ kj3 =>
   have H := HA.out
   clear HA
   simp only [subprogram_Fold.j0] at H
   by_cases c8 : x20_3 = true
   ·subst c8
    rw [if_pos rfl] at H
    simp only [Option.some.injEq, Prod.mk.injEq] at H
    obtain ⟨rfl, rfl, rfl⟩ := H
    have hcz9_0 := yZ0 BK415.out
    have hcz9_1 := yZ1 BK415.out
    have hfz9_0 := blk_frozen BK415.out 0
    have hfz9_1 := blk_frozen BK415.out 1
    go_wp2
    refine bodyPost_ret (results_ct rfl _ _ gb415 54 #[.slice none 0 0, .slice none 0 0] (0, 0) _ rfl (by refine yH ?_; refine blk_put (cs := #[.slice none 0 0, .slice none 0 0]) ?_ 1 _ rfl; refine yH ?_; refine blk_put (cs := #[.slice none 0 0, .slice none 0 0]) ?_ 0 _ rfl; refine yH ?_; exact BK415.out) Try.underlying54 rfl (by kernel_rfl)) rfl ?_
    exact ⟨_, _, yE, by first | exact Kd.S_nil _ _ _ _ _ | exact Kd.N_nil _ _ _ _ _ | exact Kd.V_nil _ _ _ _ _ | exact Kd.Q_nil _ _ _ _ _ | exact Kd.R_nil _ _ _ _ _, by first | exact Kd.R_nil _ _ _ _ _ | exact Kd.N_nil _ _ _ _ _ | exact Kd.V_nil _ _ _ _ _ | exact Kd.Q_nil _ _ _ _ _ | exact Kd.S_nil _ _ _ _ _, yB⟩
   replace c8 := Bool.eq_false_iff.mpr c8
   subst c8
   replace H : (if a2 ≤ (wrap64 ((l0.length : Int) / 2)) then ((subprogram_first.f kj3 l0 a2).bind fun t416 => (subprogram_Fold.j1 kj3 l0 a1 a2 t416)) else (subprogram_Fold.j1 kj3 l0 a1 a2 (-1))) = some (r1, r2, r3) := by rw [if_neg (show ¬ (false = true) by decide)] at H; exact H
   have HC10 := Aside0.mk H
   clear H
   go_upto_if 26 with (fail)
   go_cut [8] (fun v8 wc => ∃ (kq : Nat) (x8_9 : Int), v8 = .int .i64 x8_9 ∧ Aside0 (subprogram_Fold.j1 kq l0 a1 a2 x8_9 = some (r1, r2, r3)) ∧ Aside0 (kq ≤ kj3) ∧ Aside0 (Kd.V k32 32 wc w.heap.size (fun k_ => (P0_ k_ ∨ w.heap.size ≤ k_) ∧ k_ ≠ gb415) (.slice A0 l0.length c0) l0) ∧ Aside0 (wc.heap[gb415]? = some (.cells #[(.slice none 0 0), (.slice none 0 0)] 54 (0, 0))) ∧ Aside0 (Below w.heap.size w wc))
   case first =>
    have H := HC10.out
    clear HC10
    by_cases c11 : a2 ≤ (wrap64 ((l0.length : Int) / 2))
    ·rw [if_pos c11] at H
     have c11b0 := decide_eq_true c11
     clear c11
     (first | rw [c11b0] | (simp only [i64_w, i32_w]; rw [c11b0]) | skip)
     replace H := Option.bind_eq_some_iff.mp H
     obtain ⟨t416, A120, H⟩ := H
     have A12 := Aside0.mk A120
     clear A120
     have H' := Aside0.mk H
     clear H
     go_wp2_with (first | ((with_reducible refine gate_callee (f := 67) rfl ?_); refine goesL_ (some 29) rfl rfl Try.func67 (by kernel_rfl) rfl #[.slice A0 l0.length c0, .int .i64 a2] rfl yQ ?_; (with_reducible refine (subprogram_first.calls kj3 _ _ l0 a2 t416 _ ?side1 ?side2 A12.out).mono ?_); (case side1 => repeat (first | exact (Kd.V_reads' HO_0.out).2.2 | (with_reducible refine Kd.C_alloc ?_ _) | (with_reducible refine Kd.C_drewN ?_ _) | (with_reducible refine Kd.C_drew ?_))); (case side2 => exact (Kd.V_reads' HO_0.out).2.1); rintro e w13 ⟨rfl, hb⟩; refine ⟨_, rfl, ?_⟩; replace HO_0 := Aside0.mk (Kd.V_below (yV HO_0.out) hb); replace BK415 := Aside0.mk (blk_below (g := gb415) yK hb); replace HB := Aside0.mk (below_step yB hb); (try clear hb)))
     go_meet
     case rel => exact ⟨_, (t416), yS, H', ⟨by have := HJ3.out; first | omega | exact Nat.le_refl _⟩, ⟨by refine yV ?_; exact HO_0.out⟩, ⟨by refine yH ?_; exact BK415.out⟩, ⟨yB⟩⟩
    rw [if_neg c11] at H
    have c11b0 := decide_eq_false c11
    clear c11
    (first | rw [c11b0] | (simp only [i64_w, i32_w]; rw [c11b0]) | skip)
    have H' := Aside0.mk H
    clear H
    go_wp2
    go_meet
    case rel => exact ⟨_, ((-1)), yS, H', ⟨by have := HJ3.out; first | omega | exact Nat.le_refl _⟩, ⟨by refine yV ?_; exact HO_0.out⟩, ⟨by refine yH ?_; exact BK415.out⟩, ⟨yB⟩⟩
   case rest =>
    clear HC10
    try clear c1
    try clear p2
    try clear c3
    try clear c6
    try clear c6b0
    try clear p6
    try clear c7
    try clear c7b0
    try clear c8
    try clear c11
    try clear c11b0
    try clear hcz9_0
    try clear hcz9_1
    try clear hfz9_0
    try clear hfz9_1
    try clear p2
    obtain ⟨kq, x8_9, rfl, HA, HJ9, HO_0, BK415, HB⟩ := hcut
    cases kq with
    | zero => exact absurd HA.out (by simp [subprogram_Fold.j1])
    | succ kj9 =>
     have H := HA.out
     clear HA
     simp only [subprogram_Fold.j1] at H
     by_cases c14 : x8_9 < 0
     ·rw [if_pos c14] at H
      have c14b0 := decide_eq_true c14
      clear c14
      replace H := Option.bind_eq_some_iff.mp H
      obtain ⟨t417, A150, H⟩ := H
      have A15 := Aside0.mk A150
      clear A150
      simp only [Option.some.injEq, Prod.mk.injEq] at H
      obtain ⟨rfl, rfl, rfl⟩ := H
      go_wp2_with (first | ((with_reducible refine gate_callee (f := 33) rfl ?_); refine goesL_ (some 33) rfl rfl Try.func33 (by kernel_rfl) rfl #[.slice A0 l0.length c0] rfl yQ ?_; (with_reducible refine (Clone_Block.calls (fun k_ => ((P0_ k_ ∨ w.heap.size ≤ k_) ∧ k_ ≠ gb415)) _ _ l0 t417 _ ?side1 A15.out).mono ?_); (case side1 => exact HO_0.out); rintro e w16 ⟨v418, rfl, ho0, hb⟩; refine ⟨_, rfl, ?_⟩; replace HO_0 := Aside0.mk (Kd.V_elder' (yV HO_0.out) (by first | exact Kd.N_base ho0 | exact Kd.S_base ho0) hb); have HO419 := Aside0.mk (Kd.N_lower (Kd.N_mono (ok' := fun k_ => (P0_ k_ ∨ w.heap.size ≤ k_) ∧ k_ ≠ gb415) ho0 (fun k_ hk_ => ⟨Or.elim hk_ (fun hs_ => hs_.1) (fun hn_ => (.inr (Nat.le_trans (below_size yB) hn_))), Or.elim hk_ (fun hs_ => hs_.2) (fun hn_ => (Kd.freshB (g := gb415) yK k_ hn_))⟩)) (below_size yB)); replace BK415 := Aside0.mk (blk_below (g := gb415) yK hb); replace HB := Aside0.mk (below_step yB hb); (try clear hb); (try clear ho0); obtain ⟨Ao17, co17, eo17⟩ := Kd.N_slice HO419.out; subst eo17; have hcz18_0 := yZ0 BK415.out; have hcz18_1 := yZ1 BK415.out; have hfz18_0 := blk_frozen BK415.out 0; have hfz18_1 := blk_frozen BK415.out 1))
      refine bodyPost_ret (results_ct rfl _ _ gb415 54 #[.slice Ao17 t417.length co17, .slice none 0 0] (0, 0) _ rfl (by refine yH ?_; refine blk_put (cs := #[.slice Ao17 t417.length co17, .slice none 0 0]) ?_ 1 _ rfl; refine yH ?_; refine blk_put (cs := #[.slice none 0 0, .slice none 0 0]) ?_ 0 _ rfl; refine yH ?_; exact BK415.out) Try.underlying54 rfl (by kernel_rfl)) rfl ?_
      exact ⟨_, _, yE, by refine yN ?_; exact Kd.N_mono (Kd.N_far (p := ⟨gb415, 1, none⟩) (Kd.N_far (p := ⟨gb415, 0, none⟩) (Kd.N_mono HO419.out (fun k_ hk => (⟨hk, hk.2⟩ : _ ∧ k_ ≠ gb415))) (fun _ hk => hk.2) (.slice Ao17 t417.length co17)) (fun _ hk => hk.2) (.slice none 0 0)) (fun _ hk => ⟨hk.1.1, (by simp [Value.ownBlock])⟩), by first | exact Kd.R_nil _ _ _ _ _ | exact Kd.N_nil _ _ _ _ _ | exact Kd.V_nil _ _ _ _ _ | exact Kd.Q_nil _ _ _ _ _ | exact Kd.S_nil _ _ _ _ _, yB⟩
     rw [if_neg c14] at H
     have c14b0 := decide_eq_false c14
     clear c14
     have H' := Aside0.mk H
     clear H
     go_wp2
     go_loopg [9, 10] kj9 (fun kq v9 v10 w' => ∃ (x9_3 : List (S32)) (x10_3 : Int), v10 = .int .i64 x10_3 ∧ Aside0 (subprogram_Fold.l0 kq l0 a1 a2 x8_9 x9_3 x10_3 = some (r1, r2, r3)) ∧ Aside0 (kq ≤ kj9) ∧ Aside0 (Kd.V k32 32 w' w.heap.size (fun k_ => (P0_ k_ ∨ w.heap.size ≤ k_) ∧ some k_ ≠ (v9 : Value).ownBlock ∧ k_ ≠ gb415) (.slice A0 l0.length c0) l0) ∧ Aside0 (Kd.N k32 32 w' w.heap.size (fun k_ => (P0_ k_ ∨ w.heap.size ≤ k_) ∧ k_ ≠ gb415) v9 x9_3) ∧ Aside0 (w'.heap[gb415]? = some (.cells #[(.slice none 0 0), (.slice none 0 0)] 54 (0, 0))) ∧ Aside0 (Below w.heap.size w w'))
     case atStart => exact ⟨(([] : List (S32))), (0), yS, H', ⟨Nat.le_refl _⟩, ⟨by refine yV ?_; exact Kd.V_mono HO_0.out (fun _ hk => ⟨hk.1, ⟨(by simp [Value.ownBlock]), hk.2⟩⟩)⟩, ⟨by first | exact Kd.S_nil _ _ _ _ _ | exact Kd.N_nil _ _ _ _ _ | exact Kd.V_nil _ _ _ _ _ | exact Kd.Q_nil _ _ _ _ _ | exact Kd.R_nil _ _ _ _ _⟩, ⟨by refine yH ?_; exact BK415.out⟩, ⟨yB⟩⟩
     case round =>
      clear H'
      try clear c1
      try clear p2
      try clear c3
      try clear c6
      try clear c6b0
      try clear p6
      try clear c7
      try clear c7b0
      try clear c8
      try clear c11
      try clear c11b0
      try clear c14
      try clear c14b0
      try clear hcz18_0
      try clear hcz18_1
      try clear hcz9_0
      try clear hcz9_1
      try clear hfz18_0
      try clear hfz18_1
      try clear hfz9_0
      try clear hfz9_1
      try clear p2
      try clear p6
      obtain ⟨x9_3, x10_3, rfl, HA, HK3, HO_0, HO_9, BK415, HB⟩ := hrel
      cases gk with
      | zero => exact absurd HA.out (by simp [subprogram_Fold.l0])
      | succ k3 =>
       have H := HA.out
       clear HA
       simp only [subprogram_Fold.l0] at H
       by_cases c19 : x10_3 < (l0.length : Int)
       ·rw [if_pos c19] at H
        have c19b0 := decide_eq_true c19
        clear c19
        by_cases c20 : (wrap64 (x10_3 + a2)) ≤ (l0.length : Int)
        ·rw [if_pos c20] at H
         have c20b0 := decide_eq_true c20
         clear c20
         replace H := Option.bind_eq_some_iff.mp H
         obtain ⟨t420, A210, H⟩ := H
         have A21 := Aside0.mk A210
         clear A210
         by_cases c22 : t420 = true
         ·subst c22
          rw [if_pos rfl] at H
          obtain ⟨y421, hy421⟩ : ∃ y_ : List (S78), y_ = (([(⟨77, 98000⟩ : S78), (⟨80, wrap64 (1000 * a1)⟩ : S78)] : List (S78))) := ⟨_, rfl⟩
          replace H : (if x9_3.length < 2932031007402 then (subprogram_Fold.l0 k3 l0 a1 a2 x8_9 (x9_3 ++ [(⟨false, y421, (⟨#[]⟩ : ByteArray)⟩ : S32)]) (wrap64 (x10_3 + a2))) else (none)) = some (r1, r2, r3) := by first | (rw [hy421]; with_reducible exact H) | (have H2_ := (Option.bind_some _ _).symm.trans H; rw [hy421]; with_reducible exact H2_) | (have H2_ := (Option.bind_some _ _).symm.trans H; with_reducible exact H2_) | with_reducible exact H | (rw [hy421]; exact H) | exact H
          have Ny421 := Aside0.mk hy421
          clear hy421
          by_cases c23 : x9_3.length < 2932031007402
          ·rw [if_pos c23] at H
           have LMc23 := Aside0.mk c23
           clear c23
           obtain ⟨y424, hy424⟩ : ∃ y_ : List (S32), y_ = (x9_3 ++ [(⟨false, y421, (⟨#[]⟩ : ByteArray)⟩ : S32)]) := ⟨_, rfl⟩
           replace H : (subprogram_Fold.l0 k3 l0 a1 a2 x8_9 y424 (wrap64 (x10_3 + a2))) = some (r1, r2, r3) := by first | (rw [hy424]; with_reducible exact H) | (have H2_ := (Option.bind_some _ _).symm.trans H; rw [hy424]; with_reducible exact H2_) | (have H2_ := (Option.bind_some _ _).symm.trans H; with_reducible exact H2_) | with_reducible exact H | (rw [hy424]; exact H) | exact H
           have Ny424 := Aside0.mk hy424
           clear hy424
           have H' := Aside0.mk H
           clear H
           go_wp2_with (first | (go_at_call 68; (with_reducible refine (subprogram_run.calls k3 _ _ l0 x8_9 x10_3 a2 true _ ?side1 ?side2 A21.out).mono ?_); (case side1 => repeat (first | exact (Kd.V_reads' HO_0.out).2.2 | (with_reducible refine Kd.C_alloc ?_ _) | (with_reducible refine Kd.C_drewN ?_ _) | (with_reducible refine Kd.C_drew ?_))); (case side2 => exact (Kd.V_reads' HO_0.out).2.1); rintro e w24 ⟨rfl, hb⟩; replace HO_0 := Aside0.mk (Kd.V_below (yV HO_0.out) hb); replace HO_9 := Aside0.mk (Kd.N_below (yN HO_9.out) hb); replace BK415 := Aside0.mk (blk_below (g := gb415) yK hb); replace HB := Aside0.mk (below_step yB hb); (try clear hb)) | ((with_reducible refine gate_dst (N := 57) rfl ?_); refine Kd.R_lit k78 _ 78 ?hg (N := 57) ?hd (xs := ([(⟨77, 98000⟩ : S78), (⟨80, wrap64 (1000 * a1)⟩ : S78)] : List (S78))) (inner := [.int .u8 77, .int .i64 98000, .int .u8 80, .int .i64 (wrap64 (1000 * a1))]) (ok := fun _ => True) (okp := fun _ => True) ?hr ?hp (fun _ hk => hk) trivial (Below.refl _ _) (Nat.le_refl _) (by simp) ?_; (case hd => rfl); (case hg => rfl); (case hr => first | (go_simp; done) | (go_simp; rfl)); (case hp => exact (Reps.c2 (show Kd.M k78 _ _ _ (⟨77, 98000⟩ : S78) [.int .u8 77, .int .i64 98000] from (k78_mkM _ _ _ (⟨77, 98000⟩ : S78) )) (Reps.c2 (show Kd.M k78 _ _ _ (⟨80, wrap64 (1000 * a1)⟩ : S78) [.int .u8 80, .int .i64 (wrap64 (1000 * a1))] from (k78_mkM _ _ _ (⟨80, wrap64 (1000 * a1)⟩ : S78) )) (Reps.none _ _)))); intro v422 w25 ho26 hb hg_ hnew_; clear hg_ hnew_; (first | rw [← Ny421.out] at ho26 | (simp only [Int.reduceToNat] at ho26; rw [← Ny421.out] at ho26)); replace HO_0 := Aside0.mk (Kd.V_elder' (yV HO_0.out) (Kd.R_base ho26) hb); replace HO_9 := Aside0.mk (Kd.N_elder' (yN HO_9.out) (Kd.R_base ho26) hb); have HO423 := Aside0.mk (Kd.R_lower (Kd.R_newM (M := fun k_ => (w.heap.size ≤ k_)) ho26 (below_size yB) (fun k_ h_ => h_)) (below_size yB)); replace BK415 := Aside0.mk (blk_below (g := gb415) yK hb); replace HB := Aside0.mk (below_step yB hb); clear hb ho26; obtain ⟨Ao27, co27, eo27⟩ := Kd.R_slice HO423.out; subst eo27) | ((with_reducible refine gate_builtin (b := .append) (xs := #[.tmp 52, .tmp 59]) rfl ?_); at_builtin; refine Kd.N_append k32 (w0 := w) w.heap.size rfl (.tmp 52) (.tmp 59) 35 32 (.agg #[(.bool false), (.slice none 0 0), (.string ⟨#[]⟩)]) 48 rfl Try.underlying35 info32 rfl (by decide) (by omega) u9 x9_3 (⟨false, y421, (⟨#[]⟩ : ByteArray)⟩ : S32) [.bool false, .slice Ao27 y421.length co27, .string (⟨#[]⟩ : ByteArray)] (fun k_ => (P0_ k_ ∨ w.heap.size ≤ k_) ∧ k_ ≠ gb415) (fun k_ => ((fun k_ => (P0_ k_ ∨ w.heap.size ≤ k_) ∧ k_ ≠ gb415)) k_ ∧ some k_ ≠ (u9 : Value).ownBlock) rfl rfl ?aP (fun _ hk => hk) ?aF ?aO ?aB ?aS ?aL ?_; (case aP => exact (k32_mkF _ _ (⟨false, y421, (⟨#[]⟩ : ByteArray)⟩ : S32) (Kd.R_reads' (Kd.R_mono (ok' := (fun k_ => ((fun k_ => (P0_ k_ ∨ w.heap.size ≤ k_) ∧ k_ ≠ gb415)) k_ ∧ some k_ ≠ (u9 : Value).ownBlock)) (Kd.R_types (Kd.R_apart' (HO423.out) (Kd.N_typed HO_9.out) (by decide)) BK415.out (by decide)) (fun k_ hk => ⟨⟨(.inr (hk.1.1.1)), hk.2⟩, hk.1.2⟩))).2.1 (Kd.R_F (Kd.R_mono (ok' := (fun k_ => ((fun k_ => (P0_ k_ ∨ w.heap.size ≤ k_) ∧ k_ ≠ gb415)) k_ ∧ some k_ ≠ (u9 : Value).ownBlock)) (Kd.R_types (Kd.R_apart' (HO423.out) (Kd.N_typed HO_9.out) (by decide)) BK415.out (by decide)) (fun k_ hk => ⟨⟨(.inr (hk.1.1.1)), hk.2⟩, hk.1.2⟩))))); (case aB => exact yB); (case aF => exact (fun k_ hk => ⟨(.inr (Nat.le_trans (below_size yB) hk)), Kd.freshB (g := gb415) yK k_ hk⟩)); (case aO => exact (yN (Kd.N_mono HO_9.out (fun _ hk => ⟨hk.1.1, hk.1.2⟩)))); (case aS => exact (below_size yB)); (case aL => have := LMc23.out; omega); intro v425 w28 ho hb hg hat; rw [← Ny424.out] at ho; have n0_ := Aside0.mk (Kd.V_afterv (ok := (fun k_ => (P0_ k_ ∨ w.heap.size ≤ k_) ∧ some k_ ≠ (.slice Ao27 y421.length co27 : Value).ownBlock ∧ k_ ≠ gb415)) (yV (Kd.V_mono HO_0.out (fun _ hk => ⟨⟨hk.1.1, ⟨hk.2, hk.1.2.2⟩⟩, hk.1.2.1⟩))) hg hat); have n1_ := Aside0.mk (blk_grown (g := gb415) yK hg (Kd.N_ne HO_9.out BK415.out (by decide))); have n2_ := Aside0.mk (hb); have n3_ := Aside0.mk (ho); clear HO_0; clear BK415; clear HB; clear HO_9; clear HO423; have HO_0 := n0_; have BK415 := n1_; have HB := n2_; have HO426 := n3_; clear n0_ n1_ n2_ n3_; clear ho hb hg hat))
           go_roundg k3
           case measure => have := HJ3.out; have := HJ9.out; have := HK3.out; omega
           case rel => exact ⟨(y424), (wrap64 (x10_3 + a2)), yS, H', ⟨by have := HJ3.out; have := HJ9.out; have := HK3.out; omega⟩, ⟨by refine yV ?_; exact Kd.V_mono HO_0.out (fun _ hk => ⟨hk.1.1, ⟨hk.2, hk.1.2.2⟩⟩)⟩, ⟨by refine yN ?_; exact HO426.out⟩, ⟨by refine yH ?_; exact BK415.out⟩, ⟨yB⟩⟩
          rw [if_neg c23] at H
          exact absurd H (by simp)
         replace c22 := Bool.eq_false_iff.mpr c22
         subst c22
         replace H : (if 0 ≤ x10_3 then (if x9_3.length < 2932031007402 then (subprogram_Fold.l0 k3 l0 a1 a2 x8_9 (x9_3 ++ [(⟨(rd_T32 l0 x10_3).f0, (rd_T32 l0 x10_3).f1, (rd_T32 l0 x10_3).f2⟩ : S32)]) (wrap64 (x10_3 + 1))) else (none)) else (none)) = some (r1, r2, r3) := by rw [if_neg (show ¬ (false = true) by decide)] at H; exact H
         by_cases c29 : 0 ≤ x10_3
         ·rw [if_pos c29] at H
          have c29b0 := decide_eq_true c29
          clear c29
          by_cases c30 : x9_3.length < 2932031007402
          ·rw [if_pos c30] at H
           have LMc30 := Aside0.mk c30
           clear c30
           obtain ⟨y428, hy428⟩ : ∃ y_ : List (S32), y_ = (x9_3 ++ [(⟨(rd_T32 l0 x10_3).f0, (rd_T32 l0 x10_3).f1, (rd_T32 l0 x10_3).f2⟩ : S32)]) := ⟨_, rfl⟩
           replace H : (subprogram_Fold.l0 k3 l0 a1 a2 x8_9 y428 (wrap64 (x10_3 + 1))) = some (r1, r2, r3) := by first | (rw [hy428]; with_reducible exact H) | (have H2_ := (Option.bind_some _ _).symm.trans H; rw [hy428]; with_reducible exact H2_) | (have H2_ := (Option.bind_some _ _).symm.trans H; with_reducible exact H2_) | with_reducible exact H | (rw [hy428]; exact H) | exact H
           have Ny428 := Aside0.mk hy428
           clear hy428
           have H' := Aside0.mk H
           clear H
           go_wp2_with (first | (go_at_call 68; (with_reducible refine (subprogram_run.calls k3 _ _ l0 x8_9 x10_3 a2 false _ ?side1 ?side2 A21.out).mono ?_); (case side1 => repeat (first | exact (Kd.V_reads' HO_0.out).2.2 | (with_reducible refine Kd.C_alloc ?_ _) | (with_reducible refine Kd.C_drewN ?_ _) | (with_reducible refine Kd.C_drew ?_))); (case side2 => exact (Kd.V_reads' HO_0.out).2.1); rintro e w31 ⟨rfl, hb⟩; replace HO_0 := Aside0.mk (Kd.V_below (yV HO_0.out) hb); replace HO_9 := Aside0.mk (Kd.N_below (yN HO_9.out) hb); replace BK415 := Aside0.mk (blk_below (g := gb415) yK hb); replace HB := Aside0.mk (below_step yB hb); (try clear hb); have p427 : 0 ≤ (x10_3 : Int) := yD; have q427 : x10_3 < (l0.length : Int) := yD; obtain ⟨ad427, A427_1, c427_1, e427, hx427_0, hx427_1, hx427_2, hl427_1, hi427_1⟩ := at_T32 (Kd.V_reads' HO_0.out).2.2 x10_3 p427 q427; cases e427; obtain ⟨ce427, hce427, hMe427, hcc427⟩ := Kd.V_get HO_0.out z32 x10_3 p427 (by first | exact q427 | exact yD | (have e_ := (Kd.V_reads' HO_0.out).1; omega)); obtain ⟨ua427_1, uc427_1, rfl, ul427_1, ge427_1⟩ := k32_openF hMe427; have hv427_1 := hcc427 1 _ rfl; rw [add_field _ _ 1 (by omega)] at hv427_1; replace hv427_1 := Option.some.inj (hv427_1.symm.trans hx427_1); injection hv427_1 with hva_ hvn_ hvc_; rw [hva_] at ge427_1; rw [hvc_] at ul427_1; have HL427_1 := Aside0.mk (show Kd.V k78 78 _ w.heap.size _ _ ((rd_T32 l0 x10_3).f1) from Kd.V_mk ul427_1 ge427_1); clear hva_ hvn_ hvc_ ge427_1 ul427_1; clear hcc427 hce427; have HR427_1 := Aside0.mk hi427_1; have HC427_1 := Aside0.mk hl427_1; clear hi427_1 hl427_1; replace p427 := eq_true p427; replace q427 := eq_true q427) | ((with_reducible refine gate_builtin (b := .append) (xs := #[.tmp 64, .tmp 69]) rfl ?_); at_builtin; refine Kd.N_append k32 (w0 := w) w.heap.size rfl (.tmp 64) (.tmp 69) 35 32 (.agg #[(.bool false), (.slice none 0 0), (.string ⟨#[]⟩)]) 48 rfl Try.underlying35 info32 rfl (by decide) (by omega) u9 x9_3 (⟨(rd_T32 l0 x10_3).f0, (rd_T32 l0 x10_3).f1, (rd_T32 l0 x10_3).f2⟩ : S32) [.bool ((rd_T32 l0 x10_3).f0), .slice A427_1 ((rd_T32 l0 x10_3).f1).length c427_1, .string ((rd_T32 l0 x10_3).f2)] (fun k_ => (P0_ k_ ∨ w.heap.size ≤ k_) ∧ k_ ≠ gb415) (fun k_ => ((fun k_ => (P0_ k_ ∨ w.heap.size ≤ k_) ∧ k_ ≠ gb415)) k_ ∧ some k_ ≠ (u9 : Value).ownBlock) rfl rfl ?aP (fun _ hk => hk) ?aF ?aO ?aB ?aS ?aL ?_; (case aP => exact (k32_mkF _ _ (⟨(rd_T32 l0 x10_3).f0, (rd_T32 l0 x10_3).f1, (rd_T32 l0 x10_3).f2⟩ : S32) (Kd.V_reads' (Kd.V_mono (ok' := (fun k_ => ((fun k_ => (P0_ k_ ∨ w.heap.size ≤ k_) ∧ k_ ≠ gb415)) k_ ∧ some k_ ≠ (u9 : Value).ownBlock)) (HL427_1.out) (fun k_ hk => ⟨⟨hk.1, hk.2.2⟩, hk.2.1⟩))).2.1 (Kd.V_F (Kd.V_mono (ok' := (fun k_ => ((fun k_ => (P0_ k_ ∨ w.heap.size ≤ k_) ∧ k_ ≠ gb415)) k_ ∧ some k_ ≠ (u9 : Value).ownBlock)) (HL427_1.out) (fun k_ hk => ⟨⟨hk.1, hk.2.2⟩, hk.2.1⟩))))); (case aB => exact yB); (case aF => exact (fun k_ hk => ⟨(.inr (Nat.le_trans (below_size yB) hk)), Kd.freshB (g := gb415) yK k_ hk⟩)); (case aO => exact (yN HO_9.out)); (case aS => exact (below_size yB)); (case aL => have := LMc30.out; omega); intro v429 w32 ho hb hg hat; rw [← Ny428.out] at ho; have n0_ := Aside0.mk (Kd.V_afterv (ok := (fun k_ => (P0_ k_ ∨ w.heap.size ≤ k_) ∧ k_ ≠ gb415)) (yV (Kd.V_mono HO_0.out (fun _ hk => ⟨⟨hk.1, hk.2.2⟩, hk.2.1⟩))) hg hat); have n1_ := Aside0.mk (blk_grown (g := gb415) yK hg (Kd.N_ne HO_9.out BK415.out (by decide))); have n2_ := Aside0.mk (Kd.V_afterv (ok := (fun k_ => (P0_ k_ ∨ w.heap.size ≤ k_) ∧ k_ ≠ gb415)) (yV (Kd.V_mono HL427_1.out (fun _ hk => ⟨⟨hk.1, hk.2.2⟩, hk.2.1⟩))) hg hat); have n3_ := Aside0.mk (hb); have n4_ := Aside0.mk (ho); clear HO_0; clear BK415; clear HL427_1; clear HB; clear HO_9; have HO_0 := n0_; have BK415 := n1_; have HL427_1 := n2_; have HB := n3_; have HO430 := n4_; clear n0_ n1_ n2_ n3_ n4_; clear ho hb hg hat))
           go_roundg k3
           case measure => have := HJ3.out; have := HJ9.out; have := HK3.out; omega
           case rel => exact ⟨(y428), (wrap64 (x10_3 + 1)), yS, H', ⟨by have := HJ3.out; have := HJ9.out; have := HK3.out; omega⟩, ⟨by refine yV ?_; exact Kd.V_mono HO_0.out (fun _ hk => ⟨hk.1.1, ⟨hk.2, hk.1.2⟩⟩)⟩, ⟨by refine yN ?_; exact HO430.out⟩, ⟨by refine yH ?_; exact BK415.out⟩, ⟨yB⟩⟩
          rw [if_neg c30] at H
          exact absurd H (by simp)
         rw [if_neg c29] at H
         exact absurd H (by simp)
        rw [if_neg c20] at H
        have c20b0 := decide_eq_false c20
        clear c20
        by_cases c33 : 0 ≤ x10_3
        ·rw [if_pos c33] at H
         have c33b0 := decide_eq_true c33
         clear c33
         by_cases c34 : x9_3.length < 2932031007402
         ·rw [if_pos c34] at H
          have LMc34 := Aside0.mk c34
          clear c34
          obtain ⟨y432, hy432⟩ : ∃ y_ : List (S32), y_ = (x9_3 ++ [(⟨(rd_T32 l0 x10_3).f0, (rd_T32 l0 x10_3).f1, (rd_T32 l0 x10_3).f2⟩ : S32)]) := ⟨_, rfl⟩
          replace H : (subprogram_Fold.l0 k3 l0 a1 a2 x8_9 y432 (wrap64 (x10_3 + 1))) = some (r1, r2, r3) := by first | (rw [hy432]; with_reducible exact H) | (have H2_ := (Option.bind_some _ _).symm.trans H; rw [hy432]; with_reducible exact H2_) | (have H2_ := (Option.bind_some _ _).symm.trans H; with_reducible exact H2_) | with_reducible exact H | (rw [hy432]; exact H) | exact H
          have Ny432 := Aside0.mk hy432
          clear hy432
          have H' := Aside0.mk H
          clear H
          have p431 : 0 ≤ (x10_3 : Int) := yD
          have q431 : x10_3 < (l0.length : Int) := yD
          obtain ⟨ad431, A431_1, c431_1, e431, hx431_0, hx431_1, hx431_2, hl431_1, hi431_1⟩ := at_T32 (Kd.V_reads' HO_0.out).2.2 x10_3 p431 q431
          cases e431
          obtain ⟨ce431, hce431, hMe431, hcc431⟩ := Kd.V_get HO_0.out z32 x10_3 p431 (by first | exact q431 | exact yD | (have e_ := (Kd.V_reads' HO_0.out).1; omega))
          obtain ⟨ua431_1, uc431_1, rfl, ul431_1, ge431_1⟩ := k32_openF hMe431
          have hv431_1 := hcc431 1 _ rfl
          rw [add_field _ _ 1 (by omega)] at hv431_1
          replace hv431_1 := Option.some.inj (hv431_1.symm.trans hx431_1)
          injection hv431_1 with hva_ hvn_ hvc_
          rw [hva_] at ge431_1
          rw [hvc_] at ul431_1
          have HL431_1 := Aside0.mk (show Kd.V k78 78 _ w.heap.size _ _ ((rd_T32 l0 x10_3).f1) from Kd.V_mk ul431_1 ge431_1)
          clear hva_ hvn_ hvc_ ge431_1 ul431_1
          clear hcc431 hce431
          have HR431_1 := Aside0.mk hi431_1
          have HC431_1 := Aside0.mk hl431_1
          clear hi431_1 hl431_1
          replace p431 := eq_true p431
          replace q431 := eq_true q431
          go_wp2_with (first | ((with_reducible refine gate_builtin (b := .append) (xs := #[.tmp 64, .tmp 69]) rfl ?_); at_builtin; refine Kd.N_append k32 (w0 := w) w.heap.size rfl (.tmp 64) (.tmp 69) 35 32 (.agg #[(.bool false), (.slice none 0 0), (.string ⟨#[]⟩)]) 48 rfl Try.underlying35 info32 rfl (by decide) (by omega) u9 x9_3 (⟨(rd_T32 l0 x10_3).f0, (rd_T32 l0 x10_3).f1, (rd_T32 l0 x10_3).f2⟩ : S32) [.bool ((rd_T32 l0 x10_3).f0), .slice A431_1 ((rd_T32 l0 x10_3).f1).length c431_1, .string ((rd_T32 l0 x10_3).f2)] (fun k_ => (P0_ k_ ∨ w.heap.size ≤ k_) ∧ k_ ≠ gb415) (fun k_ => ((fun k_ => (P0_ k_ ∨ w.heap.size ≤ k_) ∧ k_ ≠ gb415)) k_ ∧ some k_ ≠ (u9 : Value).ownBlock) rfl rfl ?aP (fun _ hk => hk) ?aF ?aO ?aB ?aS ?aL ?_; (case aP => exact (k32_mkF _ _ (⟨(rd_T32 l0 x10_3).f0, (rd_T32 l0 x10_3).f1, (rd_T32 l0 x10_3).f2⟩ : S32) (Kd.V_reads' (Kd.V_mono (ok' := (fun k_ => ((fun k_ => (P0_ k_ ∨ w.heap.size ≤ k_) ∧ k_ ≠ gb415)) k_ ∧ some k_ ≠ (u9 : Value).ownBlock)) (HL431_1.out) (fun k_ hk => ⟨⟨hk.1, hk.2.2⟩, hk.2.1⟩))).2.1 (Kd.V_F (Kd.V_mono (ok' := (fun k_ => ((fun k_ => (P0_ k_ ∨ w.heap.size ≤ k_) ∧ k_ ≠ gb415)) k_ ∧ some k_ ≠ (u9 : Value).ownBlock)) (HL431_1.out) (fun k_ hk => ⟨⟨hk.1, hk.2.2⟩, hk.2.1⟩))))); (case aB => exact yB); (case aF => exact (fun k_ hk => ⟨(.inr (Nat.le_trans (below_size yB) hk)), Kd.freshB (g := gb415) yK k_ hk⟩)); (case aO => exact (yN HO_9.out)); (case aS => exact (below_size yB)); (case aL => have := LMc34.out; omega); intro v433 w35 ho hb hg hat; rw [← Ny432.out] at ho; have n0_ := Aside0.mk (Kd.V_afterv (ok := (fun k_ => (P0_ k_ ∨ w.heap.size ≤ k_) ∧ k_ ≠ gb415)) (yV (Kd.V_mono HO_0.out (fun _ hk => ⟨⟨hk.1, hk.2.2⟩, hk.2.1⟩))) hg hat); have n1_ := Aside0.mk (blk_grown (g := gb415) yK hg (Kd.N_ne HO_9.out BK415.out (by decide))); have n2_ := Aside0.mk (Kd.V_afterv (ok := (fun k_ => (P0_ k_ ∨ w.heap.size ≤ k_) ∧ k_ ≠ gb415)) (yV (Kd.V_mono HL431_1.out (fun _ hk => ⟨⟨hk.1, hk.2.2⟩, hk.2.1⟩))) hg hat); have n3_ := Aside0.mk (hb); have n4_ := Aside0.mk (ho); clear HO_0; clear BK415; clear HL431_1; clear HB; clear HO_9; have HO_0 := n0_; have BK415 := n1_; have HL431_1 := n2_; have HB := n3_; have HO434 := n4_; clear n0_ n1_ n2_ n3_ n4_; clear ho hb hg hat))
          go_roundg k3
          case measure => have := HJ3.out; have := HJ9.out; have := HK3.out; omega
          case rel => exact ⟨(y432), (wrap64 (x10_3 + 1)), yS, H', ⟨by have := HJ3.out; have := HJ9.out; have := HK3.out; omega⟩, ⟨by refine yV ?_; exact Kd.V_mono HO_0.out (fun _ hk => ⟨hk.1.1, ⟨hk.2, hk.1.2⟩⟩)⟩, ⟨by refine yN ?_; exact HO434.out⟩, ⟨by refine yH ?_; exact BK415.out⟩, ⟨yB⟩⟩
         rw [if_neg c34] at H
         exact absurd H (by simp)
        rw [if_neg c33] at H
        exact absurd H (by simp)
       rw [if_neg c19] at H
       have c19b0 := decide_eq_false c19
       clear c19
       by_cases c36 : 0 ≤ x8_9
       ·rw [if_pos c36] at H
        have c36b0 := eq_true c36
        have c36b1 := decide_eq_true c36
        clear c36
        by_cases c37 : x8_9 ≤ (wrap64 (x8_9 + a2))
        ·rw [if_pos c37] at H
         have c37b0 := eq_true c37
         have c37b1 := decide_eq_true c37
         by_cases c38 : (wrap64 (x8_9 + a2)) ≤ (l0.length : Int)
         ·rw [if_pos c38] at H
          have c38b0 := eq_true c38
          have c38b1 := decide_eq_true c38
          obtain ⟨y435, hy435⟩ : ∃ y_ : List (S32), y_ = ((l0.take ((wrap64 (x8_9 + a2)) : Int).toNat).drop (x8_9 : Int).toNat) := ⟨_, rfl⟩
          replace H : ((Clone_Block.f y435).bind fun t440 => (some (x9_3, (([(⟨a1, t440⟩ : S81)] : List (S81))), 0))) = some (r1, r2, r3) := by first | (rw [hy435]; with_reducible exact H) | (have H2_ := (Option.bind_some _ _).symm.trans H; rw [hy435]; with_reducible exact H2_) | (have H2_ := (Option.bind_some _ _).symm.trans H; with_reducible exact H2_) | with_reducible exact H | (rw [hy435]; exact H) | exact H
          have Ny435 := Aside0.mk hy435
          clear hy435
          replace H := Option.bind_eq_some_iff.mp H
          obtain ⟨t440, A390, H⟩ := H
          have A39 := Aside0.mk A390
          clear A390
          obtain ⟨y443, hy443⟩ : ∃ y_ : List (S81), y_ = (([(⟨a1, t440⟩ : S81)] : List (S81))) := ⟨_, rfl⟩
          replace H : (some (x9_3, y443, 0)) = some (r1, r2, r3) := by first | (rw [hy443]; with_reducible exact H) | (have H2_ := (Option.bind_some _ _).symm.trans H; rw [hy443]; with_reducible exact H2_) | (have H2_ := (Option.bind_some _ _).symm.trans H; with_reducible exact H2_) | with_reducible exact H | (rw [hy443]; exact H) | exact H
          have Ny443 := Aside0.mk hy443
          clear hy443
          simp only [Option.some.injEq, Prod.mk.injEq] at H
          obtain ⟨rfl, rfl, rfl⟩ := H
          have q40 : ((wrap64 (x8_9 + a2)) : Int) ≤ ((l0.length : Int) : Int) := yD
          obtain ⟨i040, hi040, _, hsz40, _⟩ := info_parts info32
          have hroom40 : l0.length ≤ c0 := (Kd.V_reads' HO_0.out).2.1
          have hC40 : Kd.F k32 _ _ A0 l0.length l0 := (Kd.V_at (base := w.heap.size) HO_0.out).2.2
          have ql40 : (x8_9 : Int) ≤ ((wrap64 (x8_9 + a2)) : Int) := yD
          have q040 : (0 : Int) ≤ (x8_9 : Int) := yD
          have hcut40 := cut_mid (P := Try.prog) 35 32 .i64 .i64 Try.underlying35 hi040 3 hsz40 A0 l0.length c0 x8_9 (wrap64 (x8_9 + a2)) q040 ql40 q40 hroom40
          have hr40 := Kd.F_mid (lo := (x8_9 : Int).toNat) (hi := ((wrap64 (x8_9 + a2)) : Int).toNat) (c := c0) hC40 (by omega) (by omega) hroom40
          obtain ⟨A40, hA40⟩ : ∃ A1, A1 = (if c0 = (x8_9 : Int).toNat then A0 else (A0 : Option Addr).map (·.add ((x8_9 : Int).toNat * 3))) := ⟨_, rfl⟩
          obtain ⟨c40, hc40⟩ : ∃ c1, c1 = c0 - (x8_9 : Int).toNat := ⟨_, rfl⟩
          have hy40 : y435.length = ((wrap64 (x8_9 + a2)) : Int).toNat - (x8_9 : Int).toNat := (by rw [Ny435.out, List.length_drop, List.length_take] <;> omega)
          rw [show ((l0).take ((wrap64 (x8_9 + a2)) : Int).toNat).drop (x8_9 : Int).toNat = y435 from Ny435.out.symm] at hr40
          replace hr40 : Kd.F k32 _ _ A40 y435.length y435 := (by rw [hA40]; exact hr40)
          rw [← hy40, ← hA40, ← hc40] at hcut40
          have HO439 := Aside0.mk (show Kd.V k32 32 _ w.heap.size _ (.slice A40 y435.length c40) y435 from Kd.V_mk (by rw [hy40, hc40]; exact Nat.sub_le_sub_right (Nat.le_trans (by omega) hroom40) _) hr40)
          have HC439 := Aside0.mk (show y435.length ≤ c40 from by rw [hy40, hc40]; exact Nat.sub_le_sub_right (Nat.le_trans (by omega) hroom40) _)
          clear hr40 hC40 hroom40 hi040 hsz40 hc40
          have KY40 := Aside0.mk hy40
          have KA40 := Aside0.mk hA40
          clear hy40 hA40
          replace q40 := eq_true q40
          go_wp2_with (first | ((with_reducible refine gate_callee (f := 33) rfl ?_); refine goesL_ (some 81) rfl rfl Try.func33 (by kernel_rfl) rfl #[.slice A40 y435.length c40] rfl yQ ?_; (with_reducible refine (Clone_Block.calls (fun k_ => ((P0_ k_ ∨ w.heap.size ≤ k_) ∧ (some k_ ≠ (u9 : Value).ownBlock ∧ k_ ≠ gb415))) _ _ y435 t440 _ ?side1 A39.out).mono ?_); (case side1 => exact HO439.out); rintro e w41 ⟨v441, rfl, ho0, hb⟩; refine ⟨_, rfl, ?_⟩; replace HO_0 := Aside0.mk (Kd.V_elder' (yV HO_0.out) (by first | exact Kd.N_base ho0 | exact Kd.S_base ho0) hb); replace HO439 := Aside0.mk (Kd.V_elder' (yV HO439.out) (by first | exact Kd.N_base ho0 | exact Kd.S_base ho0) hb); have HO442 := Aside0.mk (Kd.N_lower (Kd.N_mono (ok' := fun k_ => (P0_ k_ ∨ w.heap.size ≤ k_) ∧ some k_ ≠ (u9 : Value).ownBlock ∧ k_ ≠ gb415) ho0 (fun k_ hk_ => ⟨Or.elim hk_ (fun hs_ => hs_.1) (fun hn_ => (.inr (Nat.le_trans (below_size yB) hn_))), Or.elim hk_ (fun hs_ => hs_.2.1) (fun hn_ => (Kd.fresh' (Kd.N_lt (yN HO_9.out)) k_ hn_)), Or.elim hk_ (fun hs_ => hs_.2.2) (fun hn_ => (Kd.freshB (g := gb415) yK k_ hn_))⟩)) (below_size yB)); replace HO_9 := Aside0.mk (Kd.N_elder' (yN HO_9.out) (by first | exact Kd.N_base ho0 | exact Kd.S_base ho0) hb); replace BK415 := Aside0.mk (blk_below (g := gb415) yK hb); replace HB := Aside0.mk (below_step yB hb); (try clear hb); (try clear ho0); obtain ⟨Ao42, co42, eo42⟩ := Kd.N_slice HO442.out; subst eo42) | ((with_reducible refine gate_dst (N := 83) rfl ?_); refine Kd.N_lit k81 _ 81 ?hg (N' := 83) ?hd (xs := ([(⟨a1, t440⟩ : S81)] : List (S81))) (inner := [.int .i64 a1, .slice Ao42 t440.length co42]) (ok := (fun k_ => (P0_ k_ ∨ w.heap.size ≤ k_) ∧ some k_ ≠ (u9 : Value).ownBlock ∧ k_ ≠ gb415)) (okp := (fun k_ => (P0_ k_ ∨ w.heap.size ≤ k_) ∧ some k_ ≠ (u9 : Value).ownBlock ∧ k_ ≠ gb415)) ?hr ?hp (fun _ hk => hk) ((show ∀ k_, w41.heap.size ≤ k_ → (fun k_ => (P0_ k_ ∨ w.heap.size ≤ k_) ∧ some k_ ≠ (u9 : Value).ownBlock ∧ k_ ≠ gb415) k_ from fun k_ hk => ⟨(.inr (Nat.le_trans (below_size yB) hk)), Kd.fresh' (Kd.N_lt (yN HO_9.out)) k_ hk, Kd.freshB (g := gb415) yK k_ hk⟩) _ (Nat.le_refl _)) (Below.refl _ _) (Nat.le_refl _) (by simp) ?_; (case hd => rfl); (case hg => rfl); (case hr => first | (go_simp; done) | (go_simp; rfl)); (case hp => exact (Reps.c2 (show Kd.FK k81 _ _ (⟨a1, t440⟩ : S81) [.int .i64 a1, .slice Ao42 t440.length co42] from (k81_mkF _ _ (⟨a1, t440⟩ : S81) (Kd.N_reads' (Kd.N_mono (ok' := (fun k_ => (P0_ k_ ∨ w.heap.size ≤ k_) ∧ some k_ ≠ (u9 : Value).ownBlock ∧ k_ ≠ gb415)) (HO442.out) (fun k_ hk => ⟨hk.1, ⟨hk.2.1, hk.2.2⟩⟩))).2.1 (Kd.N_F (Kd.N_mono (ok' := (fun k_ => (P0_ k_ ∨ w.heap.size ≤ k_) ∧ some k_ ≠ (u9 : Value).ownBlock ∧ k_ ≠ gb415)) (HO442.out) (fun k_ hk => ⟨hk.1, ⟨hk.2.1, hk.2.2⟩⟩))))) (Reps.none _ _))); intro v444 w43 ho44 hb hg_ hnew_; clear hg_ hnew_; (first | rw [← Ny443.out] at ho44 | (simp only [Int.reduceToNat] at ho44; rw [← Ny443.out] at ho44)); have n0_ := Aside0.mk (Kd.V_elder' (yV HO_0.out) (Kd.N_base ho44) hb); have n1_ := Aside0.mk (Kd.N_elder' (yN HO_9.out) (Kd.N_base ho44) hb); have n2_ := Aside0.mk (Kd.V_elder' (yV HO439.out) (Kd.N_base ho44) hb); have n3_ := Aside0.mk (Kd.N_lower ho44 (below_size yB)); have n4_ := Aside0.mk (blk_below (g := gb415) yK hb); have n5_ := Aside0.mk (below_step yB hb); clear HO_0; clear HO_9; clear HO439; clear BK415; clear HB; clear HO442; have HO_0 := n0_; have HO_9 := n1_; have HO439 := n2_; have HO445 := n3_; have BK415 := n4_; have HB := n5_; clear n0_ n1_ n2_ n3_ n4_ n5_; clear hb ho44; obtain ⟨Ao45, co45, eo45⟩ := Kd.N_slice HO445.out; subst eo45; obtain ⟨Ao46, co46, eo46⟩ := Kd.N_slice HO_9.out; subst eo46; have hcz47_0 := yZ0 BK415.out; have hcz47_1 := yZ1 BK415.out; have hfz47_0 := blk_frozen BK415.out 0; have hfz47_1 := blk_frozen BK415.out 1))
          refine bodyPost_ret (results_ct rfl _ _ gb415 54 #[.slice Ao46 x9_3.length co46, .slice Ao45 y443.length co45] (0, 0) _ rfl (by refine yH ?_; refine blk_put (cs := #[.slice Ao46 x9_3.length co46, .slice none 0 0]) ?_ 1 _ rfl; refine yH ?_; refine blk_put (cs := #[.slice none 0 0, .slice none 0 0]) ?_ 0 _ rfl; refine yH ?_; exact BK415.out) Try.underlying54 rfl (by kernel_rfl)) rfl ?_
          exact ⟨_, _, yE, by refine yN ?_; exact Kd.N_mono (Kd.N_far (p := ⟨gb415, 1, none⟩) (Kd.N_far (p := ⟨gb415, 0, none⟩) (Kd.N_mono HO_9.out (fun k_ hk => (⟨hk, hk.1.1.2⟩ : _ ∧ k_ ≠ gb415))) (fun _ hk => hk.2) (.slice Ao46 x9_3.length co46)) (fun _ hk => hk.2) (.slice Ao45 y443.length co45)) (fun _ hk => ⟨hk.1.1.1.1, hk.1.2⟩), by refine yN ?_; exact Kd.N_mono (Kd.N_far (p := ⟨gb415, 1, none⟩) (Kd.N_far (p := ⟨gb415, 0, none⟩) (Kd.N_mono HO445.out (fun k_ hk => (⟨hk, hk.2.2⟩ : _ ∧ k_ ≠ gb415))) (fun _ hk => hk.2) (.slice Ao46 x9_3.length co46)) (fun _ hk => hk.2) (.slice Ao45 y443.length co45)) (fun _ hk => ⟨hk.1.1, hk.1.2.1⟩), yB⟩
         rw [if_neg c38] at H
         exact absurd H (by simp)
        rw [if_neg c37] at H
        exact absurd H (by simp)
       rw [if_neg c36] at H
       exact absurd H (by simp)
mutual
def swarfref43_Same.j0 : Nat → Bool → List (S32) → List (S58) → List (S32) → List (S58) → Option (Bool)
 | 0, _, _, _, _, _ => none
 | k + 1, x20, x644000, x644001, x645000, x645001 => if x20 = true then (some false) else (swarfref43_Same.l0 k 0 x644000 x644001 x645000 x645001)
def swarfref43_Same.l0 : Nat → Int → List (S32) → List (S58) → List (S32) → List (S58) → Option (Bool)
 | 0, _, _, _, _, _ => none
 | k + 1, x5, x644000, x644001, x645000, x645001 => if x5 < (x644001.length : Int) then (if 0 ≤ x5 then (if x5 < (x645001.length : Int) then (if ((rd_T58 x644001 x5).f0) = ((rd_T58 x645001 x5).f0) then ((swarfref41_Same.f k ((rd_T58 x644001 x5).f1) ((rd_T58 x645001 x5).f1)).bind fun t650 => (if t650 = true then (swarfref43_Same.l0 k (wrap64 (x5 + 1)) x644000 x644001 x645000 x645001) else (some false))) else (some false)) else (none)) else (none)) else (some true)
end
def swarfref43_Same.f (k : Nat) (l0_0 : List (S32)) (l0_1 : List (S58)) (l1_0 : List (S32)) (l1_1 : List (S58)) : Option (Bool) := (swarfref41_Same.f k l0_0 l1_0).bind fun t645 => (if t645 = true then (swarfref43_Same.j0 k ((l0_1.length : Int) != (l1_1.length : Int)) l0_0 l0_1 l1_0 l1_1) else (swarfref43_Same.j0 k true l0_0 l0_1 l1_0 l1_1))
def swarfref43_Same.T6 : Bool × List (List Nat × List Nat) := (true, [([], []), ([0], [0]), ([], []), ([1, 2], [1, 2]), ([3], [3]), ([4], [4]), ([], []), ([6], [6]), ([], []), ([7, 8], [7, 8]), ([9], [9]), ([10], [10]), ([5, 11], [5, 11]), ([12], [12]), ([13], [13]), ([14, 13], [13, 14]), ([13], [13]), ([15, 16, 13], [13, 15, 16]), ([17, 13], [13, 17]), ([18, 13], [13, 18]), ([13], [13]), ([20, 13], [13, 20]), ([13], [13]), ([21, 22, 13], [13, 21, 22]), ([23, 13], [13, 23]), ([24, 13], [13, 24]), ([19, 25, 13, 13], [13, 19, 25]), ([26, 13], [13, 26]), ([13, 27], [13, 27])])
def swarfref43_Same.B6 : List Nat := [0, 1, 0, 7, 15, 31, 0, 64, 0, 448, 960, 1984, 4095, 8191, 16383, 32767, 16383, 131071, 262143, 524287, 16383, 1064959, 16383, 7356415, 15745023, 32522239, 67108863, 134217727, 268435455]
theorem swarfref43_Same.tab6 : rtab .any (opsOf Try.f35 6) = swarfref43_Same.T6 := by kernel_rfl
theorem swarfref43_Same.bits6 : waitsOk swarfref43_Same.T6.2 swarfref43_Same.B6 = true := by kernel_rfl
set_option maxHeartbeats 8000000 in
set_option maxRecDepth 100000 in
theorem swarfref43_Same.calls (k : Nat) (A0_0 : Option Addr) (c0_0 : Nat) (l0_0 : List (S32)) (A0_1 : Option Addr) (c0_1 : Nat) (l0_1 : List (S58)) (A1_0 : Option Addr) (c1_0 : Nat) (l1_0 : List (S32)) (A1_1 : Option Addr) (c1_1 : Nat) (l1_1 : List (S58)) (r : Bool) (w : World) (hr0_0 : Kd.C k32 w A0_0 l0_0.length l0_0) (hc0_0 : l0_0.length ≤ c0_0) (hr0_1 : Kd.C k58 w A0_1 l0_1.length l0_1) (hc0_1 : l0_1.length ≤ c0_1) (hr1_0 : Kd.C k32 w A1_0 l1_0.length l1_0) (hc1_0 : l1_0.length ≤ c1_0) (hr1_1 : Kd.C k58 w A1_1 l1_1.length l1_1) (hc1_1 : l1_1.length ≤ c1_1) (h : swarfref43_Same.f k l0_0 l0_1 l1_0 l1_1 = some r) :
  Calls Try.prog 35 #[.agg #[.slice A0_0 l0_0.length c0_0, .slice A0_1 l0_1.length c0_1], .agg #[.slice A1_0 l1_0.length c1_0, .slice A1_1 l1_1.length c1_1]] w fun e w' => e = .returned (.bool r) ∧ Below w.heap.size w w' := by
 have hu48 := Try.underlying48
 have HR0_0 := Aside0.mk hr0_0
 have HC0_0 := Aside0.mk hc0_0
 clear hr0_0 hc0_0
 have HR0_1 := Aside0.mk hr0_1
 have HC0_1 := Aside0.mk hc0_1
 clear hr0_1 hc0_1
 have HR1_0 := Aside0.mk hr1_0
 have HC1_0 := Aside0.mk hc1_0
 clear hr1_0 hc1_0
 have HR1_1 := Aside0.mk hr1_1
 have HC1_1 := Aside0.mk hc1_1
 clear hr1_1 hc1_1
 have HB := Aside0.mk (Below.refl w.heap.size w)
 have H : ((swarfref41_Same.f k l0_0 l1_0).bind fun t645 => (if t645 = true then (swarfref43_Same.j0 k ((l0_1.length : Int) != (l1_1.length : Int)) l0_0 l0_1 l1_0 l1_1) else (swarfref43_Same.j0 k true l0_0 l0_1 l1_0 l1_1))) = some r := h
 clear h
 have HC3 := Aside0.mk H
 clear H
 go_enter Try.func35, Try.ntmps35
 go_upto_region 1 with (first | ((with_reducible refine gate_dst (N := 2) rfl ?_); (try (refine gate_guard (by rfl) ?_; dsimp only)); refine yX 2 #[.slice A0_0 l0_0.length c0_0, .slice A0_1 l0_1.length c0_1] 48 ?_; intro gb643 hg w4 hbox hb; have BK643 := Aside0.mk (hbox); have GE643 := Aside0.mk ((yG hg : w.heap.size ≤ gb643)); replace HB := Aside0.mk (below_step yB hb); clear hb hbox hg) | ((with_reducible refine gate_dst (N := 3) rfl ?_); (try (refine gate_guard (by rfl) ?_; dsimp only)); refine yX 3 #[.slice A1_0 l1_0.length c1_0, .slice A1_1 l1_1.length c1_1] 48 ?_; intro gb644 hg w5 hbox hb; have BK644 := Aside0.mk (hbox); have GE644 := Aside0.mk ((yG hg : w.heap.size ≤ gb644)); replace HB := Aside0.mk (below_step yB hb); have NB643_644 := Aside0.mk ((yJ hg yK : gb643 ≠ gb644)); have NB644_643 := Aside0.mk ((yI hg yK : gb644 ≠ gb643)); replace BK643 := Aside0.mk (blk_below (g := gb643) yK hb); clear hb hbox hg))
 (try simp only [Act.put, List.setIfInBounds_toArray, List.set_cons_zero, List.set_cons_succ])
 go_cut [20] (fun v20 wc => ∃ (kq : Nat) (x20_2 : Bool), v20 = .bool x20_2 ∧ Aside0 (swarfref43_Same.j0 kq x20_2 l0_0 l0_1 l1_0 l1_1 = some r) ∧ Aside0 (kq ≤ k) ∧ Aside0 (wc.heap[gb643]? = some (.cells #[(.slice A0_0 l0_0.length c0_0), (.slice A0_1 l0_1.length c0_1)] 48 (0, 0))) ∧ Aside0 (wc.heap[gb644]? = some (.cells #[(.slice A1_0 l1_0.length c1_0), (.slice A1_1 l1_1.length c1_1)] 48 (0, 0))) ∧ Aside0 (Below w.heap.size w wc))
 case first =>
  have H := HC3.out
  clear HC3
  replace H := Option.bind_eq_some_iff.mp H
  obtain ⟨t645, A60, H⟩ := H
  have A6 := Aside0.mk A60
  clear A60
  by_cases c7 : t645 = true
  ·subst c7
   rw [if_pos rfl] at H
   have H' := Aside0.mk H
   clear H
   have hnb8 := NB643_644.out
   have hnc8 := NB644_643.out
   have hcz9_0 := yZ0 BK643.out
   have hcz9_1 := yZ1 BK643.out
   have hfz9_0 := blk_frozen BK643.out 0
   have hfz9_1 := blk_frozen BK643.out 1
   have hcz10_0 := yZ0 BK644.out
   have hcz10_1 := yZ1 BK644.out
   have hfz10_0 := blk_frozen BK644.out 0
   have hfz10_1 := blk_frozen BK644.out 1
   go_wp2_with (first | ((with_reducible refine gate_callee (f := 19) rfl ?_); refine goesL_ (some 10) rfl rfl Try.func19 (by kernel_rfl) rfl #[.slice A0_0 l0_0.length c0_0, .slice A1_0 l1_0.length c1_0] rfl yQ ?_; (with_reducible refine (swarfref41_Same.calls k _ _ l0_0 _ _ l1_0 true _ ?side1 ?side2 ?side3 ?side4 A6.out).mono ?_); (case side1 => exact yC HR0_0.out); (case side2 => exact HC0_0.out); (case side3 => exact yC HR1_0.out); (case side4 => exact HC1_0.out); rintro e w11 ⟨rfl, hb⟩; refine ⟨_, rfl, ?_⟩; replace BK643 := Aside0.mk (blk_below (g := gb643) yK hb); replace BK644 := Aside0.mk (blk_below (g := gb644) yK hb); replace HB := Aside0.mk (below_step yB hb); (try clear hb); have hcz12_0 := yZ0 BK643.out; have hcz12_1 := yZ1 BK643.out; have hfz12_0 := blk_frozen BK643.out 0; have hfz12_1 := blk_frozen BK643.out 1; have hcz13_0 := yZ0 BK644.out; have hcz13_1 := yZ1 BK644.out; have hfz13_0 := blk_frozen BK644.out 0; have hfz13_1 := blk_frozen BK644.out 1))
   go_meet
   case rel => exact ⟨_, (((l0_1.length : Int) != (l1_1.length : Int))), yS, H', ⟨by first | omega | exact Nat.le_refl _⟩, ⟨by refine yH ?_; exact BK643.out⟩, ⟨by refine yH ?_; exact BK644.out⟩, ⟨yB⟩⟩
  replace c7 := Bool.eq_false_iff.mpr c7
  subst c7
  replace H : (swarfref43_Same.j0 k true l0_0 l0_1 l1_0 l1_1) = some r := by rw [if_neg (show ¬ (false = true) by decide)] at H; exact H
  have H' := Aside0.mk H
  clear H
  have hnb14 := NB643_644.out
  have hnc14 := NB644_643.out
  have hcz15_0 := yZ0 BK643.out
  have hcz15_1 := yZ1 BK643.out
  have hfz15_0 := blk_frozen BK643.out 0
  have hfz15_1 := blk_frozen BK643.out 1
  have hcz16_0 := yZ0 BK644.out
  have hcz16_1 := yZ1 BK644.out
  have hfz16_0 := blk_frozen BK644.out 0
  have hfz16_1 := blk_frozen BK644.out 1
  go_wp2_with (first | ((with_reducible refine gate_callee (f := 19) rfl ?_); refine goesL_ (some 10) rfl rfl Try.func19 (by kernel_rfl) rfl #[.slice A0_0 l0_0.length c0_0, .slice A1_0 l1_0.length c1_0] rfl yQ ?_; (with_reducible refine (swarfref41_Same.calls k _ _ l0_0 _ _ l1_0 false _ ?side1 ?side2 ?side3 ?side4 A6.out).mono ?_); (case side1 => exact yC HR0_0.out); (case side2 => exact HC0_0.out); (case side3 => exact yC HR1_0.out); (case side4 => exact HC1_0.out); rintro e w17 ⟨rfl, hb⟩; refine ⟨_, rfl, ?_⟩; replace BK643 := Aside0.mk (blk_below (g := gb643) yK hb); replace BK644 := Aside0.mk (blk_below (g := gb644) yK hb); replace HB := Aside0.mk (below_step yB hb); (try clear hb)))
  go_meet
  case rel => exact ⟨_, (true), yS, H', ⟨by first | omega | exact Nat.le_refl _⟩, ⟨by refine yH ?_; exact BK643.out⟩, ⟨by refine yH ?_; exact BK644.out⟩, ⟨yB⟩⟩
 case rest =>
  clear HC3
  try clear c1
  try clear p2
  try clear c3
  try clear c7
  try clear c8
  try clear c14
  try clear hcz10_0
  try clear hcz10_1
  try clear hcz12_0
  try clear hcz12_1
  try clear hcz13_0
  try clear hcz13_1
  try clear hcz15_0
  try clear hcz15_1
  try clear hcz16_0
  try clear hcz16_1
  try clear hcz9_0
  try clear hcz9_1
  try clear hfz10_0
  try clear hfz10_1
  try clear hfz12_0
  try clear hfz12_1
  try clear hfz13_0
  try clear hfz13_1
  try clear hfz15_0
  try clear hfz15_1
  try clear hfz16_0
  try clear hfz16_1
  try clear hfz9_0
  try clear hfz9_1
  obtain ⟨kq, x20_2, rfl, HA, HJ2, BK643, BK644, HB⟩ := hcut
  cases kq with
  | zero => exact absurd HA.out (by simp [swarfref43_Same.j0])
  | succ kj2 =>
   have H := HA.out
   clear HA
   simp only [swarfref43_Same.j0] at H
   by_cases c18 : x20_2 = true
   ·subst c18
    rw [if_pos rfl] at H
    obtain rfl := Option.some.inj H
    go_wp2
    go_ret
    exact ⟨yE, yB⟩
   replace c18 := Bool.eq_false_iff.mpr c18
   subst c18
   replace H : (swarfref43_Same.l0 kj2 0 l0_0 l0_1 l1_0 l1_1) = some r := by rw [if_neg (show ¬ (false = true) by decide)] at H; exact H
   have H' := Aside0.mk H
   clear H
   go_wp2
   go_loopg [5] kj2 (fun kq v5 w' => ∃ (x5_2 : Int), v5 = .int .i64 x5_2 ∧ Aside0 (swarfref43_Same.l0 kq x5_2 l0_0 l0_1 l1_0 l1_1 = some r) ∧ Aside0 (kq ≤ kj2) ∧ Aside0 (w'.heap[gb643]? = some (.cells #[(.slice A0_0 l0_0.length c0_0), (.slice A0_1 l0_1.length c0_1)] 48 (0, 0))) ∧ Aside0 (w'.heap[gb644]? = some (.cells #[(.slice A1_0 l1_0.length c1_0), (.slice A1_1 l1_1.length c1_1)] 48 (0, 0))) ∧ Aside0 (Below w.heap.size w w'))
   case atStart => exact ⟨(0), yS, H', ⟨Nat.le_refl _⟩, ⟨by refine yH ?_; exact BK643.out⟩, ⟨by refine yH ?_; exact BK644.out⟩, ⟨yB⟩⟩
   case round =>
    clear H'
    try clear c1
    try clear p2
    try clear c3
    try clear c7
    try clear c8
    try clear c14
    try clear c18
    try clear hcz10_0
    try clear hcz10_1
    try clear hcz12_0
    try clear hcz12_1
    try clear hcz13_0
    try clear hcz13_1
    try clear hcz15_0
    try clear hcz15_1
    try clear hcz16_0
    try clear hcz16_1
    try clear hcz9_0
    try clear hcz9_1
    try clear hfz10_0
    try clear hfz10_1
    try clear hfz12_0
    try clear hfz12_1
    try clear hfz13_0
    try clear hfz13_1
    try clear hfz15_0
    try clear hfz15_1
    try clear hfz16_0
    try clear hfz16_1
    try clear hfz9_0
    try clear hfz9_1
    try clear p2
    obtain ⟨x5_2, rfl, HA, HK2, BK643, BK644, HB⟩ := hrel
    cases gk with
    | zero => exact absurd HA.out (by simp [swarfref43_Same.l0])
    | succ k2 =>
     have H := HA.out
     clear HA
     simp only [swarfref43_Same.l0] at H
     by_cases c19 : x5_2 < (l0_1.length : Int)
     ·rw [if_pos c19] at H
      have c19b0 := decide_eq_true c19
      clear c19
      by_cases c20 : 0 ≤ x5_2
      ·rw [if_pos c20] at H
       have c20b0 := decide_eq_true c20
       clear c20
       by_cases c21 : x5_2 < (l1_1.length : Int)
       ·rw [if_pos c21] at H
        have c21b0 := decide_eq_true c21
        clear c21
        by_cases c22 : ((rd_T58 l0_1 x5_2).f0) = ((rd_T58 l1_1 x5_2).f0)
        ·rw [if_pos c22] at H
         have c22b0 : (((rd_T58 l0_1 x5_2).f0) == ((rd_T58 l1_1 x5_2).f0)) = true := beq_iff_eq.mpr c22
         have c22b1 : (((rd_T58 l0_1 x5_2).f0) != ((rd_T58 l1_1 x5_2).f0)) = false := bne_eq_false_iff_eq.mpr c22
         clear c22
         replace H := Option.bind_eq_some_iff.mp H
         obtain ⟨t650, A230, H⟩ := H
         have A23 := Aside0.mk A230
         clear A230
         by_cases c24 : t650 = true
         ·subst c24
          rw [if_pos rfl] at H
          have H' := Aside0.mk H
          clear H
          have hnb25 := NB643_644.out
          have hnc25 := NB644_643.out
          have hcz26_0 := yZ0 BK643.out
          have hcz26_1 := yZ1 BK643.out
          have hfz26_0 := blk_frozen BK643.out 0
          have hfz26_1 := blk_frozen BK643.out 1
          try go_wp2
          replace BK643 := Aside0.mk (blk_drew BK643.out)
          replace BK644 := Aside0.mk (blk_drew BK644.out)
          replace HB := Aside0.mk (below_drew1 HB.out)
          have p646 : 0 ≤ (x5_2 : Int) := yD
          have q646 : x5_2 < (l0_1.length : Int) := yD
          obtain ⟨ad646, A646_1, c646_1, e646, hx646_0, hx646_1, hl646_1, hi646_1⟩ := at_T58 HR0_1.out x5_2 p646 q646
          have hw646_1 := hx646_1
          have hw646_0 := hx646_0
          cases e646
          replace hx646_0 := yM HB.out hx646_0
          replace hx646_1 := yM HB.out hx646_1
          have HR646_1 := Aside0.mk hi646_1
          have HC646_1 := Aside0.mk hl646_1
          clear hi646_1 hl646_1
          replace p646 := eq_true p646
          replace q646 := eq_true q646
          have p647 : 0 ≤ (x5_2 : Int) := yD
          have q647 : x5_2 < (l1_1.length : Int) := yD
          obtain ⟨ad647, A647_1, c647_1, e647, hx647_0, hx647_1, hl647_1, hi647_1⟩ := at_T58 HR1_1.out x5_2 p647 q647
          have hw647_1 := hx647_1
          have hw647_0 := hx647_0
          cases e647
          replace hx647_0 := yM HB.out hx647_0
          replace hx647_1 := yM HB.out hx647_1
          have HR647_1 := Aside0.mk hi647_1
          have HC647_1 := Aside0.mk hl647_1
          clear hi647_1 hl647_1
          replace p647 := eq_true p647
          replace q647 := eq_true q647
          have p648 : 0 ≤ (x5_2 : Int) := yD
          have q648 : x5_2 < (l0_1.length : Int) := yD
          obtain ⟨ad648, A648_1, c648_1, e648, hx648_0, hx648_1, hl648_1, hi648_1⟩ := at_T58 HR0_1.out x5_2 p648 q648
          have hw648_1 := hx648_1
          have hw648_0 := hx648_0
          obtain rfl : ad646 = ad648 := (by injection e648)
          have HQA648_1 := Aside0.mk (show A648_1 = A646_1 from by first | (have e_ := Option.some.inj (hw646_1.symm.trans hw648_1); injection e_ with e1_ e2_ e3_; exact e1_.symm) | (have e_ := Option.some.inj (hx646_1.symm.trans hx648_1); injection e_ with e1_ e2_ e3_; exact e1_.symm))
          have HQc648_1 := Aside0.mk (show c648_1 = c646_1 from by first | (have e_ := Option.some.inj (hw646_1.symm.trans hw648_1); injection e_ with e1_ e2_ e3_; exact e3_.symm) | (have e_ := Option.some.inj (hx646_1.symm.trans hx648_1); injection e_ with e1_ e2_ e3_; exact e3_.symm))
          replace hx648_0 := yM HB.out hx648_0
          replace hx648_1 := yM HB.out hx648_1
          have HR648_1 := Aside0.mk hi648_1
          have HC648_1 := Aside0.mk hl648_1
          clear hi648_1 hl648_1
          replace p648 := eq_true p648
          replace q648 := eq_true q648
          have ea_ := Option.some.inj (hx646_1.symm.trans hx648_1)
          injection ea_ with ea_ en_ ec_
          subst ea_
          subst ec_
          clear en_
          have p649 : 0 ≤ (x5_2 : Int) := yD
          have q649 : x5_2 < (l1_1.length : Int) := yD
          obtain ⟨ad649, A649_1, c649_1, e649, hx649_0, hx649_1, hl649_1, hi649_1⟩ := at_T58 HR1_1.out x5_2 p649 q649
          have hw649_1 := hx649_1
          have hw649_0 := hx649_0
          obtain rfl : ad647 = ad649 := (by injection e649)
          have HQA649_1 := Aside0.mk (show A649_1 = A647_1 from by first | (have e_ := Option.some.inj (hw647_1.symm.trans hw649_1); injection e_ with e1_ e2_ e3_; exact e1_.symm) | (have e_ := Option.some.inj (hx647_1.symm.trans hx649_1); injection e_ with e1_ e2_ e3_; exact e1_.symm))
          have HQc649_1 := Aside0.mk (show c649_1 = c647_1 from by first | (have e_ := Option.some.inj (hw647_1.symm.trans hw649_1); injection e_ with e1_ e2_ e3_; exact e3_.symm) | (have e_ := Option.some.inj (hx647_1.symm.trans hx649_1); injection e_ with e1_ e2_ e3_; exact e3_.symm))
          replace hx649_0 := yM HB.out hx649_0
          replace hx649_1 := yM HB.out hx649_1
          have HR649_1 := Aside0.mk hi649_1
          have HC649_1 := Aside0.mk hl649_1
          clear hi649_1 hl649_1
          replace p649 := eq_true p649
          replace q649 := eq_true q649
          have ea_ := Option.some.inj (hx647_1.symm.trans hx649_1)
          injection ea_ with ea_ en_ ec_
          subst ea_
          subst ec_
          clear en_
          refine start_ (n := 29) (S := fun w' => w'.cell? ⟨gb643, 0, none⟩ = some (.slice A0_0 l0_0.length c0_0) ∧ w'.cell? ⟨gb643, 1, none⟩ = some (.slice (some ad646) l0_1.length c0_1) ∧ w'.cell? ⟨gb644, 0, none⟩ = some (.slice A1_0 l1_0.length c1_0) ∧ w'.cell? ⟨gb644, 1, none⟩ = some (.slice (some ad647) l1_1.length c1_1) ∧ w'.cell? (ad646.add ((x5_2).toNat * 2)) = some (.int .i64 ((rd_T58 l0_1 x5_2).f0)) ∧ w'.cell? ⟨(ad646.add ((x5_2).toNat * 2)).block, (ad646.add ((x5_2).toNat * 2)).off + 1, none⟩ = some (.slice A646_1 ((rd_T58 l0_1 x5_2).f1).length c646_1) ∧ w'.cell? (ad647.add ((x5_2).toNat * 2)) = some (.int .i64 ((rd_T58 l1_1 x5_2).f0)) ∧ w'.cell? ⟨(ad647.add ((x5_2).toNat * 2)).block, (ad647.add ((x5_2).toNat * 2)).off + 1, none⟩ = some (.slice A647_1 ((rd_T58 l1_1 x5_2).f1).length c647_1) ∧ w'.cell? (ad646.add ((x5_2).toNat * 2)) = some (.int .i64 ((rd_T58 l0_1 x5_2).f0)) ∧ w'.cell? ⟨(ad646.add ((x5_2).toNat * 2)).block, (ad646.add ((x5_2).toNat * 2)).off + 1, none⟩ = some (.slice A646_1 ((rd_T58 l0_1 x5_2).f1).length c646_1) ∧ w'.cell? (ad647.add ((x5_2).toNat * 2)) = some (.int .i64 ((rd_T58 l1_1 x5_2).f0)) ∧ w'.cell? ⟨(ad647.add ((x5_2).toNat * 2)).block, (ad647.add ((x5_2).toNat * 2)).off + 1, none⟩ = some (.slice A647_1 ((rd_T58 l1_1 x5_2).f1).length c647_1)) (ds := []) #[false, false, false, false, false, false, false, false, false, false, false, false, false, false, false, false, false, false, false, false, false, false, false, false, false, false, false, false, false] (by kernel_rfl) rfl rfl ⟨(blk_cell BK643.out 0).trans rfl, (blk_cell BK643.out 1).trans rfl, (blk_cell BK644.out 0).trans rfl, (blk_cell BK644.out 1).trans rfl, (yM HB.out hw646_0), (yM HB.out hw646_1), (yM HB.out hw647_0), (yM HB.out hw647_1), (yM HB.out hw648_0), (yM HB.out hw648_1), (yM HB.out hw649_0), (yM HB.out hw649_1)⟩ (fun hHeld => ?_); refine with_tabW swarfref43_Same.tab6 swarfref43_Same.bits6 (fun HT_ HW_ => ?_)
          generalize wr.drew = w27 at BK643 BK644 HB HR646_1 HR647_1 HR648_1 HR649_1 hx646_0 hx646_1 hx647_0 hx647_1 hx648_0 hx648_1 hx649_0 hx649_1 hHeld ⊢
          refine yp 0 28 ?_
          refine yp 2 30 ?_
          refine yp 6 34 ?_
          refine yp 8 36 ?_
          refine yt 1 29 hHeld ?_
          refine yp 3 31 ?_
          refine yp 4 32 ?_
          refine yt 5 33 hHeld ?_
          refine yt 7 35 hHeld ?_
          refine yp 9 37 ?_
          refine yp 10 38 ?_
          refine yt 11 39 hHeld ?_
          refine yp 12 40 ?_
          refine yp 13 41 ?_
          refine yp 14 42 ?_
          refine yp 16 44 ?_
          refine yp 20 48 ?_
          refine yp 22 50 ?_
          refine yt 15 43 hHeld ?_
          refine yp 17 45 ?_
          refine yp 18 46 ?_
          refine yt 19 47 hHeld ?_
          refine yt 21 49 hHeld ?_
          refine yp 23 51 ?_
          refine yp 24 52 ?_
          refine yt 25 53 hHeld ?_
          refine yo 26 (some 54) (fun K hK => ?_)
          refine goes_ Try.func19 (by kernel_rfl) rfl #[.slice A646_1 ((rd_T58 l0_1 x5_2).f1).length c646_1, .slice A647_1 ((rd_T58 l1_1 x5_2).f1).length c647_1] (by rfl) rfl rfl (by (try simp only [List.map_toArray, List.map_cons, List.map_nil]); first | done | rfl | (simp only [List.length_drop, List.length_take]; rfl) | (simp only [HQA649_1.out, HQc649_1.out]; rfl) | (simp only [HQA648_1.out, HQc648_1.out]; rfl) | (simp only [HQA648_1.out, HQc648_1.out, HQA649_1.out, HQc649_1.out]; rfl)) ?_
          with_reducible refine (swarfref41_Same.calls k2 _ _ ((rd_T58 l0_1 x5_2).f1) _ _ ((rd_T58 l1_1 x5_2).f1) true _ ?side1 ?side2 ?side3 ?side4 A23.out).mono ?_
          (case side1 => exact yC HR648_1.out)
          (case side2 => exact HC648_1.out)
          (case side3 => exact yC HR649_1.out)
          (case side4 => exact HC649_1.out)
          rintro e w28 ⟨rfl, hb⟩
          refine ⟨_, rfl, ?_⟩
          replace BK643 := Aside0.mk (blk_below (g := gb643) yK hb)
          replace BK644 := Aside0.mk (blk_below (g := gb644) yK hb)
          replace HB := Aside0.mk (below_step yB hb)
          (try clear hb)
          refine hK.out _ _ ⟨(blk_cell BK643.out 0).trans rfl, (blk_cell BK643.out 1).trans rfl, (blk_cell BK644.out 0).trans rfl, (blk_cell BK644.out 1).trans rfl, (yM HB.out hw646_0), (yM HB.out hw646_1), (yM HB.out hw647_0), (yM HB.out hw647_1), (yM HB.out hw648_0), (yM HB.out hw648_1), (yM HB.out hw649_0), (yM HB.out hw649_1)⟩ (fun hHeld => ?_)
          clear hK K
          refine yn 54 ?_
          refine yp 27 55 ?_
          refine yp 28 56 ?_
          refine done_ (done_of HT_.out (by kernel_rfl)) ?_
          try go_wp2
          go_roundg k2
          case measure => have := HJ2.out; have := HK2.out; omega
          case rel => exact ⟨(wrap64 (x5_2 + 1)), yS, H', ⟨by have := HJ2.out; have := HK2.out; omega⟩, ⟨by refine yH ?_; exact BK643.out⟩, ⟨by refine yH ?_; exact BK644.out⟩, ⟨yB⟩⟩
         replace c24 := Bool.eq_false_iff.mpr c24
         subst c24
         replace H : (some false) = some r := by rw [if_neg (show ¬ (false = true) by decide)] at H; exact H
         obtain rfl := Option.some.inj H
         have hnb29 := NB643_644.out
         have hnc29 := NB644_643.out
         have hcz30_0 := yZ0 BK643.out
         have hcz30_1 := yZ1 BK643.out
         have hfz30_0 := blk_frozen BK643.out 0
         have hfz30_1 := blk_frozen BK643.out 1
         try go_wp2
         replace BK643 := Aside0.mk (blk_drew BK643.out)
         replace BK644 := Aside0.mk (blk_drew BK644.out)
         replace HB := Aside0.mk (below_drew1 HB.out)
         have p646 : 0 ≤ (x5_2 : Int) := yD
         have q646 : x5_2 < (l0_1.length : Int) := yD
         obtain ⟨ad646, A646_1, c646_1, e646, hx646_0, hx646_1, hl646_1, hi646_1⟩ := at_T58 HR0_1.out x5_2 p646 q646
         have hw646_1 := hx646_1
         have hw646_0 := hx646_0
         cases e646
         replace hx646_0 := yM HB.out hx646_0
         replace hx646_1 := yM HB.out hx646_1
         have HR646_1 := Aside0.mk hi646_1
         have HC646_1 := Aside0.mk hl646_1
         clear hi646_1 hl646_1
         replace p646 := eq_true p646
         replace q646 := eq_true q646
         have p647 : 0 ≤ (x5_2 : Int) := yD
         have q647 : x5_2 < (l1_1.length : Int) := yD
         obtain ⟨ad647, A647_1, c647_1, e647, hx647_0, hx647_1, hl647_1, hi647_1⟩ := at_T58 HR1_1.out x5_2 p647 q647
         have hw647_1 := hx647_1
         have hw647_0 := hx647_0
         cases e647
         replace hx647_0 := yM HB.out hx647_0
         replace hx647_1 := yM HB.out hx647_1
         have HR647_1 := Aside0.mk hi647_1
         have HC647_1 := Aside0.mk hl647_1
         clear hi647_1 hl647_1
         replace p647 := eq_true p647
         replace q647 := eq_true q647
         have p648 : 0 ≤ (x5_2 : Int) := yD
         have q648 : x5_2 < (l0_1.length : Int) := yD
         obtain ⟨ad648, A648_1, c648_1, e648, hx648_0, hx648_1, hl648_1, hi648_1⟩ := at_T58 HR0_1.out x5_2 p648 q648
         have hw648_1 := hx648_1
         have hw648_0 := hx648_0
         obtain rfl : ad646 = ad648 := (by injection e648)
         have HQA648_1 := Aside0.mk (show A648_1 = A646_1 from by first | (have e_ := Option.some.inj (hw646_1.symm.trans hw648_1); injection e_ with e1_ e2_ e3_; exact e1_.symm) | (have e_ := Option.some.inj (hx646_1.symm.trans hx648_1); injection e_ with e1_ e2_ e3_; exact e1_.symm))
         have HQc648_1 := Aside0.mk (show c648_1 = c646_1 from by first | (have e_ := Option.some.inj (hw646_1.symm.trans hw648_1); injection e_ with e1_ e2_ e3_; exact e3_.symm) | (have e_ := Option.some.inj (hx646_1.symm.trans hx648_1); injection e_ with e1_ e2_ e3_; exact e3_.symm))
         replace hx648_0 := yM HB.out hx648_0
         replace hx648_1 := yM HB.out hx648_1
         have HR648_1 := Aside0.mk hi648_1
         have HC648_1 := Aside0.mk hl648_1
         clear hi648_1 hl648_1
         replace p648 := eq_true p648
         replace q648 := eq_true q648
         have ea_ := Option.some.inj (hx646_1.symm.trans hx648_1)
         injection ea_ with ea_ en_ ec_
         subst ea_
         subst ec_
         clear en_
         have p649 : 0 ≤ (x5_2 : Int) := yD
         have q649 : x5_2 < (l1_1.length : Int) := yD
         obtain ⟨ad649, A649_1, c649_1, e649, hx649_0, hx649_1, hl649_1, hi649_1⟩ := at_T58 HR1_1.out x5_2 p649 q649
         have hw649_1 := hx649_1
         have hw649_0 := hx649_0
         obtain rfl : ad647 = ad649 := (by injection e649)
         have HQA649_1 := Aside0.mk (show A649_1 = A647_1 from by first | (have e_ := Option.some.inj (hw647_1.symm.trans hw649_1); injection e_ with e1_ e2_ e3_; exact e1_.symm) | (have e_ := Option.some.inj (hx647_1.symm.trans hx649_1); injection e_ with e1_ e2_ e3_; exact e1_.symm))
         have HQc649_1 := Aside0.mk (show c649_1 = c647_1 from by first | (have e_ := Option.some.inj (hw647_1.symm.trans hw649_1); injection e_ with e1_ e2_ e3_; exact e3_.symm) | (have e_ := Option.some.inj (hx647_1.symm.trans hx649_1); injection e_ with e1_ e2_ e3_; exact e3_.symm))
         replace hx649_0 := yM HB.out hx649_0
         replace hx649_1 := yM HB.out hx649_1
         have HR649_1 := Aside0.mk hi649_1
         have HC649_1 := Aside0.mk hl649_1
         clear hi649_1 hl649_1
         replace p649 := eq_true p649
         replace q649 := eq_true q649
         have ea_ := Option.some.inj (hx647_1.symm.trans hx649_1)
         injection ea_ with ea_ en_ ec_
         subst ea_
         subst ec_
         clear en_
         refine start_ (n := 29) (S := fun w' => w'.cell? ⟨gb643, 0, none⟩ = some (.slice A0_0 l0_0.length c0_0) ∧ w'.cell? ⟨gb643, 1, none⟩ = some (.slice (some ad646) l0_1.length c0_1) ∧ w'.cell? ⟨gb644, 0, none⟩ = some (.slice A1_0 l1_0.length c1_0) ∧ w'.cell? ⟨gb644, 1, none⟩ = some (.slice (some ad647) l1_1.length c1_1) ∧ w'.cell? (ad646.add ((x5_2).toNat * 2)) = some (.int .i64 ((rd_T58 l0_1 x5_2).f0)) ∧ w'.cell? ⟨(ad646.add ((x5_2).toNat * 2)).block, (ad646.add ((x5_2).toNat * 2)).off + 1, none⟩ = some (.slice A646_1 ((rd_T58 l0_1 x5_2).f1).length c646_1) ∧ w'.cell? (ad647.add ((x5_2).toNat * 2)) = some (.int .i64 ((rd_T58 l1_1 x5_2).f0)) ∧ w'.cell? ⟨(ad647.add ((x5_2).toNat * 2)).block, (ad647.add ((x5_2).toNat * 2)).off + 1, none⟩ = some (.slice A647_1 ((rd_T58 l1_1 x5_2).f1).length c647_1) ∧ w'.cell? (ad646.add ((x5_2).toNat * 2)) = some (.int .i64 ((rd_T58 l0_1 x5_2).f0)) ∧ w'.cell? ⟨(ad646.add ((x5_2).toNat * 2)).block, (ad646.add ((x5_2).toNat * 2)).off + 1, none⟩ = some (.slice A646_1 ((rd_T58 l0_1 x5_2).f1).length c646_1) ∧ w'.cell? (ad647.add ((x5_2).toNat * 2)) = some (.int .i64 ((rd_T58 l1_1 x5_2).f0)) ∧ w'.cell? ⟨(ad647.add ((x5_2).toNat * 2)).block, (ad647.add ((x5_2).toNat * 2)).off + 1, none⟩ = some (.slice A647_1 ((rd_T58 l1_1 x5_2).f1).length c647_1)) (ds := []) #[false, false, false, false, false, false, false, false, false, false, false, false, false, false, false, false, false, false, false, false, false, false, false, false, false, false, false, false, false] (by kernel_rfl) rfl rfl ⟨(blk_cell BK643.out 0).trans rfl, (blk_cell BK643.out 1).trans rfl, (blk_cell BK644.out 0).trans rfl, (blk_cell BK644.out 1).trans rfl, (yM HB.out hw646_0), (yM HB.out hw646_1), (yM HB.out hw647_0), (yM HB.out hw647_1), (yM HB.out hw648_0), (yM HB.out hw648_1), (yM HB.out hw649_0), (yM HB.out hw649_1)⟩ (fun hHeld => ?_); refine with_tabW swarfref43_Same.tab6 swarfref43_Same.bits6 (fun HT_ HW_ => ?_)
         generalize wr.drew = w31 at BK643 BK644 HB HR646_1 HR647_1 HR648_1 HR649_1 hx646_0 hx646_1 hx647_0 hx647_1 hx648_0 hx648_1 hx649_0 hx649_1 hHeld ⊢
         refine yp 0 28 ?_
         refine yp 2 30 ?_
         refine yp 6 34 ?_
         refine yp 8 36 ?_
         refine yt 1 29 hHeld ?_
         refine yp 3 31 ?_
         refine yp 4 32 ?_
         refine yt 5 33 hHeld ?_
         refine yt 7 35 hHeld ?_
         refine yp 9 37 ?_
         refine yp 10 38 ?_
         refine yt 11 39 hHeld ?_
         refine yp 12 40 ?_
         refine yp 13 41 ?_
         refine yp 14 42 ?_
         refine yp 16 44 ?_
         refine yp 20 48 ?_
         refine yp 22 50 ?_
         refine yt 15 43 hHeld ?_
         refine yp 17 45 ?_
         refine yp 18 46 ?_
         refine yt 19 47 hHeld ?_
         refine yt 21 49 hHeld ?_
         refine yp 23 51 ?_
         refine yp 24 52 ?_
         refine yt 25 53 hHeld ?_
         refine yo 26 (some 54) (fun K hK => ?_)
         refine goes_ Try.func19 (by kernel_rfl) rfl #[.slice A646_1 ((rd_T58 l0_1 x5_2).f1).length c646_1, .slice A647_1 ((rd_T58 l1_1 x5_2).f1).length c647_1] (by rfl) rfl rfl (by (try simp only [List.map_toArray, List.map_cons, List.map_nil]); first | done | rfl | (simp only [List.length_drop, List.length_take]; rfl) | (simp only [HQA649_1.out, HQc649_1.out]; rfl) | (simp only [HQA648_1.out, HQc648_1.out]; rfl) | (simp only [HQA648_1.out, HQc648_1.out, HQA649_1.out, HQc649_1.out]; rfl)) ?_
         with_reducible refine (swarfref41_Same.calls k2 _ _ ((rd_T58 l0_1 x5_2).f1) _ _ ((rd_T58 l1_1 x5_2).f1) false _ ?side1 ?side2 ?side3 ?side4 A23.out).mono ?_
         (case side1 => exact yC HR648_1.out)
         (case side2 => exact HC648_1.out)
         (case side3 => exact yC HR649_1.out)
         (case side4 => exact HC649_1.out)
         rintro e w32 ⟨rfl, hb⟩
         refine ⟨_, rfl, ?_⟩
         replace BK643 := Aside0.mk (blk_below (g := gb643) yK hb)
         replace BK644 := Aside0.mk (blk_below (g := gb644) yK hb)
         replace HB := Aside0.mk (below_step yB hb)
         (try clear hb)
         refine hK.out _ _ ⟨(blk_cell BK643.out 0).trans rfl, (blk_cell BK643.out 1).trans rfl, (blk_cell BK644.out 0).trans rfl, (blk_cell BK644.out 1).trans rfl, (yM HB.out hw646_0), (yM HB.out hw646_1), (yM HB.out hw647_0), (yM HB.out hw647_1), (yM HB.out hw648_0), (yM HB.out hw648_1), (yM HB.out hw649_0), (yM HB.out hw649_1)⟩ (fun hHeld => ?_)
         clear hK K
         refine yn 54 ?_
         refine yp 27 55 ?_
         refine yp 28 56 ?_
         refine done_ (done_of HT_.out (by kernel_rfl)) ?_
         try go_wp2
         go_ret
         exact ⟨yE, yB⟩
        rw [if_neg c22] at H
        have c22b0 : (((rd_T58 l0_1 x5_2).f0) == ((rd_T58 l1_1 x5_2).f0)) = false := beq_eq_false_iff_ne.mpr c22
        have c22b1 : (((rd_T58 l0_1 x5_2).f0) != ((rd_T58 l1_1 x5_2).f0)) = true := bne_iff_ne.mpr c22
        obtain rfl := Option.some.inj H
        have hnb33 := NB643_644.out
        have hnc33 := NB644_643.out
        have hcz34_0 := yZ0 BK643.out
        have hcz34_1 := yZ1 BK643.out
        have hfz34_0 := blk_frozen BK643.out 0
        have hfz34_1 := blk_frozen BK643.out 1
        try go_wp2
        replace BK643 := Aside0.mk (blk_drew BK643.out)
        replace BK644 := Aside0.mk (blk_drew BK644.out)
        replace HB := Aside0.mk (below_drew1 HB.out)
        have p646 : 0 ≤ (x5_2 : Int) := yD
        have q646 : x5_2 < (l0_1.length : Int) := yD
        obtain ⟨ad646, A646_1, c646_1, e646, hx646_0, hx646_1, hl646_1, hi646_1⟩ := at_T58 HR0_1.out x5_2 p646 q646
        have hw646_1 := hx646_1
        have hw646_0 := hx646_0
        cases e646
        replace hx646_0 := yM HB.out hx646_0
        replace hx646_1 := yM HB.out hx646_1
        have HR646_1 := Aside0.mk hi646_1
        have HC646_1 := Aside0.mk hl646_1
        clear hi646_1 hl646_1
        replace p646 := eq_true p646
        replace q646 := eq_true q646
        have p647 : 0 ≤ (x5_2 : Int) := yD
        have q647 : x5_2 < (l1_1.length : Int) := yD
        obtain ⟨ad647, A647_1, c647_1, e647, hx647_0, hx647_1, hl647_1, hi647_1⟩ := at_T58 HR1_1.out x5_2 p647 q647
        have hw647_1 := hx647_1
        have hw647_0 := hx647_0
        cases e647
        replace hx647_0 := yM HB.out hx647_0
        replace hx647_1 := yM HB.out hx647_1
        have HR647_1 := Aside0.mk hi647_1
        have HC647_1 := Aside0.mk hl647_1
        clear hi647_1 hl647_1
        replace p647 := eq_true p647
        replace q647 := eq_true q647
        refine start_ (n := 29) (S := fun w' => w'.cell? ⟨gb643, 0, none⟩ = some (.slice A0_0 l0_0.length c0_0) ∧ w'.cell? ⟨gb643, 1, none⟩ = some (.slice (some ad646) l0_1.length c0_1) ∧ w'.cell? ⟨gb644, 0, none⟩ = some (.slice A1_0 l1_0.length c1_0) ∧ w'.cell? ⟨gb644, 1, none⟩ = some (.slice (some ad647) l1_1.length c1_1) ∧ w'.cell? (ad646.add ((x5_2).toNat * 2)) = some (.int .i64 ((rd_T58 l0_1 x5_2).f0)) ∧ w'.cell? ⟨(ad646.add ((x5_2).toNat * 2)).block, (ad646.add ((x5_2).toNat * 2)).off + 1, none⟩ = some (.slice A646_1 ((rd_T58 l0_1 x5_2).f1).length c646_1) ∧ w'.cell? (ad647.add ((x5_2).toNat * 2)) = some (.int .i64 ((rd_T58 l1_1 x5_2).f0)) ∧ w'.cell? ⟨(ad647.add ((x5_2).toNat * 2)).block, (ad647.add ((x5_2).toNat * 2)).off + 1, none⟩ = some (.slice A647_1 ((rd_T58 l1_1 x5_2).f1).length c647_1)) (ds := []) #[false, false, false, false, false, false, false, false, false, false, false, false, false, false, false, false, false, false, false, false, false, false, false, false, false, false, false, false, false] (by kernel_rfl) rfl rfl ⟨(blk_cell BK643.out 0).trans rfl, (blk_cell BK643.out 1).trans rfl, (blk_cell BK644.out 0).trans rfl, (blk_cell BK644.out 1).trans rfl, (yM HB.out hw646_0), (yM HB.out hw646_1), (yM HB.out hw647_0), (yM HB.out hw647_1)⟩ (fun hHeld => ?_); refine with_tabW swarfref43_Same.tab6 swarfref43_Same.bits6 (fun HT_ HW_ => ?_)
        generalize wr.drew = w35 at BK643 BK644 HB HR646_1 HR647_1 hx646_0 hx646_1 hx647_0 hx647_1 hHeld ⊢
        refine yp 0 28 ?_
        refine yp 2 30 ?_
        refine yp 6 34 ?_
        refine yp 8 36 ?_
        refine yt 1 29 hHeld ?_
        refine yp 3 31 ?_
        refine yp 4 32 ?_
        refine yt 5 33 hHeld ?_
        refine yt 7 35 hHeld ?_
        refine yp 9 37 ?_
        refine yp 10 38 ?_
        refine yt 11 39 hHeld ?_
        refine yp 12 40 ?_
        refine yp 13 41 ?_
        refine yu 14 42 ?_
        refine yu 15 43 ?_
        refine yu 16 44 ?_
        refine yu 17 45 ?_
        refine yu 18 46 ?_
        refine yu 19 47 ?_
        refine yu 20 48 ?_
        refine yu 21 49 ?_
        refine yu 22 50 ?_
        refine yu 23 51 ?_
        refine yu 24 52 ?_
        refine yu 25 53 ?_
        refine yu 26 54 ?_
        refine yu 27 55 ?_
        refine yp 28 56 ?_
        refine done_ (done_of HT_.out (by kernel_rfl)) ?_
        try go_wp2
        go_ret
        exact ⟨yE, yB⟩
       rw [if_neg c21] at H
       exact absurd H (by simp)
      rw [if_neg c20] at H
      exact absurd H (by simp)
     rw [if_neg c19] at H
     have c19b0 := decide_eq_false c19
     clear c19
     obtain rfl := Option.some.inj H
     have hnb36 := NB643_644.out
     have hnc36 := NB644_643.out
     have hcz37_0 := yZ0 BK643.out
     have hcz37_1 := yZ1 BK643.out
     have hfz37_0 := blk_frozen BK643.out 0
     have hfz37_1 := blk_frozen BK643.out 1
     go_wp2
     go_ret
     exact ⟨yE, yB⟩
def swarflaw43_back.l0 : Nat → List (S81) → Int → Int → List (S32) → List (S58) → Option ((List (S32)) × (List (S58)))
 | 0, _, _, _, _, _ => none
 | k + 1, x10, x11, x12, x654000, x654001 => if x12 < x11 then (if 0 ≤ x12 then (if x12 < (x10.length : Int) then (if x654001.length < 4398046511104 then (swarflaw43_back.l0 k x10 x11 (wrap64 (x12 + 1)) x654000 (x654001 ++ [(⟨(rd_T81 x10 x12).f0, (rd_T81 x10 x12).f1⟩ : S58)])) else (none)) else (none)) else (none)) else (some (x654000, x654001))
def swarflaw43_back.f (k : Nat) (l0_0 : List (S32)) (l0_1 : List (S81)) : Option ((List (S32)) × (List (S58))) := swarflaw43_back.l0 k l0_1 (l0_1.length : Int) 0 l0_0 ([] : List (S58))
set_option maxHeartbeats 8000000 in
set_option maxRecDepth 100000 in
theorem swarflaw43_back.calls (k : Nat) (P0_0_ : Nat → Prop) (A0_0 : Option Addr) (c0_0 : Nat) (l0_0 : List (S32)) (P0_1_ : Nat → Prop) (A0_1 : Option Addr) (c0_1 : Nat) (l0_1 : List (S81)) (r1 : List (S32)) (r2 : List (S58)) (w : World) (hs0_0 : Kd.V k32 32 w w.heap.size (fun k_ => P0_0_ k_) (.slice A0_0 l0_0.length c0_0) l0_0) (hs0_1 : Kd.V k81 81 w w.heap.size (fun k_ => P0_1_ k_) (.slice A0_1 l0_1.length c0_1) l0_1) (h : swarflaw43_back.f k l0_0 l0_1 = some (r1, r2)) :
  Calls Try.prog 36 #[.agg #[.slice A0_0 l0_0.length c0_0, .slice A0_1 l0_1.length c0_1]] w fun e w' => ∃ v0_ v1_ : Value, e = .returned (.agg #[v0_, v1_]) ∧ Kd.V k32 32 w' w.heap.size (fun k_ => ((P0_0_ k_ ∨ P0_1_ k_) ∨ w.heap.size ≤ k_) ∧ some k_ ≠ (v1_ : Value).ownBlock) v0_ r1 ∧ Kd.N k58 58 w' w.heap.size (fun k_ => ((P0_0_ k_ ∨ P0_1_ k_) ∨ w.heap.size ≤ k_)) v1_ r2 ∧ Below w.heap.size w w' := by
 have hu54 := Try.underlying54
 have hu48 := Try.underlying48
 have hu81 := Try.underlying81
 have hu58 := Try.underlying58
 have HO0_0 := Aside0.mk (show Kd.V k32 32 w w.heap.size (fun k_ => ((P0_0_ k_ ∨ P0_1_ k_) ∨ w.heap.size ≤ k_)) (.slice A0_0 l0_0.length c0_0) l0_0 from Kd.V_mono hs0_0 (fun k_ hk => .inl (.inl hk)))
 have HO0_1 := Aside0.mk (show Kd.V k81 81 w w.heap.size (fun k_ => ((P0_0_ k_ ∨ P0_1_ k_) ∨ w.heap.size ≤ k_)) (.slice A0_1 l0_1.length c0_1) l0_1 from Kd.V_mono hs0_1 (fun k_ hk => .inl (.inr hk)))
 have HB := Aside0.mk (Below.refl w.heap.size w)
 have H : (swarflaw43_back.l0 k l0_1 (l0_1.length : Int) 0 l0_0 ([] : List (S58))) = some (r1, r2) := h
 clear h
 have H' := Aside0.mk H
 clear H
 go_enter Try.func36, Try.ntmps36
 go_wp2_with (first | ((with_reducible refine gate_dst (N := 1) rfl ?_); refine yX 1 #[.slice A0_0 l0_0.length c0_0, .slice A0_1 l0_1.length c0_1] 54 ?_; intro gb651 hg w2 hbox hb; replace HO0_0 := Aside0.mk (Kd.V_below (Kd.V_elderB (yV HO0_0.out) gb651 (Nat.le_of_eq hg.symm)) hb); replace HO0_1 := Aside0.mk (Kd.V_below (Kd.V_elderB (yV HO0_1.out) gb651 (Nat.le_of_eq hg.symm)) hb); have BK651 := Aside0.mk (hbox); have GE651 := Aside0.mk ((yG hg : w.heap.size ≤ gb651)); replace HB := Aside0.mk (below_step yB hb); clear hb hbox hg) | ((with_reducible refine gate_dst (N := 2) rfl ?_); refine yX 2 #[.slice none 0 0, .slice none 0 0] 48 ?_; intro gb652 hg w3 hbox hb; replace HO0_0 := Aside0.mk (Kd.V_below (Kd.V_elderB (yV HO0_0.out) gb652 (Nat.le_of_eq hg.symm)) hb); replace HO0_1 := Aside0.mk (Kd.V_below (Kd.V_elderB (yV HO0_1.out) gb652 (Nat.le_of_eq hg.symm)) hb); have BK652 := Aside0.mk (hbox); have GE652 := Aside0.mk ((yG hg : w.heap.size ≤ gb652)); replace HB := Aside0.mk (below_step yB hb); have NB651_652 := Aside0.mk ((yJ hg yK : gb651 ≠ gb652)); have NB652_651 := Aside0.mk ((yI hg yK : gb652 ≠ gb651)); replace BK651 := Aside0.mk (blk_below (g := gb651) yK hb); clear hb hbox hg; have hnb4 := NB651_652.out; have hnc4 := NB652_651.out; have hcz5_0 := yZ0 BK651.out; have hcz5_1 := yZ1 BK651.out; have hfz5_0 := blk_frozen BK651.out 0; have hfz5_1 := blk_frozen BK651.out 1) | ((with_reducible refine gate_dst (N := 3) rfl ?_); refine yX 3 #[.slice none 0 0, .slice none 0 0] 48 ?_; intro gb653 hg w6 hbox hb; replace HO0_0 := Aside0.mk (Kd.V_below (Kd.V_elderB (yV HO0_0.out) gb653 (Nat.le_of_eq hg.symm)) hb); replace HO0_1 := Aside0.mk (Kd.V_below (Kd.V_elderB (yV HO0_1.out) gb653 (Nat.le_of_eq hg.symm)) hb); have BK653 := Aside0.mk (hbox); have GE653 := Aside0.mk ((yG hg : w.heap.size ≤ gb653)); replace HB := Aside0.mk (below_step yB hb); have NB651_653 := Aside0.mk ((yJ hg yK : gb651 ≠ gb653)); have NB653_651 := Aside0.mk ((yI hg yK : gb653 ≠ gb651)); replace BK651 := Aside0.mk (blk_below (g := gb651) yK hb); have NB652_653 := Aside0.mk ((yJ hg yK : gb652 ≠ gb653)); have NB653_652 := Aside0.mk ((yI hg yK : gb653 ≠ gb652)); replace BK652 := Aside0.mk (blk_below (g := gb652) yK hb); clear hb hbox hg; have hnb7 := NB653_651.out; have hnc7 := NB651_653.out; have hnb8 := NB653_652.out; have hnc8 := NB652_653.out; have hcz9_0 := yZ0 BK653.out; have hcz9_1 := yZ1 BK653.out; have hfz9_0 := blk_frozen BK653.out 0; have hfz9_1 := blk_frozen BK653.out 1; have hcz10_0 := yZ0 BK651.out; have hcz10_1 := yZ1 BK651.out; have hfz10_0 := blk_frozen BK651.out 0; have hfz10_1 := blk_frozen BK651.out 1))
 go_loopg [12] k (fun kq v12 w' => ∃ (x12_1 : Int) (x654001_1 : List (S58)) (u654001 : Value), v12 = .int .i64 x12_1 ∧ Aside0 (swarflaw43_back.l0 kq l0_1 (l0_1.length : Int) x12_1 l0_0 x654001_1 = some (r1, r2)) ∧ Aside0 (kq ≤ k) ∧ Aside0 (Kd.V k81 81 w' w.heap.size (fun k_ => ((P0_0_ k_ ∨ P0_1_ k_) ∨ w.heap.size ≤ k_) ∧ some k_ ≠ (u654001 : Value).ownBlock ∧ k_ ≠ gb651 ∧ k_ ≠ gb652 ∧ k_ ≠ gb653) (.slice A0_1 l0_1.length c0_1) l0_1) ∧ Aside0 (Kd.V k32 32 w' w.heap.size (fun k_ => ((P0_0_ k_ ∨ P0_1_ k_) ∨ w.heap.size ≤ k_) ∧ some k_ ≠ (u654001 : Value).ownBlock ∧ k_ ≠ gb651 ∧ k_ ≠ gb652 ∧ k_ ≠ gb653) (.slice A0_0 l0_0.length c0_0) l0_0) ∧ Aside0 (Kd.V k81 81 w' w.heap.size (fun k_ => ((P0_0_ k_ ∨ P0_1_ k_) ∨ w.heap.size ≤ k_) ∧ some k_ ≠ (u654001 : Value).ownBlock ∧ k_ ≠ gb651 ∧ k_ ≠ gb652 ∧ k_ ≠ gb653) (.slice A0_1 l0_1.length c0_1) l0_1) ∧ Aside0 (Kd.V k32 32 w' w.heap.size (fun k_ => ((P0_0_ k_ ∨ P0_1_ k_) ∨ w.heap.size ≤ k_) ∧ some k_ ≠ (u654001 : Value).ownBlock ∧ k_ ≠ gb651 ∧ k_ ≠ gb652 ∧ k_ ≠ gb653) (.slice A0_0 l0_0.length c0_0) l0_0) ∧ Aside0 (Kd.N k58 58 w' w.heap.size (fun k_ => ((P0_0_ k_ ∨ P0_1_ k_) ∨ w.heap.size ≤ k_) ∧ k_ ≠ gb651 ∧ k_ ≠ gb652 ∧ k_ ≠ gb653) u654001 x654001_1) ∧ Aside0 (w'.heap[gb651]? = some (.cells #[(.slice A0_0 l0_0.length c0_0), (.slice A0_1 l0_1.length c0_1)] 54 (0, 0))) ∧ Aside0 (w'.heap[gb652]? = some (.cells #[(.slice none 0 0), (.slice none 0 0)] 48 (0, 0))) ∧ Aside0 (w'.heap[gb653]? = some (.cells #[(.slice A0_0 l0_0.length c0_0), u654001] 48 (0, 0))) ∧ Aside0 (Below w.heap.size w w'))
 case atStart => exact ⟨(0), (([] : List (S58))), (.slice none 0 0), yS, H', ⟨Nat.le_refl _⟩, ⟨by refine yV ?_; exact Kd.V_mono (Kd.V_far (p := ⟨gb653, 1, none⟩) (Kd.V_far (p := ⟨gb653, 0, none⟩) (Kd.V_mono HO0_1.out (fun k_ hk => (⟨hk, hk.2⟩ : _ ∧ k_ ≠ gb653))) (fun _ hk => hk.2) (.slice A0_0 l0_0.length c0_0)) (fun _ hk => hk.2) (.slice none 0 0)) (fun _ hk => ⟨hk.1.1.1.1, ⟨(by simp [Value.ownBlock]), ⟨hk.1.1.1.2, ⟨hk.1.1.2, hk.1.2⟩⟩⟩⟩)⟩, ⟨by refine yV ?_; exact Kd.V_mono (Kd.V_far (p := ⟨gb653, 1, none⟩) (Kd.V_far (p := ⟨gb653, 0, none⟩) (Kd.V_mono HO0_0.out (fun k_ hk => (⟨hk, hk.2⟩ : _ ∧ k_ ≠ gb653))) (fun _ hk => hk.2) (.slice A0_0 l0_0.length c0_0)) (fun _ hk => hk.2) (.slice none 0 0)) (fun _ hk => ⟨hk.1.1.1.1, ⟨(by simp [Value.ownBlock]), ⟨hk.1.1.1.2, ⟨hk.1.1.2, hk.1.2⟩⟩⟩⟩)⟩, ⟨by refine yV ?_; exact Kd.V_mono (Kd.V_far (p := ⟨gb653, 1, none⟩) (Kd.V_far (p := ⟨gb653, 0, none⟩) (Kd.V_mono HO0_1.out (fun k_ hk => (⟨hk, hk.2⟩ : _ ∧ k_ ≠ gb653))) (fun _ hk => hk.2) (.slice A0_0 l0_0.length c0_0)) (fun _ hk => hk.2) (.slice none 0 0)) (fun _ hk => ⟨hk.1.1.1.1, ⟨(by simp [Value.ownBlock]), ⟨hk.1.1.1.2, ⟨hk.1.1.2, hk.1.2⟩⟩⟩⟩)⟩, ⟨by refine yV ?_; exact Kd.V_mono (Kd.V_far (p := ⟨gb653, 1, none⟩) (Kd.V_far (p := ⟨gb653, 0, none⟩) (Kd.V_mono HO0_0.out (fun k_ hk => (⟨hk, hk.2⟩ : _ ∧ k_ ≠ gb653))) (fun _ hk => hk.2) (.slice A0_0 l0_0.length c0_0)) (fun _ hk => hk.2) (.slice none 0 0)) (fun _ hk => ⟨hk.1.1.1.1, ⟨(by simp [Value.ownBlock]), ⟨hk.1.1.1.2, ⟨hk.1.1.2, hk.1.2⟩⟩⟩⟩)⟩, ⟨by first | exact Kd.R_nil _ _ _ _ _ | exact Kd.N_nil _ _ _ _ _ | exact Kd.V_nil _ _ _ _ _ | exact Kd.Q_nil _ _ _ _ _ | exact Kd.S_nil _ _ _ _ _⟩, ⟨by refine yH ?_; refine blk_far ?_ NB651_653.out _; refine yH ?_; refine blk_far ?_ NB651_653.out _; refine yH ?_; exact BK651.out⟩, ⟨by refine yH ?_; refine blk_far ?_ NB652_653.out _; refine yH ?_; refine blk_far ?_ NB652_653.out _; refine yH ?_; exact BK652.out⟩, ⟨by refine yH ?_; refine blk_put (cs := #[.slice A0_0 l0_0.length c0_0, .slice none 0 0]) ?_ 1 _ rfl; refine yH ?_; refine blk_put (cs := #[.slice none 0 0, .slice none 0 0]) ?_ 0 _ rfl; refine yH ?_; exact BK653.out⟩, ⟨yB⟩⟩
 case round =>
  clear H'
  try clear p2
  try clear c3
  try clear c4
  try clear c7
  try clear c8
  try clear hcz10_0
  try clear hcz10_1
  try clear hcz5_0
  try clear hcz5_1
  try clear hcz9_0
  try clear hcz9_1
  try clear hfz10_0
  try clear hfz10_1
  try clear hfz5_0
  try clear hfz5_1
  try clear hfz9_0
  try clear hfz9_1
  obtain ⟨x12_1, x654001_1, u654001, rfl, HA, HK1, HO_10, HO_652000, HO_652001, HO_654000, HO_654001, BK651, BK652, BK653, HB⟩ := hrel
  cases gk with
  | zero => exact absurd HA.out (by simp [swarflaw43_back.l0])
  | succ k1 =>
   have H := HA.out
   clear HA
   simp only [swarflaw43_back.l0] at H
   by_cases c11 : x12_1 < (l0_1.length : Int)
   ·rw [if_pos c11] at H
    have c11b0 := decide_eq_true c11
    clear c11
    by_cases c12 : 0 ≤ x12_1
    ·rw [if_pos c12] at H
     have c12b0 := decide_eq_true c12
     clear c12
     by_cases c13 : x12_1 < (l0_1.length : Int)
     ·rw [if_pos c13] at H
      have c13b0 := decide_eq_true c13
      clear c13
      by_cases c14 : x654001_1.length < 4398046511104
      ·rw [if_pos c14] at H
       have LMc14 := Aside0.mk c14
       clear c14
       obtain ⟨y656, hy656⟩ : ∃ y_ : List (S58), y_ = (x654001_1 ++ [(⟨(rd_T81 l0_1 x12_1).f0, (rd_T81 l0_1 x12_1).f1⟩ : S58)]) := ⟨_, rfl⟩
       replace H : (swarflaw43_back.l0 k1 l0_1 (l0_1.length : Int) (wrap64 (x12_1 + 1)) l0_0 y656) = some (r1, r2) := by first | (rw [hy656]; with_reducible exact H) | (have H2_ := (Option.bind_some _ _).symm.trans H; rw [hy656]; with_reducible exact H2_) | (have H2_ := (Option.bind_some _ _).symm.trans H; with_reducible exact H2_) | with_reducible exact H | (rw [hy656]; exact H) | exact H
       have Ny656 := Aside0.mk hy656
       clear hy656
       have H' := Aside0.mk H
       clear H
       have p654 : 0 ≤ (x12_1 : Int) := yD
       have q654 : x12_1 < (l0_1.length : Int) := yD
       obtain ⟨ad654, A654_1, c654_1, e654, hx654_0, hx654_1, hl654_1, hi654_1⟩ := at_T81 (Kd.V_reads' HO_10.out).2.2 x12_1 p654 q654
       cases e654
       obtain ⟨ce654, hce654, hMe654, hcc654⟩ := Kd.V_get HO_10.out z81 x12_1 p654 (by first | exact q654 | exact yD | (have e_ := (Kd.V_reads' HO_10.out).1; omega))
       obtain ⟨ua654_1, uc654_1, rfl, ul654_1, ge654_1⟩ := k81_openF hMe654
       have hv654_1 := hcc654 1 _ rfl
       rw [add_field _ _ 1 (by omega)] at hv654_1
       replace hv654_1 := Option.some.inj (hv654_1.symm.trans hx654_1)
       injection hv654_1 with hva_ hvn_ hvc_
       rw [hva_] at ge654_1
       rw [hvc_] at ul654_1
       have HL654_1 := Aside0.mk (show Kd.V k32 32 _ w.heap.size _ _ ((rd_T81 l0_1 x12_1).f1) from Kd.V_mk ul654_1 ge654_1)
       clear hva_ hvn_ hvc_ ge654_1 ul654_1
       clear hcc654 hce654
       have HR654_1 := Aside0.mk hi654_1
       have HC654_1 := Aside0.mk hl654_1
       clear hi654_1 hl654_1
       replace p654 := eq_true p654
       replace q654 := eq_true q654
       go_wp2_with (first | ((with_reducible refine gate_dst (N := 5) rfl ?_); refine yX 5 #[.int .i64 0, .slice none 0 0] 81 ?_; intro gb655 hg w15 hbox hb; replace HO_10 := Aside0.mk (Kd.V_below (Kd.V_elderB (yV HO_10.out) gb655 (Nat.le_of_eq hg.symm)) hb); replace HO_652000 := Aside0.mk (Kd.V_below (Kd.V_elderB (yV HO_652000.out) gb655 (Nat.le_of_eq hg.symm)) hb); replace HO_652001 := Aside0.mk (Kd.V_below (Kd.V_elderB (yV HO_652001.out) gb655 (Nat.le_of_eq hg.symm)) hb); replace HO_654000 := Aside0.mk (Kd.V_below (Kd.V_elderB (yV HO_654000.out) gb655 (Nat.le_of_eq hg.symm)) hb); replace HO_654001 := Aside0.mk (Kd.N_below (Kd.N_elderB (yN HO_654001.out) gb655 (Nat.le_of_eq hg.symm)) hb); replace HL654_1 := Aside0.mk (Kd.V_below (Kd.V_elderB (yV HL654_1.out) gb655 (Nat.le_of_eq hg.symm)) hb); replace HR654_1 := Aside0.mk (Kd.C_below (by repeat (first | (with_reducible exact HR654_1.out) | (with_reducible refine Kd.C_alloc ?_ _) | (with_reducible refine Kd.C_drewN ?_ _) | (with_reducible refine Kd.C_drew ?_) | exact HR654_1.out)) hb); have BK655 := Aside0.mk (hbox); have GE655 := Aside0.mk ((yG hg : w.heap.size ≤ gb655)); replace HB := Aside0.mk (below_step yB hb); have NB651_655 := Aside0.mk ((yJ hg yK : gb651 ≠ gb655)); have NB655_651 := Aside0.mk ((yI hg yK : gb655 ≠ gb651)); replace BK651 := Aside0.mk (blk_below (g := gb651) yK hb); have NB652_655 := Aside0.mk ((yJ hg yK : gb652 ≠ gb655)); have NB655_652 := Aside0.mk ((yI hg yK : gb655 ≠ gb652)); replace BK652 := Aside0.mk (blk_below (g := gb652) yK hb); have NB653_655 := Aside0.mk ((yJ hg yK : gb653 ≠ gb655)); have NB655_653 := Aside0.mk ((yI hg yK : gb655 ≠ gb653)); replace BK653 := Aside0.mk (blk_below (g := gb653) yK hb); clear hb hbox hg; have hnb16 := NB655_651.out; have hnc16 := NB651_655.out; have hnb17 := NB655_652.out; have hnc17 := NB652_655.out; have hnb18 := NB655_653.out; have hnc18 := NB653_655.out; have hcz19_0 := yZ0 BK655.out; have hcz19_1 := yZ1 BK655.out; have hfz19_0 := blk_frozen BK655.out 0; have hfz19_1 := blk_frozen BK655.out 1) | ((with_reducible refine gate_store (t := 81) (p := 5) rfl ?_); refine store_event (t := 81) (p := 5) (v := ?vo_w20) (w1 := ((w15.setCell ⟨gb655, 0, none⟩ (.int .i64 ((rd_T81 l0_1 x12_1).f0))).setCell ⟨gb655, 1, none⟩ (.slice A654_1 ((rd_T81 l0_1 x12_1).f1).length c654_1))) ?hg ?ho ?hn ?hr ?_; (case ho => rfl); (case hg => rfl); (case hn => rfl); (case hr => first | (go_simp; done) | (go_simp; rfl)); intro w20 hw; have n0_ : Aside0 (Kd.V k81 81 w20 w.heap.size (fun k_ => ((P0_0_ k_ ∨ P0_1_ k_) ∨ w.heap.size ≤ k_) ∧ some k_ ≠ (u654001 : Value).ownBlock ∧ k_ ≠ gb651 ∧ k_ ≠ gb652 ∧ k_ ≠ gb653 ∧ k_ ≠ gb655) (.slice (some ad654) l0_1.length c0_1) l0_1) := ⟨(by rw [hw]; exact (yV (Kd.V_mono (Kd.V_far (p := ⟨gb655, 1, none⟩) (Kd.V_far (p := ⟨gb655, 0, none⟩) (Kd.V_mono HO_10.out (fun k_ hk => (⟨hk, hk.2⟩ : _ ∧ k_ ≠ gb655))) (fun _ hk => hk.2) (.int .i64 ((rd_T81 l0_1 x12_1).f0))) (fun _ hk => hk.2) (.slice A654_1 ((rd_T81 l0_1 x12_1).f1).length c654_1)) (fun _ hk => ⟨hk.1.1.1, ⟨hk.1.1.2.1, ⟨hk.1.1.2.2.1, ⟨hk.1.1.2.2.2.1, ⟨hk.1.1.2.2.2.2, hk.1.2⟩⟩⟩⟩⟩))))⟩; have n1_ : Aside0 (Kd.V k32 32 w20 w.heap.size (fun k_ => ((P0_0_ k_ ∨ P0_1_ k_) ∨ w.heap.size ≤ k_) ∧ some k_ ≠ (u654001 : Value).ownBlock ∧ k_ ≠ gb651 ∧ k_ ≠ gb652 ∧ k_ ≠ gb653 ∧ k_ ≠ gb655) (.slice A0_0 l0_0.length c0_0) l0_0) := ⟨(by rw [hw]; exact (yV (Kd.V_mono (Kd.V_far (p := ⟨gb655, 1, none⟩) (Kd.V_far (p := ⟨gb655, 0, none⟩) (Kd.V_mono HO_652000.out (fun k_ hk => (⟨hk, hk.2⟩ : _ ∧ k_ ≠ gb655))) (fun _ hk => hk.2) (.int .i64 ((rd_T81 l0_1 x12_1).f0))) (fun _ hk => hk.2) (.slice A654_1 ((rd_T81 l0_1 x12_1).f1).length c654_1)) (fun _ hk => ⟨hk.1.1.1, ⟨hk.1.1.2.1, ⟨hk.1.1.2.2.1, ⟨hk.1.1.2.2.2.1, ⟨hk.1.1.2.2.2.2, hk.1.2⟩⟩⟩⟩⟩))))⟩; have n2_ : Aside0 (Kd.V k81 81 w20 w.heap.size (fun k_ => ((P0_0_ k_ ∨ P0_1_ k_) ∨ w.heap.size ≤ k_) ∧ some k_ ≠ (u654001 : Value).ownBlock ∧ k_ ≠ gb651 ∧ k_ ≠ gb652 ∧ k_ ≠ gb653 ∧ k_ ≠ gb655) (.slice (some ad654) l0_1.length c0_1) l0_1) := ⟨(by rw [hw]; exact (yV (Kd.V_mono (Kd.V_far (p := ⟨gb655, 1, none⟩) (Kd.V_far (p := ⟨gb655, 0, none⟩) (Kd.V_mono HO_652001.out (fun k_ hk => (⟨hk, hk.2⟩ : _ ∧ k_ ≠ gb655))) (fun _ hk => hk.2) (.int .i64 ((rd_T81 l0_1 x12_1).f0))) (fun _ hk => hk.2) (.slice A654_1 ((rd_T81 l0_1 x12_1).f1).length c654_1)) (fun _ hk => ⟨hk.1.1.1, ⟨hk.1.1.2.1, ⟨hk.1.1.2.2.1, ⟨hk.1.1.2.2.2.1, ⟨hk.1.1.2.2.2.2, hk.1.2⟩⟩⟩⟩⟩))))⟩; have n3_ : Aside0 (Kd.V k32 32 w20 w.heap.size (fun k_ => ((P0_0_ k_ ∨ P0_1_ k_) ∨ w.heap.size ≤ k_) ∧ some k_ ≠ (u654001 : Value).ownBlock ∧ k_ ≠ gb651 ∧ k_ ≠ gb652 ∧ k_ ≠ gb653 ∧ k_ ≠ gb655) (.slice A0_0 l0_0.length c0_0) l0_0) := ⟨(by rw [hw]; exact (yV (Kd.V_mono (Kd.V_far (p := ⟨gb655, 1, none⟩) (Kd.V_far (p := ⟨gb655, 0, none⟩) (Kd.V_mono HO_654000.out (fun k_ hk => (⟨hk, hk.2⟩ : _ ∧ k_ ≠ gb655))) (fun _ hk => hk.2) (.int .i64 ((rd_T81 l0_1 x12_1).f0))) (fun _ hk => hk.2) (.slice A654_1 ((rd_T81 l0_1 x12_1).f1).length c654_1)) (fun _ hk => ⟨hk.1.1.1, ⟨hk.1.1.2.1, ⟨hk.1.1.2.2.1, ⟨hk.1.1.2.2.2.1, ⟨hk.1.1.2.2.2.2, hk.1.2⟩⟩⟩⟩⟩))))⟩; have n4_ : Aside0 (Kd.N k58 58 w20 w.heap.size (fun k_ => ((P0_0_ k_ ∨ P0_1_ k_) ∨ w.heap.size ≤ k_) ∧ k_ ≠ gb651 ∧ k_ ≠ gb652 ∧ k_ ≠ gb653 ∧ k_ ≠ gb655) u654001 x654001_1) := ⟨(by rw [hw]; exact (yN (Kd.N_mono (Kd.N_far (p := ⟨gb655, 1, none⟩) (Kd.N_far (p := ⟨gb655, 0, none⟩) (Kd.N_mono HO_654001.out (fun k_ hk => (⟨hk, hk.2⟩ : _ ∧ k_ ≠ gb655))) (fun _ hk => hk.2) (.int .i64 ((rd_T81 l0_1 x12_1).f0))) (fun _ hk => hk.2) (.slice A654_1 ((rd_T81 l0_1 x12_1).f1).length c654_1)) (fun _ hk => ⟨hk.1.1.1, ⟨hk.1.1.2.1, ⟨hk.1.1.2.2.1, ⟨hk.1.1.2.2.2, hk.1.2⟩⟩⟩⟩))))⟩; have n5_ : Aside0 (Kd.V k32 32 w20 w.heap.size (fun k_ => ((P0_0_ k_ ∨ P0_1_ k_) ∨ w.heap.size ≤ k_) ∧ some k_ ≠ (u654001 : Value).ownBlock ∧ k_ ≠ gb651 ∧ k_ ≠ gb652 ∧ k_ ≠ gb653 ∧ k_ ≠ gb655) (.slice A654_1 ((rd_T81 l0_1 x12_1).f1).length c654_1) ((rd_T81 l0_1 x12_1).f1)) := ⟨(by rw [hw]; exact (yV (Kd.V_mono (Kd.V_far (p := ⟨gb655, 1, none⟩) (Kd.V_far (p := ⟨gb655, 0, none⟩) (Kd.V_mono HL654_1.out (fun k_ hk => (⟨hk, hk.2⟩ : _ ∧ k_ ≠ gb655))) (fun _ hk => hk.2) (.int .i64 ((rd_T81 l0_1 x12_1).f0))) (fun _ hk => hk.2) (.slice A654_1 ((rd_T81 l0_1 x12_1).f1).length c654_1)) (fun _ hk => ⟨hk.1.1.1, ⟨hk.1.1.2.1, ⟨hk.1.1.2.2.1, ⟨hk.1.1.2.2.2.1, ⟨hk.1.1.2.2.2.2, hk.1.2⟩⟩⟩⟩⟩))))⟩; have n6_ : Aside0 (w20.heap[gb651]? = some (.cells #[.slice A0_0 l0_0.length c0_0, .slice (some ad654) l0_1.length c0_1] 54 (0, 0))) := ⟨(by rw [hw]; exact (by refine yH ?_; refine blk_far ?_ NB651_655.out _; refine yH ?_; refine blk_far ?_ NB651_655.out _; refine yH ?_; exact BK651.out))⟩; have n7_ : Aside0 (w20.heap[gb652]? = some (.cells #[.slice none 0 0, .slice none 0 0] 48 (0, 0))) := ⟨(by rw [hw]; exact (by refine yH ?_; refine blk_far ?_ NB652_655.out _; refine yH ?_; refine blk_far ?_ NB652_655.out _; refine yH ?_; exact BK652.out))⟩; have n8_ : Aside0 (w20.heap[gb653]? = some (.cells #[.slice A0_0 l0_0.length c0_0, u654001] 48 (0, 0))) := ⟨(by rw [hw]; exact (by refine yH ?_; refine blk_far ?_ NB653_655.out _; refine yH ?_; refine blk_far ?_ NB653_655.out _; refine yH ?_; exact BK653.out))⟩; have n9_ : Aside0 (w20.heap[gb655]? = some (.cells #[.int .i64 ((rd_T81 l0_1 x12_1).f0), .slice A654_1 ((rd_T81 l0_1 x12_1).f1).length c654_1] 81 (0, 0))) := ⟨(by rw [hw]; exact (by refine yH ?_; refine blk_put (cs := #[.int .i64 ((rd_T81 l0_1 x12_1).f0), .slice none 0 0]) ?_ 1 _ rfl; refine yH ?_; refine blk_put (cs := #[.int .i64 0, .slice none 0 0]) ?_ 0 _ rfl; refine yH ?_; exact BK655.out))⟩; have n10_ : Aside0 (Below w.heap.size w w20) := ⟨(by rw [hw]; exact yB)⟩; clear hw; clear HO_10; clear HO_652000; clear HO_652001; clear HO_654000; clear HO_654001; clear HL654_1; clear BK651; clear BK652; clear BK653; clear BK655; clear HB; have HO_10 := n0_; have HO_652000 := n1_; have HO_652001 := n2_; have HO_654000 := n3_; have HO_654001 := n4_; have HL654_1 := n5_; have BK651 := n6_; have BK652 := n7_; have BK653 := n8_; have BK655 := n9_; have HB := n10_; clear n0_ n1_ n2_ n3_ n4_ n5_ n6_ n7_ n8_ n9_ n10_; have hnb21 := NB653_651.out; have hnc21 := NB651_653.out; have hnb22 := NB653_652.out; have hnc22 := NB652_653.out; have hcz23_0 := yZ0 BK653.out; have hcz23_1 := yZ1 BK653.out; have hfz23_0 := blk_frozen BK653.out 0; have hfz23_1 := blk_frozen BK653.out 1; have hcz24_0 := yZ0 BK655.out; have hcz24_1 := yZ1 BK655.out; have hfz24_0 := blk_frozen BK655.out 0; have hfz24_1 := blk_frozen BK655.out 1) | ((with_reducible refine gate_builtin (b := .append) (xs := #[.tmp 17, .tmp 23]) rfl ?_); at_builtin; refine Kd.N_append k58 (w0 := w) w.heap.size rfl (.tmp 17) (.tmp 23) 46 58 (.agg #[(.int .i64 0), (.slice none 0 0)]) 32 rfl Try.underlying46 info58 rfl (by decide) (by omega) u654001 x654001_1 (⟨(rd_T81 l0_1 x12_1).f0, (rd_T81 l0_1 x12_1).f1⟩ : S58) [.int .i64 ((rd_T81 l0_1 x12_1).f0), .slice A654_1 ((rd_T81 l0_1 x12_1).f1).length c654_1] (fun k_ => ((P0_0_ k_ ∨ P0_1_ k_) ∨ w.heap.size ≤ k_) ∧ k_ ≠ gb651 ∧ k_ ≠ gb652 ∧ k_ ≠ gb653 ∧ k_ ≠ gb655) (fun k_ => ((fun k_ => ((P0_0_ k_ ∨ P0_1_ k_) ∨ w.heap.size ≤ k_) ∧ k_ ≠ gb651 ∧ k_ ≠ gb652 ∧ k_ ≠ gb653 ∧ k_ ≠ gb655)) k_ ∧ some k_ ≠ (u654001 : Value).ownBlock) rfl rfl ?aP (fun _ hk => hk) ?aF ?aO ?aB ?aS ?aL ?_; (case aP => exact (k58_mkF _ _ (⟨(rd_T81 l0_1 x12_1).f0, (rd_T81 l0_1 x12_1).f1⟩ : S58) (Kd.V_reads' (Kd.V_mono (ok' := (fun k_ => ((fun k_ => ((P0_0_ k_ ∨ P0_1_ k_) ∨ w.heap.size ≤ k_) ∧ k_ ≠ gb651 ∧ k_ ≠ gb652 ∧ k_ ≠ gb653 ∧ k_ ≠ gb655)) k_ ∧ some k_ ≠ (u654001 : Value).ownBlock)) (HL654_1.out) (fun k_ hk => ⟨⟨hk.1, ⟨hk.2.2.1, ⟨hk.2.2.2.1, ⟨hk.2.2.2.2.1, hk.2.2.2.2.2⟩⟩⟩⟩, hk.2.1⟩))).2.1 (Kd.V_F (Kd.V_mono (ok' := (fun k_ => ((fun k_ => ((P0_0_ k_ ∨ P0_1_ k_) ∨ w.heap.size ≤ k_) ∧ k_ ≠ gb651 ∧ k_ ≠ gb652 ∧ k_ ≠ gb653 ∧ k_ ≠ gb655)) k_ ∧ some k_ ≠ (u654001 : Value).ownBlock)) (HL654_1.out) (fun k_ hk => ⟨⟨hk.1, ⟨hk.2.2.1, ⟨hk.2.2.2.1, ⟨hk.2.2.2.2.1, hk.2.2.2.2.2⟩⟩⟩⟩, hk.2.1⟩))))); (case aB => exact yB); (case aF => exact (fun k_ hk => ⟨(.inr (Nat.le_trans (below_size yB) hk)), Kd.freshB (g := gb651) yK k_ hk, Kd.freshB (g := gb652) yK k_ hk, Kd.freshB (g := gb653) yK k_ hk, Kd.freshB (g := gb655) yK k_ hk⟩)); (case aO => exact (yN HO_654001.out)); (case aS => exact (below_size yB)); (case aL => have := LMc14.out; omega); intro v657 w25 ho hb hg hat; rw [← Ny656.out] at ho; have n0_ := Aside0.mk (Kd.V_afterv (ok := (fun k_ => ((P0_0_ k_ ∨ P0_1_ k_) ∨ w.heap.size ≤ k_) ∧ k_ ≠ gb651 ∧ k_ ≠ gb652 ∧ k_ ≠ gb653 ∧ k_ ≠ gb655)) (yV (Kd.V_mono HO_10.out (fun _ hk => ⟨⟨hk.1, ⟨hk.2.2.1, ⟨hk.2.2.2.1, ⟨hk.2.2.2.2.1, hk.2.2.2.2.2⟩⟩⟩⟩, hk.2.1⟩))) hg hat); have n1_ := Aside0.mk (Kd.V_afterv (ok := (fun k_ => ((P0_0_ k_ ∨ P0_1_ k_) ∨ w.heap.size ≤ k_) ∧ k_ ≠ gb651 ∧ k_ ≠ gb652 ∧ k_ ≠ gb653 ∧ k_ ≠ gb655)) (yV (Kd.V_mono HO_652000.out (fun _ hk => ⟨⟨hk.1, ⟨hk.2.2.1, ⟨hk.2.2.2.1, ⟨hk.2.2.2.2.1, hk.2.2.2.2.2⟩⟩⟩⟩, hk.2.1⟩))) hg hat); have n2_ := Aside0.mk (Kd.V_afterv (ok := (fun k_ => ((P0_0_ k_ ∨ P0_1_ k_) ∨ w.heap.size ≤ k_) ∧ k_ ≠ gb651 ∧ k_ ≠ gb652 ∧ k_ ≠ gb653 ∧ k_ ≠ gb655)) (yV (Kd.V_mono HO_652001.out (fun _ hk => ⟨⟨hk.1, ⟨hk.2.2.1, ⟨hk.2.2.2.1, ⟨hk.2.2.2.2.1, hk.2.2.2.2.2⟩⟩⟩⟩, hk.2.1⟩))) hg hat); have n3_ := Aside0.mk (Kd.V_afterv (ok := (fun k_ => ((P0_0_ k_ ∨ P0_1_ k_) ∨ w.heap.size ≤ k_) ∧ k_ ≠ gb651 ∧ k_ ≠ gb652 ∧ k_ ≠ gb653 ∧ k_ ≠ gb655)) (yV (Kd.V_mono HO_654000.out (fun _ hk => ⟨⟨hk.1, ⟨hk.2.2.1, ⟨hk.2.2.2.1, ⟨hk.2.2.2.2.1, hk.2.2.2.2.2⟩⟩⟩⟩, hk.2.1⟩))) hg hat); have n4_ := Aside0.mk (blk_grown (g := gb651) yK hg (Kd.N_ne HO_654001.out BK651.out (by decide))); have n5_ := Aside0.mk (blk_grown (g := gb652) yK hg (Kd.N_ne HO_654001.out BK652.out (by decide))); have n6_ := Aside0.mk (blk_grown (g := gb653) yK hg (Kd.N_ne HO_654001.out BK653.out (by decide))); have n7_ := Aside0.mk (Kd.V_afterv (ok := (fun k_ => ((P0_0_ k_ ∨ P0_1_ k_) ∨ w.heap.size ≤ k_) ∧ k_ ≠ gb651 ∧ k_ ≠ gb652 ∧ k_ ≠ gb653 ∧ k_ ≠ gb655)) (yV (Kd.V_mono HL654_1.out (fun _ hk => ⟨⟨hk.1, ⟨hk.2.2.1, ⟨hk.2.2.2.1, ⟨hk.2.2.2.2.1, hk.2.2.2.2.2⟩⟩⟩⟩, hk.2.1⟩))) hg hat); have n8_ := Aside0.mk (blk_grown (g := gb655) yK hg (Kd.N_ne HO_654001.out BK655.out (by decide))); have n9_ := Aside0.mk (hb); have n10_ := Aside0.mk (ho); clear HO_10; clear HO_652000; clear HO_652001; clear HO_654000; clear BK651; clear BK652; clear BK653; clear HL654_1; clear BK655; clear HB; clear HO_654001; have HO_10 := n0_; have HO_652000 := n1_; have HO_652001 := n2_; have HO_654000 := n3_; have BK651 := n4_; have BK652 := n5_; have BK653 := n6_; have HL654_1 := n7_; have BK655 := n8_; have HB := n9_; have HO658 := n10_; clear n0_ n1_ n2_ n3_ n4_ n5_ n6_ n7_ n8_ n9_ n10_; clear ho hb hg hat; obtain ⟨Ao26, co26, eo26⟩ := Kd.N_slice HO658.out; subst eo26; have hcz27_0 := yZ0 BK653.out; have hcz27_1 := yZ1 BK653.out; have hfz27_0 := blk_frozen BK653.out 0; have hfz27_1 := blk_frozen BK653.out 1))
       go_roundg k1
       case measure => have := HK1.out; omega
       case rel => exact ⟨(wrap64 (x12_1 + 1)), (y656), (.slice Ao26 y656.length co26), yS, H', ⟨by have := HK1.out; omega⟩, ⟨by refine yV ?_; exact Kd.V_mono (Kd.V_far (p := ⟨gb653, 1, none⟩) (Kd.V_mono HO_10.out (fun k_ hk => (⟨hk, hk.1.2.2.2.1⟩ : _ ∧ k_ ≠ gb653))) (fun _ hk => hk.2) (.slice Ao26 y656.length co26)) (fun _ hk => ⟨hk.1.1.1, ⟨hk.1.2, ⟨hk.1.1.2.1, ⟨hk.1.1.2.2.1, hk.1.1.2.2.2.1⟩⟩⟩⟩)⟩, ⟨by refine yV ?_; exact Kd.V_mono (Kd.V_far (p := ⟨gb653, 1, none⟩) (Kd.V_mono HO_652000.out (fun k_ hk => (⟨hk, hk.1.2.2.2.1⟩ : _ ∧ k_ ≠ gb653))) (fun _ hk => hk.2) (.slice Ao26 y656.length co26)) (fun _ hk => ⟨hk.1.1.1, ⟨hk.1.2, ⟨hk.1.1.2.1, ⟨hk.1.1.2.2.1, hk.1.1.2.2.2.1⟩⟩⟩⟩)⟩, ⟨by refine yV ?_; exact Kd.V_mono (Kd.V_far (p := ⟨gb653, 1, none⟩) (Kd.V_mono HO_652001.out (fun k_ hk => (⟨hk, hk.1.2.2.2.1⟩ : _ ∧ k_ ≠ gb653))) (fun _ hk => hk.2) (.slice Ao26 y656.length co26)) (fun _ hk => ⟨hk.1.1.1, ⟨hk.1.2, ⟨hk.1.1.2.1, ⟨hk.1.1.2.2.1, hk.1.1.2.2.2.1⟩⟩⟩⟩)⟩, ⟨by refine yV ?_; exact Kd.V_mono (Kd.V_far (p := ⟨gb653, 1, none⟩) (Kd.V_mono HO_654000.out (fun k_ hk => (⟨hk, hk.1.2.2.2.1⟩ : _ ∧ k_ ≠ gb653))) (fun _ hk => hk.2) (.slice Ao26 y656.length co26)) (fun _ hk => ⟨hk.1.1.1, ⟨hk.1.2, ⟨hk.1.1.2.1, ⟨hk.1.1.2.2.1, hk.1.1.2.2.2.1⟩⟩⟩⟩)⟩, ⟨by refine yN ?_; exact Kd.N_mono (Kd.N_far (p := ⟨gb653, 1, none⟩) (Kd.N_mono HO658.out (fun k_ hk => (⟨hk, hk.2.2.2.1⟩ : _ ∧ k_ ≠ gb653))) (fun _ hk => hk.2) (.slice Ao26 y656.length co26)) (fun _ hk => ⟨hk.1.1, ⟨hk.1.2.1, ⟨hk.1.2.2.1, hk.1.2.2.2.1⟩⟩⟩)⟩, ⟨by refine yH ?_; refine blk_far ?_ NB651_653.out _; refine yH ?_; exact BK651.out⟩, ⟨by refine yH ?_; refine blk_far ?_ NB652_653.out _; refine yH ?_; exact BK652.out⟩, ⟨by refine yH ?_; refine blk_put (cs := #[.slice A0_0 l0_0.length c0_0, u654001]) ?_ 1 _ rfl; refine yH ?_; exact BK653.out⟩, ⟨yB⟩⟩
      rw [if_neg c14] at H
      exact absurd H (by simp)
     rw [if_neg c13] at H
     exact absurd H (by simp)
    rw [if_neg c12] at H
    exact absurd H (by simp)
   rw [if_neg c11] at H
   have c11b0 := decide_eq_false c11
   clear c11
   simp only [Option.some.injEq, Prod.mk.injEq] at H
   obtain ⟨rfl, rfl⟩ := H
   have hnb28 := NB653_651.out
   have hnc28 := NB651_653.out
   have hnb29 := NB653_652.out
   have hnc29 := NB652_653.out
   have hcz30_0 := yZ0 BK653.out
   have hcz30_1 := yZ1 BK653.out
   have hfz30_0 := blk_frozen BK653.out 0
   have hfz30_1 := blk_frozen BK653.out 1
   have hnb31 := NB652_651.out
   have hnc31 := NB651_652.out
   have hcz32_0 := yZ0 BK652.out
   have hcz32_1 := yZ1 BK652.out
   have hfz32_0 := blk_frozen BK652.out 0
   have hfz32_1 := blk_frozen BK652.out 1
   obtain ⟨Ao33, co33, eo33⟩ := Kd.N_slice HO_654001.out
   subst eo33
   go_wp2
   refine bodyPost_ret (results_cell_row rfl _ _ gb652 48 #[.slice A0_0 l0_0.length c0_0, .slice Ao33 x654001_1.length co33] (0, 0) _ rfl (by refine yH ?_; refine blk_put (cs := #[.slice A0_0 l0_0.length c0_0, .slice none 0 0]) ?_ 1 _ rfl; refine yH ?_; refine blk_put (cs := #[.slice none 0 0, .slice none 0 0]) ?_ 0 _ rfl; refine yH ?_; exact BK652.out) Try.underlying48 rfl (by kernel_rfl)) rfl ?_
   exact ⟨_, _, yE, by refine yV ?_; exact Kd.V_mono (Kd.V_far (p := ⟨gb652, 1, none⟩) (Kd.V_far (p := ⟨gb652, 0, none⟩) (Kd.V_mono HO_654000.out (fun k_ hk => (⟨hk, hk.2.2.2.1⟩ : _ ∧ k_ ≠ gb652))) (fun _ hk => hk.2) (.slice A0_0 l0_0.length c0_0)) (fun _ hk => hk.2) (.slice Ao33 x654001_1.length co33)) (fun _ hk => ⟨hk.1.1, hk.1.2.1⟩), by refine yN ?_; exact Kd.N_mono (Kd.N_far (p := ⟨gb652, 1, none⟩) (Kd.N_far (p := ⟨gb652, 0, none⟩) (Kd.N_mono HO_654001.out (fun k_ hk => (⟨hk, hk.2.2.1⟩ : _ ∧ k_ ≠ gb652))) (fun _ hk => hk.2) (.slice A0_0 l0_0.length c0_0)) (fun _ hk => hk.2) (.slice Ao33 x654001_1.length co33)) (fun _ hk => hk.1.1), yB⟩
end Go.Proofs.Ytehkhbnhmehobaa.P
namespace Go.Proofs.Ytehkhbnhmehobaa.P
open Go.RowKit Go.Proofs.YtehkhbnhmehobaaW.PrintWords Go.Proofs.YtehkhbnhmehobaaW.PrintLast Go.Proofs.YtehkhbnhmehobaaW.PrintMore
set_option linter.unusedVariables false
set_option linter.unusedSimpArgs false
abbrev Sb := S81
abbrev Rb := S58
abbrev zB := z32
def foldS (l : List Wd) : Bool := !(markS l) && (!(anyS l 78) && !(hasS l 77 98000))
theorem wsub {a b : Nat} (h : b ≤ a) (h2 : a < 9223372036854775807) : wrap64 ((a : Int) - (b : Int)) = ((a - b : Nat) : Int) := by unfold wrap64; omega
def runB (l : List Bk) (i j : Nat) : Nat → Nat → Bool
  | 0, _ => true
  | c + 1, q => (foldS (l.getD (i + q) zB).f1 && decide (l.getD (i + q) zB = l.getD (j + q) zB)) && runB l i j c (q + 1)
theorem rdB (l : List Bk) (j : Nat) : rd_T32 l (j : Int) = l.getD j zB := by simp [rd_T32]
theorem getD_mem {l : List Bk} {j : Nat} (h : j < l.length) : l.getD j zB ∈ l := by
  rw [List.getD_eq_getElem?_getD, List.getElem?_eq_getElem h]
  exact List.getElem_mem h
section
variable {l : List Bk} (hl : l.length ≤ 1000) (hg : ∀ b ∈ l, goodB b)
include hl hg
omit hl hg in
end
section
variable {l : List Bk} (hl : l.length ≤ 1000) (hg : ∀ b ∈ l, goodB b)
include hl hg
end
def callB (num : Int) : Bk := ⟨false, [⟨77, 98000⟩, ⟨80, wrap64 (1000 * num)⟩], ⟨#[]⟩⟩
def mainB (l : List Bk) (num : Int) (a n : Nat) : Nat → Nat → List Bk → List Bk
  | 0, _, acc => acc
  | f + 1, i, acc => if i < l.length then (if i + n ≤ l.length ∧ runB l a i n 0 = true then mainB l num a n f (i + n) (acc ++ [callB num]) else mainB l num a n f (i + 1) (acc ++ [l.getD i zB])) else acc
section
variable {l : List Bk} (hl : l.length ≤ 1000) (hg : ∀ b ∈ l, goodB b)
include hl hg
end
theorem rd_Sb {l : List Sb} {j : Nat} (h : j < l.length) : rd_T81 l (j : Int) = l[j] := by simp [rd_T81, h]
theorem rd_Rb {l : List Rb} {j : Nat} (h : j < l.length) : rd_T58 l (j : Int) = l[j] := by simp [rd_T58, h]
def rOf (s : Sb) : Rb := ⟨s.f0, s.f1⟩
theorem back_l0 (m : List Bk) (s : List Sb) (hs : s.length ≤ 1000000) : ∀ (n j : Nat) (acc : List Rb), j + n = s.length → acc.length ≤ j → Ev (fun k => swarflaw43_back.l0 k s (s.length : Int) (j : Int) m acc) (m, acc ++ (s.drop j).map rOf) := by
  intro n
  induction n with
  | zero =>
    intro j acc hj ha
    refine Ev.step (fun k => by rw [swarflaw43_back.l0]) (Ev.neg (by omega) ?_)
    rw [List.drop_eq_nil_of_le (by omega)]
    simpa using Ev.some
  | succ n ih =>
    intro j acc hj ha
    have h0 := ih (j + 1) (acc ++ [rOf (s[j]'(by omega))]) (by omega) (by simp; omega)
    refine Ev.step (fun k => by rw [swarflaw43_back.l0]) (Ev.pos (by omega) (Ev.pos (by omega) (Ev.pos (by omega) (Ev.pos (by omega) ?_))))
    rw [rd_Sb (show j < s.length by omega), wrapI (by omega), List.drop_eq_getElem_cons (show j < s.length by omega), List.map_cons]
    have e : acc ++ rOf (s[j]'(by omega)) :: (s.drop (j + 1)).map rOf = acc ++ [rOf (s[j]'(by omega))] ++ (s.drop (j + 1)).map rOf := by rw [List.append_assoc]; rfl
    rw [e]
    exact h0
theorem back_ev (m : List Bk) (s : List Sb) (hs : s.length ≤ 1000000) : Ev (fun k => swarflaw43_back.f k m s) (m, s.map rOf) := by
  unfold swarflaw43_back.f
  simpa using back_l0 m s hs s.length 0 [] (by omega) (by simp)
def seenB (l : List Bk) : Prop := l.length ≤ 9223372036854775807 ∧ ∀ b ∈ l, b.f1.length ≤ 9223372036854775807
theorem SameR_l0 (m m2 : List Bk) (s : List Rb) (hs : s.length ≤ 1000000) (hb : ∀ x ∈ s, seenB x.f1) : ∀ (n j : Nat), j + n = s.length → Ev (fun k => swarfref43_Same.l0 k (j : Int) m s m2 s) true := by
  intro n
  induction n with
  | zero =>
    intro j hj
    exact Ev.step (fun k => by rw [swarfref43_Same.l0]) (Ev.neg (by omega) Ev.some)
  | succ n ih =>
    intro j hj
    have h0 := ih (j + 1) (by omega)
    have h1 := hb _ (List.getElem_mem (show j < s.length by omega))
    have h2 := Same_f (s[j]'(by omega)).f1 (s[j]'(by omega)).f1 h1.1 h1.2
    rw [decide_eq_true rfl] at h2
    refine Ev.step (fun k => by rw [swarfref43_Same.l0]) (Ev.pos (by omega) (Ev.pos (by omega) (Ev.pos (by omega) (Ev.pos rfl ?_))))
    rw [rd_Rb (show j < s.length by omega)]
    refine Ev.bind h2 (Ev.pos rfl ?_)
    rw [wrapI (by omega)]
    exact h0
theorem SameR_refl (m : List Bk) (s : List Rb) (hm : seenB m) (hs : s.length ≤ 1000000) (hb : ∀ x ∈ s, seenB x.f1) : Ev (fun k => swarfref43_Same.f k m s m s) true := by
  unfold swarfref43_Same.f
  have h2 := Same_f m m hm.1 hm.2
  rw [decide_eq_true rfl] at h2
  refine Ev.bind h2 (Ev.pos rfl (Ev.step (fun k => by rw [swarfref43_Same.j0]) (Ev.neg (by simp) ?_)))
  exact SameR_l0 m m s hs hb s.length 0 (by omega)
end Go.Proofs.Ytehkhbnhmehobaa.P
namespace Go.Proofs.Ytehkhbnhmehobaa.P
open Go.RowKit Go.ChangeShapes Go.WideShapes Go.Proofs.YtehkhbnhmehobaaW.PrintWords Go.Proofs.YtehkhbnhmehobaaW.PrintLast Go.Proofs.YtehkhbnhmehobaaW.PrintMore
set_option linter.unusedVariables false
section
variable {H : Type} {enc : TypeId × Value → H} {w : World} {base : Nat} {spare : Nat → Bool} {held : Bool} {r : Reach} {b0 : Nat} {v : Value} {d : DataW H} {p : List MemPlace}
end
end Go.Proofs.Ytehkhbnhmehobaa.P
namespace Go.Proofs.Ytehkhbnhmehobaa.P
open Go.RowKit Go.Proofs.YtehkhbnhmehobaaW.PrintWords Go.Proofs.YtehkhbnhmehobaaW.PrintLast Go.Proofs.YtehkhbnhmehobaaW.PrintMore
attribute [local go_sem] max2_int min2_int max_two min_two max_three min_three max_four min_four
set_option linter.unusedVariables false
set_option linter.unusedSimpArgs false
def subprogram_Join.l0 : Nat → List (S32) → List (S81) → Int → Int → Option ((List (S32)))
 | 0, _, _, _, _ => none
 | k + 1, x3, x10, x11, x12 => if x12 < x11 then (if 0 ≤ x12 then (if x12 < (x10.length : Int) then (if x3.length < 2932031007402 then ((some (x3 ++ [(⟨false, (([(⟨79, wrap64 (1000 * ((rd_T81 x10 x12).f0))⟩ : S78)] : List (S78))), (⟨#[]⟩ : ByteArray)⟩ : S32)] : List (S32))).bind fun y886 => (if y886.length + ((rd_T81 x10 x12).f1).length < 2932031007402 then ((some (y886 ++ ((rd_T81 x10 x12).f1) : List (S32))).bind fun y889 => (if y889.length < 2932031007402 then (subprogram_Join.l0 k (y889 ++ [(⟨false, (([(⟨77, 99000⟩ : S78)] : List (S78))), (⟨#[]⟩ : ByteArray)⟩ : S32)]) x10 x11 (wrap64 (x12 + 1))) else (none))) else (none))) else (none)) else (none)) else (none)) else (some x3)
def subprogram_Join.f (k : Nat) (l0_0 : List (S32)) (l0_1 : List (S81)) : Option ((List (S32))) := (Clone_Block.f l0_0).bind fun t878 => (subprogram_Join.l0 k t878 l0_1 (l0_1.length : Int) 0)
set_option maxHeartbeats 8000000 in
set_option maxRecDepth 100000 in
theorem subprogram_Join.calls (k : Nat) (P0_0_ : Nat → Prop) (A0_0 : Option Addr) (c0_0 : Nat) (l0_0 : List (S32)) (P0_1_ : Nat → Prop) (A0_1 : Option Addr) (c0_1 : Nat) (l0_1 : List (S81)) (r : List (S32)) (w : World) (hs0_0 : Kd.V k32 32 w w.heap.size (fun k_ => P0_0_ k_) (.slice A0_0 l0_0.length c0_0) l0_0) (hs0_1 : Kd.V k81 81 w w.heap.size (fun k_ => P0_1_ k_) (.slice A0_1 l0_1.length c0_1) l0_1) (h : subprogram_Join.f k l0_0 l0_1 = some r) :
  Calls Try.prog 47 #[.agg #[.slice A0_0 l0_0.length c0_0, .slice A0_1 l0_1.length c0_1]] w fun e w' => ∃ v0_ : Value, e = .returned (v0_) ∧ Kd.N k32 32 w' w.heap.size (fun k_ => ((P0_0_ k_ ∨ P0_1_ k_) ∨ w.heap.size ≤ k_)) v0_ r ∧ Below w.heap.size w w' := by
 have hu54 := Try.underlying54
 have hu81 := Try.underlying81
 have hu78 := Try.underlying78
 have hu32 := Try.underlying32
 have HO0_0 := Aside0.mk (show Kd.V k32 32 w w.heap.size (fun k_ => ((P0_0_ k_ ∨ P0_1_ k_) ∨ w.heap.size ≤ k_)) (.slice A0_0 l0_0.length c0_0) l0_0 from Kd.V_mono hs0_0 (fun k_ hk => .inl (.inl hk)))
 have HO0_1 := Aside0.mk (show Kd.V k81 81 w w.heap.size (fun k_ => ((P0_0_ k_ ∨ P0_1_ k_) ∨ w.heap.size ≤ k_)) (.slice A0_1 l0_1.length c0_1) l0_1 from Kd.V_mono hs0_1 (fun k_ hk => .inl (.inr hk)))
 have HB := Aside0.mk (Below.refl w.heap.size w)
 have H : ((Clone_Block.f l0_0).bind fun t878 => (subprogram_Join.l0 k t878 l0_1 (l0_1.length : Int) 0)) = some r := h
 clear h
 replace H := Option.bind_eq_some_iff.mp H
 obtain ⟨t878, A20, H⟩ := H
 have A2 := Aside0.mk A20
 clear A20
 have H' := Aside0.mk H
 clear H
 go_enter Try.func47, Try.ntmps47
 go_wp2_with (first | ((with_reducible refine gate_dst (N := 1) rfl ?_); refine yX 1 #[.slice A0_0 l0_0.length c0_0, .slice A0_1 l0_1.length c0_1] 54 ?_; intro gb877 hg w3 hbox hb; replace HO0_0 := Aside0.mk (Kd.V_below (Kd.V_elderB (yV HO0_0.out) gb877 (Nat.le_of_eq hg.symm)) hb); replace HO0_1 := Aside0.mk (Kd.V_below (Kd.V_elderB (yV HO0_1.out) gb877 (Nat.le_of_eq hg.symm)) hb); have BK877 := Aside0.mk (hbox); have GE877 := Aside0.mk ((yG hg : w.heap.size ≤ gb877)); replace HB := Aside0.mk (below_step yB hb); clear hb hbox hg; have hcz4_0 := yZ0 BK877.out; have hcz4_1 := yZ1 BK877.out; have hfz4_0 := blk_frozen BK877.out 0; have hfz4_1 := blk_frozen BK877.out 1) | ((with_reducible refine gate_callee (f := 33) rfl ?_); refine goesL_ (some 8) rfl rfl Try.func33 (by kernel_rfl) rfl #[.slice A0_0 l0_0.length c0_0] rfl yQ ?_; (with_reducible refine (Clone_Block.calls (fun k_ => (((P0_0_ k_ ∨ P0_1_ k_) ∨ w.heap.size ≤ k_) ∧ k_ ≠ gb877)) _ _ l0_0 t878 _ ?side1 A2.out).mono ?_); (case side1 => exact HO0_0.out); rintro e w5 ⟨v879, rfl, ho0, hb⟩; refine ⟨_, rfl, ?_⟩; replace HO0_0 := Aside0.mk (Kd.V_elder' (yV HO0_0.out) (by first | exact Kd.N_base ho0 | exact Kd.S_base ho0) hb); replace HO0_1 := Aside0.mk (Kd.V_elder' (yV HO0_1.out) (by first | exact Kd.N_base ho0 | exact Kd.S_base ho0) hb); have HO880 := Aside0.mk (Kd.N_lower (Kd.N_mono (ok' := fun k_ => ((P0_0_ k_ ∨ P0_1_ k_) ∨ w.heap.size ≤ k_) ∧ k_ ≠ gb877) ho0 (fun k_ hk_ => ⟨Or.elim hk_ (fun hs_ => hs_.1) (fun hn_ => (.inr (Nat.le_trans (below_size yB) hn_))), Or.elim hk_ (fun hs_ => hs_.2) (fun hn_ => (Kd.freshB (g := gb877) yK k_ hn_))⟩)) (below_size yB)); replace BK877 := Aside0.mk (blk_below (g := gb877) yK hb); replace HB := Aside0.mk (below_step yB hb); (try clear hb); (try clear ho0); have hcz6_0 := yZ0 BK877.out; have hcz6_1 := yZ1 BK877.out; have hfz6_0 := blk_frozen BK877.out 0; have hfz6_1 := blk_frozen BK877.out 1))
 go_loopg [3, 12] k (fun kq v3 v12 w' => ∃ (x3_1 : List (S32)) (x12_1 : Int), v12 = .int .i64 x12_1 ∧ Aside0 (subprogram_Join.l0 kq x3_1 l0_1 (l0_1.length : Int) x12_1 = some r) ∧ Aside0 (kq ≤ k) ∧ Aside0 (Kd.N k32 32 w' w.heap.size (fun k_ => ((P0_0_ k_ ∨ P0_1_ k_) ∨ w.heap.size ≤ k_) ∧ k_ ≠ gb877) v3 x3_1) ∧ Aside0 (Kd.V k81 81 w' w.heap.size (fun k_ => ((P0_0_ k_ ∨ P0_1_ k_) ∨ w.heap.size ≤ k_) ∧ some k_ ≠ (v3 : Value).ownBlock ∧ k_ ≠ gb877) (.slice A0_1 l0_1.length c0_1) l0_1) ∧ Aside0 (Kd.V k32 32 w' w.heap.size (fun k_ => ((P0_0_ k_ ∨ P0_1_ k_) ∨ w.heap.size ≤ k_) ∧ some k_ ≠ (v3 : Value).ownBlock ∧ k_ ≠ gb877) (.slice A0_0 l0_0.length c0_0) l0_0) ∧ Aside0 (Kd.V k81 81 w' w.heap.size (fun k_ => ((P0_0_ k_ ∨ P0_1_ k_) ∨ w.heap.size ≤ k_) ∧ some k_ ≠ (v3 : Value).ownBlock ∧ k_ ≠ gb877) (.slice A0_1 l0_1.length c0_1) l0_1) ∧ Aside0 (w'.heap[gb877]? = some (.cells #[(.slice A0_0 l0_0.length c0_0), (.slice A0_1 l0_1.length c0_1)] 54 (0, 0))) ∧ Aside0 (Below w.heap.size w w'))
 case atStart => exact ⟨(t878), (0), yS, H', ⟨Nat.le_refl _⟩, ⟨by refine yN ?_; exact HO880.out⟩, ⟨by refine yV ?_; exact Kd.V_mono HO0_1.out (fun _ hk => ⟨hk.1.1, ⟨hk.2, hk.1.2⟩⟩)⟩, ⟨by refine yV ?_; exact Kd.V_mono HO0_0.out (fun _ hk => ⟨hk.1.1, ⟨hk.2, hk.1.2⟩⟩)⟩, ⟨by refine yV ?_; exact Kd.V_mono HO0_1.out (fun _ hk => ⟨hk.1.1, ⟨hk.2, hk.1.2⟩⟩)⟩, ⟨by refine yH ?_; exact BK877.out⟩, ⟨yB⟩⟩
 case round =>
  clear H'
  try clear p2
  try clear c3
  try clear c4
  try clear hcz4_0
  try clear hcz4_1
  try clear hcz6_0
  try clear hcz6_1
  try clear hfz4_0
  try clear hfz4_1
  try clear hfz6_0
  try clear hfz6_1
  obtain ⟨x3_1, x12_1, rfl, HA, HK1, HO_3, HO_10, HO_878000, HO_878001, BK877, HB⟩ := hrel
  cases gk with
  | zero => exact absurd HA.out (by simp [subprogram_Join.l0])
  | succ k1 =>
   have H := HA.out
   clear HA
   simp only [subprogram_Join.l0] at H
   by_cases c7 : x12_1 < (l0_1.length : Int)
   ·rw [if_pos c7] at H
    have c7b0 := decide_eq_true c7
    clear c7
    by_cases c8 : 0 ≤ x12_1
    ·rw [if_pos c8] at H
     have c8b0 := decide_eq_true c8
     clear c8
     by_cases c9 : x12_1 < (l0_1.length : Int)
     ·rw [if_pos c9] at H
      have c9b0 := decide_eq_true c9
      clear c9
      obtain ⟨y883, hy883⟩ : ∃ y_ : List (S78), y_ = (([(⟨79, wrap64 (1000 * ((rd_T81 l0_1 x12_1).f0))⟩ : S78)] : List (S78))) := ⟨_, rfl⟩
      replace H : (if x3_1.length < 2932031007402 then ((some (x3_1 ++ [(⟨false, y883, (⟨#[]⟩ : ByteArray)⟩ : S32)] : List (S32))).bind fun y886 => (if y886.length + ((rd_T81 l0_1 x12_1).f1).length < 2932031007402 then ((some (y886 ++ ((rd_T81 l0_1 x12_1).f1) : List (S32))).bind fun y889 => (if y889.length < 2932031007402 then (subprogram_Join.l0 k1 (y889 ++ [(⟨false, (([(⟨77, 99000⟩ : S78)] : List (S78))), (⟨#[]⟩ : ByteArray)⟩ : S32)]) l0_1 (l0_1.length : Int) (wrap64 (x12_1 + 1))) else (none))) else (none))) else (none)) = some r := by first | (rw [hy883]; with_reducible exact H) | (have H2_ := (Option.bind_some _ _).symm.trans H; rw [hy883]; with_reducible exact H2_) | (have H2_ := (Option.bind_some _ _).symm.trans H; with_reducible exact H2_) | with_reducible exact H | (rw [hy883]; exact H) | exact H
      have Ny883 := Aside0.mk hy883
      clear hy883
      by_cases c10 : x3_1.length < 2932031007402
      ·rw [if_pos c10] at H
       have LMc10 := Aside0.mk c10
       clear c10
       obtain ⟨y886, hy886⟩ : ∃ y_ : List (S32), y_ = (x3_1 ++ [(⟨false, y883, (⟨#[]⟩ : ByteArray)⟩ : S32)]) := ⟨_, rfl⟩
       replace H : (if y886.length + ((rd_T81 l0_1 x12_1).f1).length < 2932031007402 then ((some (y886 ++ ((rd_T81 l0_1 x12_1).f1) : List (S32))).bind fun y889 => (if y889.length < 2932031007402 then (subprogram_Join.l0 k1 (y889 ++ [(⟨false, (([(⟨77, 99000⟩ : S78)] : List (S78))), (⟨#[]⟩ : ByteArray)⟩ : S32)]) l0_1 (l0_1.length : Int) (wrap64 (x12_1 + 1))) else (none))) else (none)) = some r := by first | (rw [hy886]; with_reducible exact H) | (have H2_ := (Option.bind_some _ _).symm.trans H; rw [hy886]; with_reducible exact H2_) | (have H2_ := (Option.bind_some _ _).symm.trans H; with_reducible exact H2_) | with_reducible exact H | (rw [hy886]; exact H) | exact H
       have Ny886 := Aside0.mk hy886
       clear hy886
       by_cases c11 : y886.length + ((rd_T81 l0_1 x12_1).f1).length < 2932031007402
       ·rw [if_pos c11] at H
        have LMc11 := Aside0.mk c11
        clear c11
        obtain ⟨y889, hy889⟩ : ∃ y_ : List (S32), y_ = (y886 ++ ((rd_T81 l0_1 x12_1).f1)) := ⟨_, rfl⟩
        replace H : (if y889.length < 2932031007402 then (subprogram_Join.l0 k1 (y889 ++ [(⟨false, (([(⟨77, 99000⟩ : S78)] : List (S78))), (⟨#[]⟩ : ByteArray)⟩ : S32)]) l0_1 (l0_1.length : Int) (wrap64 (x12_1 + 1))) else (none)) = some r := by first | (rw [hy889]; with_reducible exact H) | (have H2_ := (Option.bind_some _ _).symm.trans H; rw [hy889]; with_reducible exact H2_) | (have H2_ := (Option.bind_some _ _).symm.trans H; with_reducible exact H2_) | with_reducible exact H | (rw [hy889]; exact H) | exact H
        have Ny889 := Aside0.mk hy889
        clear hy889
        obtain ⟨y892, hy892⟩ : ∃ y_ : List (S78), y_ = (([(⟨77, 99000⟩ : S78)] : List (S78))) := ⟨_, rfl⟩
        replace H : (if y889.length < 2932031007402 then (subprogram_Join.l0 k1 (y889 ++ [(⟨false, y892, (⟨#[]⟩ : ByteArray)⟩ : S32)]) l0_1 (l0_1.length : Int) (wrap64 (x12_1 + 1))) else (none)) = some r := by first | (rw [hy892]; with_reducible exact H) | (have H2_ := (Option.bind_some _ _).symm.trans H; rw [hy892]; with_reducible exact H2_) | (have H2_ := (Option.bind_some _ _).symm.trans H; with_reducible exact H2_) | with_reducible exact H | (rw [hy892]; exact H) | exact H
        have Ny892 := Aside0.mk hy892
        clear hy892
        by_cases c12 : y889.length < 2932031007402
        ·rw [if_pos c12] at H
         have LMc12 := Aside0.mk c12
         clear c12
         obtain ⟨y895, hy895⟩ : ∃ y_ : List (S32), y_ = (y889 ++ [(⟨false, y892, (⟨#[]⟩ : ByteArray)⟩ : S32)]) := ⟨_, rfl⟩
         replace H : (subprogram_Join.l0 k1 y895 l0_1 (l0_1.length : Int) (wrap64 (x12_1 + 1))) = some r := by first | (rw [hy895]; with_reducible exact H) | (have H2_ := (Option.bind_some _ _).symm.trans H; rw [hy895]; with_reducible exact H2_) | (have H2_ := (Option.bind_some _ _).symm.trans H; with_reducible exact H2_) | with_reducible exact H | (rw [hy895]; exact H) | exact H
         have Ny895 := Aside0.mk hy895
         clear hy895
         have H' := Aside0.mk H
         clear H
         have p881 : 0 ≤ (x12_1 : Int) := yD
         have q881 : x12_1 < (l0_1.length : Int) := yD
         obtain ⟨ad881, A881_1, c881_1, e881, hx881_0, hx881_1, hl881_1, hi881_1⟩ := at_T81 (Kd.V_reads' HO_10.out).2.2 x12_1 p881 q881
         cases e881
         obtain ⟨ce881, hce881, hMe881, hcc881⟩ := Kd.V_get HO_10.out z81 x12_1 p881 (by first | exact q881 | exact yD | (have e_ := (Kd.V_reads' HO_10.out).1; omega))
         obtain ⟨ua881_1, uc881_1, rfl, ul881_1, ge881_1⟩ := k81_openF hMe881
         have hv881_1 := hcc881 1 _ rfl
         rw [add_field _ _ 1 (by omega)] at hv881_1
         replace hv881_1 := Option.some.inj (hv881_1.symm.trans hx881_1)
         injection hv881_1 with hva_ hvn_ hvc_
         rw [hva_] at ge881_1
         rw [hvc_] at ul881_1
         have HL881_1 := Aside0.mk (show Kd.V k32 32 _ w.heap.size _ _ ((rd_T81 l0_1 x12_1).f1) from Kd.V_mk ul881_1 ge881_1)
         clear hva_ hvn_ hvc_ ge881_1 ul881_1
         clear hcc881 hce881
         have HR881_1 := Aside0.mk hi881_1
         have HC881_1 := Aside0.mk hl881_1
         clear hi881_1 hl881_1
         replace p881 := eq_true p881
         replace q881 := eq_true q881
         go_wp2_with (first | ((with_reducible refine gate_dst (N := 5) rfl ?_); refine yX 5 #[.int .i64 0, .slice none 0 0] 81 ?_; intro gb882 hg w13 hbox hb; replace HO_3 := Aside0.mk (Kd.N_below (Kd.N_elderB (yN HO_3.out) gb882 (Nat.le_of_eq hg.symm)) hb); replace HO_10 := Aside0.mk (Kd.V_below (Kd.V_elderB (yV HO_10.out) gb882 (Nat.le_of_eq hg.symm)) hb); replace HO_878000 := Aside0.mk (Kd.V_below (Kd.V_elderB (yV HO_878000.out) gb882 (Nat.le_of_eq hg.symm)) hb); replace HO_878001 := Aside0.mk (Kd.V_below (Kd.V_elderB (yV HO_878001.out) gb882 (Nat.le_of_eq hg.symm)) hb); replace HL881_1 := Aside0.mk (Kd.V_below (Kd.V_elderB (yV HL881_1.out) gb882 (Nat.le_of_eq hg.symm)) hb); replace HR881_1 := Aside0.mk (Kd.C_below (by repeat (first | (with_reducible exact HR881_1.out) | (with_reducible refine Kd.C_alloc ?_ _) | (with_reducible refine Kd.C_drewN ?_ _) | (with_reducible refine Kd.C_drew ?_) | exact HR881_1.out)) hb); have BK882 := Aside0.mk (hbox); have GE882 := Aside0.mk ((yG hg : w.heap.size ≤ gb882)); replace HB := Aside0.mk (below_step yB hb); have NB877_882 := Aside0.mk ((yJ hg yK : gb877 ≠ gb882)); have NB882_877 := Aside0.mk ((yI hg yK : gb882 ≠ gb877)); replace BK877 := Aside0.mk (blk_below (g := gb877) yK hb); clear hb hbox hg; have hnb14 := NB882_877.out; have hnc14 := NB877_882.out; have hcz15_0 := yZ0 BK882.out; have hcz15_1 := yZ1 BK882.out; have hfz15_0 := blk_frozen BK882.out 0; have hfz15_1 := blk_frozen BK882.out 1) | ((with_reducible refine gate_dst (N := 21) rfl ?_); refine Kd.R_lit k78 _ 78 ?hg (N := 21) ?hd (xs := ([(⟨79, wrap64 (1000 * ((rd_T81 l0_1 x12_1).f0))⟩ : S78)] : List (S78))) (inner := [.int .u8 79, .int .i64 (wrap64 (1000 * ((rd_T81 l0_1 x12_1).f0)))]) (ok := fun _ => True) (okp := fun _ => True) ?hr ?hp (fun _ hk => hk) trivial (Below.refl _ _) (Nat.le_refl _) (by simp) ?_; (case hd => rfl); (case hg => rfl); (case hr => first | (go_simp; done) | (go_simp; rfl)); (case hp => exact (Reps.c2 (show Kd.M k78 _ _ _ (⟨79, wrap64 (1000 * ((rd_T81 l0_1 x12_1).f0))⟩ : S78) [.int .u8 79, .int .i64 (wrap64 (1000 * ((rd_T81 l0_1 x12_1).f0)))] from (k78_mkM _ _ _ (⟨79, wrap64 (1000 * ((rd_T81 l0_1 x12_1).f0))⟩ : S78) )) (Reps.none _ _))); intro v884 w16 ho17 hb hg_ hnew_; clear hg_ hnew_; (first | rw [← Ny883.out] at ho17 | (simp only [Int.reduceToNat] at ho17; rw [← Ny883.out] at ho17)); replace HO_3 := Aside0.mk (Kd.N_elder' (yN (Kd.N_mono (Kd.N_far (p := ⟨gb882, 1, none⟩) (Kd.N_far (p := ⟨gb882, 0, none⟩) (Kd.N_mono HO_3.out (fun k_ hk => (⟨hk, hk.2⟩ : _ ∧ k_ ≠ gb882))) (fun _ hk => hk.2) (.int .i64 ((rd_T81 l0_1 x12_1).f0))) (fun _ hk => hk.2) (.slice A881_1 ((rd_T81 l0_1 x12_1).f1).length c881_1)) (fun _ h_ => h_.1))) (Kd.R_base ho17) hb); replace HO_10 := Aside0.mk (Kd.V_elder' (yV (Kd.V_mono (Kd.V_far (p := ⟨gb882, 1, none⟩) (Kd.V_far (p := ⟨gb882, 0, none⟩) (Kd.V_mono HO_10.out (fun k_ hk => (⟨hk, hk.2⟩ : _ ∧ k_ ≠ gb882))) (fun _ hk => hk.2) (.int .i64 ((rd_T81 l0_1 x12_1).f0))) (fun _ hk => hk.2) (.slice A881_1 ((rd_T81 l0_1 x12_1).f1).length c881_1)) (fun _ h_ => h_.1))) (Kd.R_base ho17) hb); replace HO_878000 := Aside0.mk (Kd.V_elder' (yV (Kd.V_mono (Kd.V_far (p := ⟨gb882, 1, none⟩) (Kd.V_far (p := ⟨gb882, 0, none⟩) (Kd.V_mono HO_878000.out (fun k_ hk => (⟨hk, hk.2⟩ : _ ∧ k_ ≠ gb882))) (fun _ hk => hk.2) (.int .i64 ((rd_T81 l0_1 x12_1).f0))) (fun _ hk => hk.2) (.slice A881_1 ((rd_T81 l0_1 x12_1).f1).length c881_1)) (fun _ h_ => h_.1))) (Kd.R_base ho17) hb); replace HO_878001 := Aside0.mk (Kd.V_elder' (yV (Kd.V_mono (Kd.V_far (p := ⟨gb882, 1, none⟩) (Kd.V_far (p := ⟨gb882, 0, none⟩) (Kd.V_mono HO_878001.out (fun k_ hk => (⟨hk, hk.2⟩ : _ ∧ k_ ≠ gb882))) (fun _ hk => hk.2) (.int .i64 ((rd_T81 l0_1 x12_1).f0))) (fun _ hk => hk.2) (.slice A881_1 ((rd_T81 l0_1 x12_1).f1).length c881_1)) (fun _ h_ => h_.1))) (Kd.R_base ho17) hb); have HO885 := Aside0.mk (Kd.R_lower (Kd.R_newM (M := fun k_ => (w.heap.size ≤ k_)) ho17 (below_size yB) (fun k_ h_ => h_)) (below_size yB)); replace BK877 := Aside0.mk (blk_below (g := gb877) (o := .cells #[.slice A0_0 l0_0.length c0_0, .slice (some ad881) l0_1.length c0_1] 54 (0, 0)) (by refine yH ?_; refine blk_far ?_ NB877_882.out _; refine yH ?_; refine blk_far ?_ NB877_882.out _; refine yH ?_; exact BK877.out) hb); replace HR881_1 := Aside0.mk (Kd.C_below ((Kd.V_reads' (yV (Kd.V_mono (Kd.V_far (p := ⟨gb882, 1, none⟩) (Kd.V_far (p := ⟨gb882, 0, none⟩) (Kd.V_mono HL881_1.out (fun k_ hk => (⟨hk, hk.2⟩ : _ ∧ k_ ≠ gb882))) (fun _ hk => hk.2) (.int .i64 ((rd_T81 l0_1 x12_1).f0))) (fun _ hk => hk.2) (.slice A881_1 ((rd_T81 l0_1 x12_1).f1).length c881_1)) (fun _ h_ => h_.1)))).2.2) hb); replace HL881_1 := Aside0.mk (Kd.V_elder' (yV (Kd.V_mono (Kd.V_far (p := ⟨gb882, 1, none⟩) (Kd.V_far (p := ⟨gb882, 0, none⟩) (Kd.V_mono HL881_1.out (fun k_ hk => (⟨hk, hk.2⟩ : _ ∧ k_ ≠ gb882))) (fun _ hk => hk.2) (.int .i64 ((rd_T81 l0_1 x12_1).f0))) (fun _ hk => hk.2) (.slice A881_1 ((rd_T81 l0_1 x12_1).f1).length c881_1)) (fun _ h_ => h_.1))) (Kd.R_base ho17) hb); replace BK882 := Aside0.mk (blk_below (g := gb882) (o := .cells #[.int .i64 ((rd_T81 l0_1 x12_1).f0), .slice A881_1 ((rd_T81 l0_1 x12_1).f1).length c881_1] 81 (0, 0)) (by refine yH ?_; refine blk_put (cs := #[.int .i64 ((rd_T81 l0_1 x12_1).f0), .slice none 0 0]) ?_ 1 _ rfl; refine yH ?_; refine blk_put (cs := #[.int .i64 0, .slice none 0 0]) ?_ 0 _ rfl; refine yH ?_; exact BK882.out) hb); replace HB := Aside0.mk (below_step yB hb); clear hb ho17; obtain ⟨Ao18, co18, eo18⟩ := Kd.R_slice HO885.out; subst eo18) | ((with_reducible refine gate_builtin (b := .append) (xs := #[.tmp 16, .tmp 23]) rfl ?_); at_builtin; refine Kd.N_append k32 (w0 := w) w.heap.size rfl (.tmp 16) (.tmp 23) 35 32 (.agg #[(.bool false), (.slice none 0 0), (.string ⟨#[]⟩)]) 48 rfl Try.underlying35 info32 rfl (by decide) (by omega) u3 x3_1 (⟨false, y883, (⟨#[]⟩ : ByteArray)⟩ : S32) [.bool false, .slice Ao18 y883.length co18, .string (⟨#[]⟩ : ByteArray)] (fun k_ => ((P0_0_ k_ ∨ P0_1_ k_) ∨ w.heap.size ≤ k_) ∧ k_ ≠ gb877 ∧ k_ ≠ gb882) (fun k_ => ((fun k_ => ((P0_0_ k_ ∨ P0_1_ k_) ∨ w.heap.size ≤ k_) ∧ k_ ≠ gb877 ∧ k_ ≠ gb882)) k_ ∧ some k_ ≠ (u3 : Value).ownBlock) rfl rfl ?aP (fun _ hk => hk) ?aF ?aO ?aB ?aS ?aL ?_; (case aP => exact (k32_mkF _ _ (⟨false, y883, (⟨#[]⟩ : ByteArray)⟩ : S32) (Kd.R_reads' (Kd.R_mono (ok' := (fun k_ => ((fun k_ => ((P0_0_ k_ ∨ P0_1_ k_) ∨ w.heap.size ≤ k_) ∧ k_ ≠ gb877 ∧ k_ ≠ gb882)) k_ ∧ some k_ ≠ (u3 : Value).ownBlock)) (Kd.R_types (Kd.R_types (Kd.R_apart' (HO885.out) (Kd.N_typed HO_3.out) (by decide)) BK877.out (by decide)) BK882.out (by decide)) (fun k_ hk => ⟨⟨(.inr (hk.1.1.1.1)), ⟨hk.1.2, hk.2⟩⟩, hk.1.1.2⟩))).2.1 (Kd.R_F (Kd.R_mono (ok' := (fun k_ => ((fun k_ => ((P0_0_ k_ ∨ P0_1_ k_) ∨ w.heap.size ≤ k_) ∧ k_ ≠ gb877 ∧ k_ ≠ gb882)) k_ ∧ some k_ ≠ (u3 : Value).ownBlock)) (Kd.R_types (Kd.R_types (Kd.R_apart' (HO885.out) (Kd.N_typed HO_3.out) (by decide)) BK877.out (by decide)) BK882.out (by decide)) (fun k_ hk => ⟨⟨(.inr (hk.1.1.1.1)), ⟨hk.1.2, hk.2⟩⟩, hk.1.1.2⟩))))); (case aB => exact yB); (case aF => exact (fun k_ hk => ⟨(.inr (Nat.le_trans (below_size yB) hk)), Kd.freshB (g := gb877) yK k_ hk, Kd.freshB (g := gb882) yK k_ hk⟩)); (case aO => exact (yN (Kd.N_mono HO_3.out (fun _ hk => ⟨hk.1.1.1, ⟨hk.1.1.2, hk.1.2⟩⟩)))); (case aS => exact (below_size yB)); (case aL => have := LMc10.out; omega); intro v887 w19 ho hb hg hat; rw [← Ny886.out] at ho; have n0_ := Aside0.mk (Kd.V_afterv (ok := (fun k_ => ((P0_0_ k_ ∨ P0_1_ k_) ∨ w.heap.size ≤ k_) ∧ some k_ ≠ (.slice Ao18 y883.length co18 : Value).ownBlock ∧ k_ ≠ gb877 ∧ k_ ≠ gb882)) (yV (Kd.V_mono HO_10.out (fun _ hk => ⟨⟨hk.1.1.1, ⟨hk.2, ⟨hk.1.1.2.2, hk.1.2⟩⟩⟩, hk.1.1.2.1⟩))) hg hat); have n1_ := Aside0.mk (Kd.V_afterv (ok := (fun k_ => ((P0_0_ k_ ∨ P0_1_ k_) ∨ w.heap.size ≤ k_) ∧ some k_ ≠ (.slice Ao18 y883.length co18 : Value).ownBlock ∧ k_ ≠ gb877 ∧ k_ ≠ gb882)) (yV (Kd.V_mono HO_878000.out (fun _ hk => ⟨⟨hk.1.1.1, ⟨hk.2, ⟨hk.1.1.2.2, hk.1.2⟩⟩⟩, hk.1.1.2.1⟩))) hg hat); have n2_ := Aside0.mk (Kd.V_afterv (ok := (fun k_ => ((P0_0_ k_ ∨ P0_1_ k_) ∨ w.heap.size ≤ k_) ∧ some k_ ≠ (.slice Ao18 y883.length co18 : Value).ownBlock ∧ k_ ≠ gb877 ∧ k_ ≠ gb882)) (yV (Kd.V_mono HO_878001.out (fun _ hk => ⟨⟨hk.1.1.1, ⟨hk.2, ⟨hk.1.1.2.2, hk.1.2⟩⟩⟩, hk.1.1.2.1⟩))) hg hat); have n3_ := Aside0.mk (blk_grown (g := gb877) yK hg (Kd.N_ne HO_3.out BK877.out (by decide))); have n4_ := Aside0.mk (Kd.V_afterv (ok := (fun k_ => ((P0_0_ k_ ∨ P0_1_ k_) ∨ w.heap.size ≤ k_) ∧ some k_ ≠ (.slice Ao18 y883.length co18 : Value).ownBlock ∧ k_ ≠ gb877 ∧ k_ ≠ gb882)) (yV (Kd.V_mono HL881_1.out (fun _ hk => ⟨⟨hk.1.1.1, ⟨hk.2, ⟨hk.1.1.2.2, hk.1.2⟩⟩⟩, hk.1.1.2.1⟩))) hg hat); have n5_ := Aside0.mk (blk_grown (g := gb882) yK hg (Kd.N_ne HO_3.out BK882.out (by decide))); have n6_ := Aside0.mk (hb); have n7_ := Aside0.mk (ho); clear HO_10; clear HO_878000; clear HO_878001; clear BK877; clear HL881_1; clear BK882; clear HB; clear HO_3; clear HO885; have HO_10 := n0_; have HO_878000 := n1_; have HO_878001 := n2_; have BK877 := n3_; have HL881_1 := n4_; have BK882 := n5_; have HB := n6_; have HO888 := n7_; clear n0_ n1_ n2_ n3_ n4_ n5_ n6_ n7_; clear ho hb hg hat; have hcz20_0 := yZ0 BK882.out; have hcz20_1 := yZ1 BK882.out; have hfz20_0 := blk_frozen BK882.out 0; have hfz20_1 := blk_frozen BK882.out 1) | ((with_reducible refine gate_builtin (b := .append) (xs := #[.tmp 25, .tmp 27]) rfl ?_); at_builtin; refine Kd.N_append_rows k32 (w0 := w) w.heap.size rfl (.tmp 25) (.tmp 27) 35 32 (.agg #[(.bool false), (.slice none 0 0), (.string ⟨#[]⟩)]) 48 rfl Try.underlying35 info32 rfl (by decide) (by omega) v887 y886 ((rd_T81 l0_1 x12_1).f1) _ _ _ (fun k_ => ((P0_0_ k_ ∨ P0_1_ k_) ∨ w.heap.size ≤ k_) ∧ k_ ≠ gb877 ∧ k_ ≠ gb882) (fun k_ => ((fun k_ => ((P0_0_ k_ ∨ P0_1_ k_) ∨ w.heap.size ≤ k_) ∧ k_ ≠ gb877 ∧ k_ ≠ gb882)) k_ ∧ some k_ ≠ (v887 : Value).ownBlock) rfl rfl ?aO ?aR (fun _ hk => hk) ?aF ?aB ?aS ?aL ?_; (case aR => exact (by skip; exact Kd.V_F (Kd.V_mono (ok' := (fun k_ => ((fun k_ => ((P0_0_ k_ ∨ P0_1_ k_) ∨ w.heap.size ≤ k_) ∧ k_ ≠ gb877 ∧ k_ ≠ gb882)) k_ ∧ some k_ ≠ (v887 : Value).ownBlock)) (HL881_1.out) (fun k_ hk => ⟨⟨hk.1.1, ⟨hk.1.2.2.1, hk.1.2.2.2⟩⟩, hk.2⟩)))); (case aB => exact yB); (case aF => exact (fun k_ hk => ⟨(.inr (Nat.le_trans (below_size yB) hk)), Kd.freshB (g := gb877) yK k_ hk, Kd.freshB (g := gb882) yK k_ hk⟩)); (case aO => exact (yN HO888.out)); (case aS => exact (below_size yB)); (case aL => have := LMc11.out; omega); intro v890 w21 ho hb hg hat; rw [← Ny889.out] at ho; have n0_ := Aside0.mk (Kd.V_afterv (ok := (fun k_ => ((P0_0_ k_ ∨ P0_1_ k_) ∨ w.heap.size ≤ k_) ∧ k_ ≠ gb877 ∧ k_ ≠ gb882)) (yV (Kd.V_mono HO_10.out (fun _ hk => ⟨⟨hk.1.1, ⟨hk.1.2.2.1, hk.1.2.2.2⟩⟩, hk.2⟩))) hg hat); have n1_ := Aside0.mk (Kd.V_afterv (ok := (fun k_ => ((P0_0_ k_ ∨ P0_1_ k_) ∨ w.heap.size ≤ k_) ∧ k_ ≠ gb877 ∧ k_ ≠ gb882)) (yV (Kd.V_mono HO_878000.out (fun _ hk => ⟨⟨hk.1.1, ⟨hk.1.2.2.1, hk.1.2.2.2⟩⟩, hk.2⟩))) hg hat); have n2_ := Aside0.mk (Kd.V_afterv (ok := (fun k_ => ((P0_0_ k_ ∨ P0_1_ k_) ∨ w.heap.size ≤ k_) ∧ k_ ≠ gb877 ∧ k_ ≠ gb882)) (yV (Kd.V_mono HO_878001.out (fun _ hk => ⟨⟨hk.1.1, ⟨hk.1.2.2.1, hk.1.2.2.2⟩⟩, hk.2⟩))) hg hat); have n3_ := Aside0.mk (blk_grown (g := gb877) yK hg (Kd.N_ne HO888.out BK877.out (by decide))); have n4_ := Aside0.mk (Kd.V_afterv (ok := (fun k_ => ((P0_0_ k_ ∨ P0_1_ k_) ∨ w.heap.size ≤ k_) ∧ k_ ≠ gb877 ∧ k_ ≠ gb882)) (yV (Kd.V_mono HL881_1.out (fun _ hk => ⟨⟨hk.1.1, ⟨hk.1.2.2.1, hk.1.2.2.2⟩⟩, hk.2⟩))) hg hat); have n5_ := Aside0.mk (blk_grown (g := gb882) yK hg (Kd.N_ne HO888.out BK882.out (by decide))); have n6_ := Aside0.mk (hb); have n7_ := Aside0.mk (ho); clear HO_10; clear HO_878000; clear HO_878001; clear BK877; clear HL881_1; clear BK882; clear HB; clear HO888; have HO_10 := n0_; have HO_878000 := n1_; have HO_878001 := n2_; have BK877 := n3_; have HL881_1 := n4_; have BK882 := n5_; have HB := n6_; have HO891 := n7_; clear n0_ n1_ n2_ n3_ n4_ n5_ n6_ n7_; clear ho hb hg hat) | ((with_reducible refine gate_dst (N := 31) rfl ?_); refine Kd.R_lit k78 _ 78 ?hg (N := 31) ?hd (xs := ([(⟨77, 99000⟩ : S78)] : List (S78))) (inner := [.int .u8 77, .int .i64 99000]) (ok := fun _ => True) (okp := fun _ => True) ?hr ?hp (fun _ hk => hk) trivial (Below.refl _ _) (Nat.le_refl _) (by simp) ?_; (case hd => rfl); (case hg => rfl); (case hr => first | (go_simp; done) | (go_simp; rfl)); (case hp => exact (Reps.c2 (show Kd.M k78 _ _ _ (⟨77, 99000⟩ : S78) [.int .u8 77, .int .i64 99000] from (k78_mkM _ _ _ (⟨77, 99000⟩ : S78) )) (Reps.none _ _))); intro v893 w22 ho23 hb hg_ hnew_; clear hg_ hnew_; (first | rw [← Ny892.out] at ho23 | (simp only [Int.reduceToNat] at ho23; rw [← Ny892.out] at ho23)); replace HO_10 := Aside0.mk (Kd.V_elder' (yV HO_10.out) (Kd.R_base ho23) hb); replace HO_878000 := Aside0.mk (Kd.V_elder' (yV HO_878000.out) (Kd.R_base ho23) hb); replace HO_878001 := Aside0.mk (Kd.V_elder' (yV HO_878001.out) (Kd.R_base ho23) hb); replace HL881_1 := Aside0.mk (Kd.V_elder' (yV HL881_1.out) (Kd.R_base ho23) hb); replace HO891 := Aside0.mk (Kd.N_elder' (yN HO891.out) (Kd.R_base ho23) hb); have HO894 := Aside0.mk (Kd.R_lower (Kd.R_newM (M := fun k_ => (w.heap.size ≤ k_)) ho23 (below_size yB) (fun k_ h_ => h_)) (below_size yB)); replace BK877 := Aside0.mk (blk_below (g := gb877) yK hb); replace BK882 := Aside0.mk (blk_below (g := gb882) yK hb); replace HB := Aside0.mk (below_step yB hb); clear hb ho23; obtain ⟨Ao24, co24, eo24⟩ := Kd.R_slice HO894.out; subst eo24) | ((with_reducible refine gate_builtin (b := .append) (xs := #[.tmp 29, .tmp 33]) rfl ?_); at_builtin; refine Kd.N_append k32 (w0 := w) w.heap.size rfl (.tmp 29) (.tmp 33) 35 32 (.agg #[(.bool false), (.slice none 0 0), (.string ⟨#[]⟩)]) 48 rfl Try.underlying35 info32 rfl (by decide) (by omega) v890 y889 (⟨false, y892, (⟨#[]⟩ : ByteArray)⟩ : S32) [.bool false, .slice Ao24 y892.length co24, .string (⟨#[]⟩ : ByteArray)] (fun k_ => ((P0_0_ k_ ∨ P0_1_ k_) ∨ w.heap.size ≤ k_) ∧ k_ ≠ gb877 ∧ k_ ≠ gb882) (fun k_ => ((fun k_ => ((P0_0_ k_ ∨ P0_1_ k_) ∨ w.heap.size ≤ k_) ∧ k_ ≠ gb877 ∧ k_ ≠ gb882)) k_ ∧ some k_ ≠ (v890 : Value).ownBlock) rfl rfl ?aP (fun _ hk => hk) ?aF ?aO ?aB ?aS ?aL ?_; (case aP => exact (k32_mkF _ _ (⟨false, y892, (⟨#[]⟩ : ByteArray)⟩ : S32) (Kd.R_reads' (Kd.R_mono (ok' := (fun k_ => ((fun k_ => ((P0_0_ k_ ∨ P0_1_ k_) ∨ w.heap.size ≤ k_) ∧ k_ ≠ gb877 ∧ k_ ≠ gb882)) k_ ∧ some k_ ≠ (v890 : Value).ownBlock)) (Kd.R_types (Kd.R_types (Kd.R_apart' (HO894.out) (Kd.N_typed HO891.out) (by decide)) BK877.out (by decide)) BK882.out (by decide)) (fun k_ hk => ⟨⟨(.inr (hk.1.1.1.1)), ⟨hk.1.2, hk.2⟩⟩, hk.1.1.2⟩))).2.1 (Kd.R_F (Kd.R_mono (ok' := (fun k_ => ((fun k_ => ((P0_0_ k_ ∨ P0_1_ k_) ∨ w.heap.size ≤ k_) ∧ k_ ≠ gb877 ∧ k_ ≠ gb882)) k_ ∧ some k_ ≠ (v890 : Value).ownBlock)) (Kd.R_types (Kd.R_types (Kd.R_apart' (HO894.out) (Kd.N_typed HO891.out) (by decide)) BK877.out (by decide)) BK882.out (by decide)) (fun k_ hk => ⟨⟨(.inr (hk.1.1.1.1)), ⟨hk.1.2, hk.2⟩⟩, hk.1.1.2⟩))))); (case aB => exact yB); (case aF => exact (fun k_ hk => ⟨(.inr (Nat.le_trans (below_size yB) hk)), Kd.freshB (g := gb877) yK k_ hk, Kd.freshB (g := gb882) yK k_ hk⟩)); (case aO => exact (yN (Kd.N_mono HO891.out (fun _ hk => ⟨hk.1.1, ⟨hk.1.2.1, hk.1.2.2⟩⟩)))); (case aS => exact (below_size yB)); (case aL => have := LMc12.out; omega); intro v896 w25 ho hb hg hat; rw [← Ny895.out] at ho; have n0_ := Aside0.mk (Kd.V_afterv (ok := (fun k_ => ((P0_0_ k_ ∨ P0_1_ k_) ∨ w.heap.size ≤ k_) ∧ some k_ ≠ (.slice Ao24 y892.length co24 : Value).ownBlock ∧ k_ ≠ gb877 ∧ k_ ≠ gb882)) (yV (Kd.V_mono HO_10.out (fun _ hk => ⟨⟨hk.1.1.1, ⟨hk.2, ⟨hk.1.1.2.1, hk.1.1.2.2⟩⟩⟩, hk.1.2⟩))) hg hat); have n1_ := Aside0.mk (Kd.V_afterv (ok := (fun k_ => ((P0_0_ k_ ∨ P0_1_ k_) ∨ w.heap.size ≤ k_) ∧ some k_ ≠ (.slice Ao24 y892.length co24 : Value).ownBlock ∧ k_ ≠ gb877 ∧ k_ ≠ gb882)) (yV (Kd.V_mono HO_878000.out (fun _ hk => ⟨⟨hk.1.1.1, ⟨hk.2, ⟨hk.1.1.2.1, hk.1.1.2.2⟩⟩⟩, hk.1.2⟩))) hg hat); have n2_ := Aside0.mk (Kd.V_afterv (ok := (fun k_ => ((P0_0_ k_ ∨ P0_1_ k_) ∨ w.heap.size ≤ k_) ∧ some k_ ≠ (.slice Ao24 y892.length co24 : Value).ownBlock ∧ k_ ≠ gb877 ∧ k_ ≠ gb882)) (yV (Kd.V_mono HO_878001.out (fun _ hk => ⟨⟨hk.1.1.1, ⟨hk.2, ⟨hk.1.1.2.1, hk.1.1.2.2⟩⟩⟩, hk.1.2⟩))) hg hat); have n3_ := Aside0.mk (blk_grown (g := gb877) yK hg (Kd.N_ne HO891.out BK877.out (by decide))); have n4_ := Aside0.mk (Kd.V_afterv (ok := (fun k_ => ((P0_0_ k_ ∨ P0_1_ k_) ∨ w.heap.size ≤ k_) ∧ some k_ ≠ (.slice Ao24 y892.length co24 : Value).ownBlock ∧ k_ ≠ gb877 ∧ k_ ≠ gb882)) (yV (Kd.V_mono HL881_1.out (fun _ hk => ⟨⟨hk.1.1.1, ⟨hk.2, ⟨hk.1.1.2.1, hk.1.1.2.2⟩⟩⟩, hk.1.2⟩))) hg hat); have n5_ := Aside0.mk (blk_grown (g := gb882) yK hg (Kd.N_ne HO891.out BK882.out (by decide))); have n6_ := Aside0.mk (hb); have n7_ := Aside0.mk (ho); clear HO_10; clear HO_878000; clear HO_878001; clear BK877; clear HL881_1; clear BK882; clear HB; clear HO891; clear HO894; have HO_10 := n0_; have HO_878000 := n1_; have HO_878001 := n2_; have BK877 := n3_; have HL881_1 := n4_; have BK882 := n5_; have HB := n6_; have HO897 := n7_; clear n0_ n1_ n2_ n3_ n4_ n5_ n6_ n7_; clear ho hb hg hat))
         go_roundg k1
         case measure => have := HK1.out; omega
         case rel => exact ⟨(y895), (wrap64 (x12_1 + 1)), yS, H', ⟨by have := HK1.out; omega⟩, ⟨by refine yN ?_; exact Kd.N_mono HO897.out (fun _ hk => ⟨hk.1, hk.2.1⟩)⟩, ⟨by refine yV ?_; exact Kd.V_mono HO_10.out (fun _ hk => ⟨hk.1.1, ⟨hk.2, hk.1.2.2.1⟩⟩)⟩, ⟨by refine yV ?_; exact Kd.V_mono HO_878000.out (fun _ hk => ⟨hk.1.1, ⟨hk.2, hk.1.2.2.1⟩⟩)⟩, ⟨by refine yV ?_; exact Kd.V_mono HO_878001.out (fun _ hk => ⟨hk.1.1, ⟨hk.2, hk.1.2.2.1⟩⟩)⟩, ⟨by refine yH ?_; exact BK877.out⟩, ⟨yB⟩⟩
        rw [if_neg c12] at H
        exact absurd H (by simp)
       rw [if_neg c11] at H
       exact absurd H (by simp)
      rw [if_neg c10] at H
      exact absurd H (by simp)
     rw [if_neg c9] at H
     exact absurd H (by simp)
    rw [if_neg c8] at H
    exact absurd H (by simp)
   rw [if_neg c7] at H
   have c7b0 := decide_eq_false c7
   clear c7
   obtain rfl := Option.some.inj H
   go_wp2
   go_ret
   exact ⟨_, yE, by refine yN ?_; exact Kd.N_mono HO_3.out (fun _ hk => hk.1), yB⟩
end Go.Proofs.Ytehkhbnhmehobaa.P
namespace Go.Proofs.Ytehkhbnhmehobaa.P
open Go.RowKit Go.Proofs.YtehkhbnhmehobaaW.PrintWords Go.Proofs.YtehkhbnhmehobaaW.PrintLast Go.Proofs.YtehkhbnhmehobaaW.PrintMore
set_option linter.unusedVariables false
set_option linter.unusedSimpArgs false
def goodL (l : List Bk) : Prop := l.length ≤ 40 ∧ ∀ b ∈ l, goodB b
def goodP (m : List Bk) (s : List Rb) : Prop := goodL m ∧ s.length ≤ 12 ∧ ∀ x ∈ s, goodL x.f1
def sOf (s : Rb) : Sb := ⟨s.f0, s.f1⟩
theorem sOf_back (s : List Rb) : (s.map sOf).map rOf = s := by
  rw [List.map_map]
  exact List.map_id'' (fun x => rfl) s
def oB (n : Int) : Bk := ⟨false, [⟨79, wrap64 (1000 * n)⟩], ⟨#[]⟩⟩
def mB : Bk := ⟨false, [⟨77, 99000⟩], ⟨#[]⟩⟩
def joinT : List Rb → List Bk
  | [] => []
  | x :: s => oB x.f0 :: (x.f1 ++ mB :: joinT s)
theorem rd_sOf {s : List Rb} {j : Nat} (h : j < s.length) : rd_T81 (s.map sOf) (j : Int) = sOf s[j] := by rw [rd_Sb (by simpa using h), List.getElem_map]
theorem joinO_l0 (s : List Rb) (hs : s.length ≤ 1000000) (hk : ∀ x ∈ s, x.f1.length ≤ 1000000) : ∀ (n j : Nat) (acc : List Bk), j + n = s.length → acc.length ≤ 1000000 + 1000002 * j → Ev (fun k => subprogram_Join.l0 k acc (s.map sOf) (s.length : Int) (j : Int)) (acc ++ joinT (s.drop j)) := by
  intro n
  induction n with
  | zero =>
    intro j acc hj ha
    refine Ev.step (fun k => by rw [subprogram_Join.l0]) (Ev.neg (by omega) ?_)
    rw [List.drop_eq_nil_of_le (by omega)]
    simpa [joinT] using Ev.some
  | succ n ih =>
    intro j acc hj ha
    have hkj := hk _ (List.getElem_mem (l := s) (n := j) (by omega))
    have h0 := ih (j + 1) (acc ++ [oB (s[j]'(by omega)).f0] ++ (s[j]'(by omega)).f1 ++ [mB]) (by omega) (by simp; omega)
    refine Ev.step (fun k => by rw [subprogram_Join.l0]) (Ev.pos (by omega) (Ev.pos (by omega) (Ev.pos (by rw [List.length_map]; omega) (Ev.pos (by omega) ?_))))
    rw [rd_sOf (show j < s.length by omega), wrapI (by omega), List.drop_eq_getElem_cons (show j < s.length by omega), joinT]
    have e : acc ++ (oB (s[j]'(by omega)).f0 :: ((s[j]'(by omega)).f1 ++ mB :: joinT (s.drop (j + 1)))) = acc ++ [oB (s[j]'(by omega)).f0] ++ (s[j]'(by omega)).f1 ++ [mB] ++ joinT (s.drop (j + 1)) := by simp
    rw [e]
    refine Ev.bind Ev.some (Ev.pos ?_ (Ev.bind Ev.some (Ev.pos ?_ h0)))
    · simp [sOf]; omega
    simp [sOf]; omega
theorem joinO_ev (m : List Bk) (s : List Rb) (hm : m.length ≤ 1000000) (hs : s.length ≤ 1000000) (hk : ∀ x ∈ s, x.f1.length ≤ 1000000) : Ev (fun k => subprogram_Join.f k m (s.map sOf)) (m ++ joinT s) := by
  unfold subprogram_Join.f
  have hc : Clone_Block.f m = some m := by unfold Clone_Block.f; rw [if_pos (by omega)]
  rw [hc, List.length_map]
  exact Ev.bind Ev.some (by simpa using joinO_l0 s hs hk s.length 0 m (by omega) (by omega))
end Go.Proofs.Ytehkhbnhmehobaa.P
namespace Go.Proofs.Ytehkhbnhmehobaa.P
open Go.RowKit Go.Proofs.YtehkhbnhmehobaaW.PrintWords Go.Proofs.YtehkhbnhmehobaaW.PrintLast Go.Proofs.YtehkhbnhmehobaaW.PrintMore
attribute [local go_sem] max2_int min2_int max_two min_two max_three min_three max_four min_four
set_option linter.unusedVariables false
set_option linter.unusedSimpArgs false
def subprogram_plain.f (a0_0 : Bool) (l0_1 : List (S78)) (a0_2 : ByteArray) : Option (Bool) := if (l0_1.length : Int) = 1 then (if a0_0 = true then (some false) else (some (a0_2.toList == ([] : List UInt8)))) else (some false)
set_option maxHeartbeats 8000000 in
set_option maxRecDepth 100000 in
theorem subprogram_plain.calls (a0_0 : Bool) (A0_1 : Option Addr) (c0_1 : Nat) (l0_1 : List (S78)) (a0_2 : ByteArray) (r : Bool) (w : World) (hr0_1 : Kd.C k78 w A0_1 l0_1.length l0_1) (hc0_1 : l0_1.length ≤ c0_1) (h : subprogram_plain.f a0_0 l0_1 a0_2 = some r) :
  Calls Try.prog 78 #[.agg #[.bool a0_0, .slice A0_1 l0_1.length c0_1, .string a0_2]] w fun e w' => e = .returned (.bool r) ∧ Below w.heap.size w w' := by
 have hu32 := Try.underlying32
 have HR0_1 := Aside0.mk hr0_1
 have HC0_1 := Aside0.mk hc0_1
 clear hr0_1 hc0_1
 have HB := Aside0.mk (Below.refl w.heap.size w)
 have H : (if (l0_1.length : Int) = 1 then (if a0_0 = true then (some false) else (some (a0_2.toList == ([] : List UInt8)))) else (some false)) = some r := h
 clear h
 by_cases c2 : (l0_1.length : Int) = 1
 ·rw [if_pos c2] at H
  have c2b0 : ((l0_1.length : Int) == 1) = true := beq_iff_eq.mpr c2
  have c2b1 : ((l0_1.length : Int) != 1) = false := bne_eq_false_iff_eq.mpr c2
  clear c2
  by_cases c3 : a0_0 = true
  ·subst c3
   rw [if_pos rfl] at H
   obtain rfl := Option.some.inj H
   go_enter Try.func78, Try.ntmps78
   go_wp2_with (first | ((with_reducible refine gate_dst (N := 1) rfl ?_); refine yX 1 #[.bool true, .slice A0_1 l0_1.length c0_1, .string a0_2] 32 ?_; intro gb448 hg w4 hbox hb; have BK448 := Aside0.mk (hbox); have GW448 := Aside0.mk ((yG hg : w.heap.size ≤ gb448)); have GE448 := Aside0.mk ((yG hg : w.heap.size ≤ gb448)); replace HB := Aside0.mk (below_step yB hb); clear hb hbox hg; have hcz5_0 := yZ0 BK448.out; have hcz5_1 := yZ1 BK448.out; have hcz5_2 := yZ2 BK448.out; have hfz5_0 := blk_frozen BK448.out 0; have hfz5_1 := blk_frozen BK448.out 1; have hfz5_2 := blk_frozen BK448.out 2))
   go_ret
   exact ⟨yE, yB⟩
  replace c3 := Bool.eq_false_iff.mpr c3
  subst c3
  replace H : (some (a0_2.toList == ([] : List UInt8))) = some r := by rw [if_neg (show ¬ (false = true) by decide)] at H; exact H
  obtain rfl := Option.some.inj H
  go_enter Try.func78, Try.ntmps78
  go_wp2_with (first | ((with_reducible refine gate_dst (N := 1) rfl ?_); refine yX 1 #[.bool false, .slice A0_1 l0_1.length c0_1, .string a0_2] 32 ?_; intro gb448 hg w6 hbox hb; have BK448 := Aside0.mk (hbox); have GW448 := Aside0.mk ((yG hg : w.heap.size ≤ gb448)); have GE448 := Aside0.mk ((yG hg : w.heap.size ≤ gb448)); replace HB := Aside0.mk (below_step yB hb); clear hb hbox hg; have hcz7_0 := yZ0 BK448.out; have hcz7_1 := yZ1 BK448.out; have hcz7_2 := yZ2 BK448.out; have hfz7_0 := blk_frozen BK448.out 0; have hfz7_1 := blk_frozen BK448.out 1; have hfz7_2 := blk_frozen BK448.out 2))
  go_ret
  exact ⟨yE, yB⟩
 rw [if_neg c2] at H
 have c2b0 : ((l0_1.length : Int) == 1) = false := beq_eq_false_iff_ne.mpr c2
 have c2b1 : ((l0_1.length : Int) != 1) = true := bne_iff_ne.mpr c2
 obtain rfl := Option.some.inj H
 go_enter Try.func78, Try.ntmps78
 go_wp2_with (first | ((with_reducible refine gate_dst (N := 1) rfl ?_); refine yX 1 #[.bool a0_0, .slice A0_1 l0_1.length c0_1, .string a0_2] 32 ?_; intro gb448 hg w8 hbox hb; have BK448 := Aside0.mk (hbox); have GW448 := Aside0.mk ((yG hg : w.heap.size ≤ gb448)); have GE448 := Aside0.mk ((yG hg : w.heap.size ≤ gb448)); replace HB := Aside0.mk (below_step yB hb); clear hb hbox hg; have hcz9_0 := yZ0 BK448.out; have hcz9_1 := yZ1 BK448.out; have hcz9_2 := yZ2 BK448.out; have hfz9_0 := blk_frozen BK448.out 0; have hfz9_1 := blk_frozen BK448.out 1; have hfz9_2 := blk_frozen BK448.out 2))
 go_ret
 exact ⟨yE, yB⟩
def subprogram_beginning.f (a0_0 : Bool) (l0_1 : List (S78)) (a0_2 : ByteArray) : Option (Int × Bool) := (subprogram_plain.f a0_0 l0_1 a0_2).bind fun t450 => (if t450 = true then (if 0 < (l0_1.length : Int) then (if ((rd_T78 l0_1 0).f0) = 79 then ((subprogram_whole.f ((rd_T78 l0_1 0).f1)).bind fun bt453 => (some (bt453.1, bt453.2))) else (some (0, false))) else (none)) else (some (0, false)))
set_option maxHeartbeats 8000000 in
set_option maxRecDepth 100000 in
theorem subprogram_beginning.calls (a0_0 : Bool) (A0_1 : Option Addr) (c0_1 : Nat) (l0_1 : List (S78)) (a0_2 : ByteArray) (r1 : Int) (r2 : Bool) (w : World) (hr0_1 : Kd.C k78 w A0_1 l0_1.length l0_1) (hc0_1 : l0_1.length ≤ c0_1) (h : subprogram_beginning.f a0_0 l0_1 a0_2 = some (r1, r2)) :
  Calls Try.prog 76 #[.agg #[.bool a0_0, .slice A0_1 l0_1.length c0_1, .string a0_2]] w fun e w' => e = .returned (.tuple #[.int .i64 r1, .bool r2]) ∧ Below w.heap.size w w' := by
 have hu32 := Try.underlying32
 have HR0_1 := Aside0.mk hr0_1
 have HC0_1 := Aside0.mk hc0_1
 clear hr0_1 hc0_1
 have HB := Aside0.mk (Below.refl w.heap.size w)
 have H : ((subprogram_plain.f a0_0 l0_1 a0_2).bind fun t450 => (if t450 = true then (if 0 < (l0_1.length : Int) then (if ((rd_T78 l0_1 0).f0) = 79 then ((subprogram_whole.f ((rd_T78 l0_1 0).f1)).bind fun bt453 => (some (bt453.1, bt453.2))) else (some (0, false))) else (none)) else (some (0, false)))) = some (r1, r2) := h
 clear h
 replace H := Option.bind_eq_some_iff.mp H
 obtain ⟨t450, A20, H⟩ := H
 have A2 := Aside0.mk A20
 clear A20
 by_cases c3 : t450 = true
 ·subst c3
  rw [if_pos rfl] at H
  by_cases c4 : 0 < (l0_1.length : Int)
  ·rw [if_pos c4] at H
   have c4b0 := decide_eq_true c4
   have c4b1 : decide (0 < l0_1.length) = true := decide_eq_true (by omega)
   clear c4
   by_cases c5 : ((rd_T78 l0_1 0).f0) = 79
   ·rw [if_pos c5] at H
    have c5b0 : (((rd_T78 l0_1 0).f0) == 79) = true := beq_iff_eq.mpr c5
    have c5b1 : (((rd_T78 l0_1 0).f0) != 79) = false := bne_eq_false_iff_eq.mpr c5
    clear c5
    replace H := Option.bind_eq_some_iff.mp H
    obtain ⟨⟨t453, t454⟩, A60, H⟩ := H
    have A6 := Aside0.mk A60
    clear A60
    simp only [Option.some.injEq, Prod.mk.injEq] at H
    obtain ⟨rfl, rfl⟩ := H
    go_enter Try.func76, Try.ntmps76
    go_wp2_with (first | ((with_reducible refine gate_dst (N := 1) rfl ?_); refine yX 1 #[.bool a0_0, .slice A0_1 l0_1.length c0_1, .string a0_2] 32 ?_; intro gb449 hg w7 hbox hb; have BK449 := Aside0.mk (hbox); have GW449 := Aside0.mk ((yG hg : w.heap.size ≤ gb449)); have GE449 := Aside0.mk ((yG hg : w.heap.size ≤ gb449)); replace HB := Aside0.mk (below_step yB hb); clear hb hbox hg; have hcz8_0 := yZ0 BK449.out; have hcz8_1 := yZ1 BK449.out; have hcz8_2 := yZ2 BK449.out; have hfz8_0 := blk_frozen BK449.out 0; have hfz8_1 := blk_frozen BK449.out 1; have hfz8_2 := blk_frozen BK449.out 2) | ((with_reducible refine gate_callee (f := 78) rfl ?_); refine goesL_ (some 5) rfl rfl Try.func78 (by kernel_rfl) rfl #[.agg #[.bool a0_0, .slice A0_1 l0_1.length c0_1, .string a0_2]] rfl yQ ?_; (with_reducible refine (subprogram_plain.calls a0_0 _ _ l0_1 a0_2 true _ ?side1 ?side2 A2.out).mono ?_); (case side1 => exact yC HR0_1.out); (case side2 => exact HC0_1.out); rintro e w9 ⟨rfl, hb⟩; refine ⟨_, rfl, ?_⟩; replace BK449 := Aside0.mk (blk_below (g := gb449) yK hb); replace HB := Aside0.mk (below_step yB hb); (try clear hb); have hcz10_0 := yZ0 BK449.out; have hcz10_1 := yZ1 BK449.out; have hcz10_2 := yZ2 BK449.out; have hfz10_0 := blk_frozen BK449.out 0; have hfz10_1 := blk_frozen BK449.out 1; have hfz10_2 := blk_frozen BK449.out 2; have p451 : 0 ≤ (0 : Int) := (by omega); have q451 : 0 < (l0_1.length : Int) := yD; obtain ⟨ad451, e451, hx451_0, hx451_1⟩ := at_T78 HR0_1.out 0 p451 q451; cases e451; have qi451 : (0 < l0_1.length) = True := eq_true (by omega); (try rw [show ((0 : Int)).toNat = 0 from rfl] at hx451_0); (try rw [show 0 * 2 = 0 from rfl] at hx451_0); (try rw [Addr.add_zero'] at hx451_0); (try rw [show ((0 : Int)).toNat = 0 from rfl] at hx451_1); (try rw [show 0 * 2 = 0 from rfl] at hx451_1); (try rw [Addr.add_zero'] at hx451_1); replace hx451_0 := yM HB.out hx451_0; replace hx451_1 := yM HB.out hx451_1; replace p451 := eq_true p451; replace q451 := eq_true q451; have p452 : 0 ≤ (0 : Int) := (by omega); have q452 : 0 < (l0_1.length : Int) := yD; obtain ⟨ad452, e452, hx452_0, hx452_1⟩ := at_T78 HR0_1.out 0 p452 q452; obtain rfl : ad451 = ad452 := (by injection e452); have qi452 : (0 < l0_1.length) = True := eq_true (by omega); (try rw [show ((0 : Int)).toNat = 0 from rfl] at hx452_0); (try rw [show 0 * 2 = 0 from rfl] at hx452_0); (try rw [Addr.add_zero'] at hx452_0); (try rw [show ((0 : Int)).toNat = 0 from rfl] at hx452_1); (try rw [show 0 * 2 = 0 from rfl] at hx452_1); (try rw [Addr.add_zero'] at hx452_1); replace hx452_0 := yM HB.out hx452_0; replace hx452_1 := yM HB.out hx452_1; replace p452 := eq_true p452; replace q452 := eq_true q452) | ((with_reducible refine gate_callee (f := 59) rfl ?_); refine goesL_ (some 20) rfl rfl Try.func59 (by kernel_rfl) rfl #[.int .i64 ((rd_T78 l0_1 0).f1)] rfl yQ ?_; (with_reducible refine (subprogram_whole.calls ((rd_T78 l0_1 0).f1) t453 t454 _ A6.out).mono ?_); rintro e w' ⟨rfl, ⟨nd, rfl⟩⟩; refine ⟨_, rfl, ?_⟩))
    go_ret2
    exact ⟨yE, yB⟩
   rw [if_neg c5] at H
   have c5b0 : (((rd_T78 l0_1 0).f0) == 79) = false := beq_eq_false_iff_ne.mpr c5
   have c5b1 : (((rd_T78 l0_1 0).f0) != 79) = true := bne_iff_ne.mpr c5
   simp only [Option.some.injEq, Prod.mk.injEq] at H
   obtain ⟨rfl, rfl⟩ := H
   go_enter Try.func76, Try.ntmps76
   go_wp2_with (first | ((with_reducible refine gate_dst (N := 1) rfl ?_); refine yX 1 #[.bool a0_0, .slice A0_1 l0_1.length c0_1, .string a0_2] 32 ?_; intro gb449 hg w11 hbox hb; have BK449 := Aside0.mk (hbox); have GW449 := Aside0.mk ((yG hg : w.heap.size ≤ gb449)); have GE449 := Aside0.mk ((yG hg : w.heap.size ≤ gb449)); replace HB := Aside0.mk (below_step yB hb); clear hb hbox hg; have hcz12_0 := yZ0 BK449.out; have hcz12_1 := yZ1 BK449.out; have hcz12_2 := yZ2 BK449.out; have hfz12_0 := blk_frozen BK449.out 0; have hfz12_1 := blk_frozen BK449.out 1; have hfz12_2 := blk_frozen BK449.out 2) | ((with_reducible refine gate_callee (f := 78) rfl ?_); refine goesL_ (some 5) rfl rfl Try.func78 (by kernel_rfl) rfl #[.agg #[.bool a0_0, .slice A0_1 l0_1.length c0_1, .string a0_2]] rfl yQ ?_; (with_reducible refine (subprogram_plain.calls a0_0 _ _ l0_1 a0_2 true _ ?side1 ?side2 A2.out).mono ?_); (case side1 => exact yC HR0_1.out); (case side2 => exact HC0_1.out); rintro e w13 ⟨rfl, hb⟩; refine ⟨_, rfl, ?_⟩; replace BK449 := Aside0.mk (blk_below (g := gb449) yK hb); replace HB := Aside0.mk (below_step yB hb); (try clear hb); have hcz14_0 := yZ0 BK449.out; have hcz14_1 := yZ1 BK449.out; have hcz14_2 := yZ2 BK449.out; have hfz14_0 := blk_frozen BK449.out 0; have hfz14_1 := blk_frozen BK449.out 1; have hfz14_2 := blk_frozen BK449.out 2; have p451 : 0 ≤ (0 : Int) := (by omega); have q451 : 0 < (l0_1.length : Int) := yD; obtain ⟨ad451, e451, hx451_0, hx451_1⟩ := at_T78 HR0_1.out 0 p451 q451; cases e451; have qi451 : (0 < l0_1.length) = True := eq_true (by omega); (try rw [show ((0 : Int)).toNat = 0 from rfl] at hx451_0); (try rw [show 0 * 2 = 0 from rfl] at hx451_0); (try rw [Addr.add_zero'] at hx451_0); (try rw [show ((0 : Int)).toNat = 0 from rfl] at hx451_1); (try rw [show 0 * 2 = 0 from rfl] at hx451_1); (try rw [Addr.add_zero'] at hx451_1); replace hx451_0 := yM HB.out hx451_0; replace hx451_1 := yM HB.out hx451_1; replace p451 := eq_true p451; replace q451 := eq_true q451))
   go_ret2
   exact ⟨yE, yB⟩
  rw [if_neg c4] at H
  exact absurd H (by simp)
 replace c3 := Bool.eq_false_iff.mpr c3
 subst c3
 replace H : (some (0, false)) = some (r1, r2) := by rw [if_neg (show ¬ (false = true) by decide)] at H; exact H
 simp only [Option.some.injEq, Prod.mk.injEq] at H
 obtain ⟨rfl, rfl⟩ := H
 go_enter Try.func76, Try.ntmps76
 go_wp2_with (first | ((with_reducible refine gate_dst (N := 1) rfl ?_); refine yX 1 #[.bool a0_0, .slice A0_1 l0_1.length c0_1, .string a0_2] 32 ?_; intro gb449 hg w15 hbox hb; have BK449 := Aside0.mk (hbox); have GW449 := Aside0.mk ((yG hg : w.heap.size ≤ gb449)); have GE449 := Aside0.mk ((yG hg : w.heap.size ≤ gb449)); replace HB := Aside0.mk (below_step yB hb); clear hb hbox hg; have hcz16_0 := yZ0 BK449.out; have hcz16_1 := yZ1 BK449.out; have hcz16_2 := yZ2 BK449.out; have hfz16_0 := blk_frozen BK449.out 0; have hfz16_1 := blk_frozen BK449.out 1; have hfz16_2 := blk_frozen BK449.out 2) | ((with_reducible refine gate_callee (f := 78) rfl ?_); refine goesL_ (some 5) rfl rfl Try.func78 (by kernel_rfl) rfl #[.agg #[.bool a0_0, .slice A0_1 l0_1.length c0_1, .string a0_2]] rfl yQ ?_; (with_reducible refine (subprogram_plain.calls a0_0 _ _ l0_1 a0_2 false _ ?side1 ?side2 A2.out).mono ?_); (case side1 => exact yC HR0_1.out); (case side2 => exact HC0_1.out); rintro e w17 ⟨rfl, hb⟩; refine ⟨_, rfl, ?_⟩; replace BK449 := Aside0.mk (blk_below (g := gb449) yK hb); replace HB := Aside0.mk (below_step yB hb); (try clear hb)))
 go_ret2
 exact ⟨yE, yB⟩
def subprogram_Split_1.f (k : Nat) (a0_0 : Bool) (l0_1 : List (S78)) (a0_2 : ByteArray) : Option (Bool) := (subprogram_has.f k a0_0 l0_1 a0_2 77 30000).bind fun t990 => (some t990)
set_option maxHeartbeats 8000000 in
set_option maxRecDepth 100000 in
theorem subprogram_Split_1.calls (k : Nat) (a0_0 : Bool) (A0_1 : Option Addr) (c0_1 : Nat) (l0_1 : List (S78)) (a0_2 : ByteArray) (r : Bool) (w : World) (hr0_1 : Kd.C k78 w A0_1 l0_1.length l0_1) (hc0_1 : l0_1.length ≤ c0_1) (h : subprogram_Split_1.f k a0_0 l0_1 a0_2 = some r) :
  Calls Try.prog 75 #[.agg #[.bool a0_0, .slice A0_1 l0_1.length c0_1, .string a0_2]] w fun e w' => e = .returned (.bool r) ∧ Below w.heap.size w w' := by
 have hu32 := Try.underlying32
 have HR0_1 := Aside0.mk hr0_1
 have HC0_1 := Aside0.mk hc0_1
 clear hr0_1 hc0_1
 have HB := Aside0.mk (Below.refl w.heap.size w)
 have H : ((subprogram_has.f k a0_0 l0_1 a0_2 77 30000).bind fun t990 => (some t990)) = some r := h
 clear h
 replace H := Option.bind_eq_some_iff.mp H
 obtain ⟨t990, A20, H⟩ := H
 have A2 := Aside0.mk A20
 clear A20
 obtain rfl := Option.some.inj H
 go_enter Try.func75, Try.ntmps75
 go_wp2_with (first | ((with_reducible refine gate_dst (N := 1) rfl ?_); refine yX 1 #[.bool a0_0, .slice A0_1 l0_1.length c0_1, .string a0_2] 32 ?_; intro gb989 hg w3 hbox hb; have BK989 := Aside0.mk (hbox); have GE989 := Aside0.mk ((yG hg : w.heap.size ≤ gb989)); replace HB := Aside0.mk (below_step yB hb); clear hb hbox hg; have hcz4_0 := yZ0 BK989.out; have hcz4_1 := yZ1 BK989.out; have hcz4_2 := yZ2 BK989.out; have hfz4_0 := blk_frozen BK989.out 0; have hfz4_1 := blk_frozen BK989.out 1; have hfz4_2 := blk_frozen BK989.out 2) | ((with_reducible refine gate_callee (f := 58) rfl ?_); refine goesL_ (some 4) rfl rfl Try.func58 (by kernel_rfl) rfl #[.agg #[.bool a0_0, .slice A0_1 l0_1.length c0_1, .string a0_2], .int .u8 77, .int .i64 30000] rfl yQ ?_; (with_reducible refine (subprogram_has.calls k a0_0 _ _ l0_1 a0_2 77 30000 t990 _ ?side1 ?side2 A2.out).mono ?_); (case side1 => exact yC HR0_1.out); (case side2 => exact HC0_1.out); rintro e w5 ⟨rfl, hb⟩; refine ⟨_, rfl, ?_⟩; replace BK989 := Aside0.mk (blk_below (g := gb989) yK hb); replace HB := Aside0.mk (below_step yB hb); (try clear hb)))
 go_ret
 exact ⟨yE, yB⟩
def subprogram_Split_2.f (k : Nat) (a0_0 : Bool) (l0_1 : List (S78)) (a0_2 : ByteArray) : Option (Bool) := (subprogram_plain.f a0_0 l0_1 a0_2).bind fun t992 => (if t992 = true then ((subprogram_has.f k a0_0 l0_1 a0_2 77 99000).bind fun t993 => (some t993)) else (some false))
set_option maxHeartbeats 8000000 in
set_option maxRecDepth 100000 in
theorem subprogram_Split_2.calls (k : Nat) (a0_0 : Bool) (A0_1 : Option Addr) (c0_1 : Nat) (l0_1 : List (S78)) (a0_2 : ByteArray) (r : Bool) (w : World) (hr0_1 : Kd.C k78 w A0_1 l0_1.length l0_1) (hc0_1 : l0_1.length ≤ c0_1) (h : subprogram_Split_2.f k a0_0 l0_1 a0_2 = some r) :
  Calls Try.prog 77 #[.agg #[.bool a0_0, .slice A0_1 l0_1.length c0_1, .string a0_2]] w fun e w' => e = .returned (.bool r) ∧ Below w.heap.size w w' := by
 have hu32 := Try.underlying32
 have HR0_1 := Aside0.mk hr0_1
 have HC0_1 := Aside0.mk hc0_1
 clear hr0_1 hc0_1
 have HB := Aside0.mk (Below.refl w.heap.size w)
 have H : ((subprogram_plain.f a0_0 l0_1 a0_2).bind fun t992 => (if t992 = true then ((subprogram_has.f k a0_0 l0_1 a0_2 77 99000).bind fun t993 => (some t993)) else (some false))) = some r := h
 clear h
 replace H := Option.bind_eq_some_iff.mp H
 obtain ⟨t992, A20, H⟩ := H
 have A2 := Aside0.mk A20
 clear A20
 by_cases c3 : t992 = true
 ·subst c3
  rw [if_pos rfl] at H
  replace H := Option.bind_eq_some_iff.mp H
  obtain ⟨t993, A40, H⟩ := H
  have A4 := Aside0.mk A40
  clear A40
  obtain rfl := Option.some.inj H
  go_enter Try.func77, Try.ntmps77
  go_wp2_with (first | ((with_reducible refine gate_dst (N := 1) rfl ?_); refine yX 1 #[.bool a0_0, .slice A0_1 l0_1.length c0_1, .string a0_2] 32 ?_; intro gb991 hg w5 hbox hb; have BK991 := Aside0.mk (hbox); have GW991 := Aside0.mk ((yG hg : w.heap.size ≤ gb991)); have GE991 := Aside0.mk ((yG hg : w.heap.size ≤ gb991)); replace HB := Aside0.mk (below_step yB hb); clear hb hbox hg; have hcz6_0 := yZ0 BK991.out; have hcz6_1 := yZ1 BK991.out; have hcz6_2 := yZ2 BK991.out; have hfz6_0 := blk_frozen BK991.out 0; have hfz6_1 := blk_frozen BK991.out 1; have hfz6_2 := blk_frozen BK991.out 2) | ((with_reducible refine gate_callee (f := 78) rfl ?_); refine goesL_ (some 4) rfl rfl Try.func78 (by kernel_rfl) rfl #[.agg #[.bool a0_0, .slice A0_1 l0_1.length c0_1, .string a0_2]] rfl yQ ?_; (with_reducible refine (subprogram_plain.calls a0_0 _ _ l0_1 a0_2 true _ ?side1 ?side2 A2.out).mono ?_); (case side1 => exact yC HR0_1.out); (case side2 => exact HC0_1.out); rintro e w7 ⟨rfl, hb⟩; refine ⟨_, rfl, ?_⟩; replace BK991 := Aside0.mk (blk_below (g := gb991) yK hb); replace HB := Aside0.mk (below_step yB hb); (try clear hb); have hcz8_0 := yZ0 BK991.out; have hcz8_1 := yZ1 BK991.out; have hcz8_2 := yZ2 BK991.out; have hfz8_0 := blk_frozen BK991.out 0; have hfz8_1 := blk_frozen BK991.out 1; have hfz8_2 := blk_frozen BK991.out 2) | (go_at_call 58; (with_reducible refine (subprogram_has.calls k a0_0 _ _ l0_1 a0_2 77 99000 t993 _ ?side1 ?side2 A4.out).mono ?_); (case side1 => exact yC HR0_1.out); (case side2 => exact HC0_1.out); rintro e w9 ⟨rfl, hb⟩; replace BK991 := Aside0.mk (blk_below (g := gb991) yK hb); replace HB := Aside0.mk (below_step yB hb); (try clear hb)))
  go_ret
  exact ⟨yE, yB⟩
 replace c3 := Bool.eq_false_iff.mpr c3
 subst c3
 replace H : (some false) = some r := by rw [if_neg (show ¬ (false = true) by decide)] at H; exact H
 obtain rfl := Option.some.inj H
 go_enter Try.func77, Try.ntmps77
 go_wp2_with (first | ((with_reducible refine gate_dst (N := 1) rfl ?_); refine yX 1 #[.bool a0_0, .slice A0_1 l0_1.length c0_1, .string a0_2] 32 ?_; intro gb991 hg w10 hbox hb; have BK991 := Aside0.mk (hbox); have GW991 := Aside0.mk ((yG hg : w.heap.size ≤ gb991)); have GE991 := Aside0.mk ((yG hg : w.heap.size ≤ gb991)); replace HB := Aside0.mk (below_step yB hb); clear hb hbox hg; have hcz11_0 := yZ0 BK991.out; have hcz11_1 := yZ1 BK991.out; have hcz11_2 := yZ2 BK991.out; have hfz11_0 := blk_frozen BK991.out 0; have hfz11_1 := blk_frozen BK991.out 1; have hfz11_2 := blk_frozen BK991.out 2) | ((with_reducible refine gate_callee (f := 78) rfl ?_); refine goesL_ (some 4) rfl rfl Try.func78 (by kernel_rfl) rfl #[.agg #[.bool a0_0, .slice A0_1 l0_1.length c0_1, .string a0_2]] rfl yQ ?_; (with_reducible refine (subprogram_plain.calls a0_0 _ _ l0_1 a0_2 false _ ?side1 ?side2 A2.out).mono ?_); (case side1 => exact yC HR0_1.out); (case side2 => exact HC0_1.out); rintro e w12 ⟨rfl, hb⟩; refine ⟨_, rfl, ?_⟩; replace BK991 := Aside0.mk (blk_below (g := gb991) yK hb); replace HB := Aside0.mk (below_step yB hb); (try clear hb)))
 go_ret
 exact ⟨yE, yB⟩
end Go.Proofs.Ytehkhbnhmehobaa.P
namespace Go.Proofs.Ytehkhbnhmehobaa.P
open Go.RowKit Go.Proofs.YtehkhbnhmehobaaW.PrintWords Go.Proofs.YtehkhbnhmehobaaW.PrintLast Go.Proofs.YtehkhbnhmehobaaW.PrintMore
set_option linter.unusedVariables false
def idxF {α : Type} (p : α → Option Bool) : List α → Int → Option Int
  | [], _ => some (-1)
  | x :: l, i => (p x).bind fun b => if b = true then some i else idxF p l (i + 1)
theorem idxF_step {α : Type} {p : α → Option Bool} {l : List α} {j : Nat} {r : Int} (hj : j < l.length) (h : idxF p (l.drop j) (j : Int) = some r) :
    ∃ b, p (l[j]) = some b ∧ (if b = true then r = (j : Int) else idxF p (l.drop (j + 1)) ((j + 1 : Nat) : Int) = some r) := by
  rw [List.drop_eq_getElem_cons hj] at h
  simp only [idxF] at h
  obtain ⟨b, hb, h⟩ := Option.bind_eq_some_iff.mp h
  refine ⟨b, hb, ?_⟩
  cases b with
  | true => simp at h; simp [← h]
  | false =>
    simp at h ⊢
    exact h
set_option maxHeartbeats 1000000 in
set_option maxRecDepth 100000 in
theorem IndexFunc_any (g : Nat) (fn : Func) (hf : Try.prog.funcs[g]? = some fn) (hname : (fn.name == "runtime.NumGoroutine") = false) (hbody : fn.body.isSome = true) (caps : Array Value) (p : S32 → Option Bool) (w : World)
    (hp : Aside0 (∀ (x : S32) (A1 : Option Addr) (c1 : Nat) (b : Bool) (W : World), Below w.heap.size w W → Kd.C k78 W A1 x.f1.length x.f1 → x.f1.length ≤ c1 → p x = some b →
      Calls Try.prog g (#[.agg #[.bool x.f0, .slice A1 x.f1.length c1, .string x.f2]] ++ caps) W fun e W' => e = .returned (.bool b) ∧ Below W.heap.size W W'))
    (A0 : Option Addr) (c0 : Nat) (l0 : List S32) (r : Int) (hr0 : Kd.C k32 w A0 l0.length l0) (hc0 : l0.length ≤ c0) (h : idxF p l0 0 = some r) :
    Calls Try.prog 73 #[.slice A0 l0.length c0, .func (.func g) #[] caps] w fun e w' => e = .returned (.int .i64 r) ∧ Below w.heap.size w w' := by
  have hu := Try.underlying32
  have HR0 := Aside0.mk hr0
  have HM := Aside0.mk (Kd.C_max hr0)
  have H := Aside0.mk h
  clear hr0 h
  go_enter Try.func73, Try.ntmps73
  go_wp2
  go_loopw [8] (fun i w' => ∃ j : Nat, i = .int .i64 j ∧ Aside0 (j ≤ l0.length) ∧ Aside0 (idxF p (l0.drop j) (j : Int) = some r) ∧ Aside0 (Below w.heap.size w w')) (fun i _ => l0.length - (intOf i).toNat)
  case atStart => exact ⟨0, rfl, ⟨Nat.zero_le _⟩, ⟨H.out⟩, ⟨Below.refl _ _⟩⟩
  case round =>
    obtain ⟨j, rfl, HJ, HI, HB⟩ := hrel
    by_cases hlt : j < l0.length
    · obtain ⟨b, hb, hI⟩ := idxF_step hlt HI.out
      obtain ⟨ad, A1, c1, e, hx0, hx1, hx2, hl1, hi1⟩ := at_T32 (Kd.C_below HR0.out HB.out) (j : Int) (by omega) (by omega)
      cases e
      have hrd : rd_T32 l0 (j : Int) = l0[j] := by simp [rd_T32, hlt]
      rw [hrd] at hx0 hx1 hx2 hl1 hi1
      generalize l0[j] = x at *
      clear hrd
      simp only [Int.toNat_natCast] at hx0 hx1 hx2
      have hlt' : decide ((j : Int) < (l0.length : Int)) = true := by simp; omega
      have HI2 := Aside0.mk hI
      have HL1 := Aside0.mk hl1
      have HI1 := Aside0.mk hi1
      have HP := Aside0.mk hb
      clear hI hl1 hi1 hb
      go_wp2_with ((with_reducible refine gate_dst (N := 16) rfl ?_); refine goesV_ (some 16) rfl rfl (caps := caps) rfl hf hname hbody (#[.agg #[.bool x.f0, .slice A1 x.f1.length c1, .string x.f2]] ++ caps) rfl (congrArg (fun z => z ++ caps) (by (try simp only [List.map_toArray, List.map_cons, List.map_nil]); rfl)) ?_; (with_reducible refine (hp.out x A1 c1 b _ HB.out HI1.out HL1.out HP.out).mono ?_); rintro e w2 ⟨rfl, hb2⟩; refine ⟨_, rfl, ?_⟩; have HB2 := Aside0.mk (below_then HB.out HB.out.size hb2); clear hb2)
      · have hbt : b = true := by assumption
        have hI3 := HI2.out
        rw [if_pos hbt] at hI3
        subst hI3
        go_ret
        exact ⟨rfl, HB2.out⟩
      have hbf : ¬ b = true := by simpa using (show b = false by assumption)
      have hI3 := HI2.out
      rw [if_neg hbf] at hI3
      have HI3 := Aside0.mk hI3
      clear hI3
      go_roundw
      case rel => exact ⟨j + 1, by rw [wrap_succ hlt HM.out], ⟨by omega⟩, ⟨HI3.out⟩, ⟨HB2.out⟩⟩
      case measure => rw [wrap_succ hlt HM.out]; simp only [intOf, Int.toNat_natCast]; omega
    have hlt' : decide ((j : Int) < (l0.length : Int)) = false := by simp; omega
    have hI := HI.out
    rw [List.drop_eq_nil_of_le (by omega)] at hI
    simp only [idxF, Option.some.injEq] at hI
    subst hI
    go_wp2
    go_ret
    exact ⟨rfl, HB.out⟩
set_option maxHeartbeats 1000000 in
set_option maxRecDepth 100000 in
theorem IndexFuncSub_any (g : Nat) (fn : Func) (hf : Try.prog.funcs[g]? = some fn) (hname : (fn.name == "runtime.NumGoroutine") = false) (hbody : fn.body.isSome = true) (caps : Array Value) (p : S81 → Option Bool) (w : World)
    (hp : Aside0 (∀ (x : S81) (A1 : Option Addr) (c1 : Nat) (b : Bool) (W : World), Below w.heap.size w W → Kd.C k32 W A1 x.f1.length x.f1 → x.f1.length ≤ c1 → p x = some b →
      Calls Try.prog g (#[.agg #[.int .i64 x.f0, .slice A1 x.f1.length c1]] ++ caps) W fun e W' => e = .returned (.bool b) ∧ Below W.heap.size W W'))
    (A0 : Option Addr) (c0 : Nat) (l0 : List S81) (r : Int) (hr0 : Kd.C k81 w A0 l0.length l0) (hc0 : l0.length ≤ c0) (h : idxF p l0 0 = some r) :
    Calls Try.prog 113 #[.slice A0 l0.length c0, .func (.func g) #[] caps] w fun e w' => e = .returned (.int .i64 r) ∧ Below w.heap.size w w' := by
  have hu := Try.underlying81
  have HR0 := Aside0.mk hr0
  have HM := Aside0.mk (Kd.C_max hr0)
  have H := Aside0.mk h
  clear hr0 h
  go_enter Try.func113, Try.ntmps113
  go_wp2
  go_loopw [8] (fun i w' => ∃ j : Nat, i = .int .i64 j ∧ Aside0 (j ≤ l0.length) ∧ Aside0 (idxF p (l0.drop j) (j : Int) = some r) ∧ Aside0 (Below w.heap.size w w')) (fun i _ => l0.length - (intOf i).toNat)
  case atStart => exact ⟨0, rfl, ⟨Nat.zero_le _⟩, ⟨H.out⟩, ⟨Below.refl _ _⟩⟩
  case round =>
    obtain ⟨j, rfl, HJ, HI, HB⟩ := hrel
    by_cases hlt : j < l0.length
    · obtain ⟨b, hb, hI⟩ := idxF_step hlt HI.out
      obtain ⟨ad, A1, c1, e, hx0, hx1, hl1, hi1⟩ := at_T81 (Kd.C_below HR0.out HB.out) (j : Int) (by omega) (by omega)
      cases e
      have hrd : rd_T81 l0 (j : Int) = l0[j] := by simp [rd_T81, hlt]
      rw [hrd] at hx0 hx1 hl1 hi1
      generalize l0[j] = x at *
      clear hrd
      simp only [Int.toNat_natCast] at hx0 hx1
      have hlt' : decide ((j : Int) < (l0.length : Int)) = true := by simp; omega
      have HI2 := Aside0.mk hI
      have HL1 := Aside0.mk hl1
      have HI1 := Aside0.mk hi1
      have HP := Aside0.mk hb
      clear hI hl1 hi1 hb
      go_wp2_with ((with_reducible refine gate_dst (N := 16) rfl ?_); refine goesV_ (some 16) rfl rfl (caps := caps) rfl hf hname hbody (#[.agg #[.int .i64 x.f0, .slice A1 x.f1.length c1]] ++ caps) rfl (congrArg (fun z => z ++ caps) (by (try simp only [List.map_toArray, List.map_cons, List.map_nil]); rfl)) ?_; (with_reducible refine (hp.out x A1 c1 b _ HB.out HI1.out HL1.out HP.out).mono ?_); rintro e w2 ⟨rfl, hb2⟩; refine ⟨_, rfl, ?_⟩; have HB2 := Aside0.mk (below_then HB.out HB.out.size hb2); clear hb2)
      · have hbt : b = true := by assumption
        have hI3 := HI2.out
        rw [if_pos hbt] at hI3
        subst hI3
        go_ret
        exact ⟨rfl, HB2.out⟩
      have hbf : ¬ b = true := by simpa using (show b = false by assumption)
      have hI3 := HI2.out
      rw [if_neg hbf] at hI3
      have HI3 := Aside0.mk hI3
      clear hI3
      go_roundw
      case rel => exact ⟨j + 1, by rw [wrap_succ hlt HM.out], ⟨by omega⟩, ⟨HI3.out⟩, ⟨HB2.out⟩⟩
      case measure => rw [wrap_succ hlt HM.out]; simp only [intOf, Int.toNat_natCast]; omega
    have hlt' : decide ((j : Int) < (l0.length : Int)) = false := by simp; omega
    have hI := HI.out
    rw [List.drop_eq_nil_of_le (by omega)] at hI
    simp only [idxF, Option.some.injEq] at hI
    subst hI
    go_wp2
    go_ret
    exact ⟨rfl, HB.out⟩
set_option maxRecDepth 100000 in
theorem ContainsFunc_any (g : Nat) (fn : Func) (hf : Try.prog.funcs[g]? = some fn) (hname : (fn.name == "runtime.NumGoroutine") = false) (hbody : fn.body.isSome = true) (caps : Array Value) (p : S32 → Option Bool) (w : World)
    (hp : Aside0 (∀ (x : S32) (A1 : Option Addr) (c1 : Nat) (b : Bool) (W : World), Below w.heap.size w W → Kd.C k78 W A1 x.f1.length x.f1 → x.f1.length ≤ c1 → p x = some b →
      Calls Try.prog g (#[.agg #[.bool x.f0, .slice A1 x.f1.length c1, .string x.f2]] ++ caps) W fun e W' => e = .returned (.bool b) ∧ Below W.heap.size W W'))
    (A0 : Option Addr) (c0 : Nat) (l0 : List S32) (r : Bool) (hr0 : Kd.C k32 w A0 l0.length l0) (hc0 : l0.length ≤ c0) (h : (idxF p l0 0).map (fun i => decide (i ≥ 0)) = some r) :
    Calls Try.prog 38 #[.slice A0 l0.length c0, .func (.func g) #[] caps] w fun e w' => e = .returned (.bool r) ∧ Below w.heap.size w w' := by
  obtain ⟨i, hi, hr⟩ := Option.map_eq_some_iff.mp h
  have HR0 := Aside0.mk hr0
  have HC0 := Aside0.mk hc0
  have H := Aside0.mk hi
  have HE := Aside0.mk hr
  clear hr0 h hi hc0 hr
  go_enter Try.func38, Try.ntmps38
  go_wp2_with (go_at_call 73; (with_reducible refine (IndexFunc_any g fn hf hname hbody caps p _ hp A0 c0 l0 i HR0.out HC0.out H.out).mono ?_); rintro e w2 ⟨rfl, hb2⟩; have HB2 := Aside0.mk hb2; clear hb2)
  go_ret
  exact ⟨by rw [← HE.out]; rfl, HB2.out⟩
set_option maxRecDepth 100000 in
theorem ContainsFuncSub_any (g : Nat) (fn : Func) (hf : Try.prog.funcs[g]? = some fn) (hname : (fn.name == "runtime.NumGoroutine") = false) (hbody : fn.body.isSome = true) (caps : Array Value) (p : S81 → Option Bool) (w : World)
    (hp : Aside0 (∀ (x : S81) (A1 : Option Addr) (c1 : Nat) (b : Bool) (W : World), Below w.heap.size w W → Kd.C k32 W A1 x.f1.length x.f1 → x.f1.length ≤ c1 → p x = some b →
      Calls Try.prog g (#[.agg #[.int .i64 x.f0, .slice A1 x.f1.length c1]] ++ caps) W fun e W' => e = .returned (.bool b) ∧ Below W.heap.size W W'))
    (A0 : Option Addr) (c0 : Nat) (l0 : List S81) (r : Bool) (hr0 : Kd.C k81 w A0 l0.length l0) (hc0 : l0.length ≤ c0) (h : (idxF p l0 0).map (fun i => decide (i ≥ 0)) = some r) :
    Calls Try.prog 101 #[.slice A0 l0.length c0, .func (.func g) #[] caps] w fun e w' => e = .returned (.bool r) ∧ Below w.heap.size w w' := by
  obtain ⟨i, hi, hr⟩ := Option.map_eq_some_iff.mp h
  have HR0 := Aside0.mk hr0
  have HC0 := Aside0.mk hc0
  have H := Aside0.mk hi
  have HE := Aside0.mk hr
  clear hr0 h hi hc0 hr
  go_enter Try.func101, Try.ntmps101
  go_wp2_with (go_at_call 113; (with_reducible refine (IndexFuncSub_any g fn hf hname hbody caps p _ hp A0 c0 l0 i HR0.out HC0.out H.out).mono ?_); rintro e w2 ⟨rfl, hb2⟩; have HB2 := Aside0.mk hb2; clear hb2)
  go_ret
  exact ⟨by rw [← HE.out]; rfl, HB2.out⟩
def IndexFunc_end.f (k : Nat) (l0 : List S32) : Option Int := idxF (fun x => subprogram_Split_1.f k x.f0 x.f1 x.f2) l0 0
theorem IndexFunc_end.calls (k : Nat) (A0 : Option Addr) (c0 : Nat) (l0 : List S32) (r : Int) (w : World) (hr0 : Kd.C k32 w A0 l0.length l0) (hc0 : l0.length ≤ c0) (h : IndexFunc_end.f k l0 = some r) :
    Calls Try.prog 73 #[.slice A0 l0.length c0, .func (.func 75) #[] #[]] w fun e w' => e = .returned (.int .i64 r) ∧ Below w.heap.size w w' :=
  IndexFunc_any 75 _ Try.func75 (by kernel_rfl) rfl #[] (fun x => subprogram_Split_1.f k x.f0 x.f1 x.f2) w ⟨fun x A1 c1 b W _ hk hc hb => subprogram_Split_1.calls k x.f0 A1 c1 x.f1 x.f2 b W hk hc hb⟩ A0 c0 l0 r hr0 hc0 h
def IndexFunc_back.f (k : Nat) (l0 : List S32) : Option Int := idxF (fun x => subprogram_Split_2.f k x.f0 x.f1 x.f2) l0 0
theorem IndexFunc_back.calls (k : Nat) (A0 : Option Addr) (c0 : Nat) (l0 : List S32) (r : Int) (w : World) (hr0 : Kd.C k32 w A0 l0.length l0) (hc0 : l0.length ≤ c0) (h : IndexFunc_back.f k l0 = some r) :
    Calls Try.prog 73 #[.slice A0 l0.length c0, .func (.func 77) #[] #[]] w fun e w' => e = .returned (.int .i64 r) ∧ Below w.heap.size w w' :=
  IndexFunc_any 77 _ Try.func77 (by kernel_rfl) rfl #[] (fun x => subprogram_Split_2.f k x.f0 x.f1 x.f2) w ⟨fun x A1 c1 b W _ hk hc hb => subprogram_Split_2.calls k x.f0 A1 c1 x.f1 x.f2 b W hk hc hb⟩ A0 c0 l0 r hr0 hc0 h
def ContainsFunc_marked.f (k : Nat) (l0 : List S32) : Option Bool := (idxF (fun x => subprogram_marked.f k x.f0 x.f1 x.f2) l0 0).map (fun i => decide (i ≥ 0))
theorem ContainsFunc_marked.calls (k : Nat) (A0 : Option Addr) (c0 : Nat) (l0 : List S32) (r : Bool) (w : World) (hr0 : Kd.C k32 w A0 l0.length l0) (hc0 : l0.length ≤ c0) (h : ContainsFunc_marked.f k l0 = some r) :
    Calls Try.prog 38 #[.slice A0 l0.length c0, .func (.func 100) #[] #[]] w fun e w' => e = .returned (.bool r) ∧ Below w.heap.size w w' :=
  ContainsFunc_any 100 _ Try.func100 (by kernel_rfl) rfl #[] (fun x => subprogram_marked.f k x.f0 x.f1 x.f2) w ⟨fun x A1 c1 b W _ hk hc hb => subprogram_marked.calls k x.f0 A1 c1 x.f1 x.f2 b W hk hc hb⟩ A0 c0 l0 r hr0 hc0 h
end Go.Proofs.Ytehkhbnhmehobaa.P
namespace Go.Proofs.Ytehkhbnhmehobaa.P
open Go.RowKit Go.Proofs.YtehkhbnhmehobaaW.PrintWords Go.Proofs.YtehkhbnhmehobaaW.PrintLast Go.Proofs.YtehkhbnhmehobaaW.PrintMore
attribute [local go_sem] max2_int min2_int max_two min_two max_three min_three max_four min_four
set_option linter.unusedVariables false
set_option linter.unusedSimpArgs false
def subprogram_ordered_1.f (k : Nat) (a0_0 : Int) (l0_1 : List (S32)) : Option (Bool) := (ContainsFunc_marked.f k l0_1).bind fun t995 => (some t995)
set_option maxHeartbeats 8000000 in
set_option maxRecDepth 100000 in
theorem subprogram_ordered_1.calls (k : Nat) (a0_0 : Int) (A0_1 : Option Addr) (c0_1 : Nat) (l0_1 : List (S32)) (r : Bool) (w : World) (hr0_1 : Kd.C k32 w A0_1 l0_1.length l0_1) (hc0_1 : l0_1.length ≤ c0_1) (h : subprogram_ordered_1.f k a0_0 l0_1 = some r) :
  Calls Try.prog 102 #[.agg #[.int .i64 a0_0, .slice A0_1 l0_1.length c0_1]] w fun e w' => e = .returned (.bool r) ∧ Below w.heap.size w w' := by
 have hu81 := Try.underlying81
 have HR0_1 := Aside0.mk hr0_1
 have HC0_1 := Aside0.mk hc0_1
 clear hr0_1 hc0_1
 have HB := Aside0.mk (Below.refl w.heap.size w)
 have H : ((ContainsFunc_marked.f k l0_1).bind fun t995 => (some t995)) = some r := h
 clear h
 replace H := Option.bind_eq_some_iff.mp H
 obtain ⟨t995, A20, H⟩ := H
 have A2 := Aside0.mk A20
 clear A20
 obtain rfl := Option.some.inj H
 go_enter Try.func102, Try.ntmps102
 go_wp2_with (first | ((with_reducible refine gate_dst (N := 1) rfl ?_); refine yX 1 #[.int .i64 a0_0, .slice A0_1 l0_1.length c0_1] 81 ?_; intro gb994 hg w3 hbox hb; have BK994 := Aside0.mk (hbox); have GE994 := Aside0.mk ((yG hg : w.heap.size ≤ gb994)); replace HB := Aside0.mk (below_step yB hb); clear hb hbox hg; have hcz4_0 := yZ0 BK994.out; have hcz4_1 := yZ1 BK994.out; have hfz4_0 := blk_frozen BK994.out 0; have hfz4_1 := blk_frozen BK994.out 1) | ((with_reducible refine gate_callee (f := 38) rfl ?_); refine goesL_ (some 5) rfl rfl Try.func38 (by kernel_rfl) rfl #[.slice A0_1 l0_1.length c0_1, .func (.func 100) #[] #[]] rfl yQ ?_; (with_reducible refine (ContainsFunc_marked.calls k _ _ l0_1  t995 _ ?side1 ?side2 A2.out).mono ?_); (case side1 => exact yC HR0_1.out); (case side2 => exact HC0_1.out); rintro e w5 ⟨rfl, hb⟩; refine ⟨_, rfl, ?_⟩; replace BK994 := Aside0.mk (blk_below (g := gb994) yK hb); replace HB := Aside0.mk (below_step yB hb); (try clear hb)))
 go_ret
 exact ⟨yE, yB⟩
end Go.Proofs.Ytehkhbnhmehobaa.P
namespace Go.Proofs.Ytehkhbnhmehobaa.P
open Go.RowKit Go.Proofs.YtehkhbnhmehobaaW.PrintWords Go.Proofs.YtehkhbnhmehobaaW.PrintLast Go.Proofs.YtehkhbnhmehobaaW.PrintMore
set_option linter.unusedVariables false
def ContainsFunc_ordered.f (k : Nat) (l0 : List S81) : Option Bool := (idxF (fun x => subprogram_ordered_1.f k x.f0 x.f1) l0 0).map (fun i => decide (i ≥ 0))
theorem ContainsFunc_ordered.calls (k : Nat) (A0 : Option Addr) (c0 : Nat) (l0 : List S81) (r : Bool) (w : World) (hr0 : Kd.C k81 w A0 l0.length l0) (hc0 : l0.length ≤ c0) (h : ContainsFunc_ordered.f k l0 = some r) :
    Calls Try.prog 101 #[.slice A0 l0.length c0, .func (.func 102) #[] #[]] w fun e w' => e = .returned (.bool r) ∧ Below w.heap.size w w' :=
  ContainsFuncSub_any 102 _ Try.func102 (by kernel_rfl) rfl #[] (fun x => subprogram_ordered_1.f k x.f0 x.f1) w ⟨fun x A1 c1 b W _ hk hc hb => subprogram_ordered_1.calls k x.f0 A1 c1 x.f1 b W hk hc hb⟩ A0 c0 l0 r hr0 hc0 h
end Go.Proofs.Ytehkhbnhmehobaa.P
namespace Go.Proofs.Ytehkhbnhmehobaa.P
open Go.RowKit Go.Proofs.YtehkhbnhmehobaaW.PrintWords Go.Proofs.YtehkhbnhmehobaaW.PrintLast Go.Proofs.YtehkhbnhmehobaaW.PrintMore
attribute [local go_sem] max2_int min2_int max_two min_two max_three min_three max_four min_four
set_option linter.unusedVariables false
set_option linter.unusedSimpArgs false
def subprogram_ordered.f (k : Nat) (l0_0 : List (S32)) (l0_1 : List (S81)) : Option (Bool) := if (wrap64 ((l0_0.length : Int) - 1)) < 0 then (some false) else (if 0 ≤ (wrap64 ((l0_0.length : Int) - 1)) then (if (wrap64 ((l0_0.length : Int) - 1)) < (l0_0.length : Int) then ((subprogram_has.f k ((rd_T32 l0_0 (wrap64 ((l0_0.length : Int) - 1))).f0) ((rd_T32 l0_0 (wrap64 ((l0_0.length : Int) - 1))).f1) ((rd_T32 l0_0 (wrap64 ((l0_0.length : Int) - 1))).f2) 77 30000).bind fun t380 => (if t380 = true then ((block_Codes.f k ((rd_T32 l0_0 (wrap64 ((l0_0.length : Int) - 1))).f0) ((rd_T32 l0_0 (wrap64 ((l0_0.length : Int) - 1))).f1) ((rd_T32 l0_0 (wrap64 ((l0_0.length : Int) - 1))).f2) 79).bind fun t382 => (if (t382.length : Int) > 0 then (some false) else ((subprogram_has.f k ((rd_T32 l0_0 (wrap64 ((l0_0.length : Int) - 1))).f0) ((rd_T32 l0_0 (wrap64 ((l0_0.length : Int) - 1))).f1) ((rd_T32 l0_0 (wrap64 ((l0_0.length : Int) - 1))).f2) 77 99000).bind fun t386 => (if t386 = true then (some false) else (if (wrap64 ((l0_0.length : Int) - 1)) ≤ (l0_0.length : Int) then ((ContainsFunc_marked.f k (l0_0.take ((wrap64 ((l0_0.length : Int) - 1)) : Int).toNat)).bind fun t391 => (if t391 = true then (some false) else ((ContainsFunc_ordered.f k l0_1).bind fun t392 => (some (!t392))))) else (none)))))) else (some false))) else (none)) else (none))
set_option maxHeartbeats 8000000 in
set_option maxRecDepth 100000 in
theorem subprogram_ordered.calls (k : Nat) (A0_0 : Option Addr) (c0_0 : Nat) (l0_0 : List (S32)) (A0_1 : Option Addr) (c0_1 : Nat) (l0_1 : List (S81)) (r : Bool) (w : World) (hr0_0 : Kd.C k32 w A0_0 l0_0.length l0_0) (hc0_0 : l0_0.length ≤ c0_0) (hr0_1 : Kd.C k81 w A0_1 l0_1.length l0_1) (hc0_1 : l0_1.length ≤ c0_1) (h : subprogram_ordered.f k l0_0 l0_1 = some r) :
  Calls Try.prog 79 #[.agg #[.slice A0_0 l0_0.length c0_0, .slice A0_1 l0_1.length c0_1]] w fun e w' => e = .returned (.bool r) ∧ Below w.heap.size w w' := by
 have hu54 := Try.underlying54
 have hu32 := Try.underlying32
 have HR0_0 := Aside0.mk hr0_0
 have HC0_0 := Aside0.mk hc0_0
 clear hr0_0 hc0_0
 have HR0_1 := Aside0.mk hr0_1
 have HC0_1 := Aside0.mk hc0_1
 clear hr0_1 hc0_1
 have HB := Aside0.mk (Below.refl w.heap.size w)
 have H : (if (wrap64 ((l0_0.length : Int) - 1)) < 0 then (some false) else (if 0 ≤ (wrap64 ((l0_0.length : Int) - 1)) then (if (wrap64 ((l0_0.length : Int) - 1)) < (l0_0.length : Int) then ((subprogram_has.f k ((rd_T32 l0_0 (wrap64 ((l0_0.length : Int) - 1))).f0) ((rd_T32 l0_0 (wrap64 ((l0_0.length : Int) - 1))).f1) ((rd_T32 l0_0 (wrap64 ((l0_0.length : Int) - 1))).f2) 77 30000).bind fun t380 => (if t380 = true then ((block_Codes.f k ((rd_T32 l0_0 (wrap64 ((l0_0.length : Int) - 1))).f0) ((rd_T32 l0_0 (wrap64 ((l0_0.length : Int) - 1))).f1) ((rd_T32 l0_0 (wrap64 ((l0_0.length : Int) - 1))).f2) 79).bind fun t382 => (if (t382.length : Int) > 0 then (some false) else ((subprogram_has.f k ((rd_T32 l0_0 (wrap64 ((l0_0.length : Int) - 1))).f0) ((rd_T32 l0_0 (wrap64 ((l0_0.length : Int) - 1))).f1) ((rd_T32 l0_0 (wrap64 ((l0_0.length : Int) - 1))).f2) 77 99000).bind fun t386 => (if t386 = true then (some false) else (if (wrap64 ((l0_0.length : Int) - 1)) ≤ (l0_0.length : Int) then ((ContainsFunc_marked.f k (l0_0.take ((wrap64 ((l0_0.length : Int) - 1)) : Int).toNat)).bind fun t391 => (if t391 = true then (some false) else ((ContainsFunc_ordered.f k l0_1).bind fun t392 => (some (!t392))))) else (none)))))) else (some false))) else (none)) else (none))) = some r := h
 clear h
 by_cases c2 : (wrap64 ((l0_0.length : Int) - 1)) < 0
 ·rw [if_pos c2] at H
  have c2b0 := decide_eq_true c2
  clear c2
  obtain rfl := Option.some.inj H
  go_enter Try.func79, Try.ntmps79
  go_wp2_with (first | ((with_reducible refine gate_dst (N := 1) rfl ?_); (try (refine gate_guard (by rfl) ?_; dsimp only)); refine yX 1 #[.slice A0_0 l0_0.length c0_0, .slice A0_1 l0_1.length c0_1] 54 ?_; intro gb378 hg w3 hbox hb; have BK378 := Aside0.mk (hbox); have GW378 := Aside0.mk ((yG hg : w.heap.size ≤ gb378)); have GE378 := Aside0.mk ((yG hg : w.heap.size ≤ gb378)); replace HB := Aside0.mk (below_step yB hb); clear hb hbox hg; have hcz4_0 := yZ0 BK378.out; have hcz4_1 := yZ1 BK378.out; have hfz4_0 := blk_frozen BK378.out 0; have hfz4_1 := blk_frozen BK378.out 1))
  go_ret
  exact ⟨yE, yB⟩
 rw [if_neg c2] at H
 have c2b0 := decide_eq_false c2
 clear c2
 obtain ⟨ji5, hji5⟩ : ∃ j_ : Int, (wrap64 ((l0_0.length : Int) - 1)) = j_ := ⟨_, rfl⟩
 replace H : (if 0 ≤ (ji5) then (if (ji5) < (l0_0.length : Int) then ((subprogram_has.f k ((rd_T32 l0_0 (ji5)).f0) ((rd_T32 l0_0 (ji5)).f1) ((rd_T32 l0_0 (ji5)).f2) 77 30000).bind fun t380 => (if t380 = true then ((block_Codes.f k ((rd_T32 l0_0 (ji5)).f0) ((rd_T32 l0_0 (ji5)).f1) ((rd_T32 l0_0 (ji5)).f2) 79).bind fun t382 => (if (t382.length : Int) > 0 then (some false) else ((subprogram_has.f k ((rd_T32 l0_0 (ji5)).f0) ((rd_T32 l0_0 (ji5)).f1) ((rd_T32 l0_0 (ji5)).f2) 77 99000).bind fun t386 => (if t386 = true then (some false) else (if (ji5) ≤ (l0_0.length : Int) then ((ContainsFunc_marked.f k (l0_0.take ((ji5) : Int).toNat)).bind fun t391 => (if t391 = true then (some false) else ((ContainsFunc_ordered.f k l0_1).bind fun t392 => (some (!t392))))) else (none)))))) else (some false))) else (none)) else (none)) = some r := by first | (rw [hji5] at H; exact H) | (simp only [hji5] at H ⊢; exact H)
 (try rw [hji5] at c2b0)
 have hji5w : (IntKind.i64.wrap ((l0_0.length : Int) - 1)) = ji5 := (i64_w _).trans hji5
 by_cases c6 : 0 ≤ (ji5)
 ·rw [if_pos c6] at H
  have c6b0 := decide_eq_true c6
  clear c6
  by_cases c7 : (ji5) < (l0_0.length : Int)
  ·rw [if_pos c7] at H
   have c7b0 := decide_eq_true c7
   clear c7
   replace H := Option.bind_eq_some_iff.mp H
   obtain ⟨t380, A80, H⟩ := H
   have A8 := Aside0.mk A80
   clear A80
   by_cases c9 : t380 = true
   ·subst c9
    rw [if_pos rfl] at H
    replace H := Option.bind_eq_some_iff.mp H
    obtain ⟨t382, A100, H⟩ := H
    have A10 := Aside0.mk A100
    clear A100
    by_cases c11 : (t382.length : Int) > 0
    ·rw [if_pos c11] at H
     have c11b0 := decide_eq_true c11
     have c11b1 : decide (0 < t382.length) = true := decide_eq_true (by omega)
     clear c11
     obtain rfl := Option.some.inj H
     go_enter Try.func79, Try.ntmps79
     go_wp2_with (first | ((with_reducible refine gate_dst (N := 1) rfl ?_); (try (refine gate_guard (by rfl) ?_; dsimp only)); refine yX 1 #[.slice A0_0 l0_0.length c0_0, .slice A0_1 l0_1.length c0_1] 54 ?_; intro gb378 hg w12 hbox hb; have BK378 := Aside0.mk (hbox); have GW378 := Aside0.mk ((yG hg : w.heap.size ≤ gb378)); have GE378 := Aside0.mk ((yG hg : w.heap.size ≤ gb378)); replace HB := Aside0.mk (below_step yB hb); clear hb hbox hg; have hcz13_0 := yZ0 BK378.out; have hcz13_1 := yZ1 BK378.out; have hfz13_0 := blk_frozen BK378.out 0; have hfz13_1 := blk_frozen BK378.out 1; have p379 : 0 ≤ ((ji5) : Int) := yD; have q379 : (ji5) < (l0_0.length : Int) := yD; obtain ⟨ad379, A379_1, c379_1, e379, hx379_0, hx379_1, hx379_2, hl379_1, hi379_1⟩ := at_T32 HR0_0.out (ji5) p379 q379; cases e379; replace hx379_0 := yM HB.out hx379_0; replace hx379_1 := yM HB.out hx379_1; replace hx379_2 := yM HB.out hx379_2; have HR379_1 := Aside0.mk hi379_1; have HC379_1 := Aside0.mk hl379_1; clear hi379_1 hl379_1; replace p379 := eq_true p379; replace q379 := eq_true q379) | (go_at_call 58; (with_reducible refine (subprogram_has.calls k ((rd_T32 l0_0 (ji5)).f0) _ _ ((rd_T32 l0_0 (ji5)).f1) ((rd_T32 l0_0 (ji5)).f2) 77 30000 true _ ?side1 ?side2 A8.out).mono ?_); (case side1 => exact yC HR379_1.out); (case side2 => exact HC379_1.out); rintro e w14 ⟨rfl, hb⟩; replace BK378 := Aside0.mk (blk_below (g := gb378) yK hb); replace HB := Aside0.mk (below_step yB hb); (try clear hb); have hcz15_0 := yZ0 BK378.out; have hcz15_1 := yZ1 BK378.out; have hfz15_0 := blk_frozen BK378.out 0; have hfz15_1 := blk_frozen BK378.out 1; have p381 : 0 ≤ ((ji5) : Int) := yD; have q381 : (ji5) < (l0_0.length : Int) := yD; obtain ⟨ad381, A381_1, c381_1, e381, hx381_0, hx381_1, hx381_2, hl381_1, hi381_1⟩ := at_T32 HR0_0.out (ji5) p381 q381; obtain rfl : ad379 = ad381 := (by injection e381); replace hx381_0 := yM HB.out hx381_0; replace hx381_1 := yM HB.out hx381_1; replace hx381_2 := yM HB.out hx381_2; have HR381_1 := Aside0.mk hi381_1; have HC381_1 := Aside0.mk hl381_1; clear hi381_1 hl381_1; replace p381 := eq_true p381; replace q381 := eq_true q381) | (go_at_call 93; (with_reducible refine (block_Codes.calls k ((rd_T32 l0_0 (ji5)).f0) _ _ ((rd_T32 l0_0 (ji5)).f1) ((rd_T32 l0_0 (ji5)).f2) 79 t382 _ ?side1 ?side2 A10.out).mono ?_); (case side1 => exact yC HR381_1.out); (case side2 => exact HC381_1.out); rintro e w16 ⟨v383, rfl, ho0, hb⟩; have HO384 := Aside0.mk (Kd.R_lower ho0 (below_size yB)); replace BK378 := Aside0.mk (blk_below (g := gb378) yK hb); replace HB := Aside0.mk (below_step yB hb); (try clear hb); (try clear ho0); obtain ⟨Ao17, co17, eo17⟩ := Kd.R_slice HO384.out; subst eo17))
     go_ret
     exact ⟨by first | rfl | (simp [errW_none, errW_some] <;> rfl) | (simp only [← hji5]; first | rfl | (simp [errW_none, errW_some] <;> rfl)) | (simp [*, errW_none, errW_some] <;> rfl), yB⟩
    rw [if_neg c11] at H
    have c11b0 := decide_eq_false c11
    have c11b1 : decide (0 < t382.length) = false := decide_eq_false (by omega)
    clear c11
    replace H := Option.bind_eq_some_iff.mp H
    obtain ⟨t386, A180, H⟩ := H
    have A18 := Aside0.mk A180
    clear A180
    by_cases c19 : t386 = true
    ·subst c19
     rw [if_pos rfl] at H
     obtain rfl := Option.some.inj H
     go_enter Try.func79, Try.ntmps79
     go_wp2_with (first | ((with_reducible refine gate_dst (N := 1) rfl ?_); (try (refine gate_guard (by rfl) ?_; dsimp only)); refine yX 1 #[.slice A0_0 l0_0.length c0_0, .slice A0_1 l0_1.length c0_1] 54 ?_; intro gb378 hg w20 hbox hb; have BK378 := Aside0.mk (hbox); have GW378 := Aside0.mk ((yG hg : w.heap.size ≤ gb378)); have GE378 := Aside0.mk ((yG hg : w.heap.size ≤ gb378)); replace HB := Aside0.mk (below_step yB hb); clear hb hbox hg; have hcz21_0 := yZ0 BK378.out; have hcz21_1 := yZ1 BK378.out; have hfz21_0 := blk_frozen BK378.out 0; have hfz21_1 := blk_frozen BK378.out 1; have p379 : 0 ≤ ((ji5) : Int) := yD; have q379 : (ji5) < (l0_0.length : Int) := yD; obtain ⟨ad379, A379_1, c379_1, e379, hx379_0, hx379_1, hx379_2, hl379_1, hi379_1⟩ := at_T32 HR0_0.out (ji5) p379 q379; cases e379; replace hx379_0 := yM HB.out hx379_0; replace hx379_1 := yM HB.out hx379_1; replace hx379_2 := yM HB.out hx379_2; have HR379_1 := Aside0.mk hi379_1; have HC379_1 := Aside0.mk hl379_1; clear hi379_1 hl379_1; replace p379 := eq_true p379; replace q379 := eq_true q379) | (go_at_call 58; (with_reducible refine (subprogram_has.calls k ((rd_T32 l0_0 (ji5)).f0) _ _ ((rd_T32 l0_0 (ji5)).f1) ((rd_T32 l0_0 (ji5)).f2) 77 30000 true _ ?side1 ?side2 A8.out).mono ?_); (case side1 => exact yC HR379_1.out); (case side2 => exact HC379_1.out); rintro e w22 ⟨rfl, hb⟩; replace BK378 := Aside0.mk (blk_below (g := gb378) yK hb); replace HB := Aside0.mk (below_step yB hb); (try clear hb); have hcz23_0 := yZ0 BK378.out; have hcz23_1 := yZ1 BK378.out; have hfz23_0 := blk_frozen BK378.out 0; have hfz23_1 := blk_frozen BK378.out 1; have p381 : 0 ≤ ((ji5) : Int) := yD; have q381 : (ji5) < (l0_0.length : Int) := yD; obtain ⟨ad381, A381_1, c381_1, e381, hx381_0, hx381_1, hx381_2, hl381_1, hi381_1⟩ := at_T32 HR0_0.out (ji5) p381 q381; obtain rfl : ad379 = ad381 := (by injection e381); replace hx381_0 := yM HB.out hx381_0; replace hx381_1 := yM HB.out hx381_1; replace hx381_2 := yM HB.out hx381_2; have HR381_1 := Aside0.mk hi381_1; have HC381_1 := Aside0.mk hl381_1; clear hi381_1 hl381_1; replace p381 := eq_true p381; replace q381 := eq_true q381) | (go_at_call 93; (with_reducible refine (block_Codes.calls k ((rd_T32 l0_0 (ji5)).f0) _ _ ((rd_T32 l0_0 (ji5)).f1) ((rd_T32 l0_0 (ji5)).f2) 79 t382 _ ?side1 ?side2 A10.out).mono ?_); (case side1 => exact yC HR381_1.out); (case side2 => exact HC381_1.out); rintro e w24 ⟨v383, rfl, ho0, hb⟩; have HO384 := Aside0.mk (Kd.R_lower ho0 (below_size yB)); replace BK378 := Aside0.mk (blk_below (g := gb378) yK hb); replace HB := Aside0.mk (below_step yB hb); (try clear hb); (try clear ho0); obtain ⟨Ao25, co25, eo25⟩ := Kd.R_slice HO384.out; subst eo25; have hcz26_0 := yZ0 BK378.out; have hcz26_1 := yZ1 BK378.out; have hfz26_0 := blk_frozen BK378.out 0; have hfz26_1 := blk_frozen BK378.out 1; have p385 : 0 ≤ ((ji5) : Int) := yD; have q385 : (ji5) < (l0_0.length : Int) := yD; obtain ⟨ad385, A385_1, c385_1, e385, hx385_0, hx385_1, hx385_2, hl385_1, hi385_1⟩ := at_T32 HR0_0.out (ji5) p385 q385; obtain rfl : ad379 = ad385 := (by injection e385); replace hx385_0 := yM HB.out hx385_0; replace hx385_1 := yM HB.out hx385_1; replace hx385_2 := yM HB.out hx385_2; have HR385_1 := Aside0.mk hi385_1; have HC385_1 := Aside0.mk hl385_1; clear hi385_1 hl385_1; replace p385 := eq_true p385; replace q385 := eq_true q385) | (go_at_call 58; (with_reducible refine (subprogram_has.calls k ((rd_T32 l0_0 (ji5)).f0) _ _ ((rd_T32 l0_0 (ji5)).f1) ((rd_T32 l0_0 (ji5)).f2) 77 99000 true _ ?side1 ?side2 A18.out).mono ?_); (case side1 => exact yC HR385_1.out); (case side2 => exact HC385_1.out); rintro e w27 ⟨rfl, hb⟩; replace HO384 := Aside0.mk (Kd.R_below (yR HO384.out) hb); replace BK378 := Aside0.mk (blk_below (g := gb378) yK hb); replace HB := Aside0.mk (below_step yB hb); (try clear hb)))
     go_ret
     exact ⟨by first | rfl | (simp [errW_none, errW_some] <;> rfl) | (simp only [← hji5]; first | rfl | (simp [errW_none, errW_some] <;> rfl)) | (simp [*, errW_none, errW_some] <;> rfl), yB⟩
    replace c19 := Bool.eq_false_iff.mpr c19
    subst c19
    replace H : (if (ji5) ≤ (l0_0.length : Int) then ((ContainsFunc_marked.f k (l0_0.take ((ji5) : Int).toNat)).bind fun t391 => (if t391 = true then (some false) else ((ContainsFunc_ordered.f k l0_1).bind fun t392 => (some (!t392))))) else (none)) = some r := by rw [if_neg (show ¬ (false = true) by decide)] at H; exact H
    have c28b0 := eq_true (yD : 0 ≤ (ji5))
    by_cases c29 : (ji5) ≤ (l0_0.length : Int)
    ·rw [if_pos c29] at H
     have c29b0 := eq_true c29
     have c29b1 := decide_eq_true c29
     clear c29
     obtain ⟨y387, hy387⟩ : ∃ y_ : List (S32), y_ = (l0_0.take ((ji5) : Int).toNat) := ⟨_, rfl⟩
     replace H : ((ContainsFunc_marked.f k y387).bind fun t391 => (if t391 = true then (some false) else ((ContainsFunc_ordered.f k l0_1).bind fun t392 => (some (!t392))))) = some r := by first | (rw [hy387]; with_reducible exact H) | (have H2_ := (Option.bind_some _ _).symm.trans H; rw [hy387]; with_reducible exact H2_) | (have H2_ := (Option.bind_some _ _).symm.trans H; with_reducible exact H2_) | with_reducible exact H | (rw [hy387]; exact H) | exact H
     have Ny387 := Aside0.mk hy387
     clear hy387
     replace H := Option.bind_eq_some_iff.mp H
     obtain ⟨t391, A300, H⟩ := H
     have A30 := Aside0.mk A300
     clear A300
     by_cases c31 : t391 = true
     ·subst c31
      rw [if_pos rfl] at H
      obtain rfl := Option.some.inj H
      go_enter Try.func79, Try.ntmps79
      go_wp2_with (first | ((with_reducible refine gate_dst (N := 1) rfl ?_); (try (refine gate_guard (by rfl) ?_; dsimp only)); refine yX 1 #[.slice A0_0 l0_0.length c0_0, .slice A0_1 l0_1.length c0_1] 54 ?_; intro gb378 hg w32 hbox hb; have BK378 := Aside0.mk (hbox); have GW378 := Aside0.mk ((yG hg : w.heap.size ≤ gb378)); have GE378 := Aside0.mk ((yG hg : w.heap.size ≤ gb378)); replace HB := Aside0.mk (below_step yB hb); clear hb hbox hg; have hcz33_0 := yZ0 BK378.out; have hcz33_1 := yZ1 BK378.out; have hfz33_0 := blk_frozen BK378.out 0; have hfz33_1 := blk_frozen BK378.out 1; have p379 : 0 ≤ ((ji5) : Int) := yD; have q379 : (ji5) < (l0_0.length : Int) := yD; obtain ⟨ad379, A379_1, c379_1, e379, hx379_0, hx379_1, hx379_2, hl379_1, hi379_1⟩ := at_T32 HR0_0.out (ji5) p379 q379; cases e379; replace hx379_0 := yM HB.out hx379_0; replace hx379_1 := yM HB.out hx379_1; replace hx379_2 := yM HB.out hx379_2; have HR379_1 := Aside0.mk hi379_1; have HC379_1 := Aside0.mk hl379_1; clear hi379_1 hl379_1; replace p379 := eq_true p379; replace q379 := eq_true q379) | (go_at_call 58; (with_reducible refine (subprogram_has.calls k ((rd_T32 l0_0 (ji5)).f0) _ _ ((rd_T32 l0_0 (ji5)).f1) ((rd_T32 l0_0 (ji5)).f2) 77 30000 true _ ?side1 ?side2 A8.out).mono ?_); (case side1 => exact yC HR379_1.out); (case side2 => exact HC379_1.out); rintro e w34 ⟨rfl, hb⟩; replace BK378 := Aside0.mk (blk_below (g := gb378) yK hb); replace HB := Aside0.mk (below_step yB hb); (try clear hb); have hcz35_0 := yZ0 BK378.out; have hcz35_1 := yZ1 BK378.out; have hfz35_0 := blk_frozen BK378.out 0; have hfz35_1 := blk_frozen BK378.out 1; have p381 : 0 ≤ ((ji5) : Int) := yD; have q381 : (ji5) < (l0_0.length : Int) := yD; obtain ⟨ad381, A381_1, c381_1, e381, hx381_0, hx381_1, hx381_2, hl381_1, hi381_1⟩ := at_T32 HR0_0.out (ji5) p381 q381; obtain rfl : ad379 = ad381 := (by injection e381); replace hx381_0 := yM HB.out hx381_0; replace hx381_1 := yM HB.out hx381_1; replace hx381_2 := yM HB.out hx381_2; have HR381_1 := Aside0.mk hi381_1; have HC381_1 := Aside0.mk hl381_1; clear hi381_1 hl381_1; replace p381 := eq_true p381; replace q381 := eq_true q381) | (go_at_call 93; (with_reducible refine (block_Codes.calls k ((rd_T32 l0_0 (ji5)).f0) _ _ ((rd_T32 l0_0 (ji5)).f1) ((rd_T32 l0_0 (ji5)).f2) 79 t382 _ ?side1 ?side2 A10.out).mono ?_); (case side1 => exact yC HR381_1.out); (case side2 => exact HC381_1.out); rintro e w36 ⟨v383, rfl, ho0, hb⟩; have HO384 := Aside0.mk (Kd.R_lower ho0 (below_size yB)); replace BK378 := Aside0.mk (blk_below (g := gb378) yK hb); replace HB := Aside0.mk (below_step yB hb); (try clear hb); (try clear ho0); obtain ⟨Ao37, co37, eo37⟩ := Kd.R_slice HO384.out; subst eo37; have hcz38_0 := yZ0 BK378.out; have hcz38_1 := yZ1 BK378.out; have hfz38_0 := blk_frozen BK378.out 0; have hfz38_1 := blk_frozen BK378.out 1; have p385 : 0 ≤ ((ji5) : Int) := yD; have q385 : (ji5) < (l0_0.length : Int) := yD; obtain ⟨ad385, A385_1, c385_1, e385, hx385_0, hx385_1, hx385_2, hl385_1, hi385_1⟩ := at_T32 HR0_0.out (ji5) p385 q385; obtain rfl : ad379 = ad385 := (by injection e385); replace hx385_0 := yM HB.out hx385_0; replace hx385_1 := yM HB.out hx385_1; replace hx385_2 := yM HB.out hx385_2; have HR385_1 := Aside0.mk hi385_1; have HC385_1 := Aside0.mk hl385_1; clear hi385_1 hl385_1; replace p385 := eq_true p385; replace q385 := eq_true q385) | (go_at_call 58; (with_reducible refine (subprogram_has.calls k ((rd_T32 l0_0 (ji5)).f0) _ _ ((rd_T32 l0_0 (ji5)).f1) ((rd_T32 l0_0 (ji5)).f2) 77 99000 false _ ?side1 ?side2 A18.out).mono ?_); (case side1 => exact yC HR385_1.out); (case side2 => exact HC385_1.out); rintro e w39 ⟨rfl, hb⟩; replace HO384 := Aside0.mk (Kd.R_below (yR HO384.out) hb); replace BK378 := Aside0.mk (blk_below (g := gb378) yK hb); replace HB := Aside0.mk (below_step yB hb); (try clear hb); have hcz40_0 := yZ0 BK378.out; have hcz40_1 := yZ1 BK378.out; have hfz40_0 := blk_frozen BK378.out 0; have hfz40_1 := blk_frozen BK378.out 1; have q41 : ((ji5) : Int) ≤ ((l0_0.length : Int) : Int) := yD; obtain ⟨i041, hi041, _, hsz41, _⟩ := info_parts info32; have hroom41 : l0_0.length ≤ c0_0 := HC0_0.out; have hC41 : Kd.C k32 _ (some ad379) l0_0.length l0_0 := HR0_0.out; have hcut41 := cut_to (P := Try.prog) 35 32 .i64 Try.underlying35 hi041 (some ad379) l0_0.length c0_0 (ji5) (yD) q41 hroom41; have hr41 := Kd.C_take (m := ((ji5) : Int).toNat) hC41 (by omega); have hy41 : y387.length = ((ji5) : Int).toNat := (by rw [Ny387.out, List.length_take]; omega); rw [← Ny387.out] at hr41; rw [← hy41] at hcut41; have HR390 := Aside0.mk hr41; have HC390 := Aside0.mk (show y387.length ≤ c0_0 from by omega); clear hr41 hC41 hroom41 hi041 hsz41; have KY41 := Aside0.mk hy41; clear hy41; replace q41 := eq_true q41) | (go_at_call 38; (with_reducible refine (ContainsFunc_marked.calls k _ _ y387  true _ ?side1 ?side2 A30.out).mono ?_); (case side1 => exact yC HR390.out); (case side2 => exact HC390.out); rintro e w42 ⟨rfl, hb⟩; replace HO384 := Aside0.mk (Kd.R_below (yR HO384.out) hb); replace BK378 := Aside0.mk (blk_below (g := gb378) yK hb); replace HB := Aside0.mk (below_step yB hb); (try clear hb)))
      go_ret
      exact ⟨by first | rfl | (simp [errW_none, errW_some] <;> rfl) | (simp only [← hji5]; first | rfl | (simp [errW_none, errW_some] <;> rfl)) | (simp [*, errW_none, errW_some] <;> rfl), yB⟩
     replace c31 := Bool.eq_false_iff.mpr c31
     subst c31
     replace H : ((ContainsFunc_ordered.f k l0_1).bind fun t392 => (some (!t392))) = some r := by rw [if_neg (show ¬ (false = true) by decide)] at H; exact H
     replace H := Option.bind_eq_some_iff.mp H
     obtain ⟨t392, A430, H⟩ := H
     have A43 := Aside0.mk A430
     clear A430
     obtain rfl := Option.some.inj H
     go_enter Try.func79, Try.ntmps79
     go_wp2_with (first | ((with_reducible refine gate_dst (N := 1) rfl ?_); (try (refine gate_guard (by rfl) ?_; dsimp only)); refine yX 1 #[.slice A0_0 l0_0.length c0_0, .slice A0_1 l0_1.length c0_1] 54 ?_; intro gb378 hg w44 hbox hb; have BK378 := Aside0.mk (hbox); have GW378 := Aside0.mk ((yG hg : w.heap.size ≤ gb378)); have GE378 := Aside0.mk ((yG hg : w.heap.size ≤ gb378)); replace HB := Aside0.mk (below_step yB hb); clear hb hbox hg; have hcz45_0 := yZ0 BK378.out; have hcz45_1 := yZ1 BK378.out; have hfz45_0 := blk_frozen BK378.out 0; have hfz45_1 := blk_frozen BK378.out 1; have p379 : 0 ≤ ((ji5) : Int) := yD; have q379 : (ji5) < (l0_0.length : Int) := yD; obtain ⟨ad379, A379_1, c379_1, e379, hx379_0, hx379_1, hx379_2, hl379_1, hi379_1⟩ := at_T32 HR0_0.out (ji5) p379 q379; cases e379; replace hx379_0 := yM HB.out hx379_0; replace hx379_1 := yM HB.out hx379_1; replace hx379_2 := yM HB.out hx379_2; have HR379_1 := Aside0.mk hi379_1; have HC379_1 := Aside0.mk hl379_1; clear hi379_1 hl379_1; replace p379 := eq_true p379; replace q379 := eq_true q379) | (go_at_call 58; (with_reducible refine (subprogram_has.calls k ((rd_T32 l0_0 (ji5)).f0) _ _ ((rd_T32 l0_0 (ji5)).f1) ((rd_T32 l0_0 (ji5)).f2) 77 30000 true _ ?side1 ?side2 A8.out).mono ?_); (case side1 => exact yC HR379_1.out); (case side2 => exact HC379_1.out); rintro e w46 ⟨rfl, hb⟩; replace BK378 := Aside0.mk (blk_below (g := gb378) yK hb); replace HB := Aside0.mk (below_step yB hb); (try clear hb); have hcz47_0 := yZ0 BK378.out; have hcz47_1 := yZ1 BK378.out; have hfz47_0 := blk_frozen BK378.out 0; have hfz47_1 := blk_frozen BK378.out 1; have p381 : 0 ≤ ((ji5) : Int) := yD; have q381 : (ji5) < (l0_0.length : Int) := yD; obtain ⟨ad381, A381_1, c381_1, e381, hx381_0, hx381_1, hx381_2, hl381_1, hi381_1⟩ := at_T32 HR0_0.out (ji5) p381 q381; obtain rfl : ad379 = ad381 := (by injection e381); replace hx381_0 := yM HB.out hx381_0; replace hx381_1 := yM HB.out hx381_1; replace hx381_2 := yM HB.out hx381_2; have HR381_1 := Aside0.mk hi381_1; have HC381_1 := Aside0.mk hl381_1; clear hi381_1 hl381_1; replace p381 := eq_true p381; replace q381 := eq_true q381) | (go_at_call 93; (with_reducible refine (block_Codes.calls k ((rd_T32 l0_0 (ji5)).f0) _ _ ((rd_T32 l0_0 (ji5)).f1) ((rd_T32 l0_0 (ji5)).f2) 79 t382 _ ?side1 ?side2 A10.out).mono ?_); (case side1 => exact yC HR381_1.out); (case side2 => exact HC381_1.out); rintro e w48 ⟨v383, rfl, ho0, hb⟩; have HO384 := Aside0.mk (Kd.R_lower ho0 (below_size yB)); replace BK378 := Aside0.mk (blk_below (g := gb378) yK hb); replace HB := Aside0.mk (below_step yB hb); (try clear hb); (try clear ho0); obtain ⟨Ao49, co49, eo49⟩ := Kd.R_slice HO384.out; subst eo49; have hcz50_0 := yZ0 BK378.out; have hcz50_1 := yZ1 BK378.out; have hfz50_0 := blk_frozen BK378.out 0; have hfz50_1 := blk_frozen BK378.out 1; have p385 : 0 ≤ ((ji5) : Int) := yD; have q385 : (ji5) < (l0_0.length : Int) := yD; obtain ⟨ad385, A385_1, c385_1, e385, hx385_0, hx385_1, hx385_2, hl385_1, hi385_1⟩ := at_T32 HR0_0.out (ji5) p385 q385; obtain rfl : ad379 = ad385 := (by injection e385); replace hx385_0 := yM HB.out hx385_0; replace hx385_1 := yM HB.out hx385_1; replace hx385_2 := yM HB.out hx385_2; have HR385_1 := Aside0.mk hi385_1; have HC385_1 := Aside0.mk hl385_1; clear hi385_1 hl385_1; replace p385 := eq_true p385; replace q385 := eq_true q385) | (go_at_call 58; (with_reducible refine (subprogram_has.calls k ((rd_T32 l0_0 (ji5)).f0) _ _ ((rd_T32 l0_0 (ji5)).f1) ((rd_T32 l0_0 (ji5)).f2) 77 99000 false _ ?side1 ?side2 A18.out).mono ?_); (case side1 => exact yC HR385_1.out); (case side2 => exact HC385_1.out); rintro e w51 ⟨rfl, hb⟩; replace HO384 := Aside0.mk (Kd.R_below (yR HO384.out) hb); replace BK378 := Aside0.mk (blk_below (g := gb378) yK hb); replace HB := Aside0.mk (below_step yB hb); (try clear hb); have hcz52_0 := yZ0 BK378.out; have hcz52_1 := yZ1 BK378.out; have hfz52_0 := blk_frozen BK378.out 0; have hfz52_1 := blk_frozen BK378.out 1; have q53 : ((ji5) : Int) ≤ ((l0_0.length : Int) : Int) := yD; obtain ⟨i053, hi053, _, hsz53, _⟩ := info_parts info32; have hroom53 : l0_0.length ≤ c0_0 := HC0_0.out; have hC53 : Kd.C k32 _ (some ad379) l0_0.length l0_0 := HR0_0.out; have hcut53 := cut_to (P := Try.prog) 35 32 .i64 Try.underlying35 hi053 (some ad379) l0_0.length c0_0 (ji5) (yD) q53 hroom53; have hr53 := Kd.C_take (m := ((ji5) : Int).toNat) hC53 (by omega); have hy53 : y387.length = ((ji5) : Int).toNat := (by rw [Ny387.out, List.length_take]; omega); rw [← Ny387.out] at hr53; rw [← hy53] at hcut53; have HR390 := Aside0.mk hr53; have HC390 := Aside0.mk (show y387.length ≤ c0_0 from by omega); clear hr53 hC53 hroom53 hi053 hsz53; have KY53 := Aside0.mk hy53; clear hy53; replace q53 := eq_true q53) | (go_at_call 38; (with_reducible refine (ContainsFunc_marked.calls k _ _ y387  false _ ?side1 ?side2 A30.out).mono ?_); (case side1 => exact yC HR390.out); (case side2 => exact HC390.out); rintro e w54 ⟨rfl, hb⟩; replace HO384 := Aside0.mk (Kd.R_below (yR HO384.out) hb); replace BK378 := Aside0.mk (blk_below (g := gb378) yK hb); replace HB := Aside0.mk (below_step yB hb); (try clear hb); have hcz55_0 := yZ0 BK378.out; have hcz55_1 := yZ1 BK378.out; have hfz55_0 := blk_frozen BK378.out 0; have hfz55_1 := blk_frozen BK378.out 1) | ((with_reducible refine gate_callee (f := 101) rfl ?_); refine goesL_ (some 46) rfl rfl Try.func101 (by kernel_rfl) rfl #[.slice A0_1 l0_1.length c0_1, .func (.func 102) #[] #[]] rfl yQ ?_; (with_reducible refine (ContainsFunc_ordered.calls k _ _ l0_1  t392 _ ?side1 ?side2 A43.out).mono ?_); (case side1 => exact yC HR0_1.out); (case side2 => exact HC0_1.out); rintro e w56 ⟨rfl, hb⟩; refine ⟨_, rfl, ?_⟩; replace HO384 := Aside0.mk (Kd.R_below (yR HO384.out) hb); replace BK378 := Aside0.mk (blk_below (g := gb378) yK hb); replace HB := Aside0.mk (below_step yB hb); (try clear hb)))
     go_ret
     exact ⟨by first | rfl | (simp [errW_none, errW_some] <;> rfl) | (simp only [← hji5]; first | rfl | (simp [errW_none, errW_some] <;> rfl)) | (simp [*, errW_none, errW_some] <;> rfl), yB⟩
    rw [if_neg c29] at H
    exact absurd H (by simp)
   replace c9 := Bool.eq_false_iff.mpr c9
   subst c9
   replace H : (some false) = some r := by rw [if_neg (show ¬ (false = true) by decide)] at H; exact H
   obtain rfl := Option.some.inj H
   go_enter Try.func79, Try.ntmps79
   go_wp2_with (first | ((with_reducible refine gate_dst (N := 1) rfl ?_); (try (refine gate_guard (by rfl) ?_; dsimp only)); refine yX 1 #[.slice A0_0 l0_0.length c0_0, .slice A0_1 l0_1.length c0_1] 54 ?_; intro gb378 hg w57 hbox hb; have BK378 := Aside0.mk (hbox); have GW378 := Aside0.mk ((yG hg : w.heap.size ≤ gb378)); have GE378 := Aside0.mk ((yG hg : w.heap.size ≤ gb378)); replace HB := Aside0.mk (below_step yB hb); clear hb hbox hg; have hcz58_0 := yZ0 BK378.out; have hcz58_1 := yZ1 BK378.out; have hfz58_0 := blk_frozen BK378.out 0; have hfz58_1 := blk_frozen BK378.out 1; have p379 : 0 ≤ ((ji5) : Int) := yD; have q379 : (ji5) < (l0_0.length : Int) := yD; obtain ⟨ad379, A379_1, c379_1, e379, hx379_0, hx379_1, hx379_2, hl379_1, hi379_1⟩ := at_T32 HR0_0.out (ji5) p379 q379; cases e379; replace hx379_0 := yM HB.out hx379_0; replace hx379_1 := yM HB.out hx379_1; replace hx379_2 := yM HB.out hx379_2; have HR379_1 := Aside0.mk hi379_1; have HC379_1 := Aside0.mk hl379_1; clear hi379_1 hl379_1; replace p379 := eq_true p379; replace q379 := eq_true q379) | (go_at_call 58; (with_reducible refine (subprogram_has.calls k ((rd_T32 l0_0 (ji5)).f0) _ _ ((rd_T32 l0_0 (ji5)).f1) ((rd_T32 l0_0 (ji5)).f2) 77 30000 false _ ?side1 ?side2 A8.out).mono ?_); (case side1 => exact yC HR379_1.out); (case side2 => exact HC379_1.out); rintro e w59 ⟨rfl, hb⟩; replace BK378 := Aside0.mk (blk_below (g := gb378) yK hb); replace HB := Aside0.mk (below_step yB hb); (try clear hb)))
   go_ret
   exact ⟨by first | rfl | (simp [errW_none, errW_some] <;> rfl) | (simp only [← hji5]; first | rfl | (simp [errW_none, errW_some] <;> rfl)) | (simp [*, errW_none, errW_some] <;> rfl), yB⟩
  rw [if_neg c7] at H
  exact absurd H (by simp)
 rw [if_neg c6] at H
 exact absurd H (by simp)
end Go.Proofs.Ytehkhbnhmehobaa.P
namespace Go.Proofs.Ytehkhbnhmehobaa.P
open Go.RowKit Go.Proofs.YtehkhbnhmehobaaW.PrintWords Go.Proofs.YtehkhbnhmehobaaW.PrintLast Go.Proofs.YtehkhbnhmehobaaW.PrintMore
set_option linter.unusedVariables false
set_option linter.unusedSimpArgs false
def repL : List S81 → List S81 → Bool
  | _, [] => false
  | p, x :: l => if p.any (fun y => x.f0 == y.f0) = true then true else repL (p ++ [x]) l
def subprogram_repeated.f (l0 : List (S81)) : Option (Bool) := some (repL [] l0)
theorem idx_any (n : Int) : ∀ (l : List S81) (i : Int), 0 ≤ i → (idxF (fun y => some (n == y.f0)) l i).map (fun i => decide (i ≥ 0)) = some (l.any (fun y => n == y.f0))
  | [], i, _ => rfl
  | x :: l, i, hi => by
    simp only [idxF, Option.bind_some, List.any_cons]
    cases h : (n == x.f0) with
    | true => simp [hi]
    | false =>
      simp only [Bool.false_eq_true, if_false, Bool.false_or]
      exact idx_any n l (i + 1) (by omega)
theorem alloc_at2 (w : World) (o : Obj) : (w.alloc o).heap[w.heap.size]? = some o := by
  show (w.heap.push o)[w.heap.size]? = _
  simp
set_option maxHeartbeats 1000000 in
set_option maxRecDepth 100000 in
theorem repeated_closure (x y : S81) (v : Value) (g : Nat) (A1 : Option Addr) (c1 : Nat) (w : World) (hbox : w.heap[g]? = some (.cells #[.int .i64 x.f0, v] 81 (0, 0))) :
    Calls Try.prog 103 (#[.agg #[.int .i64 y.f0, .slice A1 y.f1.length c1]] ++ #[.pointer (some ⟨g, 0, none⟩)]) w fun e w' => e = .returned (.bool (x.f0 == y.f0)) ∧ Below w.heap.size w w' := by
  have hu1 := Try.underlying81
  have hcz0 : w.cell? ⟨g, 0, none⟩ = some (.int .i64 x.f0) := (blk_cell hbox 0).trans rfl
  have BK := Aside0.mk hbox
  clear hbox
  show Calls Try.prog 103 #[.agg #[.int .i64 y.f0, .slice A1 y.f1.length c1], .pointer (some ⟨g, 0, none⟩)] w _
  go_enter Try.func103, Try.ntmps103
  go_wp2_with ((with_reducible refine gate_dst (N := 2) rfl ?_); refine yX 2 #[.int .i64 y.f0, .slice A1 y.f1.length c1] 81 ?_; intro gb hg w1 hbox hb; have HB := Aside0.mk hb; have BKt := Aside0.mk (blk_below BK.out hb); have hx0 : w1.cell? ⟨gb, 0, none⟩ = some (.int .i64 y.f0) := (blk_cell hbox 0).trans rfl; have hx1 : w1.cell? ⟨g, 0, none⟩ = some (.int .i64 x.f0) := (blk_cell BKt.out 0).trans rfl; clear hb hbox hg hcz0)
  go_ret
  exact ⟨rfl, HB.out⟩
theorem repL_step {l : List S81} {j : Nat} (h : j < l.length) : repL (l.take j) (l.drop j) = if (l.take j).any (fun y => l[j].f0 == y.f0) = true then true else repL (l.take (j + 1)) (l.drop (j + 1)) := by
  rw [List.drop_eq_getElem_cons h, repL, List.take_succ_eq_append_getElem h]
set_option maxHeartbeats 2000000 in
set_option maxRecDepth 100000 in
theorem subprogram_repeated.calls (A0 : Option Addr) (c0 : Nat) (l0 : List (S81)) (r : Bool) (w : World) (hr0 : Kd.C k81 w A0 l0.length l0) (hc0 : l0.length ≤ c0) (h : subprogram_repeated.f l0 = some r) :
    Calls Try.prog 80 #[.slice A0 l0.length c0] w fun e w' => e = .returned (.bool r) ∧ Below w.heap.size w w' := by
  have H := Aside0.mk (Option.some.inj h)
  have hu81 := Try.underlying81
  have HR := Aside0.mk hr0
  have HC := Aside0.mk hc0
  have HM := Aside0.mk (Kd.C_max hr0)
  clear hr0 h hc0
  go_enter Try.func80, Try.ntmps80
  go_wp2
  go_loopw [7] (fun i w' => ∃ j : Nat, i = .int .i64 j ∧ Aside0 (j ≤ l0.length) ∧ Aside0 (repL (l0.take j) (l0.drop j) = r) ∧ Aside0 (Below w.heap.size w w')) (fun i _ => l0.length - (intOf i).toNat)
  case atStart => exact ⟨0, rfl, ⟨Nat.zero_le _⟩, ⟨H.out⟩, ⟨Below.refl _ _⟩⟩
  case round =>
    obtain ⟨j, rfl, HJ, HI, HB⟩ := hrel
    by_cases hlt : j < l0.length
    · obtain ⟨ad, A1, c1, e, hx0, hx1, hl1, hk1⟩ := at_T81 (Kd.C_below HR.out HB.out) (j : Int) (by omega) (by omega)
      cases e
      have hrd : rd_T81 l0 (j : Int) = l0[j] := by simp [rd_T81, hlt]
      rw [hrd] at hx0 hx1 hl1 hk1
      have HI2 := Aside0.mk ((repL_step hlt).symm.trans HI.out)
      have HTK := Aside0.mk (show Kd.C k81 wr (some ad) (l0.take j).length (l0.take j) from Kd.C_take (Kd.C_below HR.out HB.out) (m := j) (by omega))
      have HLT := Aside0.mk (show (l0.take j).length = j from by rw [List.length_take, Nat.min_eq_left (by omega)])
      clear hrd
      generalize l0[j] = x at *
      generalize l0.take j = pj at *
      simp only [Int.toNat_natCast] at hx0 hx1
      have hlt' : decide ((j : Int) < (l0.length : Int)) = true := by simp; omega
      have hj0 : (0 : Int) ≤ (j : Int) := by omega
      have hj1 : j ≤ l0.length := by omega
      have hj2 : j ≤ c0 := by have := HC.out; omega
      have CF : ∀ (W : World), W.heap[wr.heap.size]? = some (.cells #[.int .i64 x.f0, .slice A1 x.f1.length c1] 81 (0, 0)) → Below wr.heap.size wr W → Calls Try.prog 101 #[.slice (some ad) j c0, .func (.func 103) #[] #[.pointer (some ⟨wr.heap.size, 0, none⟩)]] W fun e w' => e = .returned (.bool (pj.any (fun y => x.f0 == y.f0))) ∧ Below W.heap.size W w' := by
        intro W hW hb
        have := ContainsFuncSub_any 103 _ Try.func103 (by kernel_rfl) rfl #[.pointer (some ⟨wr.heap.size, 0, none⟩)] (fun y => some (x.f0 == y.f0)) W ⟨fun y A2 c2 b W2 hb2 _ _ he => by obtain rfl := Option.some.inj he; exact repeated_closure x y _ wr.heap.size A2 c2 W2 (blk_below hW hb2)⟩ (some ad) c0 pj _ (Kd.C_below HTK.out hb) (by rw [HLT.out]; exact hj2) (idx_any x.f0 pj 0 (Int.le_refl 0))
        rw [HLT.out] at this
        exact this
      have CF := Aside0.mk CF
      cases ca : pj.any (fun y => x.f0 == y.f0) with
      | true =>
        have HI3 := HI2.out
        rw [if_pos ca] at HI3
        subst HI3
        rw [ca] at CF
        go_wp2_with (go_at_call 101; (with_reducible refine (CF.out _ (alloc_at2 wr _) (below_alloc (Below.refl _ _) _)).mono ?_); rintro e w4 ⟨rfl, hb4⟩; have HB4 := Aside0.mk (below_then (below_alloc HB.out _) (Nat.le_trans HB.out.size (below_alloc (Below.refl _ _) _).size) hb4); clear hb4)
        go_ret
        exact ⟨rfl, HB4.out⟩
      | false =>
        have HI3 := HI2.out
        rw [if_neg (by rw [ca]; decide)] at HI3
        have HI3 := Aside0.mk HI3
        rw [ca] at CF
        go_wp2_with (go_at_call 101; (with_reducible refine (CF.out _ (alloc_at2 wr _) (below_alloc (Below.refl _ _) _)).mono ?_); rintro e w4 ⟨rfl, hb4⟩; have HB4 := Aside0.mk (below_then (below_alloc HB.out _) (Nat.le_trans HB.out.size (below_alloc (Below.refl _ _) _).size) hb4); clear hb4)
        go_roundw
        case rel => exact ⟨j + 1, by rw [wrap_succ hlt HM.out], ⟨by omega⟩, ⟨HI3.out⟩, ⟨HB4.out⟩⟩
        case measure => rw [wrap_succ hlt HM.out]; simp only [intOf, Int.toNat_natCast]; omega
    have hlt' : decide ((j : Int) < (l0.length : Int)) = false := by simp; omega
    have hI := HI.out
    rw [List.drop_eq_nil_of_le (by omega), repL] at hI
    subst hI
    go_wp2
    go_ret
    exact ⟨rfl, HB.out⟩
end Go.Proofs.Ytehkhbnhmehobaa.P
