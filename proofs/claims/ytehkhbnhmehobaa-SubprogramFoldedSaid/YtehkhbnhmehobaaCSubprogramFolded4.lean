/- A part of the proof of SubprogramFolded. -/

import Derived.Test.YtehkhbnhmehobaaCSubprogramFolded1
import Derived.Test.YtehkhbnhmehobaaCSubprogramFolded2
import Derived.Test.YtehkhbnhmehobaaCSubprogramFolded3
namespace Go.Proofs.Ytehkhbnhmehobaa.P
open Go.RowKit Go.Proofs.YtehkhbnhmehobaaW.PrintWords Go.Proofs.YtehkhbnhmehobaaW.PrintLast Go.Proofs.YtehkhbnhmehobaaW.PrintMore
attribute [local go_sem] max2_int min2_int max_two min_two max_three min_three max_four min_four
set_option linter.unusedVariables false
set_option linter.unusedSimpArgs false
mutual
def subprogram_Fold.j0 : Nat → List (S32) → Int → Int → Bool → Option ((List (S32)) × (List (S81)) × Int)
 | 0, _, _, _, _ => none
 | k + 1, x0, x1, x2, x20 => if x20 = true then (some (([] : List (S32)), ([] : List (S81)), 1)) else (if x2 ≤ (wrap64 ((x0.length : Int) / 2)) then ((subprogram_first.f k x0 x2).bind fun t416 => (subprogram_Fold.j1 k x0 x1 x2 t416)) else (subprogram_Fold.j1 k x0 x1 x2 (-1)))
def subprogram_Fold.j1 : Nat → List (S32) → Int → Int → Int → Option ((List (S32)) × (List (S81)) × Int)
 | 0, _, _, _, _ => none
 | k + 1, x0, x1, x2, x8 => if x8 < 0 then ((Clone_Block.f x0).bind fun t417 => (some (t417, ([] : List (S81)), 0))) else (subprogram_Fold.l0 k x0 x1 x2 x8 ([] : List (S32)) 0)
def subprogram_Fold.l0 : Nat → List (S32) → Int → Int → Int → List (S32) → Int → Option ((List (S32)) × (List (S81)) × Int)
 | 0, _, _, _, _, _, _ => none
 | k + 1, x0, x1, x2, x8, x9, x10 => if x10 < (x0.length : Int) then (if (wrap64 (x10 + x2)) ≤ (x0.length : Int) then ((subprogram_run.f k x0 x8 x10 x2).bind fun t420 => (if t420 = true then (if x9.length < 2932031007402 then (subprogram_Fold.l0 k x0 x1 x2 x8 (x9 ++ [(⟨false, (([(⟨77, 98000⟩ : S78), (⟨80, wrap64 (1000 * x1)⟩ : S78)] : List (S78))), (⟨#[]⟩ : ByteArray)⟩ : S32)]) (wrap64 (x10 + x2))) else (none)) else (if 0 ≤ x10 then (if x9.length < 2932031007402 then (subprogram_Fold.l0 k x0 x1 x2 x8 (x9 ++ [(⟨(rd_T32 x0 x10).f0, (rd_T32 x0 x10).f1, (rd_T32 x0 x10).f2⟩ : S32)]) (wrap64 (x10 + 1))) else (none)) else (none)))) else (if 0 ≤ x10 then (if x9.length < 2932031007402 then (subprogram_Fold.l0 k x0 x1 x2 x8 (x9 ++ [(⟨(rd_T32 x0 x10).f0, (rd_T32 x0 x10).f1, (rd_T32 x0 x10).f2⟩ : S32)]) (wrap64 (x10 + 1))) else (none)) else (none))) else (if 0 ≤ x8 then (if x8 ≤ (wrap64 (x8 + x2)) then (if (wrap64 (x8 + x2)) ≤ (x0.length : Int) then ((Clone_Block.f ((x0.take ((wrap64 (x8 + x2)) : Int).toNat).drop (x8 : Int).toNat)).bind fun t440 => (some (x9, (([(⟨x1, t440⟩ : S81)] : List (S81))), 0))) else (none)) else (none)) else (none))
end
def subprogram_Fold.f (k : Nat) (l0 : List (S32)) (a1 : Int) (a2 : Int) : Option ((List (S32)) × (List (S81)) × Int) := if a1 < 1 then (subprogram_Fold.j0 k l0 a1 a2 true) else (if a1 > 9999 then (subprogram_Fold.j0 k l0 a1 a2 true) else (subprogram_Fold.j0 k l0 a1 a2 (decide (a2 < 1))))
set_option maxHeartbeats 8000000 in
set_option maxRecDepth 100000 in
theorem subprogram_Fold.calls (k : Nat) (P0_ : Nat → Prop) (A0 : Option Addr) (c0 : Nat) (l0 : List (S32)) (a1 : Int) (a2 : Int) (r1 : List (S32)) (r2 : List (S81)) (r3 : Int) (w : World) (hs0 : Kd.V k32 32 w w.heap.size (fun k_ => P0_ k_) (.slice A0 l0.length c0) l0) (h : subprogram_Fold.f k l0 a1 a2 = some (r1, r2, r3)) :
  Calls Try.prog 32 #[.slice A0 l0.length c0, .int .i64 a1, .int .i64 a2] w fun e w' => ∃ v0_ v1_ : Value, e = .returned (.tuple #[.agg #[v0_, v1_], .int .i64 r3]) ∧ Kd.N k32 32 w' w.heap.size (fun k_ => (P0_ k_ ∨ w.heap.size ≤ k_) ∧ some k_ ≠ (v1_ : Value).ownBlock) v0_ r1 ∧ Kd.N k81 81 w' w.heap.size (fun k_ => (P0_ k_ ∨ w.heap.size ≤ k_) ∧ some k_ ≠ (v0_ : Value).ownBlock) v1_ r2 ∧ Below w.heap.size w w' := by
 have hu54 := Try.underlying54
 have hu78 := Try.underlying78
 have hu32 := Try.underlying32
 have hu81 := Try.underlying81
 have HO0 := Aside0.mk (show Kd.V k32 32 w w.heap.size (fun k_ => (P0_ k_ ∨ w.heap.size ≤ k_)) (.slice A0 l0.length c0) l0 from Kd.V_mono hs0 (fun k_ hk => .inl hk))
 have HB := Aside0.mk (Below.refl w.heap.size w)
 have H : (if a1 < 1 then (subprogram_Fold.j0 k l0 a1 a2 true) else (if a1 > 9999 then (subprogram_Fold.j0 k l0 a1 a2 true) else (subprogram_Fold.j0 k l0 a1 a2 (decide (a2 < 1))))) = some (r1, r2, r3) := h
 clear h
 have HC4 := Aside0.mk H
 clear H
 go_enter Try.func32, Try.ntmps32
 go_upto_region 1 with (first | ((with_reducible refine gate_dst (N := 6) rfl ?_); refine yX 6 #[.slice none 0 0, .slice none 0 0] 54 ?_; intro gb415 hg w5 hbox hb; replace HO0 := Aside0.mk (Kd.V_below (Kd.V_elderB (yV HO0.out) gb415 (Nat.le_of_eq hg.symm)) hb); have BK415 := Aside0.mk (hbox); have GE415 := Aside0.mk ((yG hg : w.heap.size ≤ gb415)); replace HB := Aside0.mk (below_step yB hb); clear hb hbox hg))
 (try simp only [Act.put, List.setIfInBounds_toArray, List.set_cons_zero, List.set_cons_succ])
 go_cut [20] (fun v20 wc => ∃ (kq : Nat) (x20_3 : Bool), v20 = .bool x20_3 ∧ Aside0 (subprogram_Fold.j0 kq l0 a1 a2 x20_3 = some (r1, r2, r3)) ∧ Aside0 (kq ≤ k) ∧ Aside0 (Kd.V k32 32 wc w.heap.size (fun k_ => (P0_ k_ ∨ w.heap.size ≤ k_) ∧ k_ ≠ gb415) (.slice A0 l0.length c0) l0) ∧ Aside0 (wc.heap[gb415]? = some (.cells #[(.slice none 0 0), (.slice none 0 0)] 54 (0, 0))) ∧ Aside0 (Below w.heap.size w wc))
 case first =>
  have H := HC4.out
  clear HC4
  by_cases c6 : a1 < 1
  ·rw [if_pos c6] at H
   have c6b0 := decide_eq_true c6
   clear c6
   (first | rw [c6b0] | (simp only [i64_w, i32_w]; rw [c6b0]) | skip)
   have H' := Aside0.mk H
   clear H
   go_wp2
   go_meet
   case rel => exact ⟨_, (true), yS, H', ⟨by first | omega | exact Nat.le_refl _⟩, ⟨by refine yV ?_; exact HO0.out⟩, ⟨by refine yH ?_; exact BK415.out⟩, ⟨yB⟩⟩
  rw [if_neg c6] at H
  have c6b0 := decide_eq_false c6
  clear c6
  (first | rw [c6b0] | (simp only [i64_w, i32_w]; rw [c6b0]) | skip)
  by_cases c7 : a1 > 9999
  ·rw [if_pos c7] at H
   have c7b0 := decide_eq_true c7
   clear c7
   have H' := Aside0.mk H
   clear H
   go_wp2
   go_meet
   case rel => exact ⟨_, (true), yS, H', ⟨by first | omega | exact Nat.le_refl _⟩, ⟨by refine yV ?_; exact HO0.out⟩, ⟨by refine yH ?_; exact BK415.out⟩, ⟨yB⟩⟩
  rw [if_neg c7] at H
  have c7b0 := decide_eq_false c7
  clear c7
  have H' := Aside0.mk H
  clear H
  go_wp2
  go_meet
  case rel => exact ⟨_, (decide (a2 < 1)), yS, H', ⟨by first | omega | exact Nat.le_refl _⟩, ⟨by refine yV ?_; exact HO0.out⟩, ⟨by refine yH ?_; exact BK415.out⟩, ⟨yB⟩⟩
 case rest =>
  clear HC4
  try clear p2
  try clear c3
  try clear c6
  try clear c6b0
  try clear c7
  try clear c7b0
  obtain ⟨kq, x20_3, rfl, HA, HJ3, HO_0, BK415, HB⟩ := hcut
  cases kq with
  | zero => exact absurd HA.out (by simp [subprogram_Fold.j0])
  | succ kj3 =>
   have H := HA.out
   clear HA
   simp only [subprogram_Fold.j0] at H
   by_cases c8 : x20_3 = true
   ·subst c8
    rw [if_pos rfl] at H
    simp only [Option.some.injEq, Prod.mk.injEq] at H
    obtain ⟨rfl, rfl, rfl⟩ := H
    have hcz9_0 := yZ0 BK415.out
    have hcz9_1 := yZ1 BK415.out
    have hfz9_0 := blk_frozen BK415.out 0
    have hfz9_1 := blk_frozen BK415.out 1
    go_wp2
    refine bodyPost_ret (results_ct rfl _ _ gb415 54 #[.slice none 0 0, .slice none 0 0] (0, 0) _ rfl (by refine yH ?_; refine blk_put (cs := #[.slice none 0 0, .slice none 0 0]) ?_ 1 _ rfl; refine yH ?_; refine blk_put (cs := #[.slice none 0 0, .slice none 0 0]) ?_ 0 _ rfl; refine yH ?_; exact BK415.out) Try.underlying54 rfl (by kernel_rfl)) rfl ?_
    exact ⟨_, _, yE, by first | exact Kd.S_nil _ _ _ _ _ | exact Kd.N_nil _ _ _ _ _ | exact Kd.V_nil _ _ _ _ _ | exact Kd.Q_nil _ _ _ _ _ | exact Kd.R_nil _ _ _ _ _, by first | exact Kd.R_nil _ _ _ _ _ | exact Kd.N_nil _ _ _ _ _ | exact Kd.V_nil _ _ _ _ _ | exact Kd.Q_nil _ _ _ _ _ | exact Kd.S_nil _ _ _ _ _, yB⟩
   replace c8 := Bool.eq_false_iff.mpr c8
   subst c8
   replace H : (if a2 ≤ (wrap64 ((l0.length : Int) / 2)) then ((subprogram_first.f kj3 l0 a2).bind fun t416 => (subprogram_Fold.j1 kj3 l0 a1 a2 t416)) else (subprogram_Fold.j1 kj3 l0 a1 a2 (-1))) = some (r1, r2, r3) := by rw [if_neg (show ¬ (false = true) by decide)] at H; exact H
   have HC10 := Aside0.mk H
   clear H
   go_upto_if 26 with (fail)
   go_cut [8] (fun v8 wc => ∃ (kq : Nat) (x8_9 : Int), v8 = .int .i64 x8_9 ∧ Aside0 (subprogram_Fold.j1 kq l0 a1 a2 x8_9 = some (r1, r2, r3)) ∧ Aside0 (kq ≤ kj3) ∧ Aside0 (Kd.V k32 32 wc w.heap.size (fun k_ => (P0_ k_ ∨ w.heap.size ≤ k_) ∧ k_ ≠ gb415) (.slice A0 l0.length c0) l0) ∧ Aside0 (wc.heap[gb415]? = some (.cells #[(.slice none 0 0), (.slice none 0 0)] 54 (0, 0))) ∧ Aside0 (Below w.heap.size w wc))
   case first =>
    have H := HC10.out
    clear HC10
    by_cases c11 : a2 ≤ (wrap64 ((l0.length : Int) / 2))
    ·rw [if_pos c11] at H
     have c11b0 := decide_eq_true c11
     clear c11
     (first | rw [c11b0] | (simp only [i64_w, i32_w]; rw [c11b0]) | skip)
     replace H := Option.bind_eq_some_iff.mp H
     obtain ⟨t416, A120, H⟩ := H
     have A12 := Aside0.mk A120
     clear A120
     have H' := Aside0.mk H
     clear H
     go_wp2_with (first | ((with_reducible refine gate_callee (f := 67) rfl ?_); refine goesL_ (some 29) rfl rfl Try.func67 (by kernel_rfl) rfl #[.slice A0 l0.length c0, .int .i64 a2] rfl yQ ?_; (with_reducible refine (subprogram_first.calls kj3 _ _ l0 a2 t416 _ ?side1 ?side2 A12.out).mono ?_); (case side1 => repeat (first | exact (Kd.V_reads' HO_0.out).2.2 | (with_reducible refine Kd.C_alloc ?_ _) | (with_reducible refine Kd.C_drewN ?_ _) | (with_reducible refine Kd.C_drew ?_))); (case side2 => exact (Kd.V_reads' HO_0.out).2.1); rintro e w13 ⟨rfl, hb⟩; refine ⟨_, rfl, ?_⟩; replace HO_0 := Aside0.mk (Kd.V_below (yV HO_0.out) hb); replace BK415 := Aside0.mk (blk_below (g := gb415) yK hb); replace HB := Aside0.mk (below_step yB hb); (try clear hb)))
     go_meet
     case rel => exact ⟨_, (t416), yS, H', ⟨by have := HJ3.out; first | omega | exact Nat.le_refl _⟩, ⟨by refine yV ?_; exact HO_0.out⟩, ⟨by refine yH ?_; exact BK415.out⟩, ⟨yB⟩⟩
    rw [if_neg c11] at H
    have c11b0 := decide_eq_false c11
    clear c11
    (first | rw [c11b0] | (simp only [i64_w, i32_w]; rw [c11b0]) | skip)
    have H' := Aside0.mk H
    clear H
    go_wp2
    go_meet
    case rel => exact ⟨_, ((-1)), yS, H', ⟨by have := HJ3.out; first | omega | exact Nat.le_refl _⟩, ⟨by refine yV ?_; exact HO_0.out⟩, ⟨by refine yH ?_; exact BK415.out⟩, ⟨yB⟩⟩
   case rest =>
    clear HC10
    try clear c1
    try clear p2
    try clear c3
    try clear c6
    try clear c6b0
    try clear p6
    try clear c7
    try clear c7b0
    try clear c8
    try clear c11
    try clear c11b0
    try clear hcz9_0
    try clear hcz9_1
    try clear hfz9_0
    try clear hfz9_1
    try clear p2
    obtain ⟨kq, x8_9, rfl, HA, HJ9, HO_0, BK415, HB⟩ := hcut
    cases kq with
    | zero => exact absurd HA.out (by simp [subprogram_Fold.j1])
    | succ kj9 =>
     have H := HA.out
     clear HA
     simp only [subprogram_Fold.j1] at H
     by_cases c14 : x8_9 < 0
     ·rw [if_pos c14] at H
      have c14b0 := decide_eq_true c14
      clear c14
      replace H := Option.bind_eq_some_iff.mp H
      obtain ⟨t417, A150, H⟩ := H
      have A15 := Aside0.mk A150
      clear A150
      simp only [Option.some.injEq, Prod.mk.injEq] at H
      obtain ⟨rfl, rfl, rfl⟩ := H
      go_wp2_with (first | ((with_reducible refine gate_callee (f := 33) rfl ?_); refine goesL_ (some 33) rfl rfl Try.func33 (by kernel_rfl) rfl #[.slice A0 l0.length c0] rfl yQ ?_; (with_reducible refine (Clone_Block.calls (fun k_ => ((P0_ k_ ∨ w.heap.size ≤ k_) ∧ k_ ≠ gb415)) _ _ l0 t417 _ ?side1 A15.out).mono ?_); (case side1 => exact HO_0.out); rintro e w16 ⟨v418, rfl, ho0, hb⟩; refine ⟨_, rfl, ?_⟩; replace HO_0 := Aside0.mk (Kd.V_elder' (yV HO_0.out) (by first | exact Kd.N_base ho0 | exact Kd.S_base ho0) hb); have HO419 := Aside0.mk (Kd.N_lower (Kd.N_mono (ok' := fun k_ => (P0_ k_ ∨ w.heap.size ≤ k_) ∧ k_ ≠ gb415) ho0 (fun k_ hk_ => ⟨Or.elim hk_ (fun hs_ => hs_.1) (fun hn_ => (.inr (Nat.le_trans (below_size yB) hn_))), Or.elim hk_ (fun hs_ => hs_.2) (fun hn_ => (Kd.freshB (g := gb415) yK k_ hn_))⟩)) (below_size yB)); replace BK415 := Aside0.mk (blk_below (g := gb415) yK hb); replace HB := Aside0.mk (below_step yB hb); (try clear hb); (try clear ho0); obtain ⟨Ao17, co17, eo17⟩ := Kd.N_slice HO419.out; subst eo17; have hcz18_0 := yZ0 BK415.out; have hcz18_1 := yZ1 BK415.out; have hfz18_0 := blk_frozen BK415.out 0; have hfz18_1 := blk_frozen BK415.out 1))
      refine bodyPost_ret (results_ct rfl _ _ gb415 54 #[.slice Ao17 t417.length co17, .slice none 0 0] (0, 0) _ rfl (by refine yH ?_; refine blk_put (cs := #[.slice Ao17 t417.length co17, .slice none 0 0]) ?_ 1 _ rfl; refine yH ?_; refine blk_put (cs := #[.slice none 0 0, .slice none 0 0]) ?_ 0 _ rfl; refine yH ?_; exact BK415.out) Try.underlying54 rfl (by kernel_rfl)) rfl ?_
      exact ⟨_, _, yE, by refine yN ?_; exact Kd.N_mono (Kd.N_far (p := ⟨gb415, 1, none⟩) (Kd.N_far (p := ⟨gb415, 0, none⟩) (Kd.N_mono HO419.out (fun k_ hk => (⟨hk, hk.2⟩ : _ ∧ k_ ≠ gb415))) (fun _ hk => hk.2) (.slice Ao17 t417.length co17)) (fun _ hk => hk.2) (.slice none 0 0)) (fun _ hk => ⟨hk.1.1, (by simp [Value.ownBlock])⟩), by first | exact Kd.R_nil _ _ _ _ _ | exact Kd.N_nil _ _ _ _ _ | exact Kd.V_nil _ _ _ _ _ | exact Kd.Q_nil _ _ _ _ _ | exact Kd.S_nil _ _ _ _ _, yB⟩
     rw [if_neg c14] at H
     have c14b0 := decide_eq_false c14
     clear c14
     have H' := Aside0.mk H
     clear H
     go_wp2
     go_loopg [9, 10] kj9 (fun kq v9 v10 w' => ∃ (x9_3 : List (S32)) (x10_3 : Int), v10 = .int .i64 x10_3 ∧ Aside0 (subprogram_Fold.l0 kq l0 a1 a2 x8_9 x9_3 x10_3 = some (r1, r2, r3)) ∧ Aside0 (kq ≤ kj9) ∧ Aside0 (Kd.V k32 32 w' w.heap.size (fun k_ => (P0_ k_ ∨ w.heap.size ≤ k_) ∧ some k_ ≠ (v9 : Value).ownBlock ∧ k_ ≠ gb415) (.slice A0 l0.length c0) l0) ∧ Aside0 (Kd.N k32 32 w' w.heap.size (fun k_ => (P0_ k_ ∨ w.heap.size ≤ k_) ∧ k_ ≠ gb415) v9 x9_3) ∧ Aside0 (w'.heap[gb415]? = some (.cells #[(.slice none 0 0), (.slice none 0 0)] 54 (0, 0))) ∧ Aside0 (Below w.heap.size w w'))
     case atStart => exact ⟨(([] : List (S32))), (0), yS, H', ⟨Nat.le_refl _⟩, ⟨by refine yV ?_; exact Kd.V_mono HO_0.out (fun _ hk => ⟨hk.1, ⟨(by simp [Value.ownBlock]), hk.2⟩⟩)⟩, ⟨by first | exact Kd.S_nil _ _ _ _ _ | exact Kd.N_nil _ _ _ _ _ | exact Kd.V_nil _ _ _ _ _ | exact Kd.Q_nil _ _ _ _ _ | exact Kd.R_nil _ _ _ _ _⟩, ⟨by refine yH ?_; exact BK415.out⟩, ⟨yB⟩⟩
     case round =>
      clear H'
      try clear c1
      try clear p2
      try clear c3
      try clear c6
      try clear c6b0
      try clear p6
      try clear c7
      try clear c7b0
      try clear c8
      try clear c11
      try clear c11b0
      try clear c14
      try clear c14b0
      try clear hcz18_0
      try clear hcz18_1
      try clear hcz9_0
      try clear hcz9_1
      try clear hfz18_0
      try clear hfz18_1
      try clear hfz9_0
      try clear hfz9_1
      try clear p2
      try clear p6
      obtain ⟨x9_3, x10_3, rfl, HA, HK3, HO_0, HO_9, BK415, HB⟩ := hrel
      cases gk with
      | zero => exact absurd HA.out (by simp [subprogram_Fold.l0])
      | succ k3 =>
       have H := HA.out
       clear HA
       simp only [subprogram_Fold.l0] at H
       by_cases c19 : x10_3 < (l0.length : Int)
       ·rw [if_pos c19] at H
        have c19b0 := decide_eq_true c19
        clear c19
        by_cases c20 : (wrap64 (x10_3 + a2)) ≤ (l0.length : Int)
        ·rw [if_pos c20] at H
         have c20b0 := decide_eq_true c20
         clear c20
         replace H := Option.bind_eq_some_iff.mp H
         obtain ⟨t420, A210, H⟩ := H
         have A21 := Aside0.mk A210
         clear A210
         by_cases c22 : t420 = true
         ·subst c22
          rw [if_pos rfl] at H
          obtain ⟨y421, hy421⟩ : ∃ y_ : List (S78), y_ = (([(⟨77, 98000⟩ : S78), (⟨80, wrap64 (1000 * a1)⟩ : S78)] : List (S78))) := ⟨_, rfl⟩
          replace H : (if x9_3.length < 2932031007402 then (subprogram_Fold.l0 k3 l0 a1 a2 x8_9 (x9_3 ++ [(⟨false, y421, (⟨#[]⟩ : ByteArray)⟩ : S32)]) (wrap64 (x10_3 + a2))) else (none)) = some (r1, r2, r3) := by first | (rw [hy421]; with_reducible exact H) | (have H2_ := (Option.bind_some _ _).symm.trans H; rw [hy421]; with_reducible exact H2_) | (have H2_ := (Option.bind_some _ _).symm.trans H; with_reducible exact H2_) | with_reducible exact H | (rw [hy421]; exact H) | exact H
          have Ny421 := Aside0.mk hy421
          clear hy421
          by_cases c23 : x9_3.length < 2932031007402
          ·rw [if_pos c23] at H
           have LMc23 := Aside0.mk c23
           clear c23
           obtain ⟨y424, hy424⟩ : ∃ y_ : List (S32), y_ = (x9_3 ++ [(⟨false, y421, (⟨#[]⟩ : ByteArray)⟩ : S32)]) := ⟨_, rfl⟩
           replace H : (subprogram_Fold.l0 k3 l0 a1 a2 x8_9 y424 (wrap64 (x10_3 + a2))) = some (r1, r2, r3) := by first | (rw [hy424]; with_reducible exact H) | (have H2_ := (Option.bind_some _ _).symm.trans H; rw [hy424]; with_reducible exact H2_) | (have H2_ := (Option.bind_some _ _).symm.trans H; with_reducible exact H2_) | with_reducible exact H | (rw [hy424]; exact H) | exact H
           have Ny424 := Aside0.mk hy424
           clear hy424
           have H' := Aside0.mk H
           clear H
           go_wp2_with (first | (go_at_call 68; (with_reducible refine (subprogram_run.calls k3 _ _ l0 x8_9 x10_3 a2 true _ ?side1 ?side2 A21.out).mono ?_); (case side1 => repeat (first | exact (Kd.V_reads' HO_0.out).2.2 | (with_reducible refine Kd.C_alloc ?_ _) | (with_reducible refine Kd.C_drewN ?_ _) | (with_reducible refine Kd.C_drew ?_))); (case side2 => exact (Kd.V_reads' HO_0.out).2.1); rintro e w24 ⟨rfl, hb⟩; replace HO_0 := Aside0.mk (Kd.V_below (yV HO_0.out) hb); replace HO_9 := Aside0.mk (Kd.N_below (yN HO_9.out) hb); replace BK415 := Aside0.mk (blk_below (g := gb415) yK hb); replace HB := Aside0.mk (below_step yB hb); (try clear hb)) | ((with_reducible refine gate_dst (N := 57) rfl ?_); refine Kd.R_lit k78 _ 78 ?hg (N := 57) ?hd (xs := ([(⟨77, 98000⟩ : S78), (⟨80, wrap64 (1000 * a1)⟩ : S78)] : List (S78))) (inner := [.int .u8 77, .int .i64 98000, .int .u8 80, .int .i64 (wrap64 (1000 * a1))]) (ok := fun _ => True) (okp := fun _ => True) ?hr ?hp (fun _ hk => hk) trivial (Below.refl _ _) (Nat.le_refl _) (by simp) ?_; (case hd => rfl); (case hg => rfl); (case hr => first | (go_simp; done) | (go_simp; rfl)); (case hp => exact (Reps.c2 (show Kd.M k78 _ _ _ (⟨77, 98000⟩ : S78) [.int .u8 77, .int .i64 98000] from (k78_mkM _ _ _ (⟨77, 98000⟩ : S78) )) (Reps.c2 (show Kd.M k78 _ _ _ (⟨80, wrap64 (1000 * a1)⟩ : S78) [.int .u8 80, .int .i64 (wrap64 (1000 * a1))] from (k78_mkM _ _ _ (⟨80, wrap64 (1000 * a1)⟩ : S78) )) (Reps.none _ _)))); intro v422 w25 ho26 hb hg_ hnew_; clear hg_ hnew_; (first | rw [← Ny421.out] at ho26 | (simp only [Int.reduceToNat] at ho26; rw [← Ny421.out] at ho26)); replace HO_0 := Aside0.mk (Kd.V_elder' (yV HO_0.out) (Kd.R_base ho26) hb); replace HO_9 := Aside0.mk (Kd.N_elder' (yN HO_9.out) (Kd.R_base ho26) hb); have HO423 := Aside0.mk (Kd.R_lower (Kd.R_newM (M := fun k_ => (w.heap.size ≤ k_)) ho26 (below_size yB) (fun k_ h_ => h_)) (below_size yB)); replace BK415 := Aside0.mk (blk_below (g := gb415) yK hb); replace HB := Aside0.mk (below_step yB hb); clear hb ho26; obtain ⟨Ao27, co27, eo27⟩ := Kd.R_slice HO423.out; subst eo27) | ((with_reducible refine gate_builtin (b := .append) (xs := #[.tmp 52, .tmp 59]) rfl ?_); at_builtin; refine Kd.N_append k32 (w0 := w) w.heap.size rfl (.tmp 52) (.tmp 59) 35 32 (.agg #[(.bool false), (.slice none 0 0), (.string ⟨#[]⟩)]) 48 rfl Try.underlying35 info32 rfl (by decide) (by omega) u9 x9_3 (⟨false, y421, (⟨#[]⟩ : ByteArray)⟩ : S32) [.bool false, .slice Ao27 y421.length co27, .string (⟨#[]⟩ : ByteArray)] (fun k_ => (P0_ k_ ∨ w.heap.size ≤ k_) ∧ k_ ≠ gb415) (fun k_ => ((fun k_ => (P0_ k_ ∨ w.heap.size ≤ k_) ∧ k_ ≠ gb415)) k_ ∧ some k_ ≠ (u9 : Value).ownBlock) rfl rfl ?aP (fun _ hk => hk) ?aF ?aO ?aB ?aS ?aL ?_; (case aP => exact (k32_mkF _ _ (⟨false, y421, (⟨#[]⟩ : ByteArray)⟩ : S32) (Kd.R_reads' (Kd.R_mono (ok' := (fun k_ => ((fun k_ => (P0_ k_ ∨ w.heap.size ≤ k_) ∧ k_ ≠ gb415)) k_ ∧ some k_ ≠ (u9 : Value).ownBlock)) (Kd.R_types (Kd.R_apart' (HO423.out) (Kd.N_typed HO_9.out) (by decide)) BK415.out (by decide)) (fun k_ hk => ⟨⟨(.inr (hk.1.1.1)), hk.2⟩, hk.1.2⟩))).2.1 (Kd.R_F (Kd.R_mono (ok' := (fun k_ => ((fun k_ => (P0_ k_ ∨ w.heap.size ≤ k_) ∧ k_ ≠ gb415)) k_ ∧ some k_ ≠ (u9 : Value).ownBlock)) (Kd.R_types (Kd.R_apart' (HO423.out) (Kd.N_typed HO_9.out) (by decide)) BK415.out (by decide)) (fun k_ hk => ⟨⟨(.inr (hk.1.1.1)), hk.2⟩, hk.1.2⟩))))); (case aB => exact yB); (case aF => exact (fun k_ hk => ⟨(.inr (Nat.le_trans (below_size yB) hk)), Kd.freshB (g := gb415) yK k_ hk⟩)); (case aO => exact (yN (Kd.N_mono HO_9.out (fun _ hk => ⟨hk.1.1, hk.1.2⟩)))); (case aS => exact (below_size yB)); (case aL => have := LMc23.out; omega); intro v425 w28 ho hb hg hat; rw [← Ny424.out] at ho; have n0_ := Aside0.mk (Kd.V_afterv (ok := (fun k_ => (P0_ k_ ∨ w.heap.size ≤ k_) ∧ some k_ ≠ (.slice Ao27 y421.length co27 : Value).ownBlock ∧ k_ ≠ gb415)) (yV (Kd.V_mono HO_0.out (fun _ hk => ⟨⟨hk.1.1, ⟨hk.2, hk.1.2.2⟩⟩, hk.1.2.1⟩))) hg hat); have n1_ := Aside0.mk (blk_grown (g := gb415) yK hg (Kd.N_ne HO_9.out BK415.out (by decide))); have n2_ := Aside0.mk (hb); have n3_ := Aside0.mk (ho); clear HO_0; clear BK415; clear HB; clear HO_9; clear HO423; have HO_0 := n0_; have BK415 := n1_; have HB := n2_; have HO426 := n3_; clear n0_ n1_ n2_ n3_; clear ho hb hg hat))
           go_roundg k3
           case measure => have := HJ3.out; have := HJ9.out; have := HK3.out; omega
           case rel => exact ⟨(y424), (wrap64 (x10_3 + a2)), yS, H', ⟨by have := HJ3.out; have := HJ9.out; have := HK3.out; omega⟩, ⟨by refine yV ?_; exact Kd.V_mono HO_0.out (fun _ hk => ⟨hk.1.1, ⟨hk.2, hk.1.2.2⟩⟩)⟩, ⟨by refine yN ?_; exact HO426.out⟩, ⟨by refine yH ?_; exact BK415.out⟩, ⟨yB⟩⟩
          rw [if_neg c23] at H
          exact absurd H (by simp)
         replace c22 := Bool.eq_false_iff.mpr c22
         subst c22
         replace H : (if 0 ≤ x10_3 then (if x9_3.length < 2932031007402 then (subprogram_Fold.l0 k3 l0 a1 a2 x8_9 (x9_3 ++ [(⟨(rd_T32 l0 x10_3).f0, (rd_T32 l0 x10_3).f1, (rd_T32 l0 x10_3).f2⟩ : S32)]) (wrap64 (x10_3 + 1))) else (none)) else (none)) = some (r1, r2, r3) := by rw [if_neg (show ¬ (false = true) by decide)] at H; exact H
         by_cases c29 : 0 ≤ x10_3
         ·rw [if_pos c29] at H
          have c29b0 := decide_eq_true c29
          clear c29
          by_cases c30 : x9_3.length < 2932031007402
          ·rw [if_pos c30] at H
           have LMc30 := Aside0.mk c30
           clear c30
           obtain ⟨y428, hy428⟩ : ∃ y_ : List (S32), y_ = (x9_3 ++ [(⟨(rd_T32 l0 x10_3).f0, (rd_T32 l0 x10_3).f1, (rd_T32 l0 x10_3).f2⟩ : S32)]) := ⟨_, rfl⟩
           replace H : (subprogram_Fold.l0 k3 l0 a1 a2 x8_9 y428 (wrap64 (x10_3 + 1))) = some (r1, r2, r3) := by first | (rw [hy428]; with_reducible exact H) | (have H2_ := (Option.bind_some _ _).symm.trans H; rw [hy428]; with_reducible exact H2_) | (have H2_ := (Option.bind_some _ _).symm.trans H; with_reducible exact H2_) | with_reducible exact H | (rw [hy428]; exact H) | exact H
           have Ny428 := Aside0.mk hy428
           clear hy428
           have H' := Aside0.mk H
           clear H
           go_wp2_with (first | (go_at_call 68; (with_reducible refine (subprogram_run.calls k3 _ _ l0 x8_9 x10_3 a2 false _ ?side1 ?side2 A21.out).mono ?_); (case side1 => repeat (first | exact (Kd.V_reads' HO_0.out).2.2 | (with_reducible refine Kd.C_alloc ?_ _) | (with_reducible refine Kd.C_drewN ?_ _) | (with_reducible refine Kd.C_drew ?_))); (case side2 => exact (Kd.V_reads' HO_0.out).2.1); rintro e w31 ⟨rfl, hb⟩; replace HO_0 := Aside0.mk (Kd.V_below (yV HO_0.out) hb); replace HO_9 := Aside0.mk (Kd.N_below (yN HO_9.out) hb); replace BK415 := Aside0.mk (blk_below (g := gb415) yK hb); replace HB := Aside0.mk (below_step yB hb); (try clear hb); have p427 : 0 ≤ (x10_3 : Int) := yD; have q427 : x10_3 < (l0.length : Int) := yD; obtain ⟨ad427, A427_1, c427_1, e427, hx427_0, hx427_1, hx427_2, hl427_1, hi427_1⟩ := at_T32 (Kd.V_reads' HO_0.out).2.2 x10_3 p427 q427; cases e427; obtain ⟨ce427, hce427, hMe427, hcc427⟩ := Kd.V_get HO_0.out z32 x10_3 p427 (by first | exact q427 | exact yD | (have e_ := (Kd.V_reads' HO_0.out).1; omega)); obtain ⟨ua427_1, uc427_1, rfl, ul427_1, ge427_1⟩ := k32_openF hMe427; have hv427_1 := hcc427 1 _ rfl; rw [add_field _ _ 1 (by omega)] at hv427_1; replace hv427_1 := Option.some.inj (hv427_1.symm.trans hx427_1); injection hv427_1 with hva_ hvn_ hvc_; rw [hva_] at ge427_1; rw [hvc_] at ul427_1; have HL427_1 := Aside0.mk (show Kd.V k78 78 _ w.heap.size _ _ ((rd_T32 l0 x10_3).f1) from Kd.V_mk ul427_1 ge427_1); clear hva_ hvn_ hvc_ ge427_1 ul427_1; clear hcc427 hce427; have HR427_1 := Aside0.mk hi427_1; have HC427_1 := Aside0.mk hl427_1; clear hi427_1 hl427_1; replace p427 := eq_true p427; replace q427 := eq_true q427) | ((with_reducible refine gate_builtin (b := .append) (xs := #[.tmp 64, .tmp 69]) rfl ?_); at_builtin; refine Kd.N_append k32 (w0 := w) w.heap.size rfl (.tmp 64) (.tmp 69) 35 32 (.agg #[(.bool false), (.slice none 0 0), (.string ⟨#[]⟩)]) 48 rfl Try.underlying35 info32 rfl (by decide) (by omega) u9 x9_3 (⟨(rd_T32 l0 x10_3).f0, (rd_T32 l0 x10_3).f1, (rd_T32 l0 x10_3).f2⟩ : S32) [.bool ((rd_T32 l0 x10_3).f0), .slice A427_1 ((rd_T32 l0 x10_3).f1).length c427_1, .string ((rd_T32 l0 x10_3).f2)] (fun k_ => (P0_ k_ ∨ w.heap.size ≤ k_) ∧ k_ ≠ gb415) (fun k_ => ((fun k_ => (P0_ k_ ∨ w.heap.size ≤ k_) ∧ k_ ≠ gb415)) k_ ∧ some k_ ≠ (u9 : Value).ownBlock) rfl rfl ?aP (fun _ hk => hk) ?aF ?aO ?aB ?aS ?aL ?_; (case aP => exact (k32_mkF _ _ (⟨(rd_T32 l0 x10_3).f0, (rd_T32 l0 x10_3).f1, (rd_T32 l0 x10_3).f2⟩ : S32) (Kd.V_reads' (Kd.V_mono (ok' := (fun k_ => ((fun k_ => (P0_ k_ ∨ w.heap.size ≤ k_) ∧ k_ ≠ gb415)) k_ ∧ some k_ ≠ (u9 : Value).ownBlock)) (HL427_1.out) (fun k_ hk => ⟨⟨hk.1, hk.2.2⟩, hk.2.1⟩))).2.1 (Kd.V_F (Kd.V_mono (ok' := (fun k_ => ((fun k_ => (P0_ k_ ∨ w.heap.size ≤ k_) ∧ k_ ≠ gb415)) k_ ∧ some k_ ≠ (u9 : Value).ownBlock)) (HL427_1.out) (fun k_ hk => ⟨⟨hk.1, hk.2.2⟩, hk.2.1⟩))))); (case aB => exact yB); (case aF => exact (fun k_ hk => ⟨(.inr (Nat.le_trans (below_size yB) hk)), Kd.freshB (g := gb415) yK k_ hk⟩)); (case aO => exact (yN HO_9.out)); (case aS => exact (below_size yB)); (case aL => have := LMc30.out; omega); intro v429 w32 ho hb hg hat; rw [← Ny428.out] at ho; have n0_ := Aside0.mk (Kd.V_afterv (ok := (fun k_ => (P0_ k_ ∨ w.heap.size ≤ k_) ∧ k_ ≠ gb415)) (yV (Kd.V_mono HO_0.out (fun _ hk => ⟨⟨hk.1, hk.2.2⟩, hk.2.1⟩))) hg hat); have n1_ := Aside0.mk (blk_grown (g := gb415) yK hg (Kd.N_ne HO_9.out BK415.out (by decide))); have n2_ := Aside0.mk (Kd.V_afterv (ok := (fun k_ => (P0_ k_ ∨ w.heap.size ≤ k_) ∧ k_ ≠ gb415)) (yV (Kd.V_mono HL427_1.out (fun _ hk => ⟨⟨hk.1, hk.2.2⟩, hk.2.1⟩))) hg hat); have n3_ := Aside0.mk (hb); have n4_ := Aside0.mk (ho); clear HO_0; clear BK415; clear HL427_1; clear HB; clear HO_9; have HO_0 := n0_; have BK415 := n1_; have HL427_1 := n2_; have HB := n3_; have HO430 := n4_; clear n0_ n1_ n2_ n3_ n4_; clear ho hb hg hat))
           go_roundg k3
           case measure => have := HJ3.out; have := HJ9.out; have := HK3.out; omega
           case rel => exact ⟨(y428), (wrap64 (x10_3 + 1)), yS, H', ⟨by have := HJ3.out; have := HJ9.out; have := HK3.out; omega⟩, ⟨by refine yV ?_; exact Kd.V_mono HO_0.out (fun _ hk => ⟨hk.1.1, ⟨hk.2, hk.1.2⟩⟩)⟩, ⟨by refine yN ?_; exact HO430.out⟩, ⟨by refine yH ?_; exact BK415.out⟩, ⟨yB⟩⟩
          rw [if_neg c30] at H
          exact absurd H (by simp)
         rw [if_neg c29] at H
         exact absurd H (by simp)
        rw [if_neg c20] at H
        have c20b0 := decide_eq_false c20
        clear c20
        by_cases c33 : 0 ≤ x10_3
        ·rw [if_pos c33] at H
         have c33b0 := decide_eq_true c33
         clear c33
         by_cases c34 : x9_3.length < 2932031007402
         ·rw [if_pos c34] at H
          have LMc34 := Aside0.mk c34
          clear c34
          obtain ⟨y432, hy432⟩ : ∃ y_ : List (S32), y_ = (x9_3 ++ [(⟨(rd_T32 l0 x10_3).f0, (rd_T32 l0 x10_3).f1, (rd_T32 l0 x10_3).f2⟩ : S32)]) := ⟨_, rfl⟩
          replace H : (subprogram_Fold.l0 k3 l0 a1 a2 x8_9 y432 (wrap64 (x10_3 + 1))) = some (r1, r2, r3) := by first | (rw [hy432]; with_reducible exact H) | (have H2_ := (Option.bind_some _ _).symm.trans H; rw [hy432]; with_reducible exact H2_) | (have H2_ := (Option.bind_some _ _).symm.trans H; with_reducible exact H2_) | with_reducible exact H | (rw [hy432]; exact H) | exact H
          have Ny432 := Aside0.mk hy432
          clear hy432
          have H' := Aside0.mk H
          clear H
          have p431 : 0 ≤ (x10_3 : Int) := yD
          have q431 : x10_3 < (l0.length : Int) := yD
          obtain ⟨ad431, A431_1, c431_1, e431, hx431_0, hx431_1, hx431_2, hl431_1, hi431_1⟩ := at_T32 (Kd.V_reads' HO_0.out).2.2 x10_3 p431 q431
          cases e431
          obtain ⟨ce431, hce431, hMe431, hcc431⟩ := Kd.V_get HO_0.out z32 x10_3 p431 (by first | exact q431 | exact yD | (have e_ := (Kd.V_reads' HO_0.out).1; omega))
          obtain ⟨ua431_1, uc431_1, rfl, ul431_1, ge431_1⟩ := k32_openF hMe431
          have hv431_1 := hcc431 1 _ rfl
          rw [add_field _ _ 1 (by omega)] at hv431_1
          replace hv431_1 := Option.some.inj (hv431_1.symm.trans hx431_1)
          injection hv431_1 with hva_ hvn_ hvc_
          rw [hva_] at ge431_1
          rw [hvc_] at ul431_1
          have HL431_1 := Aside0.mk (show Kd.V k78 78 _ w.heap.size _ _ ((rd_T32 l0 x10_3).f1) from Kd.V_mk ul431_1 ge431_1)
          clear hva_ hvn_ hvc_ ge431_1 ul431_1
          clear hcc431 hce431
          have HR431_1 := Aside0.mk hi431_1
          have HC431_1 := Aside0.mk hl431_1
          clear hi431_1 hl431_1
          replace p431 := eq_true p431
          replace q431 := eq_true q431
          go_wp2_with (first | ((with_reducible refine gate_builtin (b := .append) (xs := #[.tmp 64, .tmp 69]) rfl ?_); at_builtin; refine Kd.N_append k32 (w0 := w) w.heap.size rfl (.tmp 64) (.tmp 69) 35 32 (.agg #[(.bool false), (.slice none 0 0), (.string ⟨#[]⟩)]) 48 rfl Try.underlying35 info32 rfl (by decide) (by omega) u9 x9_3 (⟨(rd_T32 l0 x10_3).f0, (rd_T32 l0 x10_3).f1, (rd_T32 l0 x10_3).f2⟩ : S32) [.bool ((rd_T32 l0 x10_3).f0), .slice A431_1 ((rd_T32 l0 x10_3).f1).length c431_1, .string ((rd_T32 l0 x10_3).f2)] (fun k_ => (P0_ k_ ∨ w.heap.size ≤ k_) ∧ k_ ≠ gb415) (fun k_ => ((fun k_ => (P0_ k_ ∨ w.heap.size ≤ k_) ∧ k_ ≠ gb415)) k_ ∧ some k_ ≠ (u9 : Value).ownBlock) rfl rfl ?aP (fun _ hk => hk) ?aF ?aO ?aB ?aS ?aL ?_; (case aP => exact (k32_mkF _ _ (⟨(rd_T32 l0 x10_3).f0, (rd_T32 l0 x10_3).f1, (rd_T32 l0 x10_3).f2⟩ : S32) (Kd.V_reads' (Kd.V_mono (ok' := (fun k_ => ((fun k_ => (P0_ k_ ∨ w.heap.size ≤ k_) ∧ k_ ≠ gb415)) k_ ∧ some k_ ≠ (u9 : Value).ownBlock)) (HL431_1.out) (fun k_ hk => ⟨⟨hk.1, hk.2.2⟩, hk.2.1⟩))).2.1 (Kd.V_F (Kd.V_mono (ok' := (fun k_ => ((fun k_ => (P0_ k_ ∨ w.heap.size ≤ k_) ∧ k_ ≠ gb415)) k_ ∧ some k_ ≠ (u9 : Value).ownBlock)) (HL431_1.out) (fun k_ hk => ⟨⟨hk.1, hk.2.2⟩, hk.2.1⟩))))); (case aB => exact yB); (case aF => exact (fun k_ hk => ⟨(.inr (Nat.le_trans (below_size yB) hk)), Kd.freshB (g := gb415) yK k_ hk⟩)); (case aO => exact (yN HO_9.out)); (case aS => exact (below_size yB)); (case aL => have := LMc34.out; omega); intro v433 w35 ho hb hg hat; rw [← Ny432.out] at ho; have n0_ := Aside0.mk (Kd.V_afterv (ok := (fun k_ => (P0_ k_ ∨ w.heap.size ≤ k_) ∧ k_ ≠ gb415)) (yV (Kd.V_mono HO_0.out (fun _ hk => ⟨⟨hk.1, hk.2.2⟩, hk.2.1⟩))) hg hat); have n1_ := Aside0.mk (blk_grown (g := gb415) yK hg (Kd.N_ne HO_9.out BK415.out (by decide))); have n2_ := Aside0.mk (Kd.V_afterv (ok := (fun k_ => (P0_ k_ ∨ w.heap.size ≤ k_) ∧ k_ ≠ gb415)) (yV (Kd.V_mono HL431_1.out (fun _ hk => ⟨⟨hk.1, hk.2.2⟩, hk.2.1⟩))) hg hat); have n3_ := Aside0.mk (hb); have n4_ := Aside0.mk (ho); clear HO_0; clear BK415; clear HL431_1; clear HB; clear HO_9; have HO_0 := n0_; have BK415 := n1_; have HL431_1 := n2_; have HB := n3_; have HO434 := n4_; clear n0_ n1_ n2_ n3_ n4_; clear ho hb hg hat))
          go_roundg k3
          case measure => have := HJ3.out; have := HJ9.out; have := HK3.out; omega
          case rel => exact ⟨(y432), (wrap64 (x10_3 + 1)), yS, H', ⟨by have := HJ3.out; have := HJ9.out; have := HK3.out; omega⟩, ⟨by refine yV ?_; exact Kd.V_mono HO_0.out (fun _ hk => ⟨hk.1.1, ⟨hk.2, hk.1.2⟩⟩)⟩, ⟨by refine yN ?_; exact HO434.out⟩, ⟨by refine yH ?_; exact BK415.out⟩, ⟨yB⟩⟩
         rw [if_neg c34] at H
         exact absurd H (by simp)
        rw [if_neg c33] at H
        exact absurd H (by simp)
       rw [if_neg c19] at H
       have c19b0 := decide_eq_false c19
       clear c19
       by_cases c36 : 0 ≤ x8_9
       ·rw [if_pos c36] at H
        have c36b0 := eq_true c36
        have c36b1 := decide_eq_true c36
        clear c36
        by_cases c37 : x8_9 ≤ (wrap64 (x8_9 + a2))
        ·rw [if_pos c37] at H
         have c37b0 := eq_true c37
         have c37b1 := decide_eq_true c37
         by_cases c38 : (wrap64 (x8_9 + a2)) ≤ (l0.length : Int)
         ·rw [if_pos c38] at H
          have c38b0 := eq_true c38
          have c38b1 := decide_eq_true c38
          obtain ⟨y435, hy435⟩ : ∃ y_ : List (S32), y_ = ((l0.take ((wrap64 (x8_9 + a2)) : Int).toNat).drop (x8_9 : Int).toNat) := ⟨_, rfl⟩
          replace H : ((Clone_Block.f y435).bind fun t440 => (some (x9_3, (([(⟨a1, t440⟩ : S81)] : List (S81))), 0))) = some (r1, r2, r3) := by first | (rw [hy435]; with_reducible exact H) | (have H2_ := (Option.bind_some _ _).symm.trans H; rw [hy435]; with_reducible exact H2_) | (have H2_ := (Option.bind_some _ _).symm.trans H; with_reducible exact H2_) | with_reducible exact H | (rw [hy435]; exact H) | exact H
          have Ny435 := Aside0.mk hy435
          clear hy435
          replace H := Option.bind_eq_some_iff.mp H
          obtain ⟨t440, A390, H⟩ := H
          have A39 := Aside0.mk A390
          clear A390
          obtain ⟨y443, hy443⟩ : ∃ y_ : List (S81), y_ = (([(⟨a1, t440⟩ : S81)] : List (S81))) := ⟨_, rfl⟩
          replace H : (some (x9_3, y443, 0)) = some (r1, r2, r3) := by first | (rw [hy443]; with_reducible exact H) | (have H2_ := (Option.bind_some _ _).symm.trans H; rw [hy443]; with_reducible exact H2_) | (have H2_ := (Option.bind_some _ _).symm.trans H; with_reducible exact H2_) | with_reducible exact H | (rw [hy443]; exact H) | exact H
          have Ny443 := Aside0.mk hy443
          clear hy443
          simp only [Option.some.injEq, Prod.mk.injEq] at H
          obtain ⟨rfl, rfl, rfl⟩ := H
          have q40 : ((wrap64 (x8_9 + a2)) : Int) ≤ ((l0.length : Int) : Int) := yD
          obtain ⟨i040, hi040, _, hsz40, _⟩ := info_parts info32
          have hroom40 : l0.length ≤ c0 := (Kd.V_reads' HO_0.out).2.1
          have hC40 : Kd.F k32 _ _ A0 l0.length l0 := (Kd.V_at (base := w.heap.size) HO_0.out).2.2
          have ql40 : (x8_9 : Int) ≤ ((wrap64 (x8_9 + a2)) : Int) := yD
          have q040 : (0 : Int) ≤ (x8_9 : Int) := yD
          have hcut40 := cut_mid (P := Try.prog) 35 32 .i64 .i64 Try.underlying35 hi040 3 hsz40 A0 l0.length c0 x8_9 (wrap64 (x8_9 + a2)) q040 ql40 q40 hroom40
          have hr40 := Kd.F_mid (lo := (x8_9 : Int).toNat) (hi := ((wrap64 (x8_9 + a2)) : Int).toNat) (c := c0) hC40 (by omega) (by omega) hroom40
          obtain ⟨A40, hA40⟩ : ∃ A1, A1 = (if c0 = (x8_9 : Int).toNat then A0 else (A0 : Option Addr).map (·.add ((x8_9 : Int).toNat * 3))) := ⟨_, rfl⟩
          obtain ⟨c40, hc40⟩ : ∃ c1, c1 = c0 - (x8_9 : Int).toNat := ⟨_, rfl⟩
          have hy40 : y435.length = ((wrap64 (x8_9 + a2)) : Int).toNat - (x8_9 : Int).toNat := (by rw [Ny435.out, List.length_drop, List.length_take] <;> omega)
          rw [show ((l0).take ((wrap64 (x8_9 + a2)) : Int).toNat).drop (x8_9 : Int).toNat = y435 from Ny435.out.symm] at hr40
          replace hr40 : Kd.F k32 _ _ A40 y435.length y435 := (by rw [hA40]; exact hr40)
          rw [← hy40, ← hA40, ← hc40] at hcut40
          have HO439 := Aside0.mk (show Kd.V k32 32 _ w.heap.size _ (.slice A40 y435.length c40) y435 from Kd.V_mk (by rw [hy40, hc40]; exact Nat.sub_le_sub_right (Nat.le_trans (by omega) hroom40) _) hr40)
          have HC439 := Aside0.mk (show y435.length ≤ c40 from by rw [hy40, hc40]; exact Nat.sub_le_sub_right (Nat.le_trans (by omega) hroom40) _)
          clear hr40 hC40 hroom40 hi040 hsz40 hc40
          have KY40 := Aside0.mk hy40
          have KA40 := Aside0.mk hA40
          clear hy40 hA40
          replace q40 := eq_true q40
          go_wp2_with (first | ((with_reducible refine gate_callee (f := 33) rfl ?_); refine goesL_ (some 81) rfl rfl Try.func33 (by kernel_rfl) rfl #[.slice A40 y435.length c40] rfl yQ ?_; (with_reducible refine (Clone_Block.calls (fun k_ => ((P0_ k_ ∨ w.heap.size ≤ k_) ∧ (some k_ ≠ (u9 : Value).ownBlock ∧ k_ ≠ gb415))) _ _ y435 t440 _ ?side1 A39.out).mono ?_); (case side1 => exact HO439.out); rintro e w41 ⟨v441, rfl, ho0, hb⟩; refine ⟨_, rfl, ?_⟩; replace HO_0 := Aside0.mk (Kd.V_elder' (yV HO_0.out) (by first | exact Kd.N_base ho0 | exact Kd.S_base ho0) hb); replace HO439 := Aside0.mk (Kd.V_elder' (yV HO439.out) (by first | exact Kd.N_base ho0 | exact Kd.S_base ho0) hb); have HO442 := Aside0.mk (Kd.N_lower (Kd.N_mono (ok' := fun k_ => (P0_ k_ ∨ w.heap.size ≤ k_) ∧ some k_ ≠ (u9 : Value).ownBlock ∧ k_ ≠ gb415) ho0 (fun k_ hk_ => ⟨Or.elim hk_ (fun hs_ => hs_.1) (fun hn_ => (.inr (Nat.le_trans (below_size yB) hn_))), Or.elim hk_ (fun hs_ => hs_.2.1) (fun hn_ => (Kd.fresh' (Kd.N_lt (yN HO_9.out)) k_ hn_)), Or.elim hk_ (fun hs_ => hs_.2.2) (fun hn_ => (Kd.freshB (g := gb415) yK k_ hn_))⟩)) (below_size yB)); replace HO_9 := Aside0.mk (Kd.N_elder' (yN HO_9.out) (by first | exact Kd.N_base ho0 | exact Kd.S_base ho0) hb); replace BK415 := Aside0.mk (blk_below (g := gb415) yK hb); replace HB := Aside0.mk (below_step yB hb); (try clear hb); (try clear ho0); obtain ⟨Ao42, co42, eo42⟩ := Kd.N_slice HO442.out; subst eo42) | ((with_reducible refine gate_dst (N := 83) rfl ?_); refine Kd.N_lit k81 _ 81 ?hg (N' := 83) ?hd (xs := ([(⟨a1, t440⟩ : S81)] : List (S81))) (inner := [.int .i64 a1, .slice Ao42 t440.length co42]) (ok := (fun k_ => (P0_ k_ ∨ w.heap.size ≤ k_) ∧ some k_ ≠ (u9 : Value).ownBlock ∧ k_ ≠ gb415)) (okp := (fun k_ => (P0_ k_ ∨ w.heap.size ≤ k_) ∧ some k_ ≠ (u9 : Value).ownBlock ∧ k_ ≠ gb415)) ?hr ?hp (fun _ hk => hk) ((show ∀ k_, w41.heap.size ≤ k_ → (fun k_ => (P0_ k_ ∨ w.heap.size ≤ k_) ∧ some k_ ≠ (u9 : Value).ownBlock ∧ k_ ≠ gb415) k_ from fun k_ hk => ⟨(.inr (Nat.le_trans (below_size yB) hk)), Kd.fresh' (Kd.N_lt (yN HO_9.out)) k_ hk, Kd.freshB (g := gb415) yK k_ hk⟩) _ (Nat.le_refl _)) (Below.refl _ _) (Nat.le_refl _) (by simp) ?_; (case hd => rfl); (case hg => rfl); (case hr => first | (go_simp; done) | (go_simp; rfl)); (case hp => exact (Reps.c2 (show Kd.FK k81 _ _ (⟨a1, t440⟩ : S81) [.int .i64 a1, .slice Ao42 t440.length co42] from (k81_mkF _ _ (⟨a1, t440⟩ : S81) (Kd.N_reads' (Kd.N_mono (ok' := (fun k_ => (P0_ k_ ∨ w.heap.size ≤ k_) ∧ some k_ ≠ (u9 : Value).ownBlock ∧ k_ ≠ gb415)) (HO442.out) (fun k_ hk => ⟨hk.1, ⟨hk.2.1, hk.2.2⟩⟩))).2.1 (Kd.N_F (Kd.N_mono (ok' := (fun k_ => (P0_ k_ ∨ w.heap.size ≤ k_) ∧ some k_ ≠ (u9 : Value).ownBlock ∧ k_ ≠ gb415)) (HO442.out) (fun k_ hk => ⟨hk.1, ⟨hk.2.1, hk.2.2⟩⟩))))) (Reps.none _ _))); intro v444 w43 ho44 hb hg_ hnew_; clear hg_ hnew_; (first | rw [← Ny443.out] at ho44 | (simp only [Int.reduceToNat] at ho44; rw [← Ny443.out] at ho44)); have n0_ := Aside0.mk (Kd.V_elder' (yV HO_0.out) (Kd.N_base ho44) hb); have n1_ := Aside0.mk (Kd.N_elder' (yN HO_9.out) (Kd.N_base ho44) hb); have n2_ := Aside0.mk (Kd.V_elder' (yV HO439.out) (Kd.N_base ho44) hb); have n3_ := Aside0.mk (Kd.N_lower ho44 (below_size yB)); have n4_ := Aside0.mk (blk_below (g := gb415) yK hb); have n5_ := Aside0.mk (below_step yB hb); clear HO_0; clear HO_9; clear HO439; clear BK415; clear HB; clear HO442; have HO_0 := n0_; have HO_9 := n1_; have HO439 := n2_; have HO445 := n3_; have BK415 := n4_; have HB := n5_; clear n0_ n1_ n2_ n3_ n4_ n5_; clear hb ho44; obtain ⟨Ao45, co45, eo45⟩ := Kd.N_slice HO445.out; subst eo45; obtain ⟨Ao46, co46, eo46⟩ := Kd.N_slice HO_9.out; subst eo46; have hcz47_0 := yZ0 BK415.out; have hcz47_1 := yZ1 BK415.out; have hfz47_0 := blk_frozen BK415.out 0; have hfz47_1 := blk_frozen BK415.out 1))
          refine bodyPost_ret (results_ct rfl _ _ gb415 54 #[.slice Ao46 x9_3.length co46, .slice Ao45 y443.length co45] (0, 0) _ rfl (by refine yH ?_; refine blk_put (cs := #[.slice Ao46 x9_3.length co46, .slice none 0 0]) ?_ 1 _ rfl; refine yH ?_; refine blk_put (cs := #[.slice none 0 0, .slice none 0 0]) ?_ 0 _ rfl; refine yH ?_; exact BK415.out) Try.underlying54 rfl (by kernel_rfl)) rfl ?_
          exact ⟨_, _, yE, by refine yN ?_; exact Kd.N_mono (Kd.N_far (p := ⟨gb415, 1, none⟩) (Kd.N_far (p := ⟨gb415, 0, none⟩) (Kd.N_mono HO_9.out (fun k_ hk => (⟨hk, hk.1.1.2⟩ : _ ∧ k_ ≠ gb415))) (fun _ hk => hk.2) (.slice Ao46 x9_3.length co46)) (fun _ hk => hk.2) (.slice Ao45 y443.length co45)) (fun _ hk => ⟨hk.1.1.1.1, hk.1.2⟩), by refine yN ?_; exact Kd.N_mono (Kd.N_far (p := ⟨gb415, 1, none⟩) (Kd.N_far (p := ⟨gb415, 0, none⟩) (Kd.N_mono HO445.out (fun k_ hk => (⟨hk, hk.2.2⟩ : _ ∧ k_ ≠ gb415))) (fun _ hk => hk.2) (.slice Ao46 x9_3.length co46)) (fun _ hk => hk.2) (.slice Ao45 y443.length co45)) (fun _ hk => ⟨hk.1.1, hk.1.2.1⟩), yB⟩
         rw [if_neg c38] at H
         exact absurd H (by simp)
        rw [if_neg c37] at H
        exact absurd H (by simp)
       rw [if_neg c36] at H
       exact absurd H (by simp)
end Go.Proofs.Ytehkhbnhmehobaa.P
namespace Go.Proofs.Ytehkhbnhmehobaa.P
open Go.RowKit Go.Proofs.YtehkhbnhmehobaaW.PrintWords Go.Proofs.YtehkhbnhmehobaaW.PrintLast Go.Proofs.YtehkhbnhmehobaaW.PrintMore
set_option linter.unusedVariables false
set_option linter.unusedSimpArgs false
abbrev Sb := S81
abbrev Rb := S58
abbrev zB := z32
def foldS (l : List Wd) : Bool := !(markS l) && (!(anyS l 78) && !(hasS l 77 98000))
theorem foldO_ev (s : Bool) (l : List Wd) (c : ByteArray) (hl : l.length ≤ 1000000) : Ev (fun k => subprogram_foldable.f k s l c) (foldS l) := by
  unfold subprogram_foldable.f foldS
  refine Ev.bind (marked_ev s l c hl) ?_
  cases hm : markS l with
  | true => exact Ev.pos rfl Ev.some
  | false =>
    refine Ev.neg (by decide) (Ev.bind (Codes_ev s l c 78 hl) ?_)
    have hp := codesS_pos l 78
    by_cases h0 : ((codesS l 78).length : Int) = 0
    · rw [decide_eq_false (by omega)] at hp
      rw [← hp]
      refine Ev.pos h0 (Ev.bind (has_ev s l c 77 98000 hl) ?_)
      simpa using Ev.some
    rw [decide_eq_true (by omega)] at hp
    rw [← hp]
    refine Ev.neg h0 ?_
    simpa using Ev.some
theorem wordsEq_l0 (l m : List Wd) (hl : l.length = m.length) (hm : l.length ≤ 9223372036854775807) : ∀ (n j : Nat), j + n = l.length → Ev (fun k => api_Word_112.l0 k l m (l.length : Int) (j : Int)) (decide (l.drop j = m.drop j)) := by
  intro n
  induction n with
  | zero =>
    intro j hj
    refine Ev.step (fun k => by rw [api_Word_112.l0]) (Ev.neg (by omega) ?_)
    rw [List.drop_eq_nil_of_le (by omega), List.drop_eq_nil_of_le (by omega)]
    exact Ev.some
  | succ n ih =>
    intro j hj
    have h2 := ih (j + 1) (by omega)
    have hd := dropW_eq (show j < l.length by omega) (show j < m.length by omega)
    refine Ev.step (fun k => by rw [api_Word_112.l0]) (Ev.pos (by omega) (Ev.pos (by omega) (Ev.pos (by omega) (Ev.pos (by omega) ?_))))
    rw [rd_T78_at (show j < l.length by omega), rd_T78_at (show j < m.length by omega)]
    by_cases he : l[j]'(by omega) = m[j]'(by omega)
    · refine Ev.neg (by simp [he]) ?_
      rw [wrapI (by omega), decide_eq_decide.mpr (hd.trans ⟨fun h => h.2, fun h => ⟨he, h⟩⟩)]
      exact h2
    refine Ev.pos ?_ ?_
    · simp only [Bool.or_eq_true, Bool.not_eq_true', beq_eq_false_iff_ne]
      by_cases h0 : (l[j]'(by omega)).f0 = (m[j]'(by omega)).f0
      · right; intro h1; exact he (by cases h : l[j]'(by omega); cases h' : m[j]'(by omega); simp_all)
      exact .inl h0
    rw [decide_eq_false (fun h => he (hd.mp h).1)]
    exact Ev.some
theorem EqualO_ev (a b : Bk) (hm : a.f1.length ≤ 9223372036854775807) : Ev (fun k => block_Equal.f k a.f0 a.f1 a.f2 b.f0 b.f1 b.f2) (decide (a = b)) := by
  unfold block_Equal.f
  by_cases h0 : a.f0 = b.f0
  · refine Ev.pos (by simp [h0]) ?_
    by_cases h2 : a.f2 = b.f2
    · refine Ev.pos (by rw [h2]) ?_
      have he : decide (a = b) = decide (a.f1 = b.f1) := decide_eq_decide.mpr ⟨fun h => by rw [h], fun h => by cases a; cases b; simp_all⟩
      rw [he]
      refine Ev.bind (v := decide (a.f1 = b.f1)) ?_ Ev.some
      unfold api_Word_112.f
      by_cases hl : a.f1.length = b.f1.length
      · refine Ev.pos (by omega) ?_
        have := wordsEq_l0 a.f1 b.f1 hl hm a.f1.length 0 (by omega)
        rw [List.drop_zero, List.drop_zero] at this
        exact this
      rw [decide_eq_false (fun h => hl (by rw [h]))]
      exact Ev.neg (by omega) Ev.some
    rw [decide_eq_false (fun h => h2 (by rw [h]))]
    exact Ev.neg (fun h => h2 (data_eq.mp h)) Ev.some
  rw [decide_eq_false (fun h => h0 (by rw [h]))]
  exact Ev.neg (by simpa using h0) Ev.some
theorem wadd {a b : Nat} (h : a + b < 9223372036854775807) : wrap64 ((a : Int) + (b : Int)) = ((a + b : Nat) : Int) := by unfold wrap64; omega
theorem wsub {a b : Nat} (h : b ≤ a) (h2 : a < 9223372036854775807) : wrap64 ((a : Int) - (b : Int)) = ((a - b : Nat) : Int) := by unfold wrap64; omega
def runB (l : List Bk) (i j : Nat) : Nat → Nat → Bool
  | 0, _ => true
  | c + 1, q => (foldS (l.getD (i + q) zB).f1 && decide (l.getD (i + q) zB = l.getD (j + q) zB)) && runB l i j c (q + 1)
theorem rdB (l : List Bk) (j : Nat) : rd_T32 l (j : Int) = l.getD j zB := by simp [rd_T32]
theorem getD_mem {l : List Bk} {j : Nat} (h : j < l.length) : l.getD j zB ∈ l := by
  rw [List.getD_eq_getElem?_getD, List.getElem?_eq_getElem h]
  exact List.getElem_mem h
section
variable {l : List Bk} (hl : l.length ≤ 1000) (hg : ∀ b ∈ l, goodB b)
include hl hg
theorem run_l0 (i j n : Nat) (hi : i + n ≤ l.length) (hj : j + n ≤ l.length) : ∀ (c q : Nat), q + c = n → Ev (fun k => subprogram_run.l0 k l (i : Int) (j : Int) (n : Int) (q : Int)) (runB l i j c q) := by
  intro c
  induction c with
  | zero =>
    intro q hq
    refine Ev.step (fun k => by rw [subprogram_run.l0]) ?_
    exact Ev.neg (by omega) Ev.some
  | succ c ih =>
    intro q hq
    have h0 := ih (q + 1) (by omega)
    have ga := hg _ (getD_mem (l := l) (j := i + q) (by omega))
    refine Ev.step (fun k => by rw [subprogram_run.l0]) ?_
    rw [wadd (a := i) (b := q) (by omega), wadd (a := j) (b := q) (by omega), rdB, rdB]
    refine Ev.pos (by omega) (Ev.pos (by omega) (Ev.pos (by omega) (Ev.bind (foldO_ev _ _ _ ga.len) ?_)))
    unfold runB
    cases hf : foldS (l.getD (i + q) zB).f1 with
    | false => exact Ev.neg (by decide) Ev.some
    | true =>
      refine Ev.pos rfl (Ev.pos (by omega) (Ev.pos (by omega) (Ev.bind (EqualO_ev _ _ (by have := ga.len; omega)) ?_)))
      by_cases he : l.getD (i + q) zB = l.getD (j + q) zB
      · rw [decide_eq_true he]
        refine Ev.pos rfl ?_
        rw [wrapI (by omega)]
        exact h0
      rw [decide_eq_false he]
      exact Ev.neg (by decide) Ev.some
theorem run_ev (i j n : Nat) (hi : i + n ≤ l.length) (hj : j + n ≤ l.length) : Ev (fun k => subprogram_run.f k l (i : Int) (j : Int) (n : Int)) (runB l i j n 0) := run_l0 hl hg i j n hi hj n 0 (by omega)
omit hl hg in
end
def foundB (l : List Bk) (n i : Nat) : Nat → Nat → Bool
  | 0, _ => false
  | c + 1, j => if runB l i j n 0 = true then true else foundB l n i c (j + 1)
def foundI (l : List Bk) (n i : Nat) : Bool := foundB l n i (l.length + 1 - n - (i + n)) (i + n)
def firstB (l : List Bk) (n : Nat) : Nat → Nat → Option Nat
  | 0, _ => none
  | c + 1, i => if foundI l n i = true then some i else firstB l n c (i + 1)
theorem firstB_lt {l : List Bk} {n : Nat} : ∀ {c i x : Nat}, firstB l n c i = some x → foundI l n x = true
  | 0, i, x, h => by cases h
  | c + 1, i, x, h => by
    rw [firstB] at h
    by_cases hf : foundI l n i = true
    · rw [if_pos hf] at h; cases h; exact hf
    rw [if_neg hf] at h; exact firstB_lt h
theorem foundI_le {l : List Bk} {n i : Nat} (h : foundI l n i = true) : i + n + n ≤ l.length := by
  unfold foundI at h
  apply Decidable.byContradiction
  intro hn
  rw [show l.length + 1 - n - (i + n) = 0 by omega, foundB] at h
  cases h
section
variable {l : List Bk} (hl : l.length ≤ 1000) (hg : ∀ b ∈ l, goodB b)
include hl hg
theorem first_ev (n : Nat) (hn : 1 ≤ n) (h2 : n + n ≤ l.length) : ∀ (c i : Nat), i + c = l.length + 1 - n - n → ∃ r : Int, Ev (fun k => subprogram_first.l0 k l (n : Int) (i : Int)) r ∧ r = (match firstB l n c i with | some x => (x : Int) | none => -1) := by
  intro c
  induction c with
  | zero =>
    intro i hi
    refine ⟨-1, Ev.step (fun k => by rw [subprogram_first.l0]) ?_, rfl⟩
    rw [wadd (a := i) (b := n) (by omega), wsub (a := l.length) (b := n) (by omega) (by omega)]
    exact Ev.neg (by omega) Ev.some
  | succ c ih =>
    intro i hi
    obtain ⟨r', h1, h3⟩ := ih (i + 1) (by omega)
    have H3 := Aside0.mk h3
    clear h3 ih
    have inner : ∀ (d j : Nat), j + d = l.length + 1 - n → i + n ≤ j → ∃ r : Int, Ev (fun k => subprogram_first.l1 k l (n : Int) (i : Int) (j : Int)) r ∧ r = if foundB l n i d j = true then (i : Int) else r' := by
      intro d
      induction d with
      | zero =>
        intro j hj hij
        refine ⟨r', Ev.step (fun k => by rw [subprogram_first.l1]) ?_, by simp [foundB]⟩
        rw [wadd (a := j) (b := n) (by omega), wrapI (j := i) (by omega)]
        exact Ev.neg (by omega) h1
      | succ d ihd =>
        intro j hj hij
        obtain ⟨r2, h4, h5⟩ := ihd (j + 1) (by omega) (by omega)
        by_cases hr : runB l i j n 0 = true
        · refine ⟨i, Ev.step (fun k => by rw [subprogram_first.l1]) ?_, by rw [foundB, if_pos hr]; rfl⟩
          rw [wadd (a := j) (b := n) (by omega)]
          refine Ev.pos (by omega) (Ev.bind (run_ev hl hg i j n (by omega) (by omega)) (Ev.pos hr Ev.some))
        refine ⟨r2, Ev.step (fun k => by rw [subprogram_first.l1]) ?_, by rw [foundB, if_neg hr]; exact h5⟩
        rw [wadd (a := j) (b := n) (by omega)]
        refine Ev.pos (by omega) (Ev.bind (run_ev hl hg i j n (by omega) (by omega)) (Ev.neg hr ?_))
        rw [wrapI (j := j) (by omega)]
        exact h4
    obtain ⟨r, h4, h5⟩ := inner (l.length + 1 - n - (i + n)) (i + n) (by omega) (by omega)
    refine ⟨r, Ev.step (fun k => by rw [subprogram_first.l0]) ?_, ?_⟩
    · rw [wadd (a := i) (b := n) (by omega), wsub (a := l.length) (b := n) (by omega) (by omega)]
      exact Ev.pos (by omega) h4
    rw [h5, firstB]
    unfold foundI
    by_cases hf : foundB l n i (l.length + 1 - n - (i + n)) (i + n) = true
    · rw [if_pos hf, if_pos hf]
    rw [if_neg hf, if_neg hf]; exact H3.out
end
def callB (num : Int) : Bk := ⟨false, [⟨77, 98000⟩, ⟨80, wrap64 (1000 * num)⟩], ⟨#[]⟩⟩
def mainB (l : List Bk) (num : Int) (a n : Nat) : Nat → Nat → List Bk → List Bk
  | 0, _, acc => acc
  | f + 1, i, acc => if i < l.length then (if i + n ≤ l.length ∧ runB l a i n 0 = true then mainB l num a n f (i + n) (acc ++ [callB num]) else mainB l num a n f (i + 1) (acc ++ [l.getD i zB])) else acc
def foldSpec (l : List Bk) (num n : Int) : List Bk × List (Int × List Bk) × Int :=
  if num < 1 ∨ num > 9999 ∨ n < 1 then ([], [], 1) else
  match firstB l n.toNat (l.length + 1 - n.toNat - n.toNat) 0 with
  | none => (l, [], 0)
  | some a => (mainB l num a n.toNat (l.length + 1) 0 [], [(num, (l.take (a + n.toNat)).drop a)], 0)
def toO (s : List (Int × List Bk)) : List Sb := s.map (fun p => ⟨p.1, p.2⟩)
section
variable {l : List Bk} (hl : l.length ≤ 1000) (hg : ∀ b ∈ l, goodB b)
include hl hg
theorem foldO_l0 (num : Int) (a n : Nat) (hn : 1 ≤ n) (ha : a + n ≤ l.length) : ∀ (f i : Nat) (acc : List Bk), l.length < i + f → i ≤ l.length → acc.length ≤ i → Ev (fun k => subprogram_Fold.l0 k l num (n : Int) (a : Int) acc (i : Int)) (mainB l num a n f i acc, toO [(num, (l.take (a + n)).drop a)], 0) := by
  intro f
  induction f with
  | zero => intro i acc hf hi hacc; omega
  | succ f ih =>
    intro i acc hf hi hacc
    refine Ev.step (fun k => by rw [subprogram_Fold.l0]) ?_
    rw [mainB, wadd (a := i) (b := n) (by omega), wadd (a := a) (b := n) (by omega), rdB, wrapI (by omega)]
    by_cases h1 : i < l.length
    · rw [if_pos h1]
      refine Ev.pos (by omega) ?_
      by_cases h2 : i + n ≤ l.length
      · refine Ev.pos (by omega) (Ev.bind (run_ev hl hg a i n ha h2) ?_)
        by_cases h3 : runB l a i n 0 = true
        · rw [if_pos ⟨h2, h3⟩]
          exact Ev.pos h3 (Ev.pos (by omega) (ih (i + n) _ (by omega) (by omega) (by simp; omega)))
        rw [if_neg (fun h => h3 h.2)]
        exact Ev.neg h3 (Ev.pos (by omega) (Ev.pos (by omega) (ih (i + 1) _ (by omega) (by omega) (by simp; omega))))
      rw [if_neg (fun h => h2 h.1)]
      exact Ev.neg (by omega) (Ev.pos (by omega) (Ev.pos (by omega) (ih (i + 1) _ (by omega) (by omega) (by simp; omega))))
    rw [if_neg h1]
    refine Ev.neg (by omega) (Ev.pos (by omega) (Ev.pos (by omega) (Ev.pos (by omega) ?_)))
    refine Ev.bind (v := (l.take (a + n)).drop a) (Ev.of (fun _ => ?_)) ?_
    · unfold Clone_Block.f
      rw [Int.toNat_natCast, Int.toNat_natCast, if_pos (by simp; omega)]
    exact Ev.some
theorem FoldO_ev (num n : Int) (hn : I64 n) : Ev (fun k => subprogram_Fold.f k l num n) ((foldSpec l num n).1, toO (foldSpec l num n).2.1, (foldSpec l num n).2.2) := by
  have bad : (num < 1 ∨ num > 9999 ∨ n < 1) → ∀ c, c = true → Ev (fun k => subprogram_Fold.j0 k l num n c) ((foldSpec l num n).1, toO (foldSpec l num n).2.1, (foldSpec l num n).2.2) := by
    intro hb c hc
    unfold foldSpec
    rw [if_pos hb]
    refine Ev.step (fun k => by rw [subprogram_Fold.j0]) ?_
    refine Ev.pos hc ?_
    exact Ev.some
  unfold subprogram_Fold.f
  by_cases h1 : num < 1
  · exact Ev.pos h1 (bad (.inl h1) _ rfl)
  refine Ev.neg h1 ?_
  by_cases h2 : num > 9999
  · exact Ev.pos h2 (bad (.inr (.inl h2)) _ rfl)
  refine Ev.neg h2 ?_
  by_cases h3 : n < 1
  · exact bad (.inr (.inr h3)) _ (decide_eq_true h3)
  unfold I64 at hn
  obtain ⟨m, rfl⟩ : ∃ m : Nat, n = (m : Int) := ⟨n.toNat, by omega⟩
  unfold foldSpec
  rw [if_neg (by omega), Int.toNat_natCast]
  refine Ev.step (fun k => by rw [subprogram_Fold.j0]) (Ev.neg (by simp; omega) ?_)
  have w0 : wrap64 ((l.length : Int) / 2) = (l.length : Int) / 2 := by unfold wrap64; omega
  rw [w0]
  have clone : Clone_Block.f l = some l := by unfold Clone_Block.f; rw [if_pos (by omega)]
  by_cases h4 : (m : Int) ≤ (l.length : Int) / 2
  · obtain ⟨r, h5, h6⟩ := first_ev hl hg m (by omega) (by omega) (l.length + 1 - m - m) 0 (by omega)
    refine Ev.pos h4 (Ev.bind (v := r) h5 ?_)
    cases hf : firstB l m (l.length + 1 - m - m) 0 with
    | none =>
      rw [hf] at h6
      replace h6 : r = -1 := h6
      subst h6
      refine Ev.step (fun k => by rw [subprogram_Fold.j1]) (Ev.pos (by decide) ?_)
      rw [clone]
      exact Ev.bind Ev.some Ev.some
    | some x =>
      rw [hf] at h6
      replace h6 : r = (x : Int) := h6
      subst h6
      have hx := foundI_le (firstB_lt hf)
      refine Ev.step (fun k => by rw [subprogram_Fold.j1]) (Ev.neg (by omega) ?_)
      exact foldO_l0 hl hg num x m (by omega) (by omega) (l.length + 1) 0 [] (by omega) (by omega) (by simp)
  rw [show l.length + 1 - m - m = 0 by omega, firstB]
  refine Ev.neg h4 (Ev.step (fun k => by rw [subprogram_Fold.j1]) (Ev.pos (by decide) ?_))
  rw [clone]
  exact Ev.bind Ev.some Ev.some
end
theorem rd_Sb {l : List Sb} {j : Nat} (h : j < l.length) : rd_T81 l (j : Int) = l[j] := by simp [rd_T81, h]
theorem rd_Rb {l : List Rb} {j : Nat} (h : j < l.length) : rd_T58 l (j : Int) = l[j] := by simp [rd_T58, h]
theorem mainB_mem (l : List Bk) (num : Int) (a n : Nat) : ∀ (f i : Nat) (acc : List Bk) (b : Bk), b ∈ mainB l num a n f i acc → b ∈ acc ∨ b = callB num ∨ b ∈ l
  | 0, i, acc, b, h => .inl h
  | f + 1, i, acc, b, h => by
    rw [mainB] at h
    by_cases h1 : i < l.length
    · rw [if_pos h1] at h
      by_cases h2 : i + n ≤ l.length ∧ runB l a i n 0 = true
      · rw [if_pos h2] at h
        rcases mainB_mem l num a n f _ _ b h with h | h
        · rcases List.mem_append.mp h with h | h
          · exact .inl h
          exact .inr (.inl (by simpa using h))
        exact .inr h
      rw [if_neg h2] at h
      rcases mainB_mem l num a n f _ _ b h with h | h
      · rcases List.mem_append.mp h with h | h
        · exact .inl h
        exact .inr (.inr (by rw [List.mem_singleton] at h; rw [h]; exact getD_mem h1))
      exact .inr h
    rw [if_neg h1] at h; exact .inl h
theorem mainB_len (l : List Bk) (num : Int) (a n : Nat) (hn : 1 ≤ n) : ∀ (f i : Nat) (acc : List Bk), i ≤ l.length → (mainB l num a n f i acc).length ≤ acc.length + (l.length - i)
  | 0, i, acc, _ => by simp [mainB]
  | f + 1, i, acc, hi => by
    rw [mainB]
    by_cases h1 : i < l.length
    · rw [if_pos h1]
      by_cases h2 : i + n ≤ l.length ∧ runB l a i n 0 = true
      · rw [if_pos h2]
        have := mainB_len l num a n hn f (i + n) (acc ++ [callB num]) (by omega)
        simp only [List.length_append, List.length_singleton] at this
        omega
      rw [if_neg h2]
      have := mainB_len l num a n hn f (i + 1) (acc ++ [l.getD i zB]) (by omega)
      simp only [List.length_append, List.length_singleton] at this
      omega
    rw [if_neg h1]; omega
section
def sumS (cl : Bk → Option (Int × Int)) (V : Int → Option (Int × Int)) : List Bk → Int → Int → Option (Int × Int)
  | [], d, s => some (d, s)
  | b :: l, d, s => match cl b with
    | none => sumS cl V l d (mn (s + 1) 20001)
    | some (n, t) => match V n with
      | none => none
      | some (dp, sz) => sumS cl V l (mx d (wrap64 (1 + dp))) (mn (s + mn (t * sz) 20001) 20001)
def Cal (cl : Bk → Option (Int × Int)) (body : Int → List Bk) (m n : Int) : Prop := ∃ b ∈ body n, ∃ t, cl b = some (m, t)
variable {cl : Bk → Option (Int × Int)} {body : Int → List Bk}
theorem sumS_congr {V V' : Int → Option (Int × Int)} : ∀ (l : List Bk) (d s : Int), (∀ b ∈ l, ∀ n t, cl b = some (n, t) → V n = V' n) → sumS cl V l d s = sumS cl V' l d s
  | [], _, _, _ => rfl
  | b :: l, d, s, h => by
    have ih := fun d s => sumS_congr (V := V) (V' := V') l d s (fun b hb => h b (List.mem_cons_of_mem _ hb))
    unfold sumS
    cases hc : cl b with
    | none => exact ih _ _
    | some p =>
      obtain ⟨n, t⟩ := p
      have := h b List.mem_cons_self n t hc
      simp only [this]
      cases V' n with
      | none => rfl
      | some q => exact ih _ _
theorem sumS_some {V : Int → Option (Int × Int)} : ∀ (l : List Bk) (d s : Int), (sumS cl V l d s).isSome = true ↔ ∀ b ∈ l, ∀ n t, cl b = some (n, t) → (V n).isSome = true
  | [], _, _ => by simp [sumS]
  | b :: l, d, s => by
    have ih := fun d s => sumS_some (V := V) l d s
    unfold sumS
    cases hc : cl b with
    | none => simp only [ih, List.mem_cons]; constructor
              · rintro h c (rfl | hc') n t hn
                · rw [hc] at hn; cases hn
                exact h c hc' n t hn
              exact fun h c hc' => h c (Or.inr hc')
    | some p =>
      obtain ⟨n, t⟩ := p
      cases hv : V n with
      | none =>
        simp only [hv]
        constructor
        · intro h; cases h
        intro h; have := h b List.mem_cons_self n t hc; rw [hv] at this; cases this
      | some q =>
        simp only [hv, ih, List.mem_cons]; constructor
        · rintro h c (rfl | hc') m u hn
          · rw [hc] at hn; injection hn with hn; injection hn with h1 h2; subst h1; rw [hv]; rfl
          exact h c hc' m u hn
        exact fun h c hc' => h c (Or.inr hc')
theorem sumS_bound {V : Int → Option (Int × Int)} : ∀ (l : List Bk) (d s : Int) (r : Int × Int), (∀ b ∈ l, ∀ n t, cl b = some (n, t) → 0 ≤ t ∧ ∀ r, V n = some r → 0 ≤ r.2) → 0 ≤ s → s ≤ 20001 → sumS cl V l d s = some r → 0 ≤ r.2 ∧ r.2 ≤ 20001
  | [], d, s, r, _, h0, h1, h => by simp [sumS] at h; subst h; exact ⟨h0, h1⟩
  | b :: l, d, s, r, hl, h0, h1, h => by
    have hl' := fun b hb => hl b (List.mem_cons_of_mem _ hb)
    unfold sumS at h
    cases hc : cl b with
    | none => rw [hc] at h; exact sumS_bound l _ _ r hl' (by unfold mn; split <;> omega) (by unfold mn; split <;> omega) h
    | some p =>
      obtain ⟨n, t⟩ := p
      simp only [hc] at h
      cases hv : V n with
      | none => rw [hv] at h; cases h
      | some q =>
        simp only [hv] at h
        obtain ⟨h3, h2⟩ := hl b List.mem_cons_self n t hc
        have h4 : 0 ≤ t * q.2 := Int.mul_nonneg h3 (h2 q hv)
        exact sumS_bound l _ _ r hl' (by unfold mn; split <;> split <;> omega) (by unfold mn; split <;> split <;> omega) h
theorem table_unique {V V' : Int → Option (Int × Int)} {n : Int} (h : Acc (Cal cl body) n) (P : Int → Prop) (hP : ∀ n m, P n → Cal cl body m n → P m) (h1 : ∀ n, P n → V n = sumS cl V (body n) 0 0) (h2 : ∀ n, P n → V' n = sumS cl V' (body n) 0 0) : P n → V n = V' n := by
  induction h with
  | intro n _ ih =>
    intro hp
    rw [h1 n hp, h2 n hp]
    exact sumS_congr _ _ _ (fun b hb m t hm => ih m ⟨b, hb, t, hm⟩ (hP n m hp ⟨b, hb, t, hm⟩))
theorem no_cycle {n : Int} (h : Acc (Cal cl body) n) : ¬ Relation.TransGen (Cal cl body) n n := by
  intro hc
  have h2 := Acc.transGen h
  clear h
  induction h2 with
  | intro n _ ih => exact ih n hc hc
variable {kc : Nat} {nums : List Int}
structure Ok (kc : Nat) (cl : Bk → Option (Int × Int)) (b : Bk) : Prop where
  plain : cl b = none → callF kc b = some (0, 0, false, 0)
  call : ∀ n t, cl b = some (n, t) → callF kc b = some (n, t, true, 0) ∧ IN n ∧ IN t
theorem wrap_id {x : Int} (h0 : -9223372036854775808 ≤ x) (h1 : x < 9223372036854775808) : wrap64 x = x := by unfold wrap64; omega
theorem sumL_eq {dp sz : Int → Int} : ∀ (l : List Bk) (d s : Int), 0 ≤ s → s ≤ 20001 → (∀ b ∈ l, Ok kc cl b) → (∀ b ∈ l, ∀ n t, cl b = some (n, t) → 0 ≤ sz n ∧ sz n ≤ 20001) →
    sumL kc dp sz l d s = sumS cl (fun n => some (dp n, sz n)) l d s
  | [], _, _, _, _, _, _ => rfl
  | b :: l, d, s, h0, h1, hok, hz => by
    have ih := fun d s h0 h1 => sumL_eq (dp := dp) (sz := sz) l d s h0 h1 (fun b hb => hok b (List.mem_cons_of_mem _ hb)) (fun b hb => hz b (List.mem_cons_of_mem _ hb))
    have hb := hok b List.mem_cons_self
    unfold sumL sumS
    cases hc : cl b with
    | none =>
      rw [hb.plain hc]
      simp only [Option.bind_some, Bool.false_eq_true, if_false]
      rw [wrap_id (x := s + 1) (by omega) (by omega)]
      exact ih _ _ (by unfold mn; split <;> omega) (by unfold mn; split <;> omega)
    | some p =>
      obtain ⟨n, t⟩ := p
      obtain ⟨h2, h3, h4⟩ := hb.call n t hc
      obtain ⟨z0, z1⟩ := hz b List.mem_cons_self n t hc
      rw [h2]
      simp only [Option.bind_some, if_true, if_pos h3]
      have e1 : 0 ≤ t * sz n := Int.mul_nonneg (by unfold IN at h4; omega) z0
      have e2 : t * sz n ≤ 9999 * 20001 := Int.mul_le_mul (by unfold IN at h4; omega) z1 z0 (by omega)
      rw [wrap_id (x := t * sz n) (by omega) (by omega)]
      have e3 : 0 ≤ mn (t * sz n) 20001 ∧ mn (t * sz n) 20001 ≤ 20001 := by unfold mn; split <;> omega
      rw [wrap_id (x := s + mn (t * sz n) 20001) (by omega) (by omega)]
      exact ih _ _ (by unfold mn; split <;> split <;> omega) (by unfold mn; split <;> split <;> omega)
structure Inv (cl : Bk → Option (Int × Int)) (body : Int → List Bk) (S : St3) : Prop where
  st : ∀ m, S.1 m = 0 ∨ S.1 m = 1 ∨ S.1 m = 2
  sz : ∀ m, S.1 m = 2 → 0 ≤ S.2.2 m ∧ S.2.2 m ≤ 20001
  down : ∀ m, S.1 m = 2 → ∀ c, Cal cl body c m → S.1 c = 2
  acc : ∀ m, S.1 m = 2 → Acc (Cal cl body) m
  eq : ∀ m, S.1 m = 2 → sumS cl (fun n => some (S.2.1 n, S.2.2 n)) (body m) 0 0 = some (S.2.1 m, S.2.2 m)
structure Kept (nums : List Int) (S S' : St3) : Prop where
  ones : ∀ m, S'.1 m = 1 ↔ S.1 m = 1
  twos : ∀ m, S.1 m = 2 → S'.1 m = 2
  zero : nums.countP (fun m => S'.1 m == 0) ≤ nums.countP (fun m => S.1 m == 0)
theorem Kept.refl (S : St3) : Kept nums S S := ⟨fun _ => Iff.rfl, fun _ h => h, Nat.le_refl _⟩
theorem Kept.trans {S S' S'' : St3} (h : Kept nums S S') (k : Kept nums S' S'') : Kept nums S S'' := ⟨fun m => (k.ones m).trans (h.ones m), fun m hm => k.twos m (h.twos m hm), Nat.le_trans k.zero h.zero⟩
def Cyc (cl : Bk → Option (Int × Int)) (body : Int → List Bk) (nums : List Int) : Prop := ∃ m ∈ nums, Relation.TransGen (Cal cl body) m m
def Step (cl : Bk → Option (Int × Int)) (body : Int → List Bk) (nums : List Int) (S : St3) (P : St3 → Prop) (r : Option (Bool × St3)) : Prop :=
  ∃ b S', r = some (b, S') ∧ (b = true → Inv cl body S' ∧ Kept nums S S' ∧ P S') ∧ (b = false → Cyc cl body nums)
theorem measL_ok {rec_ : Int → St3 → Option (Bool × St3)} {n : Int} (z : Nat)
    (hrec : ∀ m S, m ∈ nums → Inv cl body S → (∀ a, S.1 a = 1 → a ∈ nums ∧ Relation.TransGen (Cal cl body) m a) → nums.countP (fun m => S.1 m == 0) < z → Step cl body nums S (fun S' => S'.1 m = 2) (rec_ m S)) :
    ∀ (l : List Bk) (S : St3), (∀ b ∈ l, b ∈ body n) → (∀ b ∈ l, Ok kc cl b) → (∀ b ∈ l, ∀ m t, cl b = some (m, t) → m ∈ nums) → Inv cl body S → (∀ a, S.1 a = 1 → a ∈ nums ∧ (a = n ∨ Relation.TransGen (Cal cl body) n a)) → nums.countP (fun m => S.1 m == 0) < z →
      Step cl body nums S (fun S' => ∀ b ∈ l, ∀ m t, cl b = some (m, t) → S'.1 m = 2) (measL rec_ kc l S)
  | [], S, _, _, _, hI, _, _ => ⟨true, S, rfl, fun _ => ⟨hI, Kept.refl S, fun b hb => by cases hb⟩, fun h => by cases h⟩
  | b :: l, S, hb, hok, hin, hI, h1, hz => by
    have ih := measL_ok (n := n) z hrec l
    unfold measL
    cases hc : cl b with
    | none =>
      rw [(hok b List.mem_cons_self).plain hc]
      simp only [Option.bind_some, Bool.false_eq_true, if_false]
      obtain ⟨b', S', e, ht, hf⟩ := ih S (fun c hc => hb c (List.mem_cons_of_mem _ hc)) (fun c hc => hok c (List.mem_cons_of_mem _ hc)) (fun c hc => hin c (List.mem_cons_of_mem _ hc)) hI h1 hz
      refine ⟨b', S', e, fun hb' => ?_, hf⟩
      obtain ⟨i1, i2, i3⟩ := ht hb'
      refine ⟨i1, i2, fun c hc' m t hm => ?_⟩
      rcases List.mem_cons.mp hc' with rfl | hc'
      · rw [hc] at hm; cases hm
      exact i3 c hc' m t hm
    | some p =>
      obtain ⟨m, t⟩ := p
      obtain ⟨h2, h3, _⟩ := (hok b List.mem_cons_self).call m t hc
      rw [h2]
      simp only [Option.bind_some, if_true, if_pos h3]
      have hm := hin b List.mem_cons_self m t hc
      have hcal : Cal cl body m n := ⟨b, hb b List.mem_cons_self, t, hc⟩
      obtain ⟨b1, S1, e1, t1, f1⟩ := hrec m S hm hI (fun a ha => ⟨(h1 a ha).1, by
        rcases (h1 a ha).2 with rfl | h
        · exact .single hcal
        exact Relation.TransGen.trans (.single hcal) h⟩) hz
      rw [e1]
      simp only [Option.bind_some]
      cases b1 with
      | false => exact ⟨false, S1, by simp, fun h => (by cases h), fun _ => f1 rfl⟩
      | true =>
        obtain ⟨j1, j2, j3⟩ := t1 rfl
        simp only [if_true]
        obtain ⟨b', S', e, ht, hf⟩ := ih S1 (fun c hc => hb c (List.mem_cons_of_mem _ hc)) (fun c hc => hok c (List.mem_cons_of_mem _ hc)) (fun c hc => hin c (List.mem_cons_of_mem _ hc)) j1 (fun a ha => h1 a ((j2.ones a).mp ha)) (Nat.lt_of_le_of_lt j2.zero hz)
        refine ⟨b', S', e, fun hb' => ?_, hf⟩
        obtain ⟨i1, i2, i3⟩ := ht hb'
        refine ⟨i1, j2.trans i2, fun c hc' m' t' hm' => ?_⟩
        rcases List.mem_cons.mp hc' with rfl | hc'
        · rw [hc] at hm'; injection hm' with hm'; injection hm' with e1 e2; subst e1; exact i2.twos _ j3
        exact i3 c hc' m' t' hm'
theorem countP_lt0 {p q : Int → Bool} : ∀ (l : List Int), (∀ y ∈ l, p y = true → q y = true) → (∃ y ∈ l, p y = false ∧ q y = true) → l.countP p < l.countP q
  | [], _, ⟨y, hy, _⟩ => by cases hy
  | x :: l, h, ⟨y, hy, h1, h2⟩ => by
    rw [List.countP_cons, List.countP_cons]
    have hm : l.countP p ≤ l.countP q := List.countP_mono_left (fun z hz hp => h z (List.mem_cons_of_mem _ hz) hp)
    rcases List.mem_cons.mp hy with rfl | hy
    · simp [h1, h2]; omega
    have := countP_lt0 l (fun z hz => h z (List.mem_cons_of_mem _ hz)) ⟨y, hy, h1, h2⟩
    have hx := h x List.mem_cons_self
    have e1 : (if p x = true then 1 else 0) ≤ (if q x = true then 1 else 0) := by
      by_cases hp : p x = true
      · rw [if_pos hp, if_pos (hx hp)]; exact Nat.le_refl _
      rw [if_neg hp]; exact Nat.zero_le _
    omega
theorem measF_ok (hok : ∀ n ∈ nums, ∀ b ∈ body n, Ok kc cl b) (hin : ∀ n ∈ nums, ∀ b ∈ body n, ∀ m t, cl b = some (m, t) → m ∈ nums) :
    ∀ (k : Nat) (n : Int) (S : St3), n ∈ nums → Inv cl body S → (∀ a, S.1 a = 1 → a ∈ nums ∧ Relation.TransGen (Cal cl body) n a) → nums.countP (fun m => S.1 m == 0) < k →
      Step cl body nums S (fun S' => S'.1 n = 2) (measF body kc k n S)
  | 0, _, _, _, _, _, h => by omega
  | k + 1, n, S, hn, hI, h1, hz => by
    unfold measF
    by_cases c1 : S.1 n = 1
    · rw [if_pos c1]
      exact ⟨false, S, rfl, fun h => (by cases h), fun _ => ⟨n, hn, (h1 n c1).2⟩⟩
    rw [if_neg c1]
    by_cases c2 : S.1 n = 2
    · rw [if_pos c2]
      exact ⟨true, S, rfl, fun _ => ⟨hI, Kept.refl S, c2⟩, fun h => by cases h⟩
    rw [if_neg c2]
    have c0 : S.1 n = 0 := by have := hI.st n; omega
    have ne2 : ∀ m, upd S.1 n 1 m = 2 ↔ S.1 m = 2 := by
      intro m; unfold upd
      by_cases hm : m = n
      · subst hm; simp; omega
      simp [hm]
    have hI1 : Inv cl body (upd S.1 n 1, S.2.1, S.2.2) :=
      ⟨fun m => by
          show upd S.1 n 1 m = 0 ∨ _
          unfold upd
          by_cases hm : m = n
          · simp [hm]
          simp only [hm, if_false]; exact hI.st m,
        fun m hm => hI.sz m ((ne2 m).mp hm), fun m hm c hc => (ne2 c).mpr (hI.down m ((ne2 m).mp hm) c hc), fun m hm => hI.acc m ((ne2 m).mp hm), fun m hm => hI.eq m ((ne2 m).mp hm)⟩
    have hz1 : nums.countP (fun m => upd S.1 n 1 m == 0) < nums.countP (fun m => S.1 m == 0) := by
      refine countP_lt0 _ (fun y _ hy => ?_) ⟨n, hn, ?_, ?_⟩
      · unfold upd at hy
        by_cases hm : y = n
        · simp [hm] at hy
        simpa [hm] using hy
      · simp [upd]
      simp [c0]
    obtain ⟨b', S', e, ht, hf⟩ := measL_ok (kc := kc) (n := n) k (measF_ok hok hin k) (body n) (upd S.1 n 1, S.2.1, S.2.2) (fun _ h => h) (hok n hn) (hin n hn) hI1 (fun a ha => by
      by_cases hm : a = n
      · subst hm; exact ⟨hn, Or.inl rfl⟩
      have ha' : S.1 a = 1 := by have : upd S.1 n 1 a = 1 := ha; unfold upd at this; simpa [hm] using this
      exact ⟨(h1 a ha').1, Or.inr (h1 a ha').2⟩) (by show nums.countP (fun m => upd S.1 n 1 m == 0) < k; omega)
    rw [e]
    simp only [Option.bind_some]
    cases b' with
    | false => exact ⟨false, S', by simp, fun h => (by cases h), fun _ => hf rfl⟩
    | true =>
      obtain ⟨i1, i2, i3⟩ := ht rfl
      simp only [if_true]
      have hsz : ∀ b ∈ body n, ∀ m t, cl b = some (m, t) → 0 ≤ S'.2.2 m ∧ S'.2.2 m ≤ 20001 := fun b hb m t hm => i1.sz m (i3 b hb m t hm)
      rw [sumL_eq (kc := kc) (cl := cl) (body n) 0 0 (by omega) (by omega) (hok n hn) hsz]
      have hsome : (sumS cl (fun n => some (S'.2.1 n, S'.2.2 n)) (body n) 0 0).isSome = true := (sumS_some _ _ _).mpr (fun _ _ _ _ _ => rfl)
      obtain ⟨r, hr⟩ := Option.isSome_iff_exists.mp hsome
      have hone : S'.1 n = 1 := (i2.ones n).mpr (by show upd S.1 n 1 n = 1; simp [upd])
      have hr2 : 0 ≤ r.2 ∧ r.2 ≤ 20001 := sumS_bound _ _ _ _ (fun b hb m t hm => ⟨by have := ((hok n hn b hb).call m t hm).2.2; unfold IN at this; omega, fun r hr => by injection hr with hr; subst hr; exact (hsz b hb m t hm).1⟩) (by omega) (by omega) hr
      have cs : ∀ c, Cal cl body c n → S'.1 c = 2 := fun c ⟨b, hb, t, hm⟩ => i3 b hb c t hm
      have up : ∀ (f : Int → Int) (v m : Int), m ≠ n → upd f n v m = f m := fun f v m hm => by unfold upd; simp [hm]
      have un : ∀ (f : Int → Int) (v : Int), upd f n v n = v := fun f v => by unfold upd; simp
      have hne : ∀ m, S'.1 m = 2 → m ≠ n := fun m hm e => by subst e; omega
      have keepEq : ∀ m, (∀ c, Cal cl body c m → S'.1 c = 2) → sumS cl (fun x => some (upd S'.2.1 n r.1 x, upd S'.2.2 n r.2 x)) (body m) 0 0 = sumS cl (fun x => some (S'.2.1 x, S'.2.2 x)) (body m) 0 0 := by
        intro m hm
        refine sumS_congr _ _ _ (fun b hb c t hc => ?_)
        have := hne c (hm c ⟨b, hb, t, hc⟩)
        rw [up _ _ _ this, up _ _ _ this]
      have hacc : Acc (Cal cl body) n := ⟨_, fun c hc => i1.acc c (cs c hc)⟩
      rw [hr]
      refine ⟨true, _, rfl, fun _ => ⟨⟨?_, ?_, ?_, ?_, ?_⟩, ⟨?_, ?_, ?_⟩, un _ _⟩, fun h => by cases h⟩
      · intro m
        show upd S'.1 n 2 m = 0 ∨ upd S'.1 n 2 m = 1 ∨ upd S'.1 n 2 m = 2
        by_cases hm : m = n
        · subst hm; rw [un]; omega
        rw [up _ _ _ hm]; exact i1.st m
      · intro m hm
        show 0 ≤ upd S'.2.2 n r.2 m ∧ upd S'.2.2 n r.2 m ≤ 20001
        by_cases hmn : m = n
        · subst hmn; rw [un]; exact hr2
        rw [up _ _ _ hmn]; exact i1.sz m (by rw [← up S'.1 2 m hmn]; exact hm)
      · intro m hm c hc
        show upd S'.1 n 2 c = 2
        by_cases hcn : c = n
        · subst hcn; rw [un]
        rw [up _ _ _ hcn]
        by_cases hmn : m = n
        · subst hmn; exact cs c hc
        exact i1.down m (by rw [← up S'.1 2 m hmn]; exact hm) c hc
      · intro m hm
        by_cases hmn : m = n
        · subst hmn; exact hacc
        exact i1.acc m (by rw [← up S'.1 2 m hmn]; exact hm)
      · intro m hm
        show sumS cl (fun x => some (upd S'.2.1 n r.1 x, upd S'.2.2 n r.2 x)) (body m) 0 0 = some (upd S'.2.1 n r.1 m, upd S'.2.2 n r.2 m)
        by_cases hmn : m = n
        · subst hmn; rw [keepEq m cs, un, un]; exact hr
        have h2 : S'.1 m = 2 := by rw [← up S'.1 2 m hmn]; exact hm
        rw [keepEq m (i1.down m h2), up _ _ _ hmn, up _ _ _ hmn]
        exact i1.eq m h2
      · intro m
        show upd S'.1 n 2 m = 1 ↔ S.1 m = 1
        by_cases hmn : m = n
        · subst hmn; rw [un]; omega
        rw [up _ _ _ hmn]
        refine (i2.ones m).trans ?_
        show upd S.1 n 1 m = 1 ↔ _
        rw [up _ _ _ hmn]
      · intro m hm
        show upd S'.1 n 2 m = 2
        by_cases hmn : m = n
        · subst hmn; rw [un]
        rw [up _ _ _ hmn]; exact i2.twos m ((ne2 m).mpr hm)
      refine Nat.le_trans ?_ (Nat.le_trans i2.zero (Nat.le_of_lt hz1))
      refine List.countP_mono_left (fun m _ h => ?_)
      replace h : (upd S'.1 n 2 m == 0) = true := h
      by_cases hmn : m = n
      · subst hmn; rw [un] at h; simp at h
      rw [up _ _ _ hmn] at h; exact h
theorem measAll_ok {k : Nat} (hok : ∀ n ∈ nums, ∀ b ∈ body n, Ok k cl b) (hin : ∀ n ∈ nums, ∀ b ∈ body n, ∀ m t, cl b = some (m, t) → m ∈ nums) (hk : nums.length < k) :
    ∀ (l : List Sb) (S : St3), (∀ x ∈ l, x.f0 ∈ nums ∧ IN x.f0) → Inv cl body S → (∀ a, ¬ S.1 a = 1) → ∃ b S', measAll body k l S = some (b, S') ∧ (b = true → Inv cl body S' ∧ (∀ m, S.1 m = 2 → S'.1 m = 2) ∧ ∀ x ∈ l, S'.1 x.f0 = 2) ∧ (b = false → Cyc cl body nums)
  | [], S, _, hI, _ => ⟨true, S, rfl, fun _ => ⟨hI, fun _ h => h, fun n h => by cases h⟩, fun h => by cases h⟩
  | x :: l, S, hl, hI, h1 => by
    obtain ⟨hn, hIN⟩ := hl x List.mem_cons_self
    obtain ⟨b, S1, e, ht, hf⟩ := measF_ok hok hin k x.f0 S hn hI (fun a ha => absurd ha (h1 a)) (Nat.lt_of_le_of_lt List.countP_le_length hk)
    rw [measAll, if_pos hIN, e]
    simp only [Option.bind_some]
    cases b with
    | false => exact ⟨false, S1, by simp, fun h => (by cases h), fun _ => hf rfl⟩
    | true =>
      obtain ⟨i1, i2, i3⟩ := ht rfl
      simp only [if_true]
      obtain ⟨b', S', e', ht', hf'⟩ := measAll_ok hok hin hk l S1 (fun n h => hl n (List.mem_cons_of_mem _ h)) i1 (fun a ha => h1 a ((i2.ones a).mp ha))
      refine ⟨b', S', e', fun hb => ?_, hf'⟩
      obtain ⟨j1, j2, j3⟩ := ht' hb
      refine ⟨j1, fun m hm => j2 m (i2.twos m hm), fun m hm => ?_⟩
      rcases List.mem_cons.mp hm with rfl | hm
      · exact j2 _ i3
      exact j3 m hm
theorem Inv.start : Inv cl body (fun _ => 0, fun _ => 0, fun _ => 0) :=
  ⟨fun _ => Or.inl rfl, fun _ h => absurd (show (0 : Int) = 2 from h) (by decide), fun _ h => absurd (show (0 : Int) = 2 from h) (by decide), fun _ h => absurd (show (0 : Int) = 2 from h) (by decide), fun _ h => absurd (show (0 : Int) = 2 from h) (by decide)⟩
end
section
variable {α : Type} {cl : Bk → Option (Int × Int)} {body : Int → List Bk} {nums : List Int}
structure Round (cl : Bk → Option (Int × Int)) (body : Int → List Bk) (nums : List Int) (σ σ' : Int → Option α) : Prop where
  mono : ∀ n ∈ nums, (σ n).isSome = true → (σ' n).isSome = true
  prog : ∀ n ∈ nums, (∀ c, Cal cl body c n → (σ c).isSome = true) → (σ' n).isSome = true
theorem first_open (hin : ∀ n ∈ nums, ∀ c, Cal cl body c n → c ∈ nums) (σ : Int → Option α) {n : Int} (h : Acc (Cal cl body) n) : n ∈ nums → σ n = none → ∃ m ∈ nums, σ m = none ∧ ∀ c, Cal cl body c m → (σ c).isSome = true := by
  induction h with
  | intro n _ ih =>
    intro hn h0
    by_cases hc : ∃ c, Cal cl body c n ∧ σ c = none
    · obtain ⟨c, h1, h2⟩ := hc
      exact ih c h1 (hin n hn c h1) h2
    refine ⟨n, hn, h0, fun c h1 => ?_⟩
    cases h2 : σ c with
    | none => exact absurd ⟨c, h1, h2⟩ hc
    | some _ => rfl
theorem round_step (hin : ∀ n ∈ nums, ∀ c, Cal cl body c n → c ∈ nums) {σ σ' : Int → Option α} (hr : Round cl body nums σ σ') {i L : Nat} (h : (∀ n ∈ nums, Acc (Cal cl body) n → (σ n).isSome = true) ∨ nums.countP (fun n => (σ n).isNone) + i ≤ L) : (∀ n ∈ nums, Acc (Cal cl body) n → (σ' n).isSome = true) ∨ nums.countP (fun n => (σ' n).isNone) + (i + 1) ≤ L := by
  rcases h with h | h
  · exact .inl (fun n hn ha => hr.mono n hn (h n hn ha))
  by_cases h0 : ∃ m ∈ nums, Acc (Cal cl body) m ∧ σ m = none
  · obtain ⟨m, hm, hma, hm0⟩ := h0
    obtain ⟨p, hp, hp0, hpc⟩ := first_open hin σ hma hm hm0
    have lt := countP_lt0 (p := fun n => (σ' n).isNone) (q := fun n => (σ n).isNone) nums (fun y hyn hy => by
      cases h : σ y with
      | none => rfl
      | some _ => have := hr.mono y hyn (by rw [h]; rfl); cases h1 : σ' y with
        | none => rw [h1] at this; cases this
        | some _ => rw [h1] at hy; cases hy) ⟨p, hp, by
          have := hr.prog p hp hpc
          cases h1 : σ' p with
          | none => rw [h1] at this; cases this
          | some _ => rfl, by rw [hp0]; rfl⟩
    exact .inr (by omega)
  refine .inl (fun n hn ha => hr.mono n hn ?_)
  cases h2 : σ n with
  | none => exact absurd ⟨n, hn, ha, h2⟩ h0
  | some _ => rfl
theorem round_last {σ : Int → Option α} {L : Nat} (h : (∀ n ∈ nums, Acc (Cal cl body) n → (σ n).isSome = true) ∨ nums.countP (fun n => (σ n).isNone) + L ≤ L) : ∀ n ∈ nums, Acc (Cal cl body) n → (σ n).isSome = true := by
  rcases h with h | h
  · exact h
  intro n hn _
  have h0 : nums.countP (fun n => (σ n).isNone) = 0 := by omega
  rw [List.countP_eq_zero] at h0
  have := h0 n hn
  cases h1 : σ n with
  | none => rw [h1] at this; exact absurd rfl this
  | some _ => rfl
end
section
variable {cl : Bk → Option (Int × Int)} {body : Int → List Bk}
theorem rep_length (t : Int) (x : List Bk) : (rep t x).length = t.toNat * x.length := by simp [rep]
def expS (cl : Bk → Option (Int × Int)) (V : Int → Option (List Bk)) : List Bk → Option (List Bk)
  | [] => some []
  | b :: l => match cl b with
    | none => (expS cl V l).map (fun y => b :: y)
    | some (n, t) => (V n).bind fun x => (expS cl V l).map (fun y => rep t x ++ y)
theorem expS_congr {V V' : Int → Option (List Bk)} : ∀ (l : List Bk), (∀ b ∈ l, ∀ n t, cl b = some (n, t) → V n = V' n) → expS cl V l = expS cl V' l
  | [], _ => rfl
  | b :: l, h => by
    have ih := expS_congr (V := V) (V' := V') l (fun b hb => h b (List.mem_cons_of_mem _ hb))
    unfold expS
    cases hc : cl b with
    | none => rw [ih]
    | some p =>
      obtain ⟨n, t⟩ := p
      simp only [h b List.mem_cons_self n t hc, ih]
theorem expS_some {V : Int → Option (List Bk)} : ∀ (l : List Bk), (expS cl V l).isSome = true ↔ ∀ b ∈ l, ∀ n t, cl b = some (n, t) → (V n).isSome = true
  | [] => by simp [expS]
  | b :: l => by
    have ih := expS_some (V := V) l
    unfold expS
    cases hc : cl b with
    | none => simp only [Option.isSome_map, ih, List.mem_cons]; constructor
              · rintro h c (rfl | hc') n t hn
                · rw [hc] at hn; cases hn
                exact h c hc' n t hn
              exact fun h c hc' => h c (Or.inr hc')
    | some p =>
      obtain ⟨n, t⟩ := p
      simp only
      cases hv : V n with
      | none =>
        simp only [Option.bind_none]
        constructor
        · intro h; cases h
        intro h; have := h b List.mem_cons_self n t hc; rw [hv] at this; cases this
      | some q =>
        simp only [Option.bind_some, Option.isSome_map, ih, List.mem_cons]; constructor
        · rintro h c (rfl | hc') m u hn
          · rw [hc] at hn; injection hn with hn; injection hn with h1 h2; subst h1; rw [hv]; rfl
          exact h c hc' m u hn
        exact fun h c hc' => h c (Or.inr hc')
open Classical in
noncomputable def tab (cl : Bk → Option (Int × Int)) (body : Int → List Bk) {n : Int} (h : Acc (Cal cl body) n) : List Bk :=
  Acc.rec (motive := fun _ _ => List Bk) (fun n _ ih => (expS cl (fun c => if h : Cal cl body c n then some (ih c h) else none) (body n)).getD []) h
open Classical in
noncomputable def X (cl : Bk → Option (Int × Int)) (body : Int → List Bk) (n : Int) : List Bk := if h : Acc (Cal cl body) n then tab cl body h else []
theorem X_eq {n : Int} (h : Acc (Cal cl body) n) : expS cl (fun c => some (X cl body c)) (body n) = some (X cl body n) := by
  have hs : (expS cl (fun c => some (X cl body c)) (body n)).isSome = true := (expS_some _).mpr (fun _ _ _ _ _ => rfl)
  obtain ⟨r, hr⟩ := Option.isSome_iff_exists.mp hs
  have : X cl body n = (expS cl (fun c => some (X cl body c)) (body n)).getD [] := by
    conv => lhs; unfold X
    rw [dif_pos h]
    cases h with
    | intro n h =>
      show (expS cl _ (body n)).getD [] = _
      congr 1
      refine expS_congr _ (fun b hb c t hc => ?_)
      have hcal : Cal cl body c n := ⟨b, hb, t, hc⟩
      rw [dif_pos hcal]
      unfold X
      rw [dif_pos (h c hcal)]
      rfl
  rw [this, hr]; rfl
open Classical in
noncomputable def tabT (cl : Bk → Option (Int × Int)) (body : Int → List Bk) {n : Int} (h : Acc (Cal cl body) n) : Int × Int :=
  Acc.rec (motive := fun _ _ => Int × Int) (fun n _ ih => (sumS cl (fun c => if h : Cal cl body c n then some (ih c h) else none) (body n) 0 0).getD (0, 0)) h
open Classical in
noncomputable def TT (cl : Bk → Option (Int × Int)) (body : Int → List Bk) (n : Int) : Int × Int := if h : Acc (Cal cl body) n then tabT cl body h else (0, 0)
theorem TT_eq {n : Int} (h : Acc (Cal cl body) n) : sumS cl (fun c => some (TT cl body c)) (body n) 0 0 = some (TT cl body n) := by
  have hs : (sumS cl (fun c => some (TT cl body c)) (body n) 0 0).isSome = true := (sumS_some _ _ _).mpr (fun _ _ _ _ _ => rfl)
  obtain ⟨r, hr⟩ := Option.isSome_iff_exists.mp hs
  have : TT cl body n = (sumS cl (fun c => some (TT cl body c)) (body n) 0 0).getD (0, 0) := by
    conv => lhs; unfold TT
    rw [dif_pos h]
    cases h with
    | intro n h =>
      show (sumS cl _ (body n) 0 0).getD (0, 0) = _
      congr 1
      refine sumS_congr _ _ _ (fun b hb c t hc => ?_)
      have hcal : Cal cl body c n := ⟨b, hb, t, hc⟩
      rw [dif_pos hcal]
      unfold TT
      rw [dif_pos (h c hcal)]
      rfl
  rw [this, hr]; rfl
theorem mn_mul {t a : Int} (ht : 1 ≤ t) (ha : 0 ≤ a) : mn (t * mn a 20001) 20001 = mn (t * a) 20001 := by
  unfold mn
  by_cases h : (20001 : Int) < a
  · rw [if_pos h]
    have h1 : (20001 : Int) ≤ t * 20001 := by omega
    have h2 : (20001 : Int) < t * a := by
      have : 1 * a ≤ t * a := Int.mul_le_mul_of_nonneg_right ht ha
      omega
    rw [if_pos h2]
    split <;> omega
  rw [if_neg h]
theorem sum_exp {V : Int → Option (Int × Int)} {E : Int → List Bk} : ∀ (l : List Bk) (d s : Int) (r : Int × Int) (y : List Bk), (∀ b ∈ l, ∀ n t, cl b = some (n, t) → 1 ≤ t ∧ ∀ q, V n = some q → q.2 = mn ((E n).length : Int) 20001) → 0 ≤ s → s ≤ 20001 →
    sumS cl V l d s = some r → expS cl (fun n => some (E n)) l = some y → r.2 = mn (s + (y.length : Int)) 20001
  | [], d, s, r, y, _, h0, h1, hr, hy => by
    simp [sumS] at hr; simp [expS] at hy; subst hr hy
    simp [mn]; omega
  | b :: l, d, s, r, y, hl, h0, h1, hr, hy => by
    have hl' := fun b hb => hl b (List.mem_cons_of_mem _ hb)
    unfold sumS at hr
    unfold expS at hy
    cases hc : cl b with
    | none =>
      simp only [hc] at hr hy
      obtain ⟨y', hy', rfl⟩ := Option.map_eq_some_iff.mp hy
      have := sum_exp l _ _ r y' hl' (by unfold mn; split <;> omega) (by unfold mn; split <;> omega) hr hy'
      rw [this]
      simp only [List.length_cons]
      unfold mn
      repeat (first | omega | split)
    | some p =>
      obtain ⟨n, t⟩ := p
      simp only [hc, Option.bind_some] at hr hy
      obtain ⟨y', hy', rfl⟩ := Option.map_eq_some_iff.mp hy
      obtain ⟨ht, hq⟩ := hl b List.mem_cons_self n t hc
      cases hv : V n with
      | none => rw [hv] at hr; cases hr
      | some q =>
        simp only [hv] at hr
        have e := hq q hv
        rw [e, mn_mul ht (by omega)] at hr
        have hm : 0 ≤ t * ((E n).length : Int) := Int.mul_nonneg (by omega) (by omega)
        have := sum_exp l _ _ r y' hl' (by unfold mn; repeat (first | omega | split)) (by unfold mn; repeat (first | omega | split)) hr hy'
        rw [this, List.length_append, rep_length]
        have e2 : ((t.toNat * (E n).length : Nat) : Int) = t * ((E n).length : Int) := by rw [Int.natCast_mul, Int.toNat_of_nonneg (by omega)]
        rw [Int.natCast_add, e2]
        generalize t * ((E n).length : Int) = z at *
        unfold mn
        repeat (first | omega | split)
end
section
variable {cl : Bk → Option (Int × Int)} {body : Int → List Bk} {kc : Nat} {nums : List Int}
def DI (cl : Bk → Option (Int × Int)) (body : Int → List Bk) (nums : List Int) (D : Done) : Prop := ∀ n x, D n = some x → n ∈ nums ∧ x = X cl body n
theorem DI.start : DI cl body nums (fun _ => none) := fun _ _ h => by cases h
theorem DI.upd {D : Done} (h : DI cl body nums D) {n : Int} (hn : n ∈ nums) : DI cl body nums (updD D n (X cl body n)) := by
  intro m x hm
  unfold updD at hm
  by_cases e : m = n
  · subst e; simp at hm; exact ⟨hn, hm.symm⟩
  rw [if_neg e] at hm; exact h m x hm
theorem rep_nil {t : Int} {x : List Bk} (h : x.length = 0) : rep t x = [] := by
  have : x = [] := List.length_eq_zero_iff.mp h
  subst this
  exact List.length_eq_zero_iff.mp (by rw [rep_length]; simp)
def Good (kc : Nat) (cl : Bk → Option (Int × Int)) (body : Int → List Bk) (nums : List Int) (n : Int) : Prop :=
  ∃ k0, ∀ k, k0 ≤ k → ∀ D, DI cl body nums D → (X cl body n).length ≤ 20000 → ∃ D', DI cl body nums D' ∧ expF kc body k (body n) D = some (X cl body n, D')
theorem expL_ok : ∀ (l : List Bk), (∀ b ∈ l, Ok kc cl b) → (∀ b ∈ l, ∀ n t, cl b = some (n, t) → n ∈ nums ∧ Good kc cl body nums n) →
    ∃ k0, ∀ k, k0 ≤ k → ∀ (out : List Bk) (D : Done) (y : List Bk), DI cl body nums D → expS cl (fun c => some (X cl body c)) l = some y → out.length + y.length ≤ 20000 → ∃ D', DI cl body nums D' ∧ expL kc (expF kc body k) body l out D = some (out ++ y, D')
  | [], _, _ => ⟨0, fun k _ out D y hD hy hlen => ⟨D, hD, by simp [expS] at hy; subst hy; simp [expL]⟩⟩
  | b :: l, hok, hin => by
    obtain ⟨k1, ih⟩ := expL_ok l (fun b hb => hok b (List.mem_cons_of_mem _ hb)) (fun b hb => hin b (List.mem_cons_of_mem _ hb))
    have hb := hok b List.mem_cons_self
    cases hc : cl b with
    | none =>
      refine ⟨k1, fun k hk out D y hD hy hlen => ?_⟩
      unfold expS at hy
      simp only [hc] at hy
      obtain ⟨y', hy', rfl⟩ := Option.map_eq_some_iff.mp hy
      simp only [List.length_cons] at hlen
      obtain ⟨D', h1, h2⟩ := ih k hk (out ++ [b]) D y' hD hy' (by simp; omega)
      refine ⟨D', h1, ?_⟩
      unfold expL
      rw [hb.plain hc]
      simp only [Option.bind_some, Bool.false_eq_true, if_false]
      rw [if_pos (by omega), h2]
      simp
    | some p =>
      obtain ⟨n, t⟩ := p
      obtain ⟨hcf, hn, ht⟩ := hb.call n t hc
      obtain ⟨hnn, k2, hg⟩ := hin b List.mem_cons_self n t hc
      refine ⟨max k1 k2, fun k hk out D y hD hy hlen => ?_⟩
      unfold expS at hy
      simp only [hc, Option.bind_some] at hy
      obtain ⟨y', hy', rfl⟩ := Option.map_eq_some_iff.mp hy
      rw [List.length_append, rep_length] at hlen
      have ht1 : 1 ≤ t.toNat := by unfold IN at ht; omega
      have hx : (X cl body n).length ≤ t.toNat * (X cl body n).length := Nat.le_mul_of_pos_left _ (by omega)
      have key : ∃ D1, DI cl body nums D1 ∧ (match D n with | some x => some (x, D) | none => (expF kc body k (body n) D).map fun (p : List Bk × Done) => (p.1, updD p.2 n p.1)) = some (X cl body n, D1) := by
        cases hd : D n with
        | some x => exact ⟨D, hD, by rw [(hD n x hd).2]⟩
        | none =>
          obtain ⟨D1, h1, h2⟩ := hg k (by omega) D hD (by omega)
          exact ⟨_, h1.upd hnn, by simp only [h2, Option.map_some]⟩
      obtain ⟨D1, hD1, he⟩ := key
      unfold expL
      rw [hcf]
      simp only [Option.bind_some, if_true, if_pos hn, if_pos ht]
      have goal : ∀ o : Option (List Bk × Done), o = some (X cl body n, D1) → ∃ D', DI cl body nums D' ∧ (o.bind fun q => if q.1.length = 0 then expL kc (expF kc body k) body l out q.2 else if out.length + t.toNat * q.1.length ≤ 100000 then expL kc (expF kc body k) body l (out ++ rep t q.1) q.2 else none) = some (out ++ (rep t (X cl body n) ++ y'), D') := by
        intro o ho
        rw [ho]
        simp only [Option.bind_some]
        by_cases h0 : (X cl body n).length = 0
        · rw [if_pos h0, rep_nil h0]
          obtain ⟨D', h1, h2⟩ := ih k (by omega) out D1 y' hD1 hy' (by omega)
          exact ⟨D', h1, by simpa using h2⟩
        rw [if_neg h0, if_pos (by omega)]
        obtain ⟨D', h1, h2⟩ := ih k (by omega) (out ++ rep t (X cl body n)) D1 y' hD1 hy' (by rw [List.length_append, rep_length]; omega)
        exact ⟨D', h1, by rw [h2, List.append_assoc]⟩
      exact goal _ he
theorem good_all (hok : ∀ n ∈ nums, ∀ b ∈ body n, Ok kc cl b) (hin : ∀ n ∈ nums, ∀ c, Cal cl body c n → c ∈ nums) {n : Int} (h : Acc (Cal cl body) n) : n ∈ nums → Good kc cl body nums n := by
  have ha := h
  induction h with
  | intro n hh ih =>
    intro hn
    obtain ⟨k0, hk⟩ := expL_ok (kc := kc) (cl := cl) (body := body) (nums := nums) (body n) (hok n hn) (fun b hb c t hc => ⟨hin n hn c ⟨b, hb, t, hc⟩, ih c ⟨b, hb, t, hc⟩ (hh c ⟨b, hb, t, hc⟩) (hin n hn c ⟨b, hb, t, hc⟩)⟩)
    refine ⟨k0 + 1, fun k hk' D hD hlen => ?_⟩
    obtain ⟨k, rfl⟩ : ∃ m, k = m + 1 := ⟨k - 1, by omega⟩
    obtain ⟨D', h1, h2⟩ := hk k (by omega) [] D (X cl body n) hD (X_eq ha) (by simpa using hlen)
    exact ⟨D', h1, by simpa [expF] using h2⟩
theorem expand_ok (hok : ∀ n ∈ nums, ∀ b ∈ body n, Ok kc cl b) (hin : ∀ n ∈ nums, ∀ c, Cal cl body c n → c ∈ nums) (hacc : ∀ n ∈ nums, Acc (Cal cl body) n) (l : List Bk) (hl : ∀ b ∈ l, Ok kc cl b) (hln : ∀ b ∈ l, ∀ n t, cl b = some (n, t) → n ∈ nums)
    (y : List Bk) (hy : expS cl (fun c => some (X cl body c)) l = some y) (hlen : y.length ≤ 20000) : ∃ k0, ∀ k, k0 ≤ k → ∃ D', expF kc body k l (fun _ => none) = some (y, D') := by
  obtain ⟨k0, hk⟩ := expL_ok (kc := kc) (cl := cl) (body := body) (nums := nums) l hl (fun b hb c t hc => ⟨hln b hb c t hc, good_all hok hin (hacc c (hln b hb c t hc)) (hln b hb c t hc)⟩)
  refine ⟨k0 + 1, fun k hk' => ?_⟩
  obtain ⟨k, rfl⟩ : ∃ m, k = m + 1 := ⟨k - 1, by omega⟩
  obtain ⟨D', _, h2⟩ := hk k (by omega) [] (fun _ => none) y DI.start hy (by simpa using hlen)
  exact ⟨D', by simpa [expF] using h2⟩
end
end Go.Proofs.Ytehkhbnhmehobaa.P
namespace Go.Proofs.Ytehkhbnhmehobaa.P
open Go.RowKit Go.ChangeShapes Go.WideShapes Go.Proofs.YtehkhbnhmehobaaW.PrintWords Go.Proofs.YtehkhbnhmehobaaW.PrintLast Go.Proofs.YtehkhbnhmehobaaW.PrintMore
set_option linter.unusedVariables false
section
variable {H : Type} {enc : TypeId × Value → H} {w : World} {base : Nat} {spare : Nat → Bool} {held : Bool} {r : Reach} {b0 : Nat} {v : Value} {d : DataW H} {p : List MemPlace}
end
end Go.Proofs.Ytehkhbnhmehobaa.P
namespace Go.Proofs.Ytehkhbnhmehobaa.P
open Go.RowKit Go.Proofs.YtehkhbnhmehobaaW.PrintWords Go.Proofs.YtehkhbnhmehobaaW.PrintLast Go.Proofs.YtehkhbnhmehobaaW.PrintMore
attribute [local go_sem] max2_int min2_int max_two min_two max_three min_three max_four min_four
set_option linter.unusedVariables false
set_option linter.unusedSimpArgs false
end Go.Proofs.Ytehkhbnhmehobaa.P
namespace Go.Proofs.Ytehkhbnhmehobaa.P
open Go.RowKit Go.Proofs.YtehkhbnhmehobaaW.PrintWords Go.Proofs.YtehkhbnhmehobaaW.PrintLast Go.Proofs.YtehkhbnhmehobaaW.PrintMore
set_option linter.unusedVariables false
set_option linter.unusedSimpArgs false
def goodL (l : List Bk) : Prop := l.length ≤ 40 ∧ ∀ b ∈ l, goodB b
def goodP (m : List Bk) (s : List Rb) : Prop := goodL m ∧ s.length ≤ 12 ∧ ∀ x ∈ s, goodL x.f1
def sOf (s : Rb) : Sb := ⟨s.f0, s.f1⟩
end Go.Proofs.Ytehkhbnhmehobaa.P
namespace Go.Proofs.Ytehkhbnhmehobaa.P
open Go.RowKit Go.Proofs.YtehkhbnhmehobaaW.PrintWords Go.Proofs.YtehkhbnhmehobaaW.PrintLast Go.Proofs.YtehkhbnhmehobaaW.PrintMore
attribute [local go_sem] max2_int min2_int max_two min_two max_three min_three max_four min_four
set_option linter.unusedVariables false
set_option linter.unusedSimpArgs false
def subprogram_beginning.f (a0_0 : Bool) (l0_1 : List (S78)) (a0_2 : ByteArray) : Option (Int × Bool) := (subprogram_plain.f a0_0 l0_1 a0_2).bind fun t450 => (if t450 = true then (if 0 < (l0_1.length : Int) then (if ((rd_T78 l0_1 0).f0) = 79 then ((subprogram_whole.f ((rd_T78 l0_1 0).f1)).bind fun bt453 => (some (bt453.1, bt453.2))) else (some (0, false))) else (none)) else (some (0, false)))
set_option maxHeartbeats 8000000 in
set_option maxRecDepth 100000 in
theorem subprogram_beginning.calls (a0_0 : Bool) (A0_1 : Option Addr) (c0_1 : Nat) (l0_1 : List (S78)) (a0_2 : ByteArray) (r1 : Int) (r2 : Bool) (w : World) (hr0_1 : Kd.C k78 w A0_1 l0_1.length l0_1) (hc0_1 : l0_1.length ≤ c0_1) (h : subprogram_beginning.f a0_0 l0_1 a0_2 = some (r1, r2)) :
  Calls Try.prog 76 #[.agg #[.bool a0_0, .slice A0_1 l0_1.length c0_1, .string a0_2]] w fun e w' => e = .returned (.tuple #[.int .i64 r1, .bool r2]) ∧ Below w.heap.size w w' := by
 have hu32 := Try.underlying32
 have HR0_1 := Aside0.mk hr0_1
 have HC0_1 := Aside0.mk hc0_1
 clear hr0_1 hc0_1
 have HB := Aside0.mk (Below.refl w.heap.size w)
 have H : ((subprogram_plain.f a0_0 l0_1 a0_2).bind fun t450 => (if t450 = true then (if 0 < (l0_1.length : Int) then (if ((rd_T78 l0_1 0).f0) = 79 then ((subprogram_whole.f ((rd_T78 l0_1 0).f1)).bind fun bt453 => (some (bt453.1, bt453.2))) else (some (0, false))) else (none)) else (some (0, false)))) = some (r1, r2) := h
 clear h
 replace H := Option.bind_eq_some_iff.mp H
 obtain ⟨t450, A20, H⟩ := H
 have A2 := Aside0.mk A20
 clear A20
 by_cases c3 : t450 = true
 ·subst c3
  rw [if_pos rfl] at H
  by_cases c4 : 0 < (l0_1.length : Int)
  ·rw [if_pos c4] at H
   have c4b0 := decide_eq_true c4
   have c4b1 : decide (0 < l0_1.length) = true := decide_eq_true (by omega)
   clear c4
   by_cases c5 : ((rd_T78 l0_1 0).f0) = 79
   ·rw [if_pos c5] at H
    have c5b0 : (((rd_T78 l0_1 0).f0) == 79) = true := beq_iff_eq.mpr c5
    have c5b1 : (((rd_T78 l0_1 0).f0) != 79) = false := bne_eq_false_iff_eq.mpr c5
    clear c5
    replace H := Option.bind_eq_some_iff.mp H
    obtain ⟨⟨t453, t454⟩, A60, H⟩ := H
    have A6 := Aside0.mk A60
    clear A60
    simp only [Option.some.injEq, Prod.mk.injEq] at H
    obtain ⟨rfl, rfl⟩ := H
    go_enter Try.func76, Try.ntmps76
    go_wp2_with (first | ((with_reducible refine gate_dst (N := 1) rfl ?_); refine yX 1 #[.bool a0_0, .slice A0_1 l0_1.length c0_1, .string a0_2] 32 ?_; intro gb449 hg w7 hbox hb; have BK449 := Aside0.mk (hbox); have GW449 := Aside0.mk ((yG hg : w.heap.size ≤ gb449)); have GE449 := Aside0.mk ((yG hg : w.heap.size ≤ gb449)); replace HB := Aside0.mk (below_step yB hb); clear hb hbox hg; have hcz8_0 := yZ0 BK449.out; have hcz8_1 := yZ1 BK449.out; have hcz8_2 := yZ2 BK449.out; have hfz8_0 := blk_frozen BK449.out 0; have hfz8_1 := blk_frozen BK449.out 1; have hfz8_2 := blk_frozen BK449.out 2) | ((with_reducible refine gate_callee (f := 78) rfl ?_); refine goesL_ (some 5) rfl rfl Try.func78 (by kernel_rfl) rfl #[.agg #[.bool a0_0, .slice A0_1 l0_1.length c0_1, .string a0_2]] rfl yQ ?_; (with_reducible refine (subprogram_plain.calls a0_0 _ _ l0_1 a0_2 true _ ?side1 ?side2 A2.out).mono ?_); (case side1 => exact yC HR0_1.out); (case side2 => exact HC0_1.out); rintro e w9 ⟨rfl, hb⟩; refine ⟨_, rfl, ?_⟩; replace BK449 := Aside0.mk (blk_below (g := gb449) yK hb); replace HB := Aside0.mk (below_step yB hb); (try clear hb); have hcz10_0 := yZ0 BK449.out; have hcz10_1 := yZ1 BK449.out; have hcz10_2 := yZ2 BK449.out; have hfz10_0 := blk_frozen BK449.out 0; have hfz10_1 := blk_frozen BK449.out 1; have hfz10_2 := blk_frozen BK449.out 2; have p451 : 0 ≤ (0 : Int) := (by omega); have q451 : 0 < (l0_1.length : Int) := yD; obtain ⟨ad451, e451, hx451_0, hx451_1⟩ := at_T78 HR0_1.out 0 p451 q451; cases e451; have qi451 : (0 < l0_1.length) = True := eq_true (by omega); (try rw [show ((0 : Int)).toNat = 0 from rfl] at hx451_0); (try rw [show 0 * 2 = 0 from rfl] at hx451_0); (try rw [Addr.add_zero'] at hx451_0); (try rw [show ((0 : Int)).toNat = 0 from rfl] at hx451_1); (try rw [show 0 * 2 = 0 from rfl] at hx451_1); (try rw [Addr.add_zero'] at hx451_1); replace hx451_0 := yM HB.out hx451_0; replace hx451_1 := yM HB.out hx451_1; replace p451 := eq_true p451; replace q451 := eq_true q451; have p452 : 0 ≤ (0 : Int) := (by omega); have q452 : 0 < (l0_1.length : Int) := yD; obtain ⟨ad452, e452, hx452_0, hx452_1⟩ := at_T78 HR0_1.out 0 p452 q452; obtain rfl : ad451 = ad452 := (by injection e452); have qi452 : (0 < l0_1.length) = True := eq_true (by omega); (try rw [show ((0 : Int)).toNat = 0 from rfl] at hx452_0); (try rw [show 0 * 2 = 0 from rfl] at hx452_0); (try rw [Addr.add_zero'] at hx452_0); (try rw [show ((0 : Int)).toNat = 0 from rfl] at hx452_1); (try rw [show 0 * 2 = 0 from rfl] at hx452_1); (try rw [Addr.add_zero'] at hx452_1); replace hx452_0 := yM HB.out hx452_0; replace hx452_1 := yM HB.out hx452_1; replace p452 := eq_true p452; replace q452 := eq_true q452) | ((with_reducible refine gate_callee (f := 59) rfl ?_); refine goesL_ (some 20) rfl rfl Try.func59 (by kernel_rfl) rfl #[.int .i64 ((rd_T78 l0_1 0).f1)] rfl yQ ?_; (with_reducible refine (subprogram_whole.calls ((rd_T78 l0_1 0).f1) t453 t454 _ A6.out).mono ?_); rintro e w' ⟨rfl, ⟨nd, rfl⟩⟩; refine ⟨_, rfl, ?_⟩))
    go_ret2
    exact ⟨yE, yB⟩
   rw [if_neg c5] at H
   have c5b0 : (((rd_T78 l0_1 0).f0) == 79) = false := beq_eq_false_iff_ne.mpr c5
   have c5b1 : (((rd_T78 l0_1 0).f0) != 79) = true := bne_iff_ne.mpr c5
   simp only [Option.some.injEq, Prod.mk.injEq] at H
   obtain ⟨rfl, rfl⟩ := H
   go_enter Try.func76, Try.ntmps76
   go_wp2_with (first | ((with_reducible refine gate_dst (N := 1) rfl ?_); refine yX 1 #[.bool a0_0, .slice A0_1 l0_1.length c0_1, .string a0_2] 32 ?_; intro gb449 hg w11 hbox hb; have BK449 := Aside0.mk (hbox); have GW449 := Aside0.mk ((yG hg : w.heap.size ≤ gb449)); have GE449 := Aside0.mk ((yG hg : w.heap.size ≤ gb449)); replace HB := Aside0.mk (below_step yB hb); clear hb hbox hg; have hcz12_0 := yZ0 BK449.out; have hcz12_1 := yZ1 BK449.out; have hcz12_2 := yZ2 BK449.out; have hfz12_0 := blk_frozen BK449.out 0; have hfz12_1 := blk_frozen BK449.out 1; have hfz12_2 := blk_frozen BK449.out 2) | ((with_reducible refine gate_callee (f := 78) rfl ?_); refine goesL_ (some 5) rfl rfl Try.func78 (by kernel_rfl) rfl #[.agg #[.bool a0_0, .slice A0_1 l0_1.length c0_1, .string a0_2]] rfl yQ ?_; (with_reducible refine (subprogram_plain.calls a0_0 _ _ l0_1 a0_2 true _ ?side1 ?side2 A2.out).mono ?_); (case side1 => exact yC HR0_1.out); (case side2 => exact HC0_1.out); rintro e w13 ⟨rfl, hb⟩; refine ⟨_, rfl, ?_⟩; replace BK449 := Aside0.mk (blk_below (g := gb449) yK hb); replace HB := Aside0.mk (below_step yB hb); (try clear hb); have hcz14_0 := yZ0 BK449.out; have hcz14_1 := yZ1 BK449.out; have hcz14_2 := yZ2 BK449.out; have hfz14_0 := blk_frozen BK449.out 0; have hfz14_1 := blk_frozen BK449.out 1; have hfz14_2 := blk_frozen BK449.out 2; have p451 : 0 ≤ (0 : Int) := (by omega); have q451 : 0 < (l0_1.length : Int) := yD; obtain ⟨ad451, e451, hx451_0, hx451_1⟩ := at_T78 HR0_1.out 0 p451 q451; cases e451; have qi451 : (0 < l0_1.length) = True := eq_true (by omega); (try rw [show ((0 : Int)).toNat = 0 from rfl] at hx451_0); (try rw [show 0 * 2 = 0 from rfl] at hx451_0); (try rw [Addr.add_zero'] at hx451_0); (try rw [show ((0 : Int)).toNat = 0 from rfl] at hx451_1); (try rw [show 0 * 2 = 0 from rfl] at hx451_1); (try rw [Addr.add_zero'] at hx451_1); replace hx451_0 := yM HB.out hx451_0; replace hx451_1 := yM HB.out hx451_1; replace p451 := eq_true p451; replace q451 := eq_true q451))
   go_ret2
   exact ⟨yE, yB⟩
  rw [if_neg c4] at H
  exact absurd H (by simp)
 replace c3 := Bool.eq_false_iff.mpr c3
 subst c3
 replace H : (some (0, false)) = some (r1, r2) := by rw [if_neg (show ¬ (false = true) by decide)] at H; exact H
 simp only [Option.some.injEq, Prod.mk.injEq] at H
 obtain ⟨rfl, rfl⟩ := H
 go_enter Try.func76, Try.ntmps76
 go_wp2_with (first | ((with_reducible refine gate_dst (N := 1) rfl ?_); refine yX 1 #[.bool a0_0, .slice A0_1 l0_1.length c0_1, .string a0_2] 32 ?_; intro gb449 hg w15 hbox hb; have BK449 := Aside0.mk (hbox); have GW449 := Aside0.mk ((yG hg : w.heap.size ≤ gb449)); have GE449 := Aside0.mk ((yG hg : w.heap.size ≤ gb449)); replace HB := Aside0.mk (below_step yB hb); clear hb hbox hg; have hcz16_0 := yZ0 BK449.out; have hcz16_1 := yZ1 BK449.out; have hcz16_2 := yZ2 BK449.out; have hfz16_0 := blk_frozen BK449.out 0; have hfz16_1 := blk_frozen BK449.out 1; have hfz16_2 := blk_frozen BK449.out 2) | ((with_reducible refine gate_callee (f := 78) rfl ?_); refine goesL_ (some 5) rfl rfl Try.func78 (by kernel_rfl) rfl #[.agg #[.bool a0_0, .slice A0_1 l0_1.length c0_1, .string a0_2]] rfl yQ ?_; (with_reducible refine (subprogram_plain.calls a0_0 _ _ l0_1 a0_2 false _ ?side1 ?side2 A2.out).mono ?_); (case side1 => exact yC HR0_1.out); (case side2 => exact HC0_1.out); rintro e w17 ⟨rfl, hb⟩; refine ⟨_, rfl, ?_⟩; replace BK449 := Aside0.mk (blk_below (g := gb449) yK hb); replace HB := Aside0.mk (below_step yB hb); (try clear hb)))
 go_ret2
 exact ⟨yE, yB⟩
def subprogram_Split.l0 : Nat → List (S32) → List (S32) → List (S81) → Option ((List (S32)) × (List (S81)) × Int)
 | 0, _, _, _ => none
 | k + 1, x6, x466000, x466001 => if (x6.length : Int) > 0 then (if 0 < (x6.length : Int) then ((subprogram_beginning.f ((rd_T32 x6 0).f0) ((rd_T32 x6 0).f1) ((rd_T32 x6 0).f2)).bind fun bt472 => ((IndexFunc_back.f k x6).bind fun t474 => (if bt472.2 = true then (if t474 < 0 then (some (([] : List (S32)), ([] : List (S81)), 1)) else (if 1 ≤ t474 then (if t474 ≤ (x6.length : Int) then ((Clone_Block.f ((x6.take (t474 : Int).toNat).drop 1)).bind fun t480 => (if x466001.length < 4398046511104 then (if 0 ≤ (wrap64 (t474 + 1)) then (if (wrap64 (t474 + 1)) ≤ (x6.length : Int) then (subprogram_Split.l0 k (x6.drop ((wrap64 (t474 + 1)) : Int).toNat) x466000 (x466001 ++ [(⟨bt472.1, t480⟩ : S81)])) else (none)) else (none)) else (none))) else (none)) else (none))) else (some (([] : List (S32)), ([] : List (S81)), 1))))) else (none)) else ((subprogram_ordered.f k x466000 x466001).bind fun t491 => (if t491 = true then ((subprogram_repeated.f x466001).bind fun t492 => (if t492 = true then (some (([] : List (S32)), ([] : List (S81)), 5)) else (some (x466000, x466001, 0)))) else (some (([] : List (S32)), ([] : List (S81)), 1))))
def subprogram_Split.f (k : Nat) (l0 : List (S32)) : Option ((List (S32)) × (List (S81)) × Int) := (IndexFunc_end.f k l0).bind fun t456 => (if t456 < 0 then (some (([] : List (S32)), ([] : List (S81)), 1)) else (if 0 ≤ (wrap64 (t456 + 1)) then (if (wrap64 (t456 + 1)) ≤ (l0.length : Int) then ((Clone_Block.f (l0.take ((wrap64 (t456 + 1)) : Int).toNat)).bind fun t462 => (subprogram_Split.l0 k (l0.drop ((wrap64 (t456 + 1)) : Int).toNat) t462 ([] : List (S81)))) else (none)) else (none)))
def subprogram_Split.T11 : Bool × List (List Nat × List Nat) := (true, [([], []), ([0], [0]), ([], []), ([], []), ([], []), ([3, 4], [3, 4]), ([5], [5]), ([2, 6], [2, 6]), ([7], [7]), ([1, 8, 6], [1, 8]), ([0, 1, 2, 3, 4, 5, 6, 7, 8, 9], []), ([10, 9, 9, 0, 1, 2, 3, 4, 5, 6, 7, 8, 9], [9, 10])])
def subprogram_Split.B11 : List Nat := [0, 1, 0, 0, 0, 24, 56, 124, 252, 511, 1023, 2047]
theorem subprogram_Split.tab11 : rtab .any (opsOf Try.f45 11) = subprogram_Split.T11 := by kernel_rfl
theorem subprogram_Split.bits11 : waitsOk subprogram_Split.T11.2 subprogram_Split.B11 = true := by kernel_rfl
set_option maxHeartbeats 8000000 in
set_option maxRecDepth 100000 in
theorem subprogram_Split.calls (k : Nat) (P0_ : Nat → Prop) (A0 : Option Addr) (c0 : Nat) (l0 : List (S32)) (r1 : List (S32)) (r2 : List (S81)) (r3 : Int) (w : World) (hs0 : Kd.V k32 32 w w.heap.size (fun k_ => P0_ k_) (.slice A0 l0.length c0) l0) (h : subprogram_Split.f k l0 = some (r1, r2, r3)) :
  Calls Try.prog 45 #[.slice A0 l0.length c0] w fun e w' => ∃ v0_ v1_ : Value, e = .returned (.tuple #[.agg #[v0_, v1_], .int .i64 r3]) ∧ Kd.N k32 32 w' w.heap.size (fun k_ => (P0_ k_ ∨ w.heap.size ≤ k_) ∧ some k_ ≠ (v1_ : Value).ownBlock) v0_ r1 ∧ Kd.N k81 81 w' w.heap.size (fun k_ => (P0_ k_ ∨ w.heap.size ≤ k_) ∧ some k_ ≠ (v0_ : Value).ownBlock) v1_ r2 ∧ Below w.heap.size w w' := by
 have hu54 := Try.underlying54
 have hu32 := Try.underlying32
 have hu81 := Try.underlying81
 have HO0 := Aside0.mk (show Kd.V k32 32 w w.heap.size (fun k_ => (P0_ k_ ∨ w.heap.size ≤ k_)) (.slice A0 l0.length c0) l0 from Kd.V_mono hs0 (fun k_ hk => .inl hk))
 have HB := Aside0.mk (Below.refl w.heap.size w)
 have H : ((IndexFunc_end.f k l0).bind fun t456 => (if t456 < 0 then (some (([] : List (S32)), ([] : List (S81)), 1)) else (if 0 ≤ (wrap64 (t456 + 1)) then (if (wrap64 (t456 + 1)) ≤ (l0.length : Int) then ((Clone_Block.f (l0.take ((wrap64 (t456 + 1)) : Int).toNat)).bind fun t462 => (subprogram_Split.l0 k (l0.drop ((wrap64 (t456 + 1)) : Int).toNat) t462 ([] : List (S81)))) else (none)) else (none)))) = some (r1, r2, r3) := h
 clear h
 replace H := Option.bind_eq_some_iff.mp H
 obtain ⟨t456, A20, H⟩ := H
 have A2 := Aside0.mk A20
 clear A20
 by_cases c3 : t456 < 0
 ·rw [if_pos c3] at H
  have c3b0 := decide_eq_true c3
  clear c3
  simp only [Option.some.injEq, Prod.mk.injEq] at H
  obtain ⟨rfl, rfl, rfl⟩ := H
  go_enter Try.func45, Try.ntmps45
  go_wp2_with (first | ((with_reducible refine gate_dst (N := 2) rfl ?_); refine yX 2 #[.slice none 0 0, .slice none 0 0] 54 ?_; intro gb455 hg w4 hbox hb; replace HO0 := Aside0.mk (Kd.V_below (Kd.V_elderB (yV HO0.out) gb455 (Nat.le_of_eq hg.symm)) hb); have BK455 := Aside0.mk (hbox); have GW455 := Aside0.mk ((yG hg : w.heap.size ≤ gb455)); have GE455 := Aside0.mk ((yG hg : w.heap.size ≤ gb455)); replace HB := Aside0.mk (below_step yB hb); clear hb hbox hg) | ((with_reducible refine gate_callee (f := 73) rfl ?_); refine goesL_ (some 11) rfl rfl Try.func73 (by kernel_rfl) rfl #[.slice A0 l0.length c0, .func (.func 75) #[] #[]] rfl yQ ?_; (with_reducible refine (IndexFunc_end.calls k _ _ l0  t456 _ ?side1 ?side2 A2.out).mono ?_); (case side1 => repeat (first | exact (Kd.V_reads' HO0.out).2.2 | (with_reducible refine Kd.C_alloc ?_ _) | (with_reducible refine Kd.C_drewN ?_ _) | (with_reducible refine Kd.C_drew ?_))); (case side2 => exact (Kd.V_reads' HO0.out).2.1); rintro e w5 ⟨rfl, hb⟩; refine ⟨_, rfl, ?_⟩; replace HO0 := Aside0.mk (Kd.V_below (yV HO0.out) hb); replace BK455 := Aside0.mk (blk_below (g := gb455) yK hb); replace HB := Aside0.mk (below_step yB hb); (try clear hb); have hcz6_0 := yZ0 BK455.out; have hcz6_1 := yZ1 BK455.out; have hfz6_0 := blk_frozen BK455.out 0; have hfz6_1 := blk_frozen BK455.out 1))
  refine bodyPost_ret (results_ct rfl _ _ gb455 54 #[.slice none 0 0, .slice none 0 0] (0, 0) _ rfl (by refine yH ?_; refine blk_put (cs := #[.slice none 0 0, .slice none 0 0]) ?_ 1 _ rfl; refine yH ?_; refine blk_put (cs := #[.slice none 0 0, .slice none 0 0]) ?_ 0 _ rfl; refine yH ?_; exact BK455.out) Try.underlying54 rfl (by kernel_rfl)) rfl ?_
  exact ⟨_, _, yE, by first | exact Kd.S_nil _ _ _ _ _ | exact Kd.N_nil _ _ _ _ _ | exact Kd.V_nil _ _ _ _ _ | exact Kd.Q_nil _ _ _ _ _ | exact Kd.R_nil _ _ _ _ _, by first | exact Kd.R_nil _ _ _ _ _ | exact Kd.N_nil _ _ _ _ _ | exact Kd.V_nil _ _ _ _ _ | exact Kd.Q_nil _ _ _ _ _ | exact Kd.S_nil _ _ _ _ _, yB⟩
 rw [if_neg c3] at H
 have c3b0 := decide_eq_false c3
 clear c3
 obtain ⟨ji7, hji7⟩ : ∃ j_ : Int, (wrap64 (t456 + 1)) = j_ := ⟨_, rfl⟩
 replace H : (if 0 ≤ (ji7) then (if (ji7) ≤ (l0.length : Int) then ((Clone_Block.f (l0.take ((ji7) : Int).toNat)).bind fun t462 => (subprogram_Split.l0 k (l0.drop ((ji7) : Int).toNat) t462 ([] : List (S81)))) else (none)) else (none)) = some (r1, r2, r3) := by first | (rw [hji7] at H; exact H) | (simp only [hji7] at H ⊢; exact H)
 (try rw [hji7] at A2)
 have hji7w : (IntKind.i64.wrap (t456 + 1)) = ji7 := (i64_w _).trans hji7
 by_cases c8 : 0 ≤ (ji7)
 ·rw [if_pos c8] at H
  have c8b0 := eq_true c8
  have c8b1 := decide_eq_true c8
  clear c8
  by_cases c9 : (ji7) ≤ (l0.length : Int)
  ·rw [if_pos c9] at H
   have c9b0 := eq_true c9
   have c9b1 := decide_eq_true c9
   clear c9
   obtain ⟨y457, hy457⟩ : ∃ y_ : List (S32), y_ = (l0.take ((ji7) : Int).toNat) := ⟨_, rfl⟩
   replace H : ((Clone_Block.f y457).bind fun t462 => (subprogram_Split.l0 k (l0.drop ((ji7) : Int).toNat) t462 ([] : List (S81)))) = some (r1, r2, r3) := by first | (rw [hy457]; with_reducible exact H) | (have H2_ := (Option.bind_some _ _).symm.trans H; rw [hy457]; with_reducible exact H2_) | (have H2_ := (Option.bind_some _ _).symm.trans H; with_reducible exact H2_) | with_reducible exact H | (rw [hy457]; exact H) | exact H
   have Ny457 := Aside0.mk hy457
   clear hy457
   replace H := Option.bind_eq_some_iff.mp H
   obtain ⟨t462, A100, H⟩ := H
   have A10 := Aside0.mk A100
   clear A100
   have c11b0 := eq_true (yD : 0 ≤ (ji7))
   have c12b0 := eq_true (yD : (ji7) ≤ (l0.length : Int))
   obtain ⟨y466, hy466⟩ : ∃ y_ : List (S32), y_ = (l0.drop ((ji7) : Int).toNat) := ⟨_, rfl⟩
   replace H : (subprogram_Split.l0 k y466 t462 ([] : List (S81))) = some (r1, r2, r3) := by first | (rw [hy466]; with_reducible exact H) | (have H2_ := (Option.bind_some _ _).symm.trans H; rw [hy466]; with_reducible exact H2_) | (have H2_ := (Option.bind_some _ _).symm.trans H; with_reducible exact H2_) | with_reducible exact H | (rw [hy466]; exact H) | exact H
   have Ny466 := Aside0.mk hy466
   clear hy466
   have H' := Aside0.mk H
   clear H
   go_enter Try.func45, Try.ntmps45
   go_wp2_with (first | ((with_reducible refine gate_dst (N := 2) rfl ?_); refine yX 2 #[.slice none 0 0, .slice none 0 0] 54 ?_; intro gb455 hg w13 hbox hb; replace HO0 := Aside0.mk (Kd.V_below (Kd.V_elderB (yV HO0.out) gb455 (Nat.le_of_eq hg.symm)) hb); have BK455 := Aside0.mk (hbox); have GW455 := Aside0.mk ((yG hg : w.heap.size ≤ gb455)); have GE455 := Aside0.mk ((yG hg : w.heap.size ≤ gb455)); replace HB := Aside0.mk (below_step yB hb); clear hb hbox hg) | ((with_reducible refine gate_callee (f := 73) rfl ?_); refine goesL_ (some 11) rfl rfl Try.func73 (by kernel_rfl) rfl #[.slice A0 l0.length c0, .func (.func 75) #[] #[]] rfl yQ ?_; (with_reducible refine (IndexFunc_end.calls k _ _ l0  t456 _ ?side1 ?side2 A2.out).mono ?_); (case side1 => repeat (first | exact (Kd.V_reads' HO0.out).2.2 | (with_reducible refine Kd.C_alloc ?_ _) | (with_reducible refine Kd.C_drewN ?_ _) | (with_reducible refine Kd.C_drew ?_))); (case side2 => exact (Kd.V_reads' HO0.out).2.1); rintro e w14 ⟨rfl, hb⟩; refine ⟨_, rfl, ?_⟩; replace HO0 := Aside0.mk (Kd.V_below (yV HO0.out) hb); replace BK455 := Aside0.mk (blk_below (g := gb455) yK hb); replace HB := Aside0.mk (below_step yB hb); (try clear hb); have q15 : ((ji7) : Int) ≤ ((l0.length : Int) : Int) := yD; obtain ⟨i015, hi015, _, hsz15, _⟩ := info_parts info32; have hroom15 : l0.length ≤ c0 := (Kd.V_reads' HO0.out).2.1; have hC15 : Kd.F k32 _ _ A0 l0.length l0 := (Kd.V_at (base := w.heap.size) HO0.out).2.2; have hcut15 := cut_to (P := Try.prog) 35 32 .i64 Try.underlying35 hi015 A0 l0.length c0 (ji7) (yD) q15 hroom15; have hr15 := Kd.F_take (m := ((ji7) : Int).toNat) hC15 (by omega); have hy15 : y457.length = ((ji7) : Int).toNat := (by rw [Ny457.out, List.length_take]; omega); rw [← Ny457.out] at hr15; rw [← hy15] at hcut15; have HO461 := Aside0.mk (show Kd.V k32 32 _ w.heap.size _ (.slice A0 y457.length c0) y457 from Kd.V_mk (by omega) hr15); have HC461 := Aside0.mk (show y457.length ≤ c0 from by omega); clear hr15 hC15 hroom15 hi015 hsz15; have KY15 := Aside0.mk hy15; clear hy15; replace q15 := eq_true q15) | ((with_reducible refine gate_callee (f := 33) rfl ?_); refine goesL_ (some 19) rfl rfl Try.func33 (by kernel_rfl) rfl #[.slice A0 y457.length c0] rfl yQ ?_; (with_reducible refine (Clone_Block.calls (fun k_ => ((P0_ k_ ∨ w.heap.size ≤ k_) ∧ k_ ≠ gb455)) _ _ y457 t462 _ ?side1 A10.out).mono ?_); (case side1 => exact HO461.out); rintro e w16 ⟨v463, rfl, ho0, hb⟩; refine ⟨_, rfl, ?_⟩; replace HO0 := Aside0.mk (Kd.V_elder' (yV HO0.out) (by first | exact Kd.N_base ho0 | exact Kd.S_base ho0) hb); replace HO461 := Aside0.mk (Kd.V_elder' (yV HO461.out) (by first | exact Kd.N_base ho0 | exact Kd.S_base ho0) hb); have HO464 := Aside0.mk (Kd.N_lower (Kd.N_mono (ok' := fun k_ => (P0_ k_ ∨ w.heap.size ≤ k_) ∧ k_ ≠ gb455) ho0 (fun k_ hk_ => ⟨Or.elim hk_ (fun hs_ => hs_.1) (fun hn_ => (.inr (Nat.le_trans (below_size yB) hn_))), Or.elim hk_ (fun hs_ => hs_.2) (fun hn_ => (Kd.freshB (g := gb455) yK k_ hn_))⟩)) (below_size yB)); replace BK455 := Aside0.mk (blk_below (g := gb455) yK hb); replace HB := Aside0.mk (below_step yB hb); (try clear hb); (try clear ho0); obtain ⟨Ao17, co17, eo17⟩ := Kd.N_slice HO464.out; subst eo17) | ((with_reducible refine gate_dst (N := 5) rfl ?_); refine yX 5 #[.slice none 0 0, .slice none 0 0] 54 ?_; intro gb465 hg w18 hbox hb; replace HO0 := Aside0.mk (Kd.V_below (Kd.V_elderB (yV HO0.out) gb465 (Nat.le_of_eq hg.symm)) hb); replace HO461 := Aside0.mk (Kd.V_below (Kd.V_elderB (yV HO461.out) gb465 (Nat.le_of_eq hg.symm)) hb); replace HO464 := Aside0.mk (Kd.N_below (Kd.N_elderB (yN HO464.out) gb465 (Nat.le_of_eq hg.symm)) hb); have BK465 := Aside0.mk (hbox); have GE465 := Aside0.mk ((yG hg : w.heap.size ≤ gb465)); replace HB := Aside0.mk (below_step yB hb); have NB455_465 := Aside0.mk ((yJ hg yK : gb455 ≠ gb465)); have NB465_455 := Aside0.mk ((yI hg yK : gb465 ≠ gb455)); replace BK455 := Aside0.mk (blk_below (g := gb455) yK hb); clear hb hbox hg; have hnb19 := NB465_455.out; have hnc19 := NB455_465.out; have hcz20_0 := yZ0 BK465.out; have hcz20_1 := yZ1 BK465.out; have hfz20_0 := blk_frozen BK465.out 0; have hfz20_1 := blk_frozen BK465.out 1) | ((with_reducible refine gate_store (t := 54) (p := 5) rfl ?_); refine store_event (t := 54) (p := 5) (v := ?vo_w21) (w1 := ((w18.setCell ⟨gb465, 0, none⟩ (.slice Ao17 t462.length co17)).setCell ⟨gb465, 1, none⟩ (.slice none 0 0))) ?hg ?ho ?hn ?hr ?_; (case ho => rfl); (case hg => rfl); (case hn => rfl); (case hr => first | (go_simp; done) | (go_simp; rfl)); intro w21 hw; have n0_ : Aside0 (Kd.V k32 32 w21 w.heap.size (fun k_ => (P0_ k_ ∨ w.heap.size ≤ k_) ∧ some k_ ≠ (.slice Ao17 t462.length co17 : Value).ownBlock ∧ k_ ≠ gb455 ∧ k_ ≠ gb465) (.slice A0 l0.length c0) l0) := ⟨(by rw [hw]; exact (yV (Kd.V_mono (Kd.V_far (p := ⟨gb465, 1, none⟩) (Kd.V_far (p := ⟨gb465, 0, none⟩) (Kd.V_mono HO0.out (fun k_ hk => (⟨hk, hk.2⟩ : _ ∧ k_ ≠ gb465))) (fun _ hk => hk.2) (.slice Ao17 t462.length co17)) (fun _ hk => hk.2) (.slice none 0 0)) (fun _ hk => ⟨hk.1.1.1.1, ⟨hk.1.1.2, ⟨hk.1.1.1.2, hk.1.2⟩⟩⟩))))⟩; have n1_ : Aside0 (Kd.V k32 32 w21 w.heap.size (fun k_ => (P0_ k_ ∨ w.heap.size ≤ k_) ∧ some k_ ≠ (.slice Ao17 t462.length co17 : Value).ownBlock ∧ k_ ≠ gb455 ∧ k_ ≠ gb465) (.slice A0 y457.length c0) y457) := ⟨(by rw [hw]; exact (yV (Kd.V_mono (Kd.V_far (p := ⟨gb465, 1, none⟩) (Kd.V_far (p := ⟨gb465, 0, none⟩) (Kd.V_mono HO461.out (fun k_ hk => (⟨hk, hk.2⟩ : _ ∧ k_ ≠ gb465))) (fun _ hk => hk.2) (.slice Ao17 t462.length co17)) (fun _ hk => hk.2) (.slice none 0 0)) (fun _ hk => ⟨hk.1.1.1.1, ⟨hk.1.1.2, ⟨hk.1.1.1.2, hk.1.2⟩⟩⟩))))⟩; have n2_ : Aside0 (Kd.N k32 32 w21 w.heap.size (fun k_ => (P0_ k_ ∨ w.heap.size ≤ k_) ∧ k_ ≠ gb455 ∧ k_ ≠ gb465) (.slice Ao17 t462.length co17) t462) := ⟨(by rw [hw]; exact (yN (Kd.N_mono (Kd.N_far (p := ⟨gb465, 1, none⟩) (Kd.N_far (p := ⟨gb465, 0, none⟩) (Kd.N_mono HO464.out (fun k_ hk => (⟨hk, hk.2⟩ : _ ∧ k_ ≠ gb465))) (fun _ hk => hk.2) (.slice Ao17 t462.length co17)) (fun _ hk => hk.2) (.slice none 0 0)) (fun _ hk => ⟨hk.1.1.1, ⟨hk.1.1.2, hk.1.2⟩⟩))))⟩; have n3_ : Aside0 (w21.heap[gb455]? = some (.cells #[.slice none 0 0, .slice none 0 0] 54 (0, 0))) := ⟨(by rw [hw]; exact (by refine yH ?_; refine blk_far ?_ NB455_465.out _; refine yH ?_; refine blk_far ?_ NB455_465.out _; refine yH ?_; exact BK455.out))⟩; have n4_ : Aside0 (w21.heap[gb465]? = some (.cells #[.slice Ao17 t462.length co17, .slice none 0 0] 54 (0, 0))) := ⟨(by rw [hw]; exact (by refine yH ?_; refine blk_put (cs := #[.slice Ao17 t462.length co17, .slice none 0 0]) ?_ 1 _ rfl; refine yH ?_; refine blk_put (cs := #[.slice none 0 0, .slice none 0 0]) ?_ 0 _ rfl; refine yH ?_; exact BK465.out))⟩; have n5_ : Aside0 (Below w.heap.size w w21) := ⟨(by rw [hw]; exact yB)⟩; clear hw; clear HO0; clear HO461; clear HO464; clear BK455; clear BK465; clear HB; have HO0 := n0_; have HO461 := n1_; have HO464 := n2_; have BK455 := n3_; have BK465 := n4_; have HB := n5_; clear n0_ n1_ n2_ n3_ n4_ n5_; have q22 : ((ji7) : Int) ≤ ((l0.length : Int) : Int) := yD; obtain ⟨i022, hi022, _, hsz22, _⟩ := info_parts info32; have hroom22 : l0.length ≤ c0 := (Kd.V_reads' HO0.out).2.1; have hC22 : Kd.F k32 _ _ A0 l0.length l0 := (Kd.V_at (base := w.heap.size) HO0.out).2.2; have q022 : (0 : Int) ≤ ((ji7) : Int) := yD; have hcut22 := cut_from (P := Try.prog) 35 32 .i64 Try.underlying35 hi022 3 hsz22 A0 l0.length c0 (ji7) q022 q22; have hr22 := Kd.F_cut (m := ((ji7) : Int).toNat) (c := c0) hC22 (by omega) hroom22; obtain ⟨A22, hA22⟩ : ∃ A1, A1 = (if c0 = ((ji7) : Int).toNat then A0 else (A0 : Option Addr).map (·.add (((ji7) : Int).toNat * 3))) := ⟨_, rfl⟩; obtain ⟨c22, hc22⟩ : ∃ c1, c1 = c0 - ((ji7) : Int).toNat := ⟨_, rfl⟩; have hy22 : y466.length = l0.length - ((ji7) : Int).toNat := (by rw [Ny466.out, List.length_drop] <;> omega); rw [show (l0).drop ((ji7) : Int).toNat = y466 from Ny466.out.symm] at hr22; replace hr22 : Kd.F k32 _ _ A22 y466.length y466 := (by rw [hA22]; exact hr22); rw [← hy22, ← hA22, ← hc22] at hcut22; have HO470 := Aside0.mk (show Kd.V k32 32 _ w.heap.size _ (.slice A22 y466.length c22) y466 from Kd.V_mk (by rw [hy22, hc22]; exact Nat.sub_le_sub_right hroom22 _) hr22); have HC470 := Aside0.mk (show y466.length ≤ c22 from by rw [hy22, hc22]; exact Nat.sub_le_sub_right hroom22 _); clear hr22 hC22 hroom22 hi022 hsz22 hc22; have KY22 := Aside0.mk hy22; have KA22 := Aside0.mk hA22; clear hy22 hA22; replace q22 := eq_true q22))
   go_loopg [6] k (fun kq v6 w' => ∃ (x6_1 : List (S32)) (x466001_1 : List (S81)) (u466001 : Value), Aside0 (subprogram_Split.l0 kq x6_1 t462 x466001_1 = some (r1, r2, r3)) ∧ Aside0 (kq ≤ k) ∧ Aside0 (Kd.V k32 32 w' w.heap.size (fun k_ => (P0_ k_ ∨ w.heap.size ≤ k_) ∧ some k_ ≠ ((.slice Ao17 t462.length co17) : Value).ownBlock ∧ some k_ ≠ (u466001 : Value).ownBlock ∧ k_ ≠ gb455 ∧ k_ ≠ gb465) v6 x6_1) ∧ Aside0 (Kd.N k32 32 w' w.heap.size (fun k_ => (P0_ k_ ∨ w.heap.size ≤ k_) ∧ some k_ ≠ (u466001 : Value).ownBlock ∧ k_ ≠ gb455 ∧ k_ ≠ gb465) (.slice Ao17 t462.length co17) t462) ∧ Aside0 (Kd.N k81 81 w' w.heap.size (fun k_ => (P0_ k_ ∨ w.heap.size ≤ k_) ∧ some k_ ≠ ((.slice Ao17 t462.length co17) : Value).ownBlock ∧ k_ ≠ gb455 ∧ k_ ≠ gb465) u466001 x466001_1) ∧ Aside0 (w'.heap[gb455]? = some (.cells #[(.slice none 0 0), (.slice none 0 0)] 54 (0, 0))) ∧ Aside0 (w'.heap[gb465]? = some (.cells #[(.slice Ao17 t462.length co17), u466001] 54 (0, 0))) ∧ Aside0 (Below w.heap.size w w'))
   case atStart => exact ⟨(y466), (([] : List (S81))), (.slice none 0 0), H', ⟨Nat.le_refl _⟩, ⟨by refine yV ?_; exact Kd.V_mono HO470.out (fun _ hk => ⟨hk.1, ⟨hk.2.1, ⟨(by simp [Value.ownBlock]), ⟨hk.2.2.1, hk.2.2.2⟩⟩⟩⟩)⟩, ⟨by refine yN ?_; exact Kd.N_mono HO464.out (fun _ hk => ⟨hk.1, ⟨(by simp [Value.ownBlock]), ⟨hk.2.1, hk.2.2⟩⟩⟩)⟩, ⟨by first | exact Kd.R_nil _ _ _ _ _ | exact Kd.N_nil _ _ _ _ _ | exact Kd.V_nil _ _ _ _ _ | exact Kd.Q_nil _ _ _ _ _ | exact Kd.S_nil _ _ _ _ _⟩, ⟨by refine yH ?_; exact BK455.out⟩, ⟨by refine yH ?_; exact BK465.out⟩, ⟨yB⟩⟩
   case round =>
    clear H'
    try clear c1
    try clear q1
    try clear c2
    try clear p2
    try clear q2
    try clear c3
    try clear c3b0
    try clear c4
    try clear p6
    try clear c7
    try clear c8
    try clear c8b0
    try clear c8b1
    try clear c9
    try clear c9b0
    try clear c9b1
    try clear c11
    try clear c11b0
    try clear c12
    try clear c12b0
    try clear q15
    try clear c19
    try clear c22
    try clear q22
    try clear hcz20_0
    try clear hcz20_1
    try clear hcz6_0
    try clear hcz6_1
    try clear hfz20_0
    try clear hfz20_1
    try clear hfz6_0
    try clear hfz6_1
    try clear q022
    try clear q15
    try clear q22
    obtain ⟨x6_1, x466001_1, u466001, HA, HK1, HO_6, HO_466000, HO_466001, BK455, BK465, HB⟩ := hrel
    cases gk with
    | zero => exact absurd HA.out (by simp [subprogram_Split.l0])
    | succ k1 =>
     have H := HA.out
     clear HA
     simp only [subprogram_Split.l0] at H
     by_cases c23 : (x6_1.length : Int) > 0
     ·rw [if_pos c23] at H
      have c23b0 := decide_eq_true c23
      have c23b1 : decide (0 < x6_1.length) = true := decide_eq_true (by omega)
      clear c23
      by_cases c24 : 0 < (x6_1.length : Int)
      ·rw [if_pos c24] at H
       have c24b0 := decide_eq_true c24
       have c24b1 : decide (0 < x6_1.length) = true := decide_eq_true (by omega)
       clear c24
       replace H := Option.bind_eq_some_iff.mp H
       obtain ⟨⟨t472, t473⟩, A250, H⟩ := H
       have A25 := Aside0.mk A250
       clear A250
       replace H := Option.bind_eq_some_iff.mp H
       obtain ⟨t474, A260, H⟩ := H
       have A26 := Aside0.mk A260
       clear A260
       by_cases c27 : t473 = true
       ·subst c27
        rw [if_pos rfl] at H
        by_cases c28 : t474 < 0
        ·rw [if_pos c28] at H
         have c28b0 := decide_eq_true c28
         clear c28
         simp only [Option.some.injEq, Prod.mk.injEq] at H
         obtain ⟨rfl, rfl, rfl⟩ := H
         obtain ⟨Ao29, co29, eo29⟩ := Kd.V_slice HO_6.out
         subst eo29
         have p471 : 0 ≤ (0 : Int) := (by omega)
         have q471 : 0 < (x6_1.length : Int) := yD
         obtain ⟨ad471, A471_1, c471_1, e471, hx471_0, hx471_1, hx471_2, hl471_1, hi471_1⟩ := at_T32 (Kd.V_reads' HO_6.out).2.2 0 p471 q471
         cases e471
         obtain ⟨ce471, hce471, hMe471, hcc471⟩ := Kd.V_get HO_6.out z32 0 p471 (by first | exact q471 | exact yD | (have e_ := (Kd.V_reads' HO_6.out).1; omega))
         obtain ⟨ua471_1, uc471_1, rfl, ul471_1, ge471_1⟩ := k32_openF hMe471
         have hv471_1 := hcc471 1 _ rfl
         rw [add_field _ _ 1 (by omega)] at hv471_1
         replace hv471_1 := Option.some.inj (hv471_1.symm.trans hx471_1)
         injection hv471_1 with hva_ hvn_ hvc_
         rw [hva_] at ge471_1
         rw [hvc_] at ul471_1
         have HL471_1 := Aside0.mk (show Kd.V k78 78 _ w.heap.size _ _ ((rd_T32 x6_1 0).f1) from Kd.V_mk ul471_1 ge471_1)
         clear hva_ hvn_ hvc_ ge471_1 ul471_1
         clear hcc471 hce471
         have qi471 : (0 < x6_1.length) = True := eq_true (by omega)
         (try rw [show ((0 : Int)).toNat = 0 from rfl] at hx471_0)
         (try rw [show 0 * 3 = 0 from rfl] at hx471_0)
         (try rw [Addr.add_zero'] at hx471_0)
         (try rw [show ((0 : Int)).toNat = 0 from rfl] at hx471_1)
         (try rw [show 0 * 3 = 0 from rfl] at hx471_1)
         (try rw [Addr.add_zero'] at hx471_1)
         (try rw [show ((0 : Int)).toNat = 0 from rfl] at hx471_2)
         (try rw [show 0 * 3 = 0 from rfl] at hx471_2)
         (try rw [Addr.add_zero'] at hx471_2)
         have HR471_1 := Aside0.mk hi471_1
         have HC471_1 := Aside0.mk hl471_1
         clear hi471_1 hl471_1
         replace p471 := eq_true p471
         replace q471 := eq_true q471
         go_wp2_with (first | ((with_reducible refine gate_callee (f := 76) rfl ?_); refine goesL_ (some 32) rfl rfl Try.func76 (by kernel_rfl) rfl #[.agg #[.bool ((rd_T32 x6_1 0).f0), .slice A471_1 ((rd_T32 x6_1 0).f1).length c471_1, .string ((rd_T32 x6_1 0).f2)]] rfl yQ ?_; (with_reducible refine (subprogram_beginning.calls ((rd_T32 x6_1 0).f0) _ _ ((rd_T32 x6_1 0).f1) ((rd_T32 x6_1 0).f2) t472 true _ ?side1 ?side2 A25.out).mono ?_); (case side1 => repeat (first | exact (by repeat (first | (with_reducible exact HR471_1.out) | (with_reducible refine Kd.C_alloc ?_ _) | (with_reducible refine Kd.C_drewN ?_ _) | (with_reducible refine Kd.C_drew ?_) | exact HR471_1.out)) | (with_reducible refine Kd.C_alloc ?_ _) | (with_reducible refine Kd.C_drewN ?_ _) | (with_reducible refine Kd.C_drew ?_))); (case side2 => exact HC471_1.out); rintro e w30 ⟨rfl, hb⟩; refine ⟨_, rfl, ?_⟩; replace HO_6 := Aside0.mk (Kd.V_below (yV HO_6.out) hb); replace HO_466000 := Aside0.mk (Kd.N_below (yN HO_466000.out) hb); replace HO_466001 := Aside0.mk (Kd.N_below (yN HO_466001.out) hb); replace HL471_1 := Aside0.mk (Kd.V_below (yV HL471_1.out) hb); replace BK455 := Aside0.mk (blk_below (g := gb455) yK hb); replace BK465 := Aside0.mk (blk_below (g := gb465) yK hb); replace HR471_1 := Aside0.mk (Kd.C_below (by repeat (first | (with_reducible exact HR471_1.out) | (with_reducible refine Kd.C_alloc ?_ _) | (with_reducible refine Kd.C_drewN ?_ _) | (with_reducible refine Kd.C_drew ?_) | exact HR471_1.out)) hb); replace HB := Aside0.mk (below_step yB hb); (try clear hb)) | ((with_reducible refine gate_callee (f := 73) rfl ?_); refine goesL_ (some 36) rfl rfl Try.func73 (by kernel_rfl) rfl #[.slice (some ad471) x6_1.length co29, .func (.func 77) #[] #[]] rfl yQ ?_; (with_reducible refine (IndexFunc_back.calls k1 _ _ x6_1  t474 _ ?side1 ?side2 A26.out).mono ?_); (case side1 => repeat (first | exact (Kd.V_reads' HO_6.out).2.2 | (with_reducible refine Kd.C_alloc ?_ _) | (with_reducible refine Kd.C_drewN ?_ _) | (with_reducible refine Kd.C_drew ?_))); (case side2 => exact (Kd.V_reads' HO_6.out).2.1); rintro e w31 ⟨rfl, hb⟩; refine ⟨_, rfl, ?_⟩; replace HO_6 := Aside0.mk (Kd.V_below (yV HO_6.out) hb); replace HO_466000 := Aside0.mk (Kd.N_below (yN HO_466000.out) hb); replace HO_466001 := Aside0.mk (Kd.N_below (yN HO_466001.out) hb); replace HL471_1 := Aside0.mk (Kd.V_below (yV HL471_1.out) hb); replace BK455 := Aside0.mk (blk_below (g := gb455) yK hb); replace BK465 := Aside0.mk (blk_below (g := gb465) yK hb); replace HR471_1 := Aside0.mk (Kd.C_below (by repeat (first | (with_reducible exact HR471_1.out) | (with_reducible refine Kd.C_alloc ?_ _) | (with_reducible refine Kd.C_drewN ?_ _) | (with_reducible refine Kd.C_drew ?_) | exact HR471_1.out)) hb); replace HB := Aside0.mk (below_step yB hb); (try clear hb); have hnb32 := NB455_465.out; have hnc32 := NB465_455.out; have hcz33_0 := yZ0 BK455.out; have hcz33_1 := yZ1 BK455.out; have hfz33_0 := blk_frozen BK455.out 0; have hfz33_1 := blk_frozen BK455.out 1))
         refine bodyPost_ret (results_ct rfl _ _ gb455 54 #[.slice none 0 0, .slice none 0 0] (0, 0) _ rfl (by refine yH ?_; refine blk_put (cs := #[.slice none 0 0, .slice none 0 0]) ?_ 1 _ rfl; refine yH ?_; refine blk_put (cs := #[.slice none 0 0, .slice none 0 0]) ?_ 0 _ rfl; refine yH ?_; exact BK455.out) Try.underlying54 rfl (by kernel_rfl)) rfl ?_
         exact ⟨_, _, by first | rfl | (simp [errW_none, errW_some] <;> rfl) | (simp only [← hji7]; first | rfl | (simp [errW_none, errW_some] <;> rfl)) | (simp [*, errW_none, errW_some] <;> rfl), by first | exact Kd.S_nil _ _ _ _ _ | exact Kd.N_nil _ _ _ _ _ | exact Kd.V_nil _ _ _ _ _ | exact Kd.Q_nil _ _ _ _ _ | exact Kd.R_nil _ _ _ _ _, by first | exact Kd.R_nil _ _ _ _ _ | exact Kd.N_nil _ _ _ _ _ | exact Kd.V_nil _ _ _ _ _ | exact Kd.Q_nil _ _ _ _ _ | exact Kd.S_nil _ _ _ _ _, yB⟩
        rw [if_neg c28] at H
        have c28b0 := decide_eq_false c28
        clear c28
        by_cases c34 : 1 ≤ t474
        ·rw [if_pos c34] at H
         have c34b0 := eq_true c34
         have c34b1 := decide_eq_true c34
         clear c34
         by_cases c35 : t474 ≤ (x6_1.length : Int)
         ·rw [if_pos c35] at H
          have c35b0 := eq_true c35
          have c35b1 := decide_eq_true c35
          clear c35
          obtain ⟨y475, hy475⟩ : ∃ y_ : List (S32), y_ = ((x6_1.take (t474 : Int).toNat).drop 1) := ⟨_, rfl⟩
          replace H : ((Clone_Block.f y475).bind fun t480 => (if x466001_1.length < 4398046511104 then (if 0 ≤ (wrap64 (t474 + 1)) then (if (wrap64 (t474 + 1)) ≤ (x6_1.length : Int) then (subprogram_Split.l0 k1 (x6_1.drop ((wrap64 (t474 + 1)) : Int).toNat) t462 (x466001_1 ++ [(⟨t472, t480⟩ : S81)])) else (none)) else (none)) else (none))) = some (r1, r2, r3) := by first | (rw [hy475]; with_reducible exact H) | (have H2_ := (Option.bind_some _ _).symm.trans H; rw [hy475]; with_reducible exact H2_) | (have H2_ := (Option.bind_some _ _).symm.trans H; with_reducible exact H2_) | with_reducible exact H | (rw [hy475]; exact H) | exact H
          have Ny475 := Aside0.mk hy475
          clear hy475
          replace H := Option.bind_eq_some_iff.mp H
          obtain ⟨t480, A360, H⟩ := H
          have A36 := Aside0.mk A360
          clear A360
          by_cases c37 : x466001_1.length < 4398046511104
          ·rw [if_pos c37] at H
           have LMc37 := Aside0.mk c37
           clear c37
           obtain ⟨y483, hy483⟩ : ∃ y_ : List (S81), y_ = (x466001_1 ++ [(⟨t472, t480⟩ : S81)]) := ⟨_, rfl⟩
           replace H : (if 0 ≤ (wrap64 (t474 + 1)) then (if (wrap64 (t474 + 1)) ≤ (x6_1.length : Int) then (subprogram_Split.l0 k1 (x6_1.drop ((wrap64 (t474 + 1)) : Int).toNat) t462 y483) else (none)) else (none)) = some (r1, r2, r3) := by first | (rw [hy483]; with_reducible exact H) | (have H2_ := (Option.bind_some _ _).symm.trans H; rw [hy483]; with_reducible exact H2_) | (have H2_ := (Option.bind_some _ _).symm.trans H; with_reducible exact H2_) | with_reducible exact H | (rw [hy483]; exact H) | exact H
           have Ny483 := Aside0.mk hy483
           clear hy483
           obtain ⟨ji38, hji38⟩ : ∃ j_ : Int, (wrap64 (t474 + 1)) = j_ := ⟨_, rfl⟩
           replace H : (if 0 ≤ (ji38) then (if (ji38) ≤ (x6_1.length : Int) then (subprogram_Split.l0 k1 (x6_1.drop ((ji38) : Int).toNat) t462 y483) else (none)) else (none)) = some (r1, r2, r3) := by first | (rw [hji38] at H; exact H) | (simp only [hji38] at H ⊢; exact H)
           (try rw [hji38] at A25)
           (try rw [hji38] at A26)
           (try rw [hji38] at A36)
           have hji38w : (IntKind.i64.wrap (t474 + 1)) = ji38 := (i64_w _).trans hji38
           by_cases c39 : 0 ≤ (ji38)
           ·rw [if_pos c39] at H
            have c39b0 := eq_true c39
            have c39b1 := decide_eq_true c39
            clear c39
            by_cases c40 : (ji38) ≤ (x6_1.length : Int)
            ·rw [if_pos c40] at H
             have c40b0 := eq_true c40
             have c40b1 := decide_eq_true c40
             clear c40
             obtain ⟨y486, hy486⟩ : ∃ y_ : List (S32), y_ = (x6_1.drop ((ji38) : Int).toNat) := ⟨_, rfl⟩
             replace H : (subprogram_Split.l0 k1 y486 t462 y483) = some (r1, r2, r3) := by first | (rw [hy486]; with_reducible exact H) | (have H2_ := (Option.bind_some _ _).symm.trans H; rw [hy486]; with_reducible exact H2_) | (have H2_ := (Option.bind_some _ _).symm.trans H; with_reducible exact H2_) | with_reducible exact H | (rw [hy486]; exact H) | exact H
             have Ny486 := Aside0.mk hy486
             clear hy486
             have H' := Aside0.mk H
             clear H
             obtain ⟨Ao41, co41, eo41⟩ := Kd.V_slice HO_6.out
             subst eo41
             have p471 : 0 ≤ (0 : Int) := (by omega)
             have q471 : 0 < (x6_1.length : Int) := yD
             obtain ⟨ad471, A471_1, c471_1, e471, hx471_0, hx471_1, hx471_2, hl471_1, hi471_1⟩ := at_T32 (Kd.V_reads' HO_6.out).2.2 0 p471 q471
             cases e471
             obtain ⟨ce471, hce471, hMe471, hcc471⟩ := Kd.V_get HO_6.out z32 0 p471 (by first | exact q471 | exact yD | (have e_ := (Kd.V_reads' HO_6.out).1; omega))
             obtain ⟨ua471_1, uc471_1, rfl, ul471_1, ge471_1⟩ := k32_openF hMe471
             have hv471_1 := hcc471 1 _ rfl
             rw [add_field _ _ 1 (by omega)] at hv471_1
             replace hv471_1 := Option.some.inj (hv471_1.symm.trans hx471_1)
             injection hv471_1 with hva_ hvn_ hvc_
             rw [hva_] at ge471_1
             rw [hvc_] at ul471_1
             have HL471_1 := Aside0.mk (show Kd.V k78 78 _ w.heap.size _ _ ((rd_T32 x6_1 0).f1) from Kd.V_mk ul471_1 ge471_1)
             clear hva_ hvn_ hvc_ ge471_1 ul471_1
             clear hcc471 hce471
             have qi471 : (0 < x6_1.length) = True := eq_true (by omega)
             (try rw [show ((0 : Int)).toNat = 0 from rfl] at hx471_0)
             (try rw [show 0 * 3 = 0 from rfl] at hx471_0)
             (try rw [Addr.add_zero'] at hx471_0)
             (try rw [show ((0 : Int)).toNat = 0 from rfl] at hx471_1)
             (try rw [show 0 * 3 = 0 from rfl] at hx471_1)
             (try rw [Addr.add_zero'] at hx471_1)
             (try rw [show ((0 : Int)).toNat = 0 from rfl] at hx471_2)
             (try rw [show 0 * 3 = 0 from rfl] at hx471_2)
             (try rw [Addr.add_zero'] at hx471_2)
             have HR471_1 := Aside0.mk hi471_1
             have HC471_1 := Aside0.mk hl471_1
             clear hi471_1 hl471_1
             replace p471 := eq_true p471
             replace q471 := eq_true q471
             try go_wp2_with (first | ((with_reducible refine gate_callee (f := 76) rfl ?_); refine goesL_ (some 32) rfl rfl Try.func76 (by kernel_rfl) rfl #[.agg #[.bool ((rd_T32 x6_1 0).f0), .slice A471_1 ((rd_T32 x6_1 0).f1).length c471_1, .string ((rd_T32 x6_1 0).f2)]] rfl yQ ?_; (with_reducible refine (subprogram_beginning.calls ((rd_T32 x6_1 0).f0) _ _ ((rd_T32 x6_1 0).f1) ((rd_T32 x6_1 0).f2) t472 true _ ?side1 ?side2 A25.out).mono ?_); (case side1 => repeat (first | exact (by repeat (first | (with_reducible exact HR471_1.out) | (with_reducible refine Kd.C_alloc ?_ _) | (with_reducible refine Kd.C_drewN ?_ _) | (with_reducible refine Kd.C_drew ?_) | exact HR471_1.out)) | (with_reducible refine Kd.C_alloc ?_ _) | (with_reducible refine Kd.C_drewN ?_ _) | (with_reducible refine Kd.C_drew ?_))); (case side2 => exact HC471_1.out); rintro e w42 ⟨rfl, hb⟩; refine ⟨_, rfl, ?_⟩; replace HO_6 := Aside0.mk (Kd.V_below (yV HO_6.out) hb); replace HO_466000 := Aside0.mk (Kd.N_below (yN HO_466000.out) hb); replace HO_466001 := Aside0.mk (Kd.N_below (yN HO_466001.out) hb); replace HL471_1 := Aside0.mk (Kd.V_below (yV HL471_1.out) hb); replace BK455 := Aside0.mk (blk_below (g := gb455) yK hb); replace BK465 := Aside0.mk (blk_below (g := gb465) yK hb); replace HR471_1 := Aside0.mk (Kd.C_below (by repeat (first | (with_reducible exact HR471_1.out) | (with_reducible refine Kd.C_alloc ?_ _) | (with_reducible refine Kd.C_drewN ?_ _) | (with_reducible refine Kd.C_drew ?_) | exact HR471_1.out)) hb); replace HB := Aside0.mk (below_step yB hb); (try clear hb)) | ((with_reducible refine gate_callee (f := 73) rfl ?_); refine goesL_ (some 36) rfl rfl Try.func73 (by kernel_rfl) rfl #[.slice (some ad471) x6_1.length co41, .func (.func 77) #[] #[]] rfl yQ ?_; (with_reducible refine (IndexFunc_back.calls k1 _ _ x6_1  t474 _ ?side1 ?side2 A26.out).mono ?_); (case side1 => repeat (first | exact (Kd.V_reads' HO_6.out).2.2 | (with_reducible refine Kd.C_alloc ?_ _) | (with_reducible refine Kd.C_drewN ?_ _) | (with_reducible refine Kd.C_drew ?_))); (case side2 => exact (Kd.V_reads' HO_6.out).2.1); rintro e w43 ⟨rfl, hb⟩; refine ⟨_, rfl, ?_⟩; replace HO_6 := Aside0.mk (Kd.V_below (yV HO_6.out) hb); replace HO_466000 := Aside0.mk (Kd.N_below (yN HO_466000.out) hb); replace HO_466001 := Aside0.mk (Kd.N_below (yN HO_466001.out) hb); replace HL471_1 := Aside0.mk (Kd.V_below (yV HL471_1.out) hb); replace BK455 := Aside0.mk (blk_below (g := gb455) yK hb); replace BK465 := Aside0.mk (blk_below (g := gb465) yK hb); replace HR471_1 := Aside0.mk (Kd.C_below (by repeat (first | (with_reducible exact HR471_1.out) | (with_reducible refine Kd.C_alloc ?_ _) | (with_reducible refine Kd.C_drewN ?_ _) | (with_reducible refine Kd.C_drew ?_) | exact HR471_1.out)) hb); replace HB := Aside0.mk (below_step yB hb); (try clear hb)))
             replace HO_6 := Aside0.mk (Kd.V_drew HO_6.out)
             replace HO_466000 := Aside0.mk (Kd.N_drew HO_466000.out)
             replace HO_466001 := Aside0.mk (Kd.N_drew HO_466001.out)
             replace HL471_1 := Aside0.mk (Kd.V_drew HL471_1.out)
             replace BK455 := Aside0.mk (blk_drew BK455.out)
             replace BK465 := Aside0.mk (blk_drew BK465.out)
             replace HR471_1 := Aside0.mk (Kd.C_drew HR471_1.out)
             replace HB := Aside0.mk (below_drew1 HB.out)
             have q45 : (t474 : Int) ≤ ((x6_1.length : Int) : Int) := yD
             obtain ⟨i045, hi045, _, hsz45, _⟩ := info_parts info32
             have hroom45 : x6_1.length ≤ co41 := (Kd.V_reads' HO_6.out).2.1
             have hC45 : Kd.F k32 _ _ (some ad471) x6_1.length x6_1 := (Kd.V_at (base := w.heap.size) HO_6.out).2.2
             have ql45 : (1 : Int) ≤ (t474 : Int) := yD
             have hcut45 := cut_mid (P := Try.prog) 35 32 .i64 .i64 Try.underlying35 hi045 3 hsz45 (some ad471) x6_1.length co41 1 t474 (by omega) ql45 q45 hroom45
             have hr45 := Kd.F_mid (lo := (1 : Int).toNat) (hi := (t474 : Int).toNat) (c := co41) hC45 (by omega) (by omega) hroom45
             obtain ⟨A45, hA45⟩ : ∃ A1, A1 = (if co41 = (1 : Int).toNat then (some ad471) else ((some ad471) : Option Addr).map (·.add ((1 : Int).toNat * 3))) := ⟨_, rfl⟩
             obtain ⟨c45, hc45⟩ : ∃ c1, c1 = co41 - (1 : Int).toNat := ⟨_, rfl⟩
             have hy45 : y475.length = (t474 : Int).toNat - (1 : Int).toNat := (by rw [Ny475.out, List.length_drop, List.length_take] <;> omega)
             rw [show ((x6_1).take (t474 : Int).toNat).drop (1 : Int).toNat = y475 from Ny475.out.symm] at hr45
             replace hr45 : Kd.F k32 _ _ A45 y475.length y475 := (by rw [hA45]; exact hr45)
             rw [← hy45, ← hA45, ← hc45] at hcut45
             have HO479 := Aside0.mk (show Kd.V k32 32 _ w.heap.size _ (.slice A45 y475.length c45) y475 from Kd.V_mk (by rw [hy45, hc45]; exact Nat.sub_le_sub_right (Nat.le_trans (by omega) hroom45) _) hr45)
             have HC479 := Aside0.mk (show y475.length ≤ c45 from by rw [hy45, hc45]; exact Nat.sub_le_sub_right (Nat.le_trans (by omega) hroom45) _)
             clear hr45 hC45 hroom45 hi045 hsz45 hc45
             have KY45 := Aside0.mk hy45
             have KA45 := Aside0.mk hA45
             clear hy45 hA45
             replace q45 := eq_true q45
             refine start_ (n := 12) (S := fun w' => w'.cell? ⟨gb465, 0, none⟩ = some (.slice Ao17 t462.length co17) ∧ w'.cell? ⟨gb465, 1, none⟩ = some (u466001)) (ds := [11]) #[false, false, false, false, false, false, false, false, false, false, false, false] (by kernel_rfl) rfl rfl ⟨(blk_cell BK465.out 0).trans rfl, (blk_cell BK465.out 1).trans rfl⟩ (fun hHeld => ?_); refine with_tabW subprogram_Split.tab11 subprogram_Split.bits11 (fun HT_ HW_ => ?_)
             generalize w43.drew = w44 at HO_6 HO_466000 HO_466001 HL471_1 BK455 BK465 HR471_1 HB HO479 hHeld ⊢
             refine yp 0 44 ?_
             refine yp 2 46 ?_
             refine yp 3 47 ?_
             refine yp 4 48 ?_
             refine yp 5 49 ?_
             refine yt 1 45 hHeld ?_
             refine yo 6 (some 50) (fun K hK => ?_)
             refine goes_ Try.func33 (by kernel_rfl) rfl #[.slice A45 y475.length c45] (by rfl) rfl rfl yQ ?_
             with_reducible refine (Clone_Block.calls (fun k_ => ((P0_ k_ ∨ w.heap.size ≤ k_) ∧ (some k_ ≠ (.slice Ao17 t462.length co17 : Value).ownBlock ∧ (some k_ ≠ (u466001 : Value).ownBlock ∧ (k_ ≠ gb455 ∧ k_ ≠ gb465))))) _ _ y475 t480 _ ?side1 A36.out).mono ?_
             (case side1 => exact HO479.out)
             rintro e w46 ⟨v481, rfl, ho0, hb⟩
             refine ⟨_, rfl, ?_⟩
             replace HO_6 := Aside0.mk (Kd.V_elder' (yV HO_6.out) (by first | exact Kd.N_base ho0 | exact Kd.S_base ho0) hb)
             replace HL471_1 := Aside0.mk (Kd.V_elder' (yV HL471_1.out) (by first | exact Kd.N_base ho0 | exact Kd.S_base ho0) hb)
             replace HO479 := Aside0.mk (Kd.V_elder' (yV HO479.out) (by first | exact Kd.N_base ho0 | exact Kd.S_base ho0) hb)
             have HO482 := Aside0.mk (Kd.N_lower (Kd.N_mono (ok' := fun k_ => (P0_ k_ ∨ w.heap.size ≤ k_) ∧ some k_ ≠ (.slice Ao17 t462.length co17 : Value).ownBlock ∧ some k_ ≠ (u466001 : Value).ownBlock ∧ k_ ≠ gb455 ∧ k_ ≠ gb465) ho0 (fun k_ hk_ => ⟨Or.elim hk_ (fun hs_ => hs_.1) (fun hn_ => (.inr (Nat.le_trans (below_size yB) hn_))), Or.elim hk_ (fun hs_ => hs_.2.1) (fun hn_ => (Kd.fresh' (Kd.N_lt (yN HO_466000.out)) k_ hn_)), Or.elim hk_ (fun hs_ => hs_.2.2.1) (fun hn_ => (Kd.fresh' (Kd.N_lt (yN HO_466001.out)) k_ hn_)), Or.elim hk_ (fun hs_ => hs_.2.2.2.1) (fun hn_ => (Kd.freshB (g := gb455) yK k_ hn_)), Or.elim hk_ (fun hs_ => hs_.2.2.2.2) (fun hn_ => (Kd.freshB (g := gb465) yK k_ hn_))⟩)) (below_size yB))
             replace HO_466000 := Aside0.mk (Kd.N_elder' (yN HO_466000.out) (by first | exact Kd.N_base ho0 | exact Kd.S_base ho0) hb)
             replace HO_466001 := Aside0.mk (Kd.N_elder' (yN HO_466001.out) (by first | exact Kd.N_base ho0 | exact Kd.S_base ho0) hb)
             replace BK455 := Aside0.mk (blk_below (g := gb455) yK hb)
             replace BK465 := Aside0.mk (blk_below (g := gb465) yK hb)
             replace HR471_1 := Aside0.mk (Kd.C_below (by repeat (first | (with_reducible exact HR471_1.out) | (with_reducible refine Kd.C_alloc ?_ _) | (with_reducible refine Kd.C_drewN ?_ _) | (with_reducible refine Kd.C_drew ?_) | exact HR471_1.out)) hb)
             replace HB := Aside0.mk (below_step yB hb)
             (try clear hb)
             (try clear ho0)
             obtain ⟨Ao47, co47, eo47⟩ := Kd.N_slice HO482.out
             (first | subst eo47 | (injection eo47 with f1_ f2_ f3_; have f4_ := f1_.symm; have f5_ := f3_.symm; clear f1_ f2_ f3_; subst f4_; subst f5_))
             refine hK.out _ _ ⟨(blk_cell BK465.out 0).trans rfl, (blk_cell BK465.out 1).trans rfl⟩ (fun hHeld => ?_)
             clear hK K
             refine yn 50 ?_
             refine yp 7 51 ?_
             refine yo 8 (some 52) (fun K hK => ?_)
             refine value_ (w1 := ?_) (v := ?_) (by rfl) rfl ?_ ?_
             rotate_left 2
             ·go_simp
              constructor
              ·rfl
              rfl
             refine hK.out _ _ ⟨(blk_cell (blk_alloc BK465.out _) 0).trans rfl, (blk_cell (blk_alloc BK465.out _) 1).trans rfl⟩ (fun hHeld => ?_)
             clear hK K
             refine yn 52 ?_
             refine yo 9 (some 53) (fun K hK => ?_)
             refine Kd.N_append_step k81 (w0 := w) w.heap.size (by rfl) (.tmp 45) (.tmp 52) 52 81 (.agg #[(.int .i64 0), (.slice none 0 0)]) 32 rfl Try.underlying52 info81 rfl (by decide) (by omega) u466001 x466001_1 (⟨t472, t480⟩ : S81) [.int .i64 t472, .slice Ao47 t480.length co47] (fun k_ => (P0_ k_ ∨ w.heap.size ≤ k_) ∧ some k_ ≠ (.slice Ao17 t462.length co17 : Value).ownBlock ∧ k_ ≠ gb455 ∧ k_ ≠ gb465) (fun k_ => ((fun k_ => (P0_ k_ ∨ w.heap.size ≤ k_) ∧ some k_ ≠ (.slice Ao17 t462.length co17 : Value).ownBlock ∧ k_ ≠ gb455 ∧ k_ ≠ gb465)) k_ ∧ some k_ ≠ (u466001 : Value).ownBlock) rfl rfl ?aP (fun _ hk => hk) ?aF ?aO ?aB ?aS ?aL ?_
             (case aP => exact (k81_mkF _ _ (⟨t472, t480⟩ : S81) (Kd.N_reads' (Kd.N_mono (ok' := (fun k_ => ((fun k_ => (P0_ k_ ∨ w.heap.size ≤ k_) ∧ some k_ ≠ (.slice Ao17 t462.length co17 : Value).ownBlock ∧ k_ ≠ gb455 ∧ k_ ≠ gb465)) k_ ∧ some k_ ≠ (u466001 : Value).ownBlock)) (HO482.out) (fun k_ hk => ⟨⟨hk.1, ⟨hk.2.1, ⟨hk.2.2.2.1, hk.2.2.2.2⟩⟩⟩, hk.2.2.1⟩))).2.1 (Kd.N_F (Kd.N_mono (ok' := (fun k_ => ((fun k_ => (P0_ k_ ∨ w.heap.size ≤ k_) ∧ some k_ ≠ (.slice Ao17 t462.length co17 : Value).ownBlock ∧ k_ ≠ gb455 ∧ k_ ≠ gb465)) k_ ∧ some k_ ≠ (u466001 : Value).ownBlock)) (HO482.out) (fun k_ hk => ⟨⟨hk.1, ⟨hk.2.1, ⟨hk.2.2.2.1, hk.2.2.2.2⟩⟩⟩, hk.2.2.1⟩)))))
             (case aB => exact yB)
             (case aF => exact (fun k_ hk => ⟨(.inr (Nat.le_trans (below_size yB) hk)), Kd.fresh' (Kd.N_lt (yN HO_466000.out)) k_ hk, Kd.freshB (g := gb455) yK k_ hk, Kd.freshB (g := gb465) yK k_ hk⟩))
             (case aO => exact (yN (Kd.N_mono HO_466001.out (fun _ hk => ⟨hk.1.1, ⟨hk.1.2.1, ⟨hk.1.2.2.1, hk.1.2.2.2⟩⟩⟩))))
             (case aS => exact (below_size yB))
             (case aL => have := LMc37.out; omega)
             intro v484 w48 ho hb hg hat
             rw [← Ny483.out] at ho
             have n0_ := Aside0.mk (Kd.V_afterv (ok := (fun k_ => (P0_ k_ ∨ w.heap.size ≤ k_) ∧ some k_ ≠ (.slice Ao17 t462.length co17 : Value).ownBlock ∧ some k_ ≠ (.slice Ao47 t480.length co47 : Value).ownBlock ∧ k_ ≠ gb455 ∧ k_ ≠ gb465)) (yV (Kd.V_mono HO_6.out (fun _ hk => ⟨⟨hk.1.1, ⟨hk.1.2.1, ⟨hk.2, ⟨hk.1.2.2.2.1, hk.1.2.2.2.2⟩⟩⟩⟩, hk.1.2.2.1⟩))) hg hat)
             have n1_ := Aside0.mk (Kd.N_afterv (ok := (fun k_ => (P0_ k_ ∨ w.heap.size ≤ k_) ∧ some k_ ≠ (.slice Ao47 t480.length co47 : Value).ownBlock ∧ k_ ≠ gb455 ∧ k_ ≠ gb465)) (yN (Kd.N_mono HO_466000.out (fun _ hk => ⟨⟨hk.1.1, ⟨hk.2, ⟨hk.1.2.2.1, hk.1.2.2.2⟩⟩⟩, hk.1.2.1⟩))) hg hat)
             have n2_ := Aside0.mk (blk_grown (g := gb455) yK hg (Kd.N_ne HO_466001.out BK455.out (by decide)))
             have n3_ := Aside0.mk (blk_grown (g := gb465) yK hg (Kd.N_ne HO_466001.out BK465.out (by decide)))
             have n4_ := Aside0.mk (Kd.V_afterv (ok := (fun k_ => (P0_ k_ ∨ w.heap.size ≤ k_) ∧ some k_ ≠ (.slice Ao17 t462.length co17 : Value).ownBlock ∧ some k_ ≠ (.slice Ao47 t480.length co47 : Value).ownBlock ∧ k_ ≠ gb455 ∧ k_ ≠ gb465)) (yV (Kd.V_mono HL471_1.out (fun _ hk => ⟨⟨hk.1.1, ⟨hk.1.2.1, ⟨hk.2, ⟨hk.1.2.2.2.1, hk.1.2.2.2.2⟩⟩⟩⟩, hk.1.2.2.1⟩))) hg hat)
             have n5_ := Aside0.mk (Kd.V_afterv (ok := (fun k_ => (P0_ k_ ∨ w.heap.size ≤ k_) ∧ some k_ ≠ (.slice Ao17 t462.length co17 : Value).ownBlock ∧ some k_ ≠ (.slice Ao47 t480.length co47 : Value).ownBlock ∧ k_ ≠ gb455 ∧ k_ ≠ gb465)) (yV (Kd.V_mono HO479.out (fun _ hk => ⟨⟨hk.1.1, ⟨hk.1.2.1, ⟨hk.2, ⟨hk.1.2.2.2.1, hk.1.2.2.2.2⟩⟩⟩⟩, hk.1.2.2.1⟩))) hg hat)
             have n6_ := Aside0.mk (hb)
             have n7_ := Aside0.mk (ho)
             clear HO_6
             clear HO_466000
             clear BK455
             clear BK465
             clear HL471_1
             clear HO479
             clear HB
             clear HO_466001
             clear HO482
             have HO_6 := n0_
             have HO_466000 := n1_
             have BK455 := n2_
             have BK465 := n3_
             have HL471_1 := n4_
             have HO479 := n5_
             have HB := n6_
             have HO485 := n7_
             clear n0_ n1_ n2_ n3_ n4_ n5_ n6_ n7_
             clear ho hb hg hat
             obtain ⟨Ao49, co49, eo49⟩ := Kd.N_slice HO485.out
             (first | subst eo49 | (injection eo49 with f1_ f2_ f3_; have f4_ := f1_.symm; have f5_ := f3_.symm; clear f1_ f2_ f3_; subst f4_; subst f5_))
             refine hK.out _ _ ⟨(blk_cell BK465.out 0).trans rfl, (blk_cell BK465.out 1).trans rfl⟩ (fun hHeld => ?_)
             clear hK K
             refine yn 53 ?_
             refine yp 10 54 ?_
             refine last_ (i := 11) (N := none) #[true, true, true, true, true, true, true, true, true, true, true, true] rfl rfl (one_of HT_.out (by kernel_rfl)) (by decide) (fun K hK => ?_)
             have hs50 : w48.cell? ⟨gb465, 1, none⟩ = some (u466001) := (blk_cell BK465.out 1).trans rfl
             have hfs50 := blk_frozen BK465.out 1
             have hns50_0 := NB455_465.out
             have hms50_0 := NB465_455.out
             refine skip_ (w1 := ?_) (by rfl) rfl ?_ ?_
             rotate_left
             ·go_simp
              rfl
             refine hK.out _ _ ?_
             clear hK K
             refine done_ (done_of HT_.out (by kernel_rfl)) ?_
             have n0_ : Aside0 (Kd.V k32 32 (w48.setCell ⟨gb465, 1, none⟩ (.slice Ao49 y483.length co49)) w.heap.size (fun k_ => (P0_ k_ ∨ w.heap.size ≤ k_) ∧ some k_ ≠ (.slice Ao17 t462.length co17 : Value).ownBlock ∧ some k_ ≠ (.slice Ao49 y483.length co49 : Value).ownBlock ∧ k_ ≠ gb455 ∧ k_ ≠ gb465) (.slice (some ad471) x6_1.length co41) x6_1) := ⟨by refine yV ?_; exact Kd.V_mono (Kd.V_far (p := ⟨gb465, 1, none⟩) (Kd.V_mono HO_6.out (fun k_ hk => (⟨hk, hk.1.2.2.2.2⟩ : _ ∧ k_ ≠ gb465))) (fun _ hk => hk.2) (.slice Ao49 y483.length co49)) (fun _ hk => ⟨hk.1.1.1, ⟨hk.1.1.2.1, ⟨hk.1.2, ⟨hk.1.1.2.2.2.1, hk.1.1.2.2.2.2⟩⟩⟩⟩)⟩
             have n1_ : Aside0 (Kd.N k32 32 (w48.setCell ⟨gb465, 1, none⟩ (.slice Ao49 y483.length co49)) w.heap.size (fun k_ => (P0_ k_ ∨ w.heap.size ≤ k_) ∧ some k_ ≠ (.slice Ao49 y483.length co49 : Value).ownBlock ∧ k_ ≠ gb455 ∧ k_ ≠ gb465) (.slice Ao17 t462.length co17) t462) := ⟨by refine yN ?_; exact Kd.N_mono (Kd.N_far (p := ⟨gb465, 1, none⟩) (Kd.N_mono HO_466000.out (fun k_ hk => (⟨hk, hk.1.2.2.2⟩ : _ ∧ k_ ≠ gb465))) (fun _ hk => hk.2) (.slice Ao49 y483.length co49)) (fun _ hk => ⟨hk.1.1.1, ⟨hk.1.2, ⟨hk.1.1.2.2.1, hk.1.1.2.2.2⟩⟩⟩)⟩
             have n2_ : Aside0 (Kd.V k78 78 (w48.setCell ⟨gb465, 1, none⟩ (.slice Ao49 y483.length co49)) w.heap.size (fun k_ => (P0_ k_ ∨ w.heap.size ≤ k_) ∧ some k_ ≠ (.slice Ao17 t462.length co17 : Value).ownBlock ∧ some k_ ≠ (.slice Ao49 y483.length co49 : Value).ownBlock ∧ k_ ≠ gb455 ∧ k_ ≠ gb465) (.slice A471_1 ((rd_T32 x6_1 0).f1).length c471_1) ((rd_T32 x6_1 0).f1)) := ⟨by refine yV ?_; exact Kd.V_mono (Kd.V_far (p := ⟨gb465, 1, none⟩) (Kd.V_mono HL471_1.out (fun k_ hk => (⟨hk, hk.1.2.2.2.2⟩ : _ ∧ k_ ≠ gb465))) (fun _ hk => hk.2) (.slice Ao49 y483.length co49)) (fun _ hk => ⟨hk.1.1.1, ⟨hk.1.1.2.1, ⟨hk.1.2, ⟨hk.1.1.2.2.2.1, hk.1.1.2.2.2.2⟩⟩⟩⟩)⟩
             have n3_ : Aside0 (Kd.V k32 32 (w48.setCell ⟨gb465, 1, none⟩ (.slice Ao49 y483.length co49)) w.heap.size (fun k_ => (P0_ k_ ∨ w.heap.size ≤ k_) ∧ some k_ ≠ (.slice Ao17 t462.length co17 : Value).ownBlock ∧ some k_ ≠ (.slice Ao49 y483.length co49 : Value).ownBlock ∧ k_ ≠ gb455 ∧ k_ ≠ gb465) (.slice A45 y475.length c45) y475) := ⟨by refine yV ?_; exact Kd.V_mono (Kd.V_far (p := ⟨gb465, 1, none⟩) (Kd.V_mono HO479.out (fun k_ hk => (⟨hk, hk.1.2.2.2.2⟩ : _ ∧ k_ ≠ gb465))) (fun _ hk => hk.2) (.slice Ao49 y483.length co49)) (fun _ hk => ⟨hk.1.1.1, ⟨hk.1.1.2.1, ⟨hk.1.2, ⟨hk.1.1.2.2.2.1, hk.1.1.2.2.2.2⟩⟩⟩⟩)⟩
             have n4_ : Aside0 (Kd.N k81 81 (w48.setCell ⟨gb465, 1, none⟩ (.slice Ao49 y483.length co49)) w.heap.size (fun k_ => (P0_ k_ ∨ w.heap.size ≤ k_) ∧ some k_ ≠ (.slice Ao17 t462.length co17 : Value).ownBlock ∧ k_ ≠ gb455 ∧ k_ ≠ gb465) (.slice Ao49 y483.length co49) y483) := ⟨by refine yN ?_; exact Kd.N_mono (Kd.N_far (p := ⟨gb465, 1, none⟩) (Kd.N_mono HO485.out (fun k_ hk => (⟨hk, hk.2.2.2⟩ : _ ∧ k_ ≠ gb465))) (fun _ hk => hk.2) (.slice Ao49 y483.length co49)) (fun _ hk => ⟨hk.1.1, ⟨hk.1.2.1, ⟨hk.1.2.2.1, hk.1.2.2.2⟩⟩⟩)⟩
             have n5_ : Aside0 ((w48.setCell ⟨gb465, 1, none⟩ (.slice Ao49 y483.length co49)).heap[gb455]? = some (.cells #[.slice none 0 0, .slice none 0 0] 54 (0, 0))) := ⟨by refine yH ?_; refine blk_far ?_ NB455_465.out _; refine yH ?_; exact BK455.out⟩
             have n6_ : Aside0 ((w48.setCell ⟨gb465, 1, none⟩ (.slice Ao49 y483.length co49)).heap[gb465]? = some (.cells #[.slice Ao17 t462.length co17, .slice Ao49 y483.length co49] 54 (0, 0))) := ⟨by refine yH ?_; refine blk_put (cs := #[.slice Ao17 t462.length co17, u466001]) ?_ 1 _ rfl; refine yH ?_; exact BK465.out⟩
             have n7_ : Aside0 (Below w.heap.size w (w48.setCell ⟨gb465, 1, none⟩ (.slice Ao49 y483.length co49))) := ⟨yB⟩
             (try clear HO_6)
             (try clear HO_466000)
             (try clear HL471_1)
             (try clear HO479)
             (try clear HO485)
             (try clear BK455)
             (try clear BK465)
             (try clear HB)
             generalize (w48.setCell ⟨gb465, 1, none⟩ (.slice Ao49 y483.length co49)) = w51 at n0_ n1_ n2_ n3_ n4_ n5_ n6_ n7_ ⊢
             have HO_6 := n0_
             have HO_466000 := n1_
             have HL471_1 := n2_
             have HO479 := n3_
             have HO485 := n4_
             have BK455 := n5_
             have BK465 := n6_
             have HB := n7_
             clear n0_ n1_ n2_ n3_ n4_ n5_ n6_ n7_
             have q52 : ((ji38) : Int) ≤ ((x6_1.length : Int) : Int) := yD
             obtain ⟨i052, hi052, _, hsz52, _⟩ := info_parts info32
             have hroom52 : x6_1.length ≤ co41 := (Kd.V_reads' HO_6.out).2.1
             have hC52 : Kd.F k32 _ _ (some ad471) x6_1.length x6_1 := (Kd.V_at (base := w.heap.size) HO_6.out).2.2
             have q052 : (0 : Int) ≤ ((ji38) : Int) := yD
             have hcut52 := cut_from (P := Try.prog) 35 32 .i64 Try.underlying35 hi052 3 hsz52 (some ad471) x6_1.length co41 (ji38) q052 q52
             have hr52 := Kd.F_cut (m := ((ji38) : Int).toNat) (c := co41) hC52 (by omega) hroom52
             obtain ⟨A52, hA52⟩ : ∃ A1, A1 = (if co41 = ((ji38) : Int).toNat then (some ad471) else ((some ad471) : Option Addr).map (·.add (((ji38) : Int).toNat * 3))) := ⟨_, rfl⟩
             obtain ⟨c52, hc52⟩ : ∃ c1, c1 = co41 - ((ji38) : Int).toNat := ⟨_, rfl⟩
             have hy52 : y486.length = x6_1.length - ((ji38) : Int).toNat := (by rw [Ny486.out, List.length_drop] <;> omega)
             rw [show (x6_1).drop ((ji38) : Int).toNat = y486 from Ny486.out.symm] at hr52
             replace hr52 : Kd.F k32 _ _ A52 y486.length y486 := (by rw [hA52]; exact hr52)
             rw [← hy52, ← hA52, ← hc52] at hcut52
             have HO490 := Aside0.mk (show Kd.V k32 32 _ w.heap.size _ (.slice A52 y486.length c52) y486 from Kd.V_mk (by rw [hy52, hc52]; exact Nat.sub_le_sub_right hroom52 _) hr52)
             have HC490 := Aside0.mk (show y486.length ≤ c52 from by rw [hy52, hc52]; exact Nat.sub_le_sub_right hroom52 _)
             clear hr52 hC52 hroom52 hi052 hsz52 hc52
             have KY52 := Aside0.mk hy52
             have KA52 := Aside0.mk hA52
             clear hy52 hA52
             replace q52 := eq_true q52
             try go_wp2
             go_roundg k1
             case measure => have := HK1.out; omega
             case rel => exact ⟨(y486), (y483), (.slice Ao49 y483.length co49), H', ⟨by have := HK1.out; omega⟩, ⟨by refine yV ?_; exact HO490.out⟩, ⟨by refine yN ?_; exact HO_466000.out⟩, ⟨by refine yN ?_; exact HO485.out⟩, ⟨by refine yH ?_; exact BK455.out⟩, ⟨by refine yH ?_; exact BK465.out⟩, ⟨yB⟩⟩
            rw [if_neg c40] at H
            exact absurd H (by simp)
           rw [if_neg c39] at H
           exact absurd H (by simp)
          rw [if_neg c37] at H
          exact absurd H (by simp)
         rw [if_neg c35] at H
         exact absurd H (by simp)
        rw [if_neg c34] at H
        exact absurd H (by simp)
       replace c27 := Bool.eq_false_iff.mpr c27
       subst c27
       replace H : (some (([] : List (S32)), ([] : List (S81)), 1)) = some (r1, r2, r3) := by rw [if_neg (show ¬ (false = true) by decide)] at H; exact H
       simp only [Option.some.injEq, Prod.mk.injEq] at H
       obtain ⟨rfl, rfl, rfl⟩ := H
       obtain ⟨Ao53, co53, eo53⟩ := Kd.V_slice HO_6.out
       subst eo53
       have p471 : 0 ≤ (0 : Int) := (by omega)
       have q471 : 0 < (x6_1.length : Int) := yD
       obtain ⟨ad471, A471_1, c471_1, e471, hx471_0, hx471_1, hx471_2, hl471_1, hi471_1⟩ := at_T32 (Kd.V_reads' HO_6.out).2.2 0 p471 q471
       cases e471
       obtain ⟨ce471, hce471, hMe471, hcc471⟩ := Kd.V_get HO_6.out z32 0 p471 (by first | exact q471 | exact yD | (have e_ := (Kd.V_reads' HO_6.out).1; omega))
       obtain ⟨ua471_1, uc471_1, rfl, ul471_1, ge471_1⟩ := k32_openF hMe471
       have hv471_1 := hcc471 1 _ rfl
       rw [add_field _ _ 1 (by omega)] at hv471_1
       replace hv471_1 := Option.some.inj (hv471_1.symm.trans hx471_1)
       injection hv471_1 with hva_ hvn_ hvc_
       rw [hva_] at ge471_1
       rw [hvc_] at ul471_1
       have HL471_1 := Aside0.mk (show Kd.V k78 78 _ w.heap.size _ _ ((rd_T32 x6_1 0).f1) from Kd.V_mk ul471_1 ge471_1)
       clear hva_ hvn_ hvc_ ge471_1 ul471_1
       clear hcc471 hce471
       have qi471 : (0 < x6_1.length) = True := eq_true (by omega)
       (try rw [show ((0 : Int)).toNat = 0 from rfl] at hx471_0)
       (try rw [show 0 * 3 = 0 from rfl] at hx471_0)
       (try rw [Addr.add_zero'] at hx471_0)
       (try rw [show ((0 : Int)).toNat = 0 from rfl] at hx471_1)
       (try rw [show 0 * 3 = 0 from rfl] at hx471_1)
       (try rw [Addr.add_zero'] at hx471_1)
       (try rw [show ((0 : Int)).toNat = 0 from rfl] at hx471_2)
       (try rw [show 0 * 3 = 0 from rfl] at hx471_2)
       (try rw [Addr.add_zero'] at hx471_2)
       have HR471_1 := Aside0.mk hi471_1
       have HC471_1 := Aside0.mk hl471_1
       clear hi471_1 hl471_1
       replace p471 := eq_true p471
       replace q471 := eq_true q471
       go_wp2_with (first | ((with_reducible refine gate_callee (f := 76) rfl ?_); refine goesL_ (some 32) rfl rfl Try.func76 (by kernel_rfl) rfl #[.agg #[.bool ((rd_T32 x6_1 0).f0), .slice A471_1 ((rd_T32 x6_1 0).f1).length c471_1, .string ((rd_T32 x6_1 0).f2)]] rfl yQ ?_; (with_reducible refine (subprogram_beginning.calls ((rd_T32 x6_1 0).f0) _ _ ((rd_T32 x6_1 0).f1) ((rd_T32 x6_1 0).f2) t472 false _ ?side1 ?side2 A25.out).mono ?_); (case side1 => repeat (first | exact (by repeat (first | (with_reducible exact HR471_1.out) | (with_reducible refine Kd.C_alloc ?_ _) | (with_reducible refine Kd.C_drewN ?_ _) | (with_reducible refine Kd.C_drew ?_) | exact HR471_1.out)) | (with_reducible refine Kd.C_alloc ?_ _) | (with_reducible refine Kd.C_drewN ?_ _) | (with_reducible refine Kd.C_drew ?_))); (case side2 => exact HC471_1.out); rintro e w54 ⟨rfl, hb⟩; refine ⟨_, rfl, ?_⟩; replace HO_6 := Aside0.mk (Kd.V_below (yV HO_6.out) hb); replace HO_466000 := Aside0.mk (Kd.N_below (yN HO_466000.out) hb); replace HO_466001 := Aside0.mk (Kd.N_below (yN HO_466001.out) hb); replace HL471_1 := Aside0.mk (Kd.V_below (yV HL471_1.out) hb); replace BK455 := Aside0.mk (blk_below (g := gb455) yK hb); replace BK465 := Aside0.mk (blk_below (g := gb465) yK hb); replace HR471_1 := Aside0.mk (Kd.C_below (by repeat (first | (with_reducible exact HR471_1.out) | (with_reducible refine Kd.C_alloc ?_ _) | (with_reducible refine Kd.C_drewN ?_ _) | (with_reducible refine Kd.C_drew ?_) | exact HR471_1.out)) hb); replace HB := Aside0.mk (below_step yB hb); (try clear hb)) | ((with_reducible refine gate_callee (f := 73) rfl ?_); refine goesL_ (some 36) rfl rfl Try.func73 (by kernel_rfl) rfl #[.slice (some ad471) x6_1.length co53, .func (.func 77) #[] #[]] rfl yQ ?_; (with_reducible refine (IndexFunc_back.calls k1 _ _ x6_1  t474 _ ?side1 ?side2 A26.out).mono ?_); (case side1 => repeat (first | exact (Kd.V_reads' HO_6.out).2.2 | (with_reducible refine Kd.C_alloc ?_ _) | (with_reducible refine Kd.C_drewN ?_ _) | (with_reducible refine Kd.C_drew ?_))); (case side2 => exact (Kd.V_reads' HO_6.out).2.1); rintro e w55 ⟨rfl, hb⟩; refine ⟨_, rfl, ?_⟩; replace HO_6 := Aside0.mk (Kd.V_below (yV HO_6.out) hb); replace HO_466000 := Aside0.mk (Kd.N_below (yN HO_466000.out) hb); replace HO_466001 := Aside0.mk (Kd.N_below (yN HO_466001.out) hb); replace HL471_1 := Aside0.mk (Kd.V_below (yV HL471_1.out) hb); replace BK455 := Aside0.mk (blk_below (g := gb455) yK hb); replace BK465 := Aside0.mk (blk_below (g := gb465) yK hb); replace HR471_1 := Aside0.mk (Kd.C_below (by repeat (first | (with_reducible exact HR471_1.out) | (with_reducible refine Kd.C_alloc ?_ _) | (with_reducible refine Kd.C_drewN ?_ _) | (with_reducible refine Kd.C_drew ?_) | exact HR471_1.out)) hb); replace HB := Aside0.mk (below_step yB hb); (try clear hb); have hnb56 := NB455_465.out; have hnc56 := NB465_455.out; have hcz57_0 := yZ0 BK455.out; have hcz57_1 := yZ1 BK455.out; have hfz57_0 := blk_frozen BK455.out 0; have hfz57_1 := blk_frozen BK455.out 1))
       refine bodyPost_ret (results_ct rfl _ _ gb455 54 #[.slice none 0 0, .slice none 0 0] (0, 0) _ rfl (by refine yH ?_; refine blk_put (cs := #[.slice none 0 0, .slice none 0 0]) ?_ 1 _ rfl; refine yH ?_; refine blk_put (cs := #[.slice none 0 0, .slice none 0 0]) ?_ 0 _ rfl; refine yH ?_; exact BK455.out) Try.underlying54 rfl (by kernel_rfl)) rfl ?_
       exact ⟨_, _, by first | rfl | (simp [errW_none, errW_some] <;> rfl) | (simp only [← hji7]; first | rfl | (simp [errW_none, errW_some] <;> rfl)) | (simp [*, errW_none, errW_some] <;> rfl), by first | exact Kd.S_nil _ _ _ _ _ | exact Kd.N_nil _ _ _ _ _ | exact Kd.V_nil _ _ _ _ _ | exact Kd.Q_nil _ _ _ _ _ | exact Kd.R_nil _ _ _ _ _, by first | exact Kd.R_nil _ _ _ _ _ | exact Kd.N_nil _ _ _ _ _ | exact Kd.V_nil _ _ _ _ _ | exact Kd.Q_nil _ _ _ _ _ | exact Kd.S_nil _ _ _ _ _, yB⟩
      rw [if_neg c24] at H
      exact absurd H (by simp)
     rw [if_neg c23] at H
     have c23b0 := decide_eq_false c23
     have c23b1 : decide (0 < x6_1.length) = false := decide_eq_false (by omega)
     clear c23
     replace H := Option.bind_eq_some_iff.mp H
     obtain ⟨t491, A580, H⟩ := H
     have A58 := Aside0.mk A580
     clear A580
     by_cases c59 : t491 = true
     ·subst c59
      rw [if_pos rfl] at H
      replace H := Option.bind_eq_some_iff.mp H
      obtain ⟨t492, A600, H⟩ := H
      have A60 := Aside0.mk A600
      clear A600
      by_cases c61 : t492 = true
      ·subst c61
       rw [if_pos rfl] at H
       simp only [Option.some.injEq, Prod.mk.injEq] at H
       obtain ⟨rfl, rfl, rfl⟩ := H
       obtain ⟨Ao62, co62, eo62⟩ := Kd.V_slice HO_6.out
       subst eo62
       have hnb63 := NB465_455.out
       have hnc63 := NB455_465.out
       have hcz64_0 := yZ0 BK465.out
       have hcz64_1 := yZ1 BK465.out
       have hfz64_0 := blk_frozen BK465.out 0
       have hfz64_1 := blk_frozen BK465.out 1
       obtain ⟨Ao65, co65, eo65⟩ := Kd.N_slice HO_466001.out
       subst eo65
       go_wp2_with (first | ((with_reducible refine gate_callee (f := 79) rfl ?_); refine goesL_ (some 60) rfl rfl Try.func79 (by kernel_rfl) rfl #[.agg #[.slice Ao17 t462.length co17, .slice Ao65 x466001_1.length co65]] rfl yQ ?_; (with_reducible refine (subprogram_ordered.calls k1 _ _ t462 _ _ x466001_1 true _ ?side1 ?side2 ?side3 ?side4 A58.out).mono ?_); (case side1 => repeat (first | exact (Kd.N_reads' HO_466000.out).2.2 | (with_reducible refine Kd.C_alloc ?_ _) | (with_reducible refine Kd.C_drewN ?_ _) | (with_reducible refine Kd.C_drew ?_))); (case side2 => exact (Kd.N_reads' HO_466000.out).2.1); (case side3 => repeat (first | exact (Kd.N_reads' HO_466001.out).2.2 | (with_reducible refine Kd.C_alloc ?_ _) | (with_reducible refine Kd.C_drewN ?_ _) | (with_reducible refine Kd.C_drew ?_))); (case side4 => exact (Kd.N_reads' HO_466001.out).2.1); rintro e w66 ⟨rfl, hb⟩; refine ⟨_, rfl, ?_⟩; replace HO_6 := Aside0.mk (Kd.V_below (yV HO_6.out) hb); replace HO_466000 := Aside0.mk (Kd.N_below (yN HO_466000.out) hb); replace HO_466001 := Aside0.mk (Kd.N_below (yN HO_466001.out) hb); replace BK455 := Aside0.mk (blk_below (g := gb455) yK hb); replace BK465 := Aside0.mk (blk_below (g := gb465) yK hb); replace HB := Aside0.mk (below_step yB hb); (try clear hb); have hcz67_0 := yZ0 BK465.out; have hcz67_1 := yZ1 BK465.out; have hfz67_0 := blk_frozen BK465.out 0; have hfz67_1 := blk_frozen BK465.out 1) | ((with_reducible refine gate_callee (f := 80) rfl ?_); refine goesL_ (some 65) rfl rfl Try.func80 (by kernel_rfl) rfl #[.slice Ao65 x466001_1.length co65] rfl yQ ?_; (with_reducible refine (subprogram_repeated.calls _ _ x466001_1 true _ ?side1 ?side2 A60.out).mono ?_); (case side1 => repeat (first | exact (Kd.N_reads' HO_466001.out).2.2 | (with_reducible refine Kd.C_alloc ?_ _) | (with_reducible refine Kd.C_drewN ?_ _) | (with_reducible refine Kd.C_drew ?_))); (case side2 => exact (Kd.N_reads' HO_466001.out).2.1); rintro e w68 ⟨rfl, hb⟩; refine ⟨_, rfl, ?_⟩; replace HO_6 := Aside0.mk (Kd.V_below (yV HO_6.out) hb); replace HO_466000 := Aside0.mk (Kd.N_below (yN HO_466000.out) hb); replace HO_466001 := Aside0.mk (Kd.N_below (yN HO_466001.out) hb); replace BK455 := Aside0.mk (blk_below (g := gb455) yK hb); replace BK465 := Aside0.mk (blk_below (g := gb465) yK hb); replace HB := Aside0.mk (below_step yB hb); (try clear hb); have hcz69_0 := yZ0 BK455.out; have hcz69_1 := yZ1 BK455.out; have hfz69_0 := blk_frozen BK455.out 0; have hfz69_1 := blk_frozen BK455.out 1))
       refine bodyPost_ret (results_ct rfl _ _ gb455 54 #[.slice none 0 0, .slice none 0 0] (0, 0) _ rfl (by refine yH ?_; refine blk_put (cs := #[.slice none 0 0, .slice none 0 0]) ?_ 1 _ rfl; refine yH ?_; refine blk_put (cs := #[.slice none 0 0, .slice none 0 0]) ?_ 0 _ rfl; refine yH ?_; exact BK455.out) Try.underlying54 rfl (by kernel_rfl)) rfl ?_
       exact ⟨_, _, by first | rfl | (simp [errW_none, errW_some] <;> rfl) | (simp only [← hji7]; first | rfl | (simp [errW_none, errW_some] <;> rfl)) | (simp [*, errW_none, errW_some] <;> rfl), by first | exact Kd.S_nil _ _ _ _ _ | exact Kd.N_nil _ _ _ _ _ | exact Kd.V_nil _ _ _ _ _ | exact Kd.Q_nil _ _ _ _ _ | exact Kd.R_nil _ _ _ _ _, by first | exact Kd.R_nil _ _ _ _ _ | exact Kd.N_nil _ _ _ _ _ | exact Kd.V_nil _ _ _ _ _ | exact Kd.Q_nil _ _ _ _ _ | exact Kd.S_nil _ _ _ _ _, yB⟩
      replace c61 := Bool.eq_false_iff.mpr c61
      subst c61
      replace H : (some (t462, x466001_1, 0)) = some (r1, r2, r3) := by rw [if_neg (show ¬ (false = true) by decide)] at H; exact H
      simp only [Option.some.injEq, Prod.mk.injEq] at H
      obtain ⟨rfl, rfl, rfl⟩ := H
      obtain ⟨Ao70, co70, eo70⟩ := Kd.V_slice HO_6.out
      subst eo70
      have hnb71 := NB465_455.out
      have hnc71 := NB455_465.out
      have hcz72_0 := yZ0 BK465.out
      have hcz72_1 := yZ1 BK465.out
      have hfz72_0 := blk_frozen BK465.out 0
      have hfz72_1 := blk_frozen BK465.out 1
      obtain ⟨Ao73, co73, eo73⟩ := Kd.N_slice HO_466001.out
      subst eo73
      go_wp2_with (first | ((with_reducible refine gate_callee (f := 79) rfl ?_); refine goesL_ (some 60) rfl rfl Try.func79 (by kernel_rfl) rfl #[.agg #[.slice Ao17 t462.length co17, .slice Ao73 x466001_1.length co73]] rfl yQ ?_; (with_reducible refine (subprogram_ordered.calls k1 _ _ t462 _ _ x466001_1 true _ ?side1 ?side2 ?side3 ?side4 A58.out).mono ?_); (case side1 => repeat (first | exact (Kd.N_reads' HO_466000.out).2.2 | (with_reducible refine Kd.C_alloc ?_ _) | (with_reducible refine Kd.C_drewN ?_ _) | (with_reducible refine Kd.C_drew ?_))); (case side2 => exact (Kd.N_reads' HO_466000.out).2.1); (case side3 => repeat (first | exact (Kd.N_reads' HO_466001.out).2.2 | (with_reducible refine Kd.C_alloc ?_ _) | (with_reducible refine Kd.C_drewN ?_ _) | (with_reducible refine Kd.C_drew ?_))); (case side4 => exact (Kd.N_reads' HO_466001.out).2.1); rintro e w74 ⟨rfl, hb⟩; refine ⟨_, rfl, ?_⟩; replace HO_6 := Aside0.mk (Kd.V_below (yV HO_6.out) hb); replace HO_466000 := Aside0.mk (Kd.N_below (yN HO_466000.out) hb); replace HO_466001 := Aside0.mk (Kd.N_below (yN HO_466001.out) hb); replace BK455 := Aside0.mk (blk_below (g := gb455) yK hb); replace BK465 := Aside0.mk (blk_below (g := gb465) yK hb); replace HB := Aside0.mk (below_step yB hb); (try clear hb); have hcz75_0 := yZ0 BK465.out; have hcz75_1 := yZ1 BK465.out; have hfz75_0 := blk_frozen BK465.out 0; have hfz75_1 := blk_frozen BK465.out 1) | ((with_reducible refine gate_callee (f := 80) rfl ?_); refine goesL_ (some 65) rfl rfl Try.func80 (by kernel_rfl) rfl #[.slice Ao73 x466001_1.length co73] rfl yQ ?_; (with_reducible refine (subprogram_repeated.calls _ _ x466001_1 false _ ?side1 ?side2 A60.out).mono ?_); (case side1 => repeat (first | exact (Kd.N_reads' HO_466001.out).2.2 | (with_reducible refine Kd.C_alloc ?_ _) | (with_reducible refine Kd.C_drewN ?_ _) | (with_reducible refine Kd.C_drew ?_))); (case side2 => exact (Kd.N_reads' HO_466001.out).2.1); rintro e w76 ⟨rfl, hb⟩; refine ⟨_, rfl, ?_⟩; replace HO_6 := Aside0.mk (Kd.V_below (yV HO_6.out) hb); replace HO_466000 := Aside0.mk (Kd.N_below (yN HO_466000.out) hb); replace HO_466001 := Aside0.mk (Kd.N_below (yN HO_466001.out) hb); replace BK455 := Aside0.mk (blk_below (g := gb455) yK hb); replace BK465 := Aside0.mk (blk_below (g := gb465) yK hb); replace HB := Aside0.mk (below_step yB hb); (try clear hb); have hcz77_0 := yZ0 BK465.out; have hcz77_1 := yZ1 BK465.out; have hfz77_0 := blk_frozen BK465.out 0; have hfz77_1 := blk_frozen BK465.out 1; have hcz78_0 := yZ0 BK455.out; have hcz78_1 := yZ1 BK455.out; have hfz78_0 := blk_frozen BK455.out 0; have hfz78_1 := blk_frozen BK455.out 1))
      refine bodyPost_ret (results_ct rfl _ _ gb455 54 #[.slice Ao17 t462.length co17, .slice Ao73 x466001_1.length co73] (0, 0) _ rfl (by refine yH ?_; refine blk_put (cs := #[.slice Ao17 t462.length co17, .slice none 0 0]) ?_ 1 _ rfl; refine yH ?_; refine blk_put (cs := #[.slice none 0 0, .slice none 0 0]) ?_ 0 _ rfl; refine yH ?_; exact BK455.out) Try.underlying54 rfl (by kernel_rfl)) rfl ?_
      exact ⟨_, _, by first | rfl | (simp [errW_none, errW_some] <;> rfl) | (simp only [← hji7]; first | rfl | (simp [errW_none, errW_some] <;> rfl)) | (simp [*, errW_none, errW_some] <;> rfl), by refine yN ?_; exact Kd.N_mono (Kd.N_far (p := ⟨gb455, 1, none⟩) (Kd.N_far (p := ⟨gb455, 0, none⟩) (Kd.N_mono HO_466000.out (fun k_ hk => (⟨hk, hk.2.2.1⟩ : _ ∧ k_ ≠ gb455))) (fun _ hk => hk.2) (.slice Ao17 t462.length co17)) (fun _ hk => hk.2) (.slice Ao73 x466001_1.length co73)) (fun _ hk => ⟨hk.1.1, hk.1.2.1⟩), by refine yN ?_; exact Kd.N_mono (Kd.N_far (p := ⟨gb455, 1, none⟩) (Kd.N_far (p := ⟨gb455, 0, none⟩) (Kd.N_mono HO_466001.out (fun k_ hk => (⟨hk, hk.2.2.1⟩ : _ ∧ k_ ≠ gb455))) (fun _ hk => hk.2) (.slice Ao17 t462.length co17)) (fun _ hk => hk.2) (.slice Ao73 x466001_1.length co73)) (fun _ hk => ⟨hk.1.1, hk.1.2.1⟩), yB⟩
     replace c59 := Bool.eq_false_iff.mpr c59
     subst c59
     replace H : (some (([] : List (S32)), ([] : List (S81)), 1)) = some (r1, r2, r3) := by rw [if_neg (show ¬ (false = true) by decide)] at H; exact H
     simp only [Option.some.injEq, Prod.mk.injEq] at H
     obtain ⟨rfl, rfl, rfl⟩ := H
     obtain ⟨Ao79, co79, eo79⟩ := Kd.V_slice HO_6.out
     subst eo79
     have hnb80 := NB465_455.out
     have hnc80 := NB455_465.out
     have hcz81_0 := yZ0 BK465.out
     have hcz81_1 := yZ1 BK465.out
     have hfz81_0 := blk_frozen BK465.out 0
     have hfz81_1 := blk_frozen BK465.out 1
     obtain ⟨Ao82, co82, eo82⟩ := Kd.N_slice HO_466001.out
     subst eo82
     go_wp2_with (first | ((with_reducible refine gate_callee (f := 79) rfl ?_); refine goesL_ (some 60) rfl rfl Try.func79 (by kernel_rfl) rfl #[.agg #[.slice Ao17 t462.length co17, .slice Ao82 x466001_1.length co82]] rfl yQ ?_; (with_reducible refine (subprogram_ordered.calls k1 _ _ t462 _ _ x466001_1 false _ ?side1 ?side2 ?side3 ?side4 A58.out).mono ?_); (case side1 => repeat (first | exact (Kd.N_reads' HO_466000.out).2.2 | (with_reducible refine Kd.C_alloc ?_ _) | (with_reducible refine Kd.C_drewN ?_ _) | (with_reducible refine Kd.C_drew ?_))); (case side2 => exact (Kd.N_reads' HO_466000.out).2.1); (case side3 => repeat (first | exact (Kd.N_reads' HO_466001.out).2.2 | (with_reducible refine Kd.C_alloc ?_ _) | (with_reducible refine Kd.C_drewN ?_ _) | (with_reducible refine Kd.C_drew ?_))); (case side4 => exact (Kd.N_reads' HO_466001.out).2.1); rintro e w83 ⟨rfl, hb⟩; refine ⟨_, rfl, ?_⟩; replace HO_6 := Aside0.mk (Kd.V_below (yV HO_6.out) hb); replace HO_466000 := Aside0.mk (Kd.N_below (yN HO_466000.out) hb); replace HO_466001 := Aside0.mk (Kd.N_below (yN HO_466001.out) hb); replace BK455 := Aside0.mk (blk_below (g := gb455) yK hb); replace BK465 := Aside0.mk (blk_below (g := gb465) yK hb); replace HB := Aside0.mk (below_step yB hb); (try clear hb); have hcz84_0 := yZ0 BK455.out; have hcz84_1 := yZ1 BK455.out; have hfz84_0 := blk_frozen BK455.out 0; have hfz84_1 := blk_frozen BK455.out 1))
     refine bodyPost_ret (results_ct rfl _ _ gb455 54 #[.slice none 0 0, .slice none 0 0] (0, 0) _ rfl (by refine yH ?_; refine blk_put (cs := #[.slice none 0 0, .slice none 0 0]) ?_ 1 _ rfl; refine yH ?_; refine blk_put (cs := #[.slice none 0 0, .slice none 0 0]) ?_ 0 _ rfl; refine yH ?_; exact BK455.out) Try.underlying54 rfl (by kernel_rfl)) rfl ?_
     exact ⟨_, _, by first | rfl | (simp [errW_none, errW_some] <;> rfl) | (simp only [← hji7]; first | rfl | (simp [errW_none, errW_some] <;> rfl)) | (simp [*, errW_none, errW_some] <;> rfl), by first | exact Kd.S_nil _ _ _ _ _ | exact Kd.N_nil _ _ _ _ _ | exact Kd.V_nil _ _ _ _ _ | exact Kd.Q_nil _ _ _ _ _ | exact Kd.R_nil _ _ _ _ _, by first | exact Kd.R_nil _ _ _ _ _ | exact Kd.N_nil _ _ _ _ _ | exact Kd.V_nil _ _ _ _ _ | exact Kd.Q_nil _ _ _ _ _ | exact Kd.S_nil _ _ _ _ _, yB⟩
  rw [if_neg c9] at H
  exact absurd H (by simp)
 rw [if_neg c8] at H
 exact absurd H (by simp)
def swarfref43_Find.l0 : Nat → Int → Int → List (S32) → List (S58) → Option (Int)
 | 0, _, _, _, _ => none
 | k + 1, x1, x5, x541000, x541001 => if x5 < (x541001.length : Int) then (if 0 ≤ x5 then (if ((rd_T58 x541001 x5).f0) = x1 then (some x5) else (swarfref43_Find.l0 k x1 (wrap64 (x5 + 1)) x541000 x541001)) else (none)) else (some (-1))
def swarfref43_Find.f (k : Nat) (l0_0 : List (S32)) (l0_1 : List (S58)) (a1 : Int) : Option (Int) := swarfref43_Find.l0 k a1 0 l0_0 l0_1
set_option maxHeartbeats 8000000 in
set_option maxRecDepth 100000 in
theorem swarfref43_Find.calls (k : Nat) (A0_0 : Option Addr) (c0_0 : Nat) (l0_0 : List (S32)) (A0_1 : Option Addr) (c0_1 : Nat) (l0_1 : List (S58)) (a1 : Int) (r : Int) (w : World) (hr0_0 : Kd.C k32 w A0_0 l0_0.length l0_0) (hc0_0 : l0_0.length ≤ c0_0) (hr0_1 : Kd.C k58 w A0_1 l0_1.length l0_1) (hc0_1 : l0_1.length ≤ c0_1) (h : swarfref43_Find.f k l0_0 l0_1 a1 = some r) :
  Calls Try.prog 30 #[.agg #[.slice A0_0 l0_0.length c0_0, .slice A0_1 l0_1.length c0_1], .int .i64 a1] w fun e w' => e = .returned (.int .i64 r) ∧ Below w.heap.size w w' := by
 have hu48 := Try.underlying48
 have HR0_0 := Aside0.mk hr0_0
 have HC0_0 := Aside0.mk hc0_0
 clear hr0_0 hc0_0
 have HR0_1 := Aside0.mk hr0_1
 have HC0_1 := Aside0.mk hc0_1
 clear hr0_1 hc0_1
 have HB := Aside0.mk (Below.refl w.heap.size w)
 have H : (swarfref43_Find.l0 k a1 0 l0_0 l0_1) = some r := h
 clear h
 have H' := Aside0.mk H
 clear H
 go_enter Try.func30, Try.ntmps30
 go_wp2_with (first | ((with_reducible refine gate_dst (N := 2) rfl ?_); refine yX 2 #[.slice A0_0 l0_0.length c0_0, .slice A0_1 l0_1.length c0_1] 48 ?_; intro gb540 hg w3 hbox hb; have BK540 := Aside0.mk (hbox); have GE540 := Aside0.mk ((yG hg : w.heap.size ≤ gb540)); replace HB := Aside0.mk (below_step yB hb); clear hb hbox hg))
 go_loopg [5] k (fun kq v5 w' => ∃ (x5_1 : Int), v5 = .int .i64 x5_1 ∧ Aside0 (swarfref43_Find.l0 kq a1 x5_1 l0_0 l0_1 = some r) ∧ Aside0 (kq ≤ k) ∧ Aside0 (w'.heap[gb540]? = some (.cells #[(.slice A0_0 l0_0.length c0_0), (.slice A0_1 l0_1.length c0_1)] 48 (0, 0))) ∧ Aside0 (Below w.heap.size w w'))
 case atStart => exact ⟨(0), yS, H', ⟨Nat.le_refl _⟩, ⟨by refine yH ?_; exact BK540.out⟩, ⟨yB⟩⟩
 case round =>
  clear H'
  try clear p2
  try clear c3
  obtain ⟨x5_1, rfl, HA, HK1, BK540, HB⟩ := hrel
  cases gk with
  | zero => exact absurd HA.out (by simp [swarfref43_Find.l0])
  | succ k1 =>
   have H := HA.out
   clear HA
   simp only [swarfref43_Find.l0] at H
   by_cases c4 : x5_1 < (l0_1.length : Int)
   ·rw [if_pos c4] at H
    have c4b0 := decide_eq_true c4
    clear c4
    by_cases c5 : 0 ≤ x5_1
    ·rw [if_pos c5] at H
     have c5b0 := decide_eq_true c5
     clear c5
     by_cases c6 : ((rd_T58 l0_1 x5_1).f0) = a1
     ·rw [if_pos c6] at H
      have c6b0 : (((rd_T58 l0_1 x5_1).f0) == a1) = true := beq_iff_eq.mpr c6
      have c6b1 : (((rd_T58 l0_1 x5_1).f0) != a1) = false := bne_eq_false_iff_eq.mpr c6
      clear c6
      obtain rfl := Option.some.inj H
      have hcz7_0 := yZ0 BK540.out
      have hcz7_1 := yZ1 BK540.out
      have hfz7_0 := blk_frozen BK540.out 0
      have hfz7_1 := blk_frozen BK540.out 1
      have p541 : 0 ≤ (x5_1 : Int) := yD
      have q541 : x5_1 < (l0_1.length : Int) := yD
      obtain ⟨ad541, A541_1, c541_1, e541, hx541_0, hx541_1, hl541_1, hi541_1⟩ := at_T58 HR0_1.out x5_1 p541 q541
      cases e541
      replace hx541_0 := yM HB.out hx541_0
      replace hx541_1 := yM HB.out hx541_1
      have HR541_1 := Aside0.mk hi541_1
      have HC541_1 := Aside0.mk hl541_1
      clear hi541_1 hl541_1
      replace p541 := eq_true p541
      replace q541 := eq_true q541
      go_wp2
      go_ret
      exact ⟨yE, yB⟩
     rw [if_neg c6] at H
     have c6b0 : (((rd_T58 l0_1 x5_1).f0) == a1) = false := beq_eq_false_iff_ne.mpr c6
     have c6b1 : (((rd_T58 l0_1 x5_1).f0) != a1) = true := bne_iff_ne.mpr c6
     have H' := Aside0.mk H
     clear H
     have hcz8_0 := yZ0 BK540.out
     have hcz8_1 := yZ1 BK540.out
     have hfz8_0 := blk_frozen BK540.out 0
     have hfz8_1 := blk_frozen BK540.out 1
     have p541 : 0 ≤ (x5_1 : Int) := yD
     have q541 : x5_1 < (l0_1.length : Int) := yD
     obtain ⟨ad541, A541_1, c541_1, e541, hx541_0, hx541_1, hl541_1, hi541_1⟩ := at_T58 HR0_1.out x5_1 p541 q541
     cases e541
     replace hx541_0 := yM HB.out hx541_0
     replace hx541_1 := yM HB.out hx541_1
     have HR541_1 := Aside0.mk hi541_1
     have HC541_1 := Aside0.mk hl541_1
     clear hi541_1 hl541_1
     replace p541 := eq_true p541
     replace q541 := eq_true q541
     go_wp2
     go_roundg k1
     case measure => have := HK1.out; omega
     case rel => exact ⟨(wrap64 (x5_1 + 1)), yS, H', ⟨by have := HK1.out; omega⟩, ⟨by refine yH ?_; exact BK540.out⟩, ⟨yB⟩⟩
    rw [if_neg c5] at H
    exact absurd H (by simp)
   rw [if_neg c4] at H
   have c4b0 := decide_eq_false c4
   clear c4
   obtain rfl := Option.some.inj H
   have hcz9_0 := yZ0 BK540.out
   have hcz9_1 := yZ1 BK540.out
   have hfz9_0 := blk_frozen BK540.out 0
   have hfz9_1 := blk_frozen BK540.out 1
   go_wp2
   go_ret
   exact ⟨yE, yB⟩
mutual
def swarfref43_proper.l0 : Nat → Int → List (S32) → List (S58) → Option (Bool)
 | 0, _, _, _ => none
 | k + 1, x3, x689000, x689001 => if x3 < (x689000.length : Int) then (if 0 ≤ x3 then ((swarfref43_Return.f k ((rd_T32 x689000 x3).f0) ((rd_T32 x689000 x3).f1) ((rd_T32 x689000 x3).f2)).bind fun t690 => (if t690 = true then (some false) else ((swarfref43_letter.f k ((rd_T32 x689000 x3).f0) ((rd_T32 x689000 x3).f1) ((rd_T32 x689000 x3).f2) 79).bind fun t692 => (if t692 = true then (some false) else ((swarfref43_End.f k ((rd_T32 x689000 x3).f0) ((rd_T32 x689000 x3).f1) ((rd_T32 x689000 x3).f2)).bind fun t694 => (if (t694 != (x3 == (wrap64 ((x689000.length : Int) - 1)))) = true then (some false) else (swarfref43_proper.l0 k (wrap64 (x3 + 1)) x689000 x689001))))))) else (none)) else (swarfref43_proper.l1 k 0 x689000 x689001)
def swarfref43_proper.l1 : Nat → Int → List (S32) → List (S58) → Option (Bool)
 | 0, _, _, _ => none
 | k + 1, x4, x689000, x689001 => if x4 < (x689001.length : Int) then (if 0 ≤ x4 then (if ((rd_T58 x689001 x4).f0) < 1 then (swarfref43_proper.j2 k x4 true x689000 x689001 ((rd_T58 x689001 x4).f0) ((rd_T58 x689001 x4).f1)) else (if ((rd_T58 x689001 x4).f0) > 9999 then (swarfref43_proper.j2 k x4 true x689000 x689001 ((rd_T58 x689001 x4).f0) ((rd_T58 x689001 x4).f1)) else ((swarfref43_Find.f k x689000 x689001 ((rd_T58 x689001 x4).f0)).bind fun t697 => (swarfref43_proper.j2 k x4 (decide (t697 < x4)) x689000 x689001 ((rd_T58 x689001 x4).f0) ((rd_T58 x689001 x4).f1))))) else (none)) else (some true)
def swarfref43_proper.j2 : Nat → Int → Bool → List (S32) → List (S58) → Int → List (S32) → Option (Bool)
 | 0, _, _, _, _, _, _ => none
 | k + 1, x4, x74, x689000, x689001, x697000, x697001 => if x74 = true then (some false) else (swarfref43_proper.l2 k x4 0 x689000 x689001 x697000 x697001)
def swarfref43_proper.l2 : Nat → Int → Int → List (S32) → List (S58) → Int → List (S32) → Option (Bool)
 | 0, _, _, _, _, _, _ => none
 | k + 1, x4, x6, x689000, x689001, x697000, x697001 => if x6 < (x697001.length : Int) then (if 0 ≤ x6 then ((swarfref43_Return.f k ((rd_T32 x697001 x6).f0) ((rd_T32 x697001 x6).f1) ((rd_T32 x697001 x6).f2)).bind fun t699 => (if t699 = true then (some false) else ((swarfref43_letter.f k ((rd_T32 x697001 x6).f0) ((rd_T32 x697001 x6).f1) ((rd_T32 x697001 x6).f2) 79).bind fun t701 => (if t701 = true then (some false) else ((swarfref43_End.f k ((rd_T32 x697001 x6).f0) ((rd_T32 x697001 x6).f1) ((rd_T32 x697001 x6).f2)).bind fun t703 => (if t703 = true then (some false) else (swarfref43_proper.l2 k x4 (wrap64 (x6 + 1)) x689000 x689001 x697000 x697001))))))) else (none)) else (swarfref43_proper.l1 k (wrap64 (x4 + 1)) x689000 x689001)
end
def swarfref43_proper.f (k : Nat) (l0_0 : List (S32)) (l0_1 : List (S58)) : Option (Bool) := if (l0_0.length : Int) = 0 then (some false) else (swarfref43_proper.l0 k 0 l0_0 l0_1)
def swarfref43_proper.T6 : Bool × List (List Nat × List Nat) := (true, [([], []), ([0], [0]), ([], []), ([1, 2], [1, 2]), ([3], [3]), ([4], [4]), ([5, 5], [5]), ([6], [6]), ([7, 6], [6, 7]), ([6], [6]), ([8, 9, 6], [6, 8, 9]), ([10, 6], [6, 10]), ([11, 6, 6], [6, 11]), ([6, 12], [6, 12]), ([13, 12], [13]), ([14], [14]), ([15, 14], [14, 15]), ([14], [14]), ([16, 17, 14], [14, 16, 17]), ([18, 14], [14, 18]), ([19, 14, 14], [14, 19]), ([14], [14]), ([14], [14]), ([22, 14], [14, 22]), ([23, 14], [14, 23]), ([24, 14], [14, 24]), ([21, 25, 14], [14, 21, 25]), ([20, 26, 14], [14, 20, 26]), ([14, 27], [14, 27])])
def swarfref43_proper.B6 : List Nat := [0, 1, 0, 7, 15, 31, 63, 127, 255, 127, 1023, 2047, 4095, 8191, 16383, 32767, 65535, 32767, 262143, 524287, 1048575, 32767, 32767, 4227071, 12615679, 29392895, 65044479, 134217727, 268435455]
theorem swarfref43_proper.tab6 : rtab .any (opsOf Try.f70 6) = swarfref43_proper.T6 := by kernel_rfl
theorem swarfref43_proper.bits6 : waitsOk swarfref43_proper.T6.2 swarfref43_proper.B6 = true := by kernel_rfl
set_option maxHeartbeats 8000000 in
set_option maxRecDepth 100000 in
theorem swarfref43_proper.calls (k : Nat) (A0_0 : Option Addr) (c0_0 : Nat) (l0_0 : List (S32)) (A0_1 : Option Addr) (c0_1 : Nat) (l0_1 : List (S58)) (r : Bool) (w : World) (hr0_0 : Kd.C k32 w A0_0 l0_0.length l0_0) (hc0_0 : l0_0.length ≤ c0_0) (hr0_1 : Kd.C k58 w A0_1 l0_1.length l0_1) (hc0_1 : l0_1.length ≤ c0_1) (h : swarfref43_proper.f k l0_0 l0_1 = some r) :
  Calls Try.prog 70 #[.agg #[.slice A0_0 l0_0.length c0_0, .slice A0_1 l0_1.length c0_1]] w fun e w' => e = .returned (.bool r) ∧ Below w.heap.size w w' := by
 have hu48 := Try.underlying48
 have hu32 := Try.underlying32
 have hu58 := Try.underlying58
 have HR0_0 := Aside0.mk hr0_0
 have HC0_0 := Aside0.mk hc0_0
 clear hr0_0 hc0_0
 have HR0_1 := Aside0.mk hr0_1
 have HC0_1 := Aside0.mk hc0_1
 clear hr0_1 hc0_1
 have HB := Aside0.mk (Below.refl w.heap.size w)
 have H : (if (l0_0.length : Int) = 0 then (some false) else (swarfref43_proper.l0 k 0 l0_0 l0_1)) = some r := h
 clear h
 by_cases c2 : (l0_0.length : Int) = 0
 ·rw [if_pos c2] at H
  have c2b0 : ((l0_0.length : Int) == 0) = true := beq_iff_eq.mpr c2
  have c2b1 : ((l0_0.length : Int) != 0) = false := bne_eq_false_iff_eq.mpr c2
  clear c2
  obtain rfl := Option.some.inj H
  go_enter Try.func70, Try.ntmps70
  go_wp2_with (first | ((with_reducible refine gate_dst (N := 1) rfl ?_); (try (refine gate_guard (by rfl) ?_; dsimp only)); refine yX 1 #[.slice A0_0 l0_0.length c0_0, .slice A0_1 l0_1.length c0_1] 48 ?_; intro gb688 hg w3 hbox hb; have BK688 := Aside0.mk (hbox); have GW688 := Aside0.mk ((yG hg : w.heap.size ≤ gb688)); have GE688 := Aside0.mk ((yG hg : w.heap.size ≤ gb688)); replace HB := Aside0.mk (below_step yB hb); clear hb hbox hg; have hcz4_0 := yZ0 BK688.out; have hcz4_1 := yZ1 BK688.out; have hfz4_0 := blk_frozen BK688.out 0; have hfz4_1 := blk_frozen BK688.out 1))
  go_ret
  exact ⟨yE, yB⟩
 rw [if_neg c2] at H
 have c2b0 : ((l0_0.length : Int) == 0) = false := beq_eq_false_iff_ne.mpr c2
 have c2b1 : ((l0_0.length : Int) != 0) = true := bne_iff_ne.mpr c2
 have c2b2 : ¬ (l0_0 = []) := fun h_ => c2 (by rw [h_]; rfl)
 have H' := Aside0.mk H
 clear H
 go_enter Try.func70, Try.ntmps70
 go_wp2_with (first | ((with_reducible refine gate_dst (N := 1) rfl ?_); (try (refine gate_guard (by rfl) ?_; dsimp only)); refine yX 1 #[.slice A0_0 l0_0.length c0_0, .slice A0_1 l0_1.length c0_1] 48 ?_; intro gb688 hg w5 hbox hb; have BK688 := Aside0.mk (hbox); have GW688 := Aside0.mk ((yG hg : w.heap.size ≤ gb688)); have GE688 := Aside0.mk ((yG hg : w.heap.size ≤ gb688)); replace HB := Aside0.mk (below_step yB hb); clear hb hbox hg; have hcz6_0 := yZ0 BK688.out; have hcz6_1 := yZ1 BK688.out; have hfz6_0 := blk_frozen BK688.out 0; have hfz6_1 := blk_frozen BK688.out 1))
 go_loopg [3] k (fun kq v3 w' => ∃ (x3_1 : Int), v3 = .int .i64 x3_1 ∧ Aside0 (swarfref43_proper.l0 kq x3_1 l0_0 l0_1 = some r) ∧ Aside0 (kq ≤ k) ∧ Aside0 (w'.heap[gb688]? = some (.cells #[(.slice A0_0 l0_0.length c0_0), (.slice A0_1 l0_1.length c0_1)] 48 (0, 0))) ∧ Aside0 (Below w.heap.size w w'))
 case atStart => exact ⟨(0), yS, H', ⟨Nat.le_refl _⟩, ⟨by refine yH ?_; exact BK688.out⟩, ⟨yB⟩⟩
 case round =>
  clear H'
  try clear c2
  try clear c2b0
  try clear c2b1
  try clear c2b2
  try clear p2
  try clear hcz4_0
  try clear hcz4_1
  try clear hcz6_0
  try clear hcz6_1
  try clear hfz4_0
  try clear hfz4_1
  try clear hfz6_0
  try clear hfz6_1
  obtain ⟨x3_1, rfl, HA, HK1, BK688, HB⟩ := hrel
  cases gk with
  | zero => exact absurd HA.out (by simp [swarfref43_proper.l0])
  | succ k1 =>
   have H := HA.out
   clear HA
   simp only [swarfref43_proper.l0] at H
   by_cases c7 : x3_1 < (l0_0.length : Int)
   ·rw [if_pos c7] at H
    have c7b0 := decide_eq_true c7
    clear c7
    by_cases c8 : 0 ≤ x3_1
    ·rw [if_pos c8] at H
     have c8b0 := decide_eq_true c8
     clear c8
     replace H := Option.bind_eq_some_iff.mp H
     obtain ⟨t690, A90, H⟩ := H
     have A9 := Aside0.mk A90
     clear A90
     by_cases c10 : t690 = true
     ·subst c10
      rw [if_pos rfl] at H
      obtain rfl := Option.some.inj H
      have hcz11_0 := yZ0 BK688.out
      have hcz11_1 := yZ1 BK688.out
      have hfz11_0 := blk_frozen BK688.out 0
      have hfz11_1 := blk_frozen BK688.out 1
      try go_wp2
      replace BK688 := Aside0.mk (blk_drew BK688.out)
      replace HB := Aside0.mk (below_drew1 HB.out)
      have p689 : 0 ≤ (x3_1 : Int) := yD
      have q689 : x3_1 < (l0_0.length : Int) := yD
      obtain ⟨ad689, A689_1, c689_1, e689, hx689_0, hx689_1, hx689_2, hl689_1, hi689_1⟩ := at_T32 HR0_0.out x3_1 p689 q689
      have hw689_2 := hx689_2
      have hw689_1 := hx689_1
      have hw689_0 := hx689_0
      cases e689
      replace hx689_0 := yM HB.out hx689_0
      replace hx689_1 := yM HB.out hx689_1
      replace hx689_2 := yM HB.out hx689_2
      have HR689_1 := Aside0.mk hi689_1
      have HC689_1 := Aside0.mk hl689_1
      clear hi689_1 hl689_1
      replace p689 := eq_true p689
      replace q689 := eq_true q689
      refine start_ (n := 29) (S := fun w' => w'.cell? ⟨gb688, 0, none⟩ = some (.slice (some ad689) l0_0.length c0_0) ∧ w'.cell? ⟨gb688, 1, none⟩ = some (.slice A0_1 l0_1.length c0_1) ∧ w'.cell? (ad689.add ((x3_1).toNat * 3)) = some (.bool ((rd_T32 l0_0 x3_1).f0)) ∧ w'.cell? ⟨(ad689.add ((x3_1).toNat * 3)).block, (ad689.add ((x3_1).toNat * 3)).off + 1, none⟩ = some (.slice A689_1 ((rd_T32 l0_0 x3_1).f1).length c689_1) ∧ w'.cell? ⟨(ad689.add ((x3_1).toNat * 3)).block, (ad689.add ((x3_1).toNat * 3)).off + 2, none⟩ = some (.string ((rd_T32 l0_0 x3_1).f2))) (ds := []) #[false, false, false, false, false, false, false, false, false, false, false, false, false, false, false, false, false, false, false, false, false, false, false, false, false, false, false, false, false] (by kernel_rfl) rfl rfl ⟨(blk_cell BK688.out 0).trans rfl, (blk_cell BK688.out 1).trans rfl, (yM HB.out hw689_0), (yM HB.out hw689_1), (yM HB.out hw689_2)⟩ (fun hHeld => ?_); refine with_tabW swarfref43_proper.tab6 swarfref43_proper.bits6 (fun HT_ HW_ => ?_)
      generalize wr.drew = w12 at BK688 HB HR689_1 hx689_0 hx689_1 hx689_2 hHeld ⊢
      refine yp 0 18 ?_
      refine yp 2 20 ?_
      refine yt 1 19 hHeld ?_
      refine yp 3 21 ?_
      refine yt 4 22 hHeld ?_
      refine yo 5 (some 23) (fun K hK => ?_)
      refine goes_ Try.func82 (by kernel_rfl) rfl #[.agg #[.bool ((rd_T32 l0_0 x3_1).f0), .slice A689_1 ((rd_T32 l0_0 x3_1).f1).length c689_1, .string ((rd_T32 l0_0 x3_1).f2)]] (by rfl) rfl rfl yQ ?_
      with_reducible refine (swarfref43_Return.calls k1 ((rd_T32 l0_0 x3_1).f0) _ _ ((rd_T32 l0_0 x3_1).f1) ((rd_T32 l0_0 x3_1).f2) true _ ?side1 ?side2 A9.out).mono ?_
      (case side1 => exact yC HR689_1.out)
      (case side2 => exact HC689_1.out)
      rintro e w13 ⟨rfl, hb⟩
      refine ⟨_, rfl, ?_⟩
      replace BK688 := Aside0.mk (blk_below (g := gb688) yK hb)
      replace HB := Aside0.mk (below_step yB hb)
      (try clear hb)
      refine hK.out _ _ ⟨(blk_cell BK688.out 0).trans rfl, (blk_cell BK688.out 1).trans rfl, (yM HB.out hw689_0), (yM HB.out hw689_1), (yM HB.out hw689_2)⟩ (fun hHeld => ?_)
      clear hK K
      refine yn 23 ?_
      refine yp 6 24 ?_
      refine yu 7 25 ?_
      refine yu 8 26 ?_
      refine yu 9 27 ?_
      refine yu 10 28 ?_
      refine yu 11 29 ?_
      refine yu 12 30 ?_
      refine yp 13 31 ?_
      refine yp 14 32 ?_
      refine yu 15 33 ?_
      refine yu 16 34 ?_
      refine yu 17 35 ?_
      refine yu 18 36 ?_
      refine yu 19 37 ?_
      refine yu 20 38 ?_
      refine yu 21 39 ?_
      refine yu 22 40 ?_
      refine yu 23 41 ?_
      refine yu 24 42 ?_
      refine yu 25 43 ?_
      refine yu 26 44 ?_
      refine yu 27 45 ?_
      refine yp 28 46 ?_
      refine done_ (done_of HT_.out (by kernel_rfl)) ?_
      try go_wp2
      go_ret
      exact ⟨yE, yB⟩
     replace c10 := Bool.eq_false_iff.mpr c10
     subst c10
     replace H : ((swarfref43_letter.f k1 ((rd_T32 l0_0 x3_1).f0) ((rd_T32 l0_0 x3_1).f1) ((rd_T32 l0_0 x3_1).f2) 79).bind fun t692 => (if t692 = true then (some false) else ((swarfref43_End.f k1 ((rd_T32 l0_0 x3_1).f0) ((rd_T32 l0_0 x3_1).f1) ((rd_T32 l0_0 x3_1).f2)).bind fun t694 => (if (t694 != (x3_1 == (wrap64 ((l0_0.length : Int) - 1)))) = true then (some false) else (swarfref43_proper.l0 k1 (wrap64 (x3_1 + 1)) l0_0 l0_1))))) = some r := by rw [if_neg (show ¬ (false = true) by decide)] at H; exact H
     replace H := Option.bind_eq_some_iff.mp H
     obtain ⟨t692, A140, H⟩ := H
     have A14 := Aside0.mk A140
     clear A140
     by_cases c15 : t692 = true
     ·subst c15
      rw [if_pos rfl] at H
      obtain rfl := Option.some.inj H
      have hcz16_0 := yZ0 BK688.out
      have hcz16_1 := yZ1 BK688.out
      have hfz16_0 := blk_frozen BK688.out 0
      have hfz16_1 := blk_frozen BK688.out 1
      try go_wp2
      replace BK688 := Aside0.mk (blk_drew BK688.out)
      replace HB := Aside0.mk (below_drew1 HB.out)
      have p689 : 0 ≤ (x3_1 : Int) := yD
      have q689 : x3_1 < (l0_0.length : Int) := yD
      obtain ⟨ad689, A689_1, c689_1, e689, hx689_0, hx689_1, hx689_2, hl689_1, hi689_1⟩ := at_T32 HR0_0.out x3_1 p689 q689
      have hw689_2 := hx689_2
      have hw689_1 := hx689_1
      have hw689_0 := hx689_0
      cases e689
      replace hx689_0 := yM HB.out hx689_0
      replace hx689_1 := yM HB.out hx689_1
      replace hx689_2 := yM HB.out hx689_2
      have HR689_1 := Aside0.mk hi689_1
      have HC689_1 := Aside0.mk hl689_1
      clear hi689_1 hl689_1
      replace p689 := eq_true p689
      replace q689 := eq_true q689
      have p691 : 0 ≤ (x3_1 : Int) := yD
      have q691 : x3_1 < (l0_0.length : Int) := yD
      obtain ⟨ad691, A691_1, c691_1, e691, hx691_0, hx691_1, hx691_2, hl691_1, hi691_1⟩ := at_T32 HR0_0.out x3_1 p691 q691
      have hw691_2 := hx691_2
      have hw691_1 := hx691_1
      have hw691_0 := hx691_0
      obtain rfl : ad689 = ad691 := (by injection e691)
      first | have HQA691_1 := Aside0.mk (show A691_1 = A689_1 from by first | (have e_ := Option.some.inj (hw689_1.symm.trans hw691_1); injection e_ with e1_ e2_ e3_; exact e1_.symm) | (have e_ := Option.some.inj (hx689_1.symm.trans hx691_1); injection e_ with e1_ e2_ e3_; exact e1_.symm)) | skip
      first | have HQc691_1 := Aside0.mk (show c691_1 = c689_1 from by first | (have e_ := Option.some.inj (hw689_1.symm.trans hw691_1); injection e_ with e1_ e2_ e3_; exact e3_.symm) | (have e_ := Option.some.inj (hx689_1.symm.trans hx691_1); injection e_ with e1_ e2_ e3_; exact e3_.symm)) | skip
      replace hx691_0 := yM HB.out hx691_0
      replace hx691_1 := yM HB.out hx691_1
      replace hx691_2 := yM HB.out hx691_2
      have HR691_1 := Aside0.mk hi691_1
      have HC691_1 := Aside0.mk hl691_1
      clear hi691_1 hl691_1
      replace p691 := eq_true p691
      replace q691 := eq_true q691
      refine start_ (n := 29) (S := fun w' => w'.cell? ⟨gb688, 0, none⟩ = some (.slice (some ad689) l0_0.length c0_0) ∧ w'.cell? ⟨gb688, 1, none⟩ = some (.slice A0_1 l0_1.length c0_1) ∧ w'.cell? (ad689.add ((x3_1).toNat * 3)) = some (.bool ((rd_T32 l0_0 x3_1).f0)) ∧ w'.cell? ⟨(ad689.add ((x3_1).toNat * 3)).block, (ad689.add ((x3_1).toNat * 3)).off + 1, none⟩ = some (.slice A689_1 ((rd_T32 l0_0 x3_1).f1).length c689_1) ∧ w'.cell? ⟨(ad689.add ((x3_1).toNat * 3)).block, (ad689.add ((x3_1).toNat * 3)).off + 2, none⟩ = some (.string ((rd_T32 l0_0 x3_1).f2)) ∧ w'.cell? (ad689.add ((x3_1).toNat * 3)) = some (.bool ((rd_T32 l0_0 x3_1).f0)) ∧ w'.cell? ⟨(ad689.add ((x3_1).toNat * 3)).block, (ad689.add ((x3_1).toNat * 3)).off + 1, none⟩ = some (.slice A691_1 ((rd_T32 l0_0 x3_1).f1).length c691_1) ∧ w'.cell? ⟨(ad689.add ((x3_1).toNat * 3)).block, (ad689.add ((x3_1).toNat * 3)).off + 2, none⟩ = some (.string ((rd_T32 l0_0 x3_1).f2))) (ds := []) #[false, false, false, false, false, false, false, false, false, false, false, false, false, false, false, false, false, false, false, false, false, false, false, false, false, false, false, false, false] (by kernel_rfl) rfl rfl ⟨(blk_cell BK688.out 0).trans rfl, (blk_cell BK688.out 1).trans rfl, (yM HB.out hw689_0), (yM HB.out hw689_1), (yM HB.out hw689_2), (yM HB.out hw691_0), (yM HB.out hw691_1), (yM HB.out hw691_2)⟩ (fun hHeld => ?_); refine with_tabW swarfref43_proper.tab6 swarfref43_proper.bits6 (fun HT_ HW_ => ?_)
      generalize wr.drew = w17 at BK688 HB HR689_1 HR691_1 hx689_0 hx689_1 hx689_2 hx691_0 hx691_1 hx691_2 hHeld ⊢
      refine yp 0 18 ?_
      refine yp 2 20 ?_
      refine yt 1 19 hHeld ?_
      refine yp 3 21 ?_
      refine yt 4 22 hHeld ?_
      refine yo 5 (some 23) (fun K hK => ?_)
      refine goes_ Try.func82 (by kernel_rfl) rfl #[.agg #[.bool ((rd_T32 l0_0 x3_1).f0), .slice A689_1 ((rd_T32 l0_0 x3_1).f1).length c689_1, .string ((rd_T32 l0_0 x3_1).f2)]] (by rfl) rfl rfl (by (try simp only [List.map_toArray, List.map_cons, List.map_nil]); first | done | rfl | (simp only [List.length_drop, List.length_take]; rfl) | (simp only [HQA691_1.out, HQc691_1.out]; rfl)) ?_
      with_reducible refine (swarfref43_Return.calls k1 ((rd_T32 l0_0 x3_1).f0) _ _ ((rd_T32 l0_0 x3_1).f1) ((rd_T32 l0_0 x3_1).f2) false _ ?side1 ?side2 A9.out).mono ?_
      (case side1 => exact yC HR689_1.out)
      (case side2 => exact HC689_1.out)
      rintro e w18 ⟨rfl, hb⟩
      refine ⟨_, rfl, ?_⟩
      replace BK688 := Aside0.mk (blk_below (g := gb688) yK hb)
      replace HB := Aside0.mk (below_step yB hb)
      (try clear hb)
      refine hK.out _ _ ⟨(blk_cell BK688.out 0).trans rfl, (blk_cell BK688.out 1).trans rfl, (yM HB.out hw689_0), (yM HB.out hw689_1), (yM HB.out hw689_2), (yM HB.out hw691_0), (yM HB.out hw691_1), (yM HB.out hw691_2)⟩ (fun hHeld => ?_)
      clear hK K
      refine yn 23 ?_
      refine yp 6 24 ?_
      refine yp 7 25 ?_
      refine yp 9 27 ?_
      refine yt 8 26 hHeld ?_
      refine yp 10 28 ?_
      refine yt 11 29 hHeld ?_
      refine yo 12 (some 30) (fun K hK => ?_)
      refine goes_ Try.func83 (by kernel_rfl) rfl #[.agg #[.bool ((rd_T32 l0_0 x3_1).f0), .slice A691_1 ((rd_T32 l0_0 x3_1).f1).length c691_1, .string ((rd_T32 l0_0 x3_1).f2)], .int .u8 79] (by rfl) rfl rfl (by (try simp only [List.map_toArray, List.map_cons, List.map_nil]); first | done | rfl | (simp only [List.length_drop, List.length_take]; rfl) | (simp only [HQA691_1.out, HQc691_1.out]; rfl)) ?_
      with_reducible refine (swarfref43_letter.calls k1 ((rd_T32 l0_0 x3_1).f0) _ _ ((rd_T32 l0_0 x3_1).f1) ((rd_T32 l0_0 x3_1).f2) 79 true _ ?side1 ?side2 A14.out).mono ?_
      (case side1 => exact yC HR691_1.out)
      (case side2 => exact HC691_1.out)
      rintro e w19 ⟨rfl, hb⟩
      refine ⟨_, rfl, ?_⟩
      replace BK688 := Aside0.mk (blk_below (g := gb688) yK hb)
      replace HB := Aside0.mk (below_step yB hb)
      (try clear hb)
      refine hK.out _ _ ⟨(blk_cell BK688.out 0).trans rfl, (blk_cell BK688.out 1).trans rfl, (yM HB.out hw689_0), (yM HB.out hw689_1), (yM HB.out hw689_2), (yM HB.out hw691_0), (yM HB.out hw691_1), (yM HB.out hw691_2)⟩ (fun hHeld => ?_)
      clear hK K
      refine yn 30 ?_
      refine yp 13 31 ?_
      refine yp 14 32 ?_
      refine yu 15 33 ?_
      refine yu 16 34 ?_
      refine yu 17 35 ?_
      refine yu 18 36 ?_
      refine yu 19 37 ?_
      refine yu 20 38 ?_
      refine yu 21 39 ?_
      refine yu 22 40 ?_
      refine yu 23 41 ?_
      refine yu 24 42 ?_
      refine yu 25 43 ?_
      refine yu 26 44 ?_
      refine yu 27 45 ?_
      refine yp 28 46 ?_
      refine done_ (done_of HT_.out (by kernel_rfl)) ?_
      try go_wp2
      go_ret
      exact ⟨yE, yB⟩
     replace c15 := Bool.eq_false_iff.mpr c15
     subst c15
     replace H : ((swarfref43_End.f k1 ((rd_T32 l0_0 x3_1).f0) ((rd_T32 l0_0 x3_1).f1) ((rd_T32 l0_0 x3_1).f2)).bind fun t694 => (if (t694 != (x3_1 == (wrap64 ((l0_0.length : Int) - 1)))) = true then (some false) else (swarfref43_proper.l0 k1 (wrap64 (x3_1 + 1)) l0_0 l0_1))) = some r := by rw [if_neg (show ¬ (false = true) by decide)] at H; exact H
     replace H := Option.bind_eq_some_iff.mp H
     obtain ⟨t694, A200, H⟩ := H
     have A20 := Aside0.mk A200
     clear A200
     by_cases c21 : (t694 != (x3_1 == (wrap64 ((l0_0.length : Int) - 1)))) = true
     ·rw [if_pos c21] at H
      have c21b0 : (t694 != (x3_1 == (wrap64 ((l0_0.length : Int) - 1)))) = true := c21
      (try (have c21b1 : decide (t694 = (x3_1 == (wrap64 ((l0_0.length : Int) - 1)))) = false := by simpa using c21))
      (try (have c21b2 : (t694 == (x3_1 == (wrap64 ((l0_0.length : Int) - 1)))) = false := by simpa using c21))
      (try (have c21b3 : ¬ (t694 = (x3_1 == (wrap64 ((l0_0.length : Int) - 1)))) := by simpa using c21))
      clear c21
      obtain rfl := Option.some.inj H
      have hcz22_0 := yZ0 BK688.out
      have hcz22_1 := yZ1 BK688.out
      have hfz22_0 := blk_frozen BK688.out 0
      have hfz22_1 := blk_frozen BK688.out 1
      try go_wp2
      replace BK688 := Aside0.mk (blk_drew BK688.out)
      replace HB := Aside0.mk (below_drew1 HB.out)
      have p689 : 0 ≤ (x3_1 : Int) := yD
      have q689 : x3_1 < (l0_0.length : Int) := yD
      obtain ⟨ad689, A689_1, c689_1, e689, hx689_0, hx689_1, hx689_2, hl689_1, hi689_1⟩ := at_T32 HR0_0.out x3_1 p689 q689
      have hw689_2 := hx689_2
      have hw689_1 := hx689_1
      have hw689_0 := hx689_0
      cases e689
      replace hx689_0 := yM HB.out hx689_0
      replace hx689_1 := yM HB.out hx689_1
      replace hx689_2 := yM HB.out hx689_2
      have HR689_1 := Aside0.mk hi689_1
      have HC689_1 := Aside0.mk hl689_1
      clear hi689_1 hl689_1
      replace p689 := eq_true p689
      replace q689 := eq_true q689
      have p691 : 0 ≤ (x3_1 : Int) := yD
      have q691 : x3_1 < (l0_0.length : Int) := yD
      obtain ⟨ad691, A691_1, c691_1, e691, hx691_0, hx691_1, hx691_2, hl691_1, hi691_1⟩ := at_T32 HR0_0.out x3_1 p691 q691
      have hw691_2 := hx691_2
      have hw691_1 := hx691_1
      have hw691_0 := hx691_0
      obtain rfl : ad689 = ad691 := (by injection e691)
      first | have HQA691_1 := Aside0.mk (show A691_1 = A689_1 from by first | (have e_ := Option.some.inj (hw689_1.symm.trans hw691_1); injection e_ with e1_ e2_ e3_; exact e1_.symm) | (have e_ := Option.some.inj (hx689_1.symm.trans hx691_1); injection e_ with e1_ e2_ e3_; exact e1_.symm)) | skip
      first | have HQc691_1 := Aside0.mk (show c691_1 = c689_1 from by first | (have e_ := Option.some.inj (hw689_1.symm.trans hw691_1); injection e_ with e1_ e2_ e3_; exact e3_.symm) | (have e_ := Option.some.inj (hx689_1.symm.trans hx691_1); injection e_ with e1_ e2_ e3_; exact e3_.symm)) | skip
      replace hx691_0 := yM HB.out hx691_0
      replace hx691_1 := yM HB.out hx691_1
      replace hx691_2 := yM HB.out hx691_2
      have HR691_1 := Aside0.mk hi691_1
      have HC691_1 := Aside0.mk hl691_1
      clear hi691_1 hl691_1
      replace p691 := eq_true p691
      replace q691 := eq_true q691
      have p693 : 0 ≤ (x3_1 : Int) := yD
      have q693 : x3_1 < (l0_0.length : Int) := yD
      obtain ⟨ad693, A693_1, c693_1, e693, hx693_0, hx693_1, hx693_2, hl693_1, hi693_1⟩ := at_T32 HR0_0.out x3_1 p693 q693
      have hw693_2 := hx693_2
      have hw693_1 := hx693_1
      have hw693_0 := hx693_0
      obtain rfl : ad689 = ad693 := (by injection e693)
      first | have HQA693_1 := Aside0.mk (show A693_1 = A689_1 from by first | (have e_ := Option.some.inj (hw689_1.symm.trans hw693_1); injection e_ with e1_ e2_ e3_; exact e1_.symm) | (have e_ := Option.some.inj (hx689_1.symm.trans hx693_1); injection e_ with e1_ e2_ e3_; exact e1_.symm)) | skip
      first | have HQc693_1 := Aside0.mk (show c693_1 = c689_1 from by first | (have e_ := Option.some.inj (hw689_1.symm.trans hw693_1); injection e_ with e1_ e2_ e3_; exact e3_.symm) | (have e_ := Option.some.inj (hx689_1.symm.trans hx693_1); injection e_ with e1_ e2_ e3_; exact e3_.symm)) | skip
      replace hx693_0 := yM HB.out hx693_0
      replace hx693_1 := yM HB.out hx693_1
      replace hx693_2 := yM HB.out hx693_2
      have HR693_1 := Aside0.mk hi693_1
      have HC693_1 := Aside0.mk hl693_1
      clear hi693_1 hl693_1
      replace p693 := eq_true p693
      replace q693 := eq_true q693
      refine start_ (n := 29) (S := fun w' => w'.cell? ⟨gb688, 0, none⟩ = some (.slice (some ad689) l0_0.length c0_0) ∧ w'.cell? ⟨gb688, 1, none⟩ = some (.slice A0_1 l0_1.length c0_1) ∧ w'.cell? (ad689.add ((x3_1).toNat * 3)) = some (.bool ((rd_T32 l0_0 x3_1).f0)) ∧ w'.cell? ⟨(ad689.add ((x3_1).toNat * 3)).block, (ad689.add ((x3_1).toNat * 3)).off + 1, none⟩ = some (.slice A689_1 ((rd_T32 l0_0 x3_1).f1).length c689_1) ∧ w'.cell? ⟨(ad689.add ((x3_1).toNat * 3)).block, (ad689.add ((x3_1).toNat * 3)).off + 2, none⟩ = some (.string ((rd_T32 l0_0 x3_1).f2)) ∧ w'.cell? (ad689.add ((x3_1).toNat * 3)) = some (.bool ((rd_T32 l0_0 x3_1).f0)) ∧ w'.cell? ⟨(ad689.add ((x3_1).toNat * 3)).block, (ad689.add ((x3_1).toNat * 3)).off + 1, none⟩ = some (.slice A691_1 ((rd_T32 l0_0 x3_1).f1).length c691_1) ∧ w'.cell? ⟨(ad689.add ((x3_1).toNat * 3)).block, (ad689.add ((x3_1).toNat * 3)).off + 2, none⟩ = some (.string ((rd_T32 l0_0 x3_1).f2)) ∧ w'.cell? (ad689.add ((x3_1).toNat * 3)) = some (.bool ((rd_T32 l0_0 x3_1).f0)) ∧ w'.cell? ⟨(ad689.add ((x3_1).toNat * 3)).block, (ad689.add ((x3_1).toNat * 3)).off + 1, none⟩ = some (.slice A693_1 ((rd_T32 l0_0 x3_1).f1).length c693_1) ∧ w'.cell? ⟨(ad689.add ((x3_1).toNat * 3)).block, (ad689.add ((x3_1).toNat * 3)).off + 2, none⟩ = some (.string ((rd_T32 l0_0 x3_1).f2))) (ds := []) #[false, false, false, false, false, false, false, false, false, false, false, false, false, false, false, false, false, false, false, false, false, false, false, false, false, false, false, false, false] (by kernel_rfl) rfl rfl ⟨(blk_cell BK688.out 0).trans rfl, (blk_cell BK688.out 1).trans rfl, (yM HB.out hw689_0), (yM HB.out hw689_1), (yM HB.out hw689_2), (yM HB.out hw691_0), (yM HB.out hw691_1), (yM HB.out hw691_2), (yM HB.out hw693_0), (yM HB.out hw693_1), (yM HB.out hw693_2)⟩ (fun hHeld => ?_); refine with_tabW swarfref43_proper.tab6 swarfref43_proper.bits6 (fun HT_ HW_ => ?_)
      generalize wr.drew = w23 at BK688 HB HR689_1 HR691_1 HR693_1 hx689_0 hx689_1 hx689_2 hx691_0 hx691_1 hx691_2 hx693_0 hx693_1 hx693_2 hHeld ⊢
      refine yp 0 18 ?_
      refine yp 2 20 ?_
      refine yt 1 19 hHeld ?_
      refine yp 3 21 ?_
      refine yt 4 22 hHeld ?_
      refine yo 5 (some 23) (fun K hK => ?_)
      refine goes_ Try.func82 (by kernel_rfl) rfl #[.agg #[.bool ((rd_T32 l0_0 x3_1).f0), .slice A689_1 ((rd_T32 l0_0 x3_1).f1).length c689_1, .string ((rd_T32 l0_0 x3_1).f2)]] (by rfl) rfl rfl (by (try simp only [List.map_toArray, List.map_cons, List.map_nil]); first | done | rfl | (simp only [List.length_drop, List.length_take]; rfl) | (simp only [HQA693_1.out, HQc693_1.out]; rfl) | (simp only [HQA691_1.out, HQc691_1.out]; rfl) | (simp only [HQA691_1.out, HQc691_1.out, HQA693_1.out, HQc693_1.out]; rfl)) ?_
      with_reducible refine (swarfref43_Return.calls k1 ((rd_T32 l0_0 x3_1).f0) _ _ ((rd_T32 l0_0 x3_1).f1) ((rd_T32 l0_0 x3_1).f2) false _ ?side1 ?side2 A9.out).mono ?_
      (case side1 => exact yC HR689_1.out)
      (case side2 => exact HC689_1.out)
      rintro e w24 ⟨rfl, hb⟩
      refine ⟨_, rfl, ?_⟩
      replace BK688 := Aside0.mk (blk_below (g := gb688) yK hb)
      replace HB := Aside0.mk (below_step yB hb)
      (try clear hb)
      refine hK.out _ _ ⟨(blk_cell BK688.out 0).trans rfl, (blk_cell BK688.out 1).trans rfl, (yM HB.out hw689_0), (yM HB.out hw689_1), (yM HB.out hw689_2), (yM HB.out hw691_0), (yM HB.out hw691_1), (yM HB.out hw691_2), (yM HB.out hw693_0), (yM HB.out hw693_1), (yM HB.out hw693_2)⟩ (fun hHeld => ?_)
      clear hK K
      refine yn 23 ?_
      refine yp 6 24 ?_
      refine yp 7 25 ?_
      refine yp 9 27 ?_
      refine yt 8 26 hHeld ?_
      refine yp 10 28 ?_
      refine yt 11 29 hHeld ?_
      refine yo 12 (some 30) (fun K hK => ?_)
      refine goes_ Try.func83 (by kernel_rfl) rfl #[.agg #[.bool ((rd_T32 l0_0 x3_1).f0), .slice A691_1 ((rd_T32 l0_0 x3_1).f1).length c691_1, .string ((rd_T32 l0_0 x3_1).f2)], .int .u8 79] (by rfl) rfl rfl (by (try simp only [List.map_toArray, List.map_cons, List.map_nil]); first | done | rfl | (simp only [List.length_drop, List.length_take]; rfl) | (simp only [HQA693_1.out, HQc693_1.out]; rfl) | (simp only [HQA691_1.out, HQc691_1.out]; rfl) | (simp only [HQA691_1.out, HQc691_1.out, HQA693_1.out, HQc693_1.out]; rfl)) ?_
      with_reducible refine (swarfref43_letter.calls k1 ((rd_T32 l0_0 x3_1).f0) _ _ ((rd_T32 l0_0 x3_1).f1) ((rd_T32 l0_0 x3_1).f2) 79 false _ ?side1 ?side2 A14.out).mono ?_
      (case side1 => exact yC HR691_1.out)
      (case side2 => exact HC691_1.out)
      rintro e w25 ⟨rfl, hb⟩
      refine ⟨_, rfl, ?_⟩
      replace BK688 := Aside0.mk (blk_below (g := gb688) yK hb)
      replace HB := Aside0.mk (below_step yB hb)
      (try clear hb)
      refine hK.out _ _ ⟨(blk_cell BK688.out 0).trans rfl, (blk_cell BK688.out 1).trans rfl, (yM HB.out hw689_0), (yM HB.out hw689_1), (yM HB.out hw689_2), (yM HB.out hw691_0), (yM HB.out hw691_1), (yM HB.out hw691_2), (yM HB.out hw693_0), (yM HB.out hw693_1), (yM HB.out hw693_2)⟩ (fun hHeld => ?_)
      clear hK K
      refine yn 30 ?_
      refine yp 13 31 ?_
      refine yp 14 32 ?_
      refine yp 15 33 ?_
      refine yp 17 35 ?_
      refine yp 21 39 ?_
      refine yp 22 40 ?_
      refine yt 16 34 hHeld ?_
      refine yp 18 36 ?_
      refine yt 19 37 hHeld ?_
      refine yt 23 41 hHeld ?_
      refine yp 24 42 ?_
      refine yp 25 43 ?_
      refine yp 26 44 ?_
      refine yo 20 (some 38) (fun K hK => ?_)
      refine goes_ Try.func81 (by kernel_rfl) rfl #[.agg #[.bool ((rd_T32 l0_0 x3_1).f0), .slice A693_1 ((rd_T32 l0_0 x3_1).f1).length c693_1, .string ((rd_T32 l0_0 x3_1).f2)]] (by rfl) rfl rfl (by (try simp only [List.map_toArray, List.map_cons, List.map_nil]); first | done | rfl | (simp only [List.length_drop, List.length_take]; rfl) | (simp only [HQA693_1.out, HQc693_1.out]; rfl) | (simp only [HQA691_1.out, HQc691_1.out]; rfl) | (simp only [HQA691_1.out, HQc691_1.out, HQA693_1.out, HQc693_1.out]; rfl)) ?_
      with_reducible refine (swarfref43_End.calls k1 ((rd_T32 l0_0 x3_1).f0) _ _ ((rd_T32 l0_0 x3_1).f1) ((rd_T32 l0_0 x3_1).f2) t694 _ ?side1 ?side2 A20.out).mono ?_
      (case side1 => exact yC HR693_1.out)
      (case side2 => exact HC693_1.out)
      rintro e w26 ⟨rfl, hb⟩
      refine ⟨_, rfl, ?_⟩
      replace BK688 := Aside0.mk (blk_below (g := gb688) yK hb)
      replace HB := Aside0.mk (below_step yB hb)
      (try clear hb)
      refine hK.out _ _ ⟨(blk_cell BK688.out 0).trans rfl, (blk_cell BK688.out 1).trans rfl, (yM HB.out hw689_0), (yM HB.out hw689_1), (yM HB.out hw689_2), (yM HB.out hw691_0), (yM HB.out hw691_1), (yM HB.out hw691_2), (yM HB.out hw693_0), (yM HB.out hw693_1), (yM HB.out hw693_2)⟩ (fun hHeld => ?_)
      clear hK K
      refine yn 38 ?_
      refine yp 27 45 ?_
      refine yp 28 46 ?_
      refine done_ (done_of HT_.out (by kernel_rfl)) ?_
      try go_wp2
      go_ret
      exact ⟨yE, yB⟩
     rw [if_neg c21] at H
     have c21b0 : (t694 != (x3_1 == (wrap64 ((l0_0.length : Int) - 1)))) = false := by simpa using c21
     (try (have c21b1 : decide (t694 = (x3_1 == (wrap64 ((l0_0.length : Int) - 1)))) = true := by simpa using c21))
     (try (have c21b2 : (t694 == (x3_1 == (wrap64 ((l0_0.length : Int) - 1)))) = true := by simpa using c21))
     clear c21
     have H' := Aside0.mk H
     clear H
     have hcz27_0 := yZ0 BK688.out
     have hcz27_1 := yZ1 BK688.out
     have hfz27_0 := blk_frozen BK688.out 0
     have hfz27_1 := blk_frozen BK688.out 1
     try go_wp2
     replace BK688 := Aside0.mk (blk_drew BK688.out)
     replace HB := Aside0.mk (below_drew1 HB.out)
     have p689 : 0 ≤ (x3_1 : Int) := yD
     have q689 : x3_1 < (l0_0.length : Int) := yD
     obtain ⟨ad689, A689_1, c689_1, e689, hx689_0, hx689_1, hx689_2, hl689_1, hi689_1⟩ := at_T32 HR0_0.out x3_1 p689 q689
     have hw689_2 := hx689_2
     have hw689_1 := hx689_1
     have hw689_0 := hx689_0
     cases e689
     replace hx689_0 := yM HB.out hx689_0
     replace hx689_1 := yM HB.out hx689_1
     replace hx689_2 := yM HB.out hx689_2
     have HR689_1 := Aside0.mk hi689_1
     have HC689_1 := Aside0.mk hl689_1
     clear hi689_1 hl689_1
     replace p689 := eq_true p689
     replace q689 := eq_true q689
     have p691 : 0 ≤ (x3_1 : Int) := yD
     have q691 : x3_1 < (l0_0.length : Int) := yD
     obtain ⟨ad691, A691_1, c691_1, e691, hx691_0, hx691_1, hx691_2, hl691_1, hi691_1⟩ := at_T32 HR0_0.out x3_1 p691 q691
     have hw691_2 := hx691_2
     have hw691_1 := hx691_1
     have hw691_0 := hx691_0
     obtain rfl : ad689 = ad691 := (by injection e691)
     first | have HQA691_1 := Aside0.mk (show A691_1 = A689_1 from by first | (have e_ := Option.some.inj (hw689_1.symm.trans hw691_1); injection e_ with e1_ e2_ e3_; exact e1_.symm) | (have e_ := Option.some.inj (hx689_1.symm.trans hx691_1); injection e_ with e1_ e2_ e3_; exact e1_.symm)) | skip
     first | have HQc691_1 := Aside0.mk (show c691_1 = c689_1 from by first | (have e_ := Option.some.inj (hw689_1.symm.trans hw691_1); injection e_ with e1_ e2_ e3_; exact e3_.symm) | (have e_ := Option.some.inj (hx689_1.symm.trans hx691_1); injection e_ with e1_ e2_ e3_; exact e3_.symm)) | skip
     replace hx691_0 := yM HB.out hx691_0
     replace hx691_1 := yM HB.out hx691_1
     replace hx691_2 := yM HB.out hx691_2
     have HR691_1 := Aside0.mk hi691_1
     have HC691_1 := Aside0.mk hl691_1
     clear hi691_1 hl691_1
     replace p691 := eq_true p691
     replace q691 := eq_true q691
     have p693 : 0 ≤ (x3_1 : Int) := yD
     have q693 : x3_1 < (l0_0.length : Int) := yD
     obtain ⟨ad693, A693_1, c693_1, e693, hx693_0, hx693_1, hx693_2, hl693_1, hi693_1⟩ := at_T32 HR0_0.out x3_1 p693 q693
     have hw693_2 := hx693_2
     have hw693_1 := hx693_1
     have hw693_0 := hx693_0
     obtain rfl : ad689 = ad693 := (by injection e693)
     first | have HQA693_1 := Aside0.mk (show A693_1 = A689_1 from by first | (have e_ := Option.some.inj (hw689_1.symm.trans hw693_1); injection e_ with e1_ e2_ e3_; exact e1_.symm) | (have e_ := Option.some.inj (hx689_1.symm.trans hx693_1); injection e_ with e1_ e2_ e3_; exact e1_.symm)) | skip
     first | have HQc693_1 := Aside0.mk (show c693_1 = c689_1 from by first | (have e_ := Option.some.inj (hw689_1.symm.trans hw693_1); injection e_ with e1_ e2_ e3_; exact e3_.symm) | (have e_ := Option.some.inj (hx689_1.symm.trans hx693_1); injection e_ with e1_ e2_ e3_; exact e3_.symm)) | skip
     replace hx693_0 := yM HB.out hx693_0
     replace hx693_1 := yM HB.out hx693_1
     replace hx693_2 := yM HB.out hx693_2
     have HR693_1 := Aside0.mk hi693_1
     have HC693_1 := Aside0.mk hl693_1
     clear hi693_1 hl693_1
     replace p693 := eq_true p693
     replace q693 := eq_true q693
     refine start_ (n := 29) (S := fun w' => w'.cell? ⟨gb688, 0, none⟩ = some (.slice (some ad689) l0_0.length c0_0) ∧ w'.cell? ⟨gb688, 1, none⟩ = some (.slice A0_1 l0_1.length c0_1) ∧ w'.cell? (ad689.add ((x3_1).toNat * 3)) = some (.bool ((rd_T32 l0_0 x3_1).f0)) ∧ w'.cell? ⟨(ad689.add ((x3_1).toNat * 3)).block, (ad689.add ((x3_1).toNat * 3)).off + 1, none⟩ = some (.slice A689_1 ((rd_T32 l0_0 x3_1).f1).length c689_1) ∧ w'.cell? ⟨(ad689.add ((x3_1).toNat * 3)).block, (ad689.add ((x3_1).toNat * 3)).off + 2, none⟩ = some (.string ((rd_T32 l0_0 x3_1).f2)) ∧ w'.cell? (ad689.add ((x3_1).toNat * 3)) = some (.bool ((rd_T32 l0_0 x3_1).f0)) ∧ w'.cell? ⟨(ad689.add ((x3_1).toNat * 3)).block, (ad689.add ((x3_1).toNat * 3)).off + 1, none⟩ = some (.slice A691_1 ((rd_T32 l0_0 x3_1).f1).length c691_1) ∧ w'.cell? ⟨(ad689.add ((x3_1).toNat * 3)).block, (ad689.add ((x3_1).toNat * 3)).off + 2, none⟩ = some (.string ((rd_T32 l0_0 x3_1).f2)) ∧ w'.cell? (ad689.add ((x3_1).toNat * 3)) = some (.bool ((rd_T32 l0_0 x3_1).f0)) ∧ w'.cell? ⟨(ad689.add ((x3_1).toNat * 3)).block, (ad689.add ((x3_1).toNat * 3)).off + 1, none⟩ = some (.slice A693_1 ((rd_T32 l0_0 x3_1).f1).length c693_1) ∧ w'.cell? ⟨(ad689.add ((x3_1).toNat * 3)).block, (ad689.add ((x3_1).toNat * 3)).off + 2, none⟩ = some (.string ((rd_T32 l0_0 x3_1).f2))) (ds := []) #[false, false, false, false, false, false, false, false, false, false, false, false, false, false, false, false, false, false, false, false, false, false, false, false, false, false, false, false, false] (by kernel_rfl) rfl rfl ⟨(blk_cell BK688.out 0).trans rfl, (blk_cell BK688.out 1).trans rfl, (yM HB.out hw689_0), (yM HB.out hw689_1), (yM HB.out hw689_2), (yM HB.out hw691_0), (yM HB.out hw691_1), (yM HB.out hw691_2), (yM HB.out hw693_0), (yM HB.out hw693_1), (yM HB.out hw693_2)⟩ (fun hHeld => ?_); refine with_tabW swarfref43_proper.tab6 swarfref43_proper.bits6 (fun HT_ HW_ => ?_)
     generalize wr.drew = w28 at BK688 HB HR689_1 HR691_1 HR693_1 hx689_0 hx689_1 hx689_2 hx691_0 hx691_1 hx691_2 hx693_0 hx693_1 hx693_2 hHeld ⊢
     refine yp 0 18 ?_
     refine yp 2 20 ?_
     refine yt 1 19 hHeld ?_
     refine yp 3 21 ?_
     refine yt 4 22 hHeld ?_
     refine yo 5 (some 23) (fun K hK => ?_)
     refine goes_ Try.func82 (by kernel_rfl) rfl #[.agg #[.bool ((rd_T32 l0_0 x3_1).f0), .slice A689_1 ((rd_T32 l0_0 x3_1).f1).length c689_1, .string ((rd_T32 l0_0 x3_1).f2)]] (by rfl) rfl rfl (by (try simp only [List.map_toArray, List.map_cons, List.map_nil]); first | done | rfl | (simp only [List.length_drop, List.length_take]; rfl) | (simp only [HQA693_1.out, HQc693_1.out]; rfl) | (simp only [HQA691_1.out, HQc691_1.out]; rfl) | (simp only [HQA691_1.out, HQc691_1.out, HQA693_1.out, HQc693_1.out]; rfl)) ?_
     with_reducible refine (swarfref43_Return.calls k1 ((rd_T32 l0_0 x3_1).f0) _ _ ((rd_T32 l0_0 x3_1).f1) ((rd_T32 l0_0 x3_1).f2) false _ ?side1 ?side2 A9.out).mono ?_
     (case side1 => exact yC HR689_1.out)
     (case side2 => exact HC689_1.out)
     rintro e w29 ⟨rfl, hb⟩
     refine ⟨_, rfl, ?_⟩
     replace BK688 := Aside0.mk (blk_below (g := gb688) yK hb)
     replace HB := Aside0.mk (below_step yB hb)
     (try clear hb)
     refine hK.out _ _ ⟨(blk_cell BK688.out 0).trans rfl, (blk_cell BK688.out 1).trans rfl, (yM HB.out hw689_0), (yM HB.out hw689_1), (yM HB.out hw689_2), (yM HB.out hw691_0), (yM HB.out hw691_1), (yM HB.out hw691_2), (yM HB.out hw693_0), (yM HB.out hw693_1), (yM HB.out hw693_2)⟩ (fun hHeld => ?_)
     clear hK K
     refine yn 23 ?_
     refine yp 6 24 ?_
     refine yp 7 25 ?_
     refine yp 9 27 ?_
     refine yt 8 26 hHeld ?_
     refine yp 10 28 ?_
     refine yt 11 29 hHeld ?_
     refine yo 12 (some 30) (fun K hK => ?_)
     refine goes_ Try.func83 (by kernel_rfl) rfl #[.agg #[.bool ((rd_T32 l0_0 x3_1).f0), .slice A691_1 ((rd_T32 l0_0 x3_1).f1).length c691_1, .string ((rd_T32 l0_0 x3_1).f2)], .int .u8 79] (by rfl) rfl rfl (by (try simp only [List.map_toArray, List.map_cons, List.map_nil]); first | done | rfl | (simp only [List.length_drop, List.length_take]; rfl) | (simp only [HQA693_1.out, HQc693_1.out]; rfl) | (simp only [HQA691_1.out, HQc691_1.out]; rfl) | (simp only [HQA691_1.out, HQc691_1.out, HQA693_1.out, HQc693_1.out]; rfl)) ?_
     with_reducible refine (swarfref43_letter.calls k1 ((rd_T32 l0_0 x3_1).f0) _ _ ((rd_T32 l0_0 x3_1).f1) ((rd_T32 l0_0 x3_1).f2) 79 false _ ?side1 ?side2 A14.out).mono ?_
     (case side1 => exact yC HR691_1.out)
     (case side2 => exact HC691_1.out)
     rintro e w30 ⟨rfl, hb⟩
     refine ⟨_, rfl, ?_⟩
     replace BK688 := Aside0.mk (blk_below (g := gb688) yK hb)
     replace HB := Aside0.mk (below_step yB hb)
     (try clear hb)
     refine hK.out _ _ ⟨(blk_cell BK688.out 0).trans rfl, (blk_cell BK688.out 1).trans rfl, (yM HB.out hw689_0), (yM HB.out hw689_1), (yM HB.out hw689_2), (yM HB.out hw691_0), (yM HB.out hw691_1), (yM HB.out hw691_2), (yM HB.out hw693_0), (yM HB.out hw693_1), (yM HB.out hw693_2)⟩ (fun hHeld => ?_)
     clear hK K
     refine yn 30 ?_
     refine yp 13 31 ?_
     refine yp 14 32 ?_
     refine yp 15 33 ?_
     refine yp 17 35 ?_
     refine yp 21 39 ?_
     refine yp 22 40 ?_
     refine yt 16 34 hHeld ?_
     refine yp 18 36 ?_
     refine yt 19 37 hHeld ?_
     refine yt 23 41 hHeld ?_
     refine yp 24 42 ?_
     refine yp 25 43 ?_
     refine yp 26 44 ?_
     refine yo 20 (some 38) (fun K hK => ?_)
     refine goes_ Try.func81 (by kernel_rfl) rfl #[.agg #[.bool ((rd_T32 l0_0 x3_1).f0), .slice A693_1 ((rd_T32 l0_0 x3_1).f1).length c693_1, .string ((rd_T32 l0_0 x3_1).f2)]] (by rfl) rfl rfl (by (try simp only [List.map_toArray, List.map_cons, List.map_nil]); first | done | rfl | (simp only [List.length_drop, List.length_take]; rfl) | (simp only [HQA693_1.out, HQc693_1.out]; rfl) | (simp only [HQA691_1.out, HQc691_1.out]; rfl) | (simp only [HQA691_1.out, HQc691_1.out, HQA693_1.out, HQc693_1.out]; rfl)) ?_
     with_reducible refine (swarfref43_End.calls k1 ((rd_T32 l0_0 x3_1).f0) _ _ ((rd_T32 l0_0 x3_1).f1) ((rd_T32 l0_0 x3_1).f2) t694 _ ?side1 ?side2 A20.out).mono ?_
     (case side1 => exact yC HR693_1.out)
     (case side2 => exact HC693_1.out)
     rintro e w31 ⟨rfl, hb⟩
     refine ⟨_, rfl, ?_⟩
     replace BK688 := Aside0.mk (blk_below (g := gb688) yK hb)
     replace HB := Aside0.mk (below_step yB hb)
     (try clear hb)
     refine hK.out _ _ ⟨(blk_cell BK688.out 0).trans rfl, (blk_cell BK688.out 1).trans rfl, (yM HB.out hw689_0), (yM HB.out hw689_1), (yM HB.out hw689_2), (yM HB.out hw691_0), (yM HB.out hw691_1), (yM HB.out hw691_2), (yM HB.out hw693_0), (yM HB.out hw693_1), (yM HB.out hw693_2)⟩ (fun hHeld => ?_)
     clear hK K
     refine yn 38 ?_
     refine yp 27 45 ?_
     refine yp 28 46 ?_
     refine done_ (done_of HT_.out (by kernel_rfl)) ?_
     try go_wp2
     go_roundg k1
     case measure => have := HK1.out; omega
     case rel => exact ⟨(wrap64 (x3_1 + 1)), yS, H', ⟨by have := HK1.out; omega⟩, ⟨by refine yH ?_; exact BK688.out⟩, ⟨yB⟩⟩
    rw [if_neg c8] at H
    exact absurd H (by simp)
   rw [if_neg c7] at H
   have c7b0 := decide_eq_false c7
   clear c7
   have H' := Aside0.mk H
   clear H
   have hcz32_0 := yZ0 BK688.out
   have hcz32_1 := yZ1 BK688.out
   have hfz32_0 := blk_frozen BK688.out 0
   have hfz32_1 := blk_frozen BK688.out 1
   go_wp2
   go_loopg [4] k1 (fun kq v4 w' => ∃ (x4_2 : Int), v4 = .int .i64 x4_2 ∧ Aside0 (swarfref43_proper.l1 kq x4_2 l0_0 l0_1 = some r) ∧ Aside0 (kq ≤ k1) ∧ Aside0 (w'.heap[gb688]? = some (.cells #[(.slice A0_0 l0_0.length c0_0), (.slice A0_1 l0_1.length c0_1)] 48 (0, 0))) ∧ Aside0 (Below w.heap.size w w'))
   case atStart => exact ⟨(0), yS, H', ⟨Nat.le_refl _⟩, ⟨by refine yH ?_; exact BK688.out⟩, ⟨yB⟩⟩
   case round =>
    clear H'
    try clear c2
    try clear p2
    try clear c6
    try clear p6
    try clear q6
    try clear hx6
    try clear c7
    try clear c7b0
    try clear c8
    try clear c21
    try clear c21b0
    try clear c21b1
    try clear c21b2
    try clear hcz27_0
    try clear hcz27_1
    try clear hcz32_0
    try clear hcz32_1
    try clear hfz27_0
    try clear hfz27_1
    try clear hfz32_0
    try clear hfz32_1
    try clear hx689_0
    try clear hx689_1
    try clear hx689_2
    try clear hx691_0
    try clear hx691_1
    try clear hx691_2
    try clear hx693_0
    try clear hx693_1
    try clear hx693_2
    try clear p689
    try clear p691
    try clear p693
    try clear q689
    try clear q691
    try clear q693
    obtain ⟨x4_2, rfl, HA, HK2, BK688, HB⟩ := hrel
    cases gk with
    | zero => exact absurd HA.out (by simp [swarfref43_proper.l1])
    | succ k2 =>
     have H := HA.out
     clear HA
     simp only [swarfref43_proper.l1] at H
     by_cases c33 : x4_2 < (l0_1.length : Int)
     ·rw [if_pos c33] at H
      have c33b0 := decide_eq_true c33
      clear c33
      by_cases c34 : 0 ≤ x4_2
      ·rw [if_pos c34] at H
       have c34b0 := decide_eq_true c34
       clear c34
       have HC35 := Aside0.mk H
       clear H
       have hcz36_0 := yZ0 BK688.out
       have hcz36_1 := yZ1 BK688.out
       have hfz36_0 := blk_frozen BK688.out 0
       have hfz36_1 := blk_frozen BK688.out 1
       have p695 : 0 ≤ (x4_2 : Int) := yD
       have q695 : x4_2 < (l0_1.length : Int) := yD
       obtain ⟨ad695, A695_1, c695_1, e695, hx695_0, hx695_1, hl695_1, hi695_1⟩ := at_T58 HR0_1.out x4_2 p695 q695
       cases e695
       replace hx695_0 := yM HB.out hx695_0
       replace hx695_1 := yM HB.out hx695_1
       have HR695_1 := Aside0.mk hi695_1
       have HC695_1 := Aside0.mk hl695_1
       clear hi695_1 hl695_1
       replace p695 := eq_true p695
       replace q695 := eq_true q695
       go_upto_region 12 with (first | ((with_reducible refine gate_dst (N := 5) rfl ?_); (try (refine gate_guard (by rfl) ?_; dsimp only)); refine yX 5 #[.int .i64 0, .slice none 0 0] 58 ?_; intro gb696 hg w37 hbox hb; have BK696 := Aside0.mk (hbox); have GE696 := Aside0.mk ((yG hg : w.heap.size ≤ gb696)); replace HB := Aside0.mk (below_step yB hb); have NB688_696 := Aside0.mk ((yJ hg yK : gb688 ≠ gb696)); have NB696_688 := Aside0.mk ((yI hg yK : gb696 ≠ gb688)); replace BK688 := Aside0.mk (blk_below (g := gb688) yK hb); clear hb hbox hg; have hnb38 := NB696_688.out; have hnc38 := NB688_696.out; have hcz39_0 := yZ0 BK696.out; have hcz39_1 := yZ1 BK696.out; have hfz39_0 := blk_frozen BK696.out 0; have hfz39_1 := blk_frozen BK696.out 1))
       (try simp only [Act.put, List.setIfInBounds_toArray, List.set_cons_zero, List.set_cons_succ])
       go_cut [74] (fun v74 wc => ∃ (kq : Nat) (x74_34 : Bool), v74 = .bool x74_34 ∧ Aside0 (swarfref43_proper.j2 kq x4_2 x74_34 l0_0 l0_1 ((rd_T58 l0_1 x4_2).f0) ((rd_T58 l0_1 x4_2).f1) = some r) ∧ Aside0 (kq ≤ k2) ∧ Aside0 (wc.heap[gb688]? = some (.cells #[(.slice A0_0 l0_0.length c0_0), (.slice (some ad695) l0_1.length c0_1)] 48 (0, 0))) ∧ Aside0 (wc.heap[gb696]? = some (.cells #[.int .i64 ((rd_T58 l0_1 x4_2).f0), (.slice A695_1 ((rd_T58 l0_1 x4_2).f1).length c695_1)] 58 (0, 0))) ∧ Aside0 (Below w.heap.size w wc))
       case first =>
        have H := HC35.out
        clear HC35
        by_cases c40 : ((rd_T58 l0_1 x4_2).f0) < 1
        ·rw [if_pos c40] at H
         have c40b0 := decide_eq_true c40
         clear c40
         (first | rw [c40b0] | (simp only [i64_w, i32_w]; rw [c40b0]) | skip)
         have H' := Aside0.mk H
         clear H
         have hnb41 := NB696_688.out
         have hnc41 := NB688_696.out
         have hcz42_0 := yZ0 BK696.out
         have hcz42_1 := yZ1 BK696.out
         have hfz42_0 := blk_frozen BK696.out 0
         have hfz42_1 := blk_frozen BK696.out 1
         go_wp2
         go_meet
         case rel => exact ⟨_, (true), yS, H', ⟨by have := HK1.out; have := HK2.out; first | omega | exact Nat.le_refl _⟩, ⟨by refine yH ?_; refine blk_far ?_ NB688_696.out _; refine yH ?_; refine blk_far ?_ NB688_696.out _; refine yH ?_; exact BK688.out⟩, ⟨by refine yH ?_; refine blk_put (cs := #[.int .i64 ((rd_T58 l0_1 x4_2).f0), .slice none 0 0]) ?_ 1 _ rfl; refine yH ?_; refine blk_put (cs := #[.int .i64 0, .slice none 0 0]) ?_ 0 _ rfl; refine yH ?_; exact BK696.out⟩, ⟨yB⟩⟩
        rw [if_neg c40] at H
        have c40b0 := decide_eq_false c40
        clear c40
        (first | rw [c40b0] | (simp only [i64_w, i32_w]; rw [c40b0]) | skip)
        by_cases c43 : ((rd_T58 l0_1 x4_2).f0) > 9999
        ·rw [if_pos c43] at H
         have c43b0 := decide_eq_true c43
         clear c43
         have H' := Aside0.mk H
         clear H
         have hnb44 := NB696_688.out
         have hnc44 := NB688_696.out
         have hcz45_0 := yZ0 BK696.out
         have hcz45_1 := yZ1 BK696.out
         have hfz45_0 := blk_frozen BK696.out 0
         have hfz45_1 := blk_frozen BK696.out 1
         go_wp2
         go_meet
         case rel => exact ⟨_, (true), yS, H', ⟨by have := HK1.out; have := HK2.out; first | omega | exact Nat.le_refl _⟩, ⟨by refine yH ?_; refine blk_far ?_ NB688_696.out _; refine yH ?_; refine blk_far ?_ NB688_696.out _; refine yH ?_; exact BK688.out⟩, ⟨by refine yH ?_; refine blk_put (cs := #[.int .i64 ((rd_T58 l0_1 x4_2).f0), .slice none 0 0]) ?_ 1 _ rfl; refine yH ?_; refine blk_put (cs := #[.int .i64 0, .slice none 0 0]) ?_ 0 _ rfl; refine yH ?_; exact BK696.out⟩, ⟨yB⟩⟩
        rw [if_neg c43] at H
        have c43b0 := decide_eq_false c43
        clear c43
        replace H := Option.bind_eq_some_iff.mp H
        obtain ⟨t697, A460, H⟩ := H
        have A46 := Aside0.mk A460
        clear A460
        have H' := Aside0.mk H
        clear H
        have hnb47 := NB696_688.out
        have hnc47 := NB688_696.out
        have hcz48_0 := yZ0 BK696.out
        have hcz48_1 := yZ1 BK696.out
        have hfz48_0 := blk_frozen BK696.out 0
        have hfz48_1 := blk_frozen BK696.out 1
        have hcz49_0 := yZ0 BK688.out
        have hcz49_1 := yZ1 BK688.out
        have hfz49_0 := blk_frozen BK688.out 0
        have hfz49_1 := blk_frozen BK688.out 1
        go_wp2_with (first | (go_at_call 30; (with_reducible refine (swarfref43_Find.calls k2 _ _ l0_0 _ _ l0_1 ((rd_T58 l0_1 x4_2).f0) t697 _ ?side1 ?side2 ?side3 ?side4 A46.out).mono ?_); (case side1 => exact Kd.C_below HR0_0.out yB); (case side2 => exact HC0_0.out); (case side3 => exact Kd.C_below HR0_1.out yB); (case side4 => exact HC0_1.out); rintro e w50 ⟨rfl, hb⟩; replace BK688 := Aside0.mk (blk_below (g := gb688) (o := .cells #[.slice A0_0 l0_0.length c0_0, .slice (some ad695) l0_1.length c0_1] 48 (0, 0)) (by refine yH ?_; refine blk_far ?_ NB688_696.out _; refine yH ?_; refine blk_far ?_ NB688_696.out _; refine yH ?_; exact BK688.out) hb); replace BK696 := Aside0.mk (blk_below (g := gb696) (o := .cells #[.int .i64 ((rd_T58 l0_1 x4_2).f0), .slice A695_1 ((rd_T58 l0_1 x4_2).f1).length c695_1] 58 (0, 0)) (by refine yH ?_; refine blk_put (cs := #[.int .i64 ((rd_T58 l0_1 x4_2).f0), .slice none 0 0]) ?_ 1 _ rfl; refine yH ?_; refine blk_put (cs := #[.int .i64 0, .slice none 0 0]) ?_ 0 _ rfl; refine yH ?_; exact BK696.out) hb); replace HB := Aside0.mk (below_step yB hb); (try clear hb)))
        go_meet
        case rel => exact ⟨_, (decide (t697 < x4_2)), yS, H', ⟨by have := HK1.out; have := HK2.out; first | omega | exact Nat.le_refl _⟩, ⟨by refine yH ?_; exact BK688.out⟩, ⟨by refine yH ?_; exact BK696.out⟩, ⟨yB⟩⟩
       case rest =>
        clear HC35
        try clear c2
        try clear p2
        try clear c3
        try clear c4
        try clear c6
        try clear p6
        try clear q6
        try clear hx6
        try clear c7
        try clear c7b0
        try clear c8
        try clear c21
        try clear c21b0
        try clear c21b1
        try clear c21b2
        try clear c33
        try clear c33b0
        try clear c34
        try clear c34b0
        try clear c38
        try clear c40
        try clear c40b0
        try clear c41
        try clear c43
        try clear c43b0
        try clear c44
        try clear c47
        try clear hcz27_0
        try clear hcz27_1
        try clear hcz32_0
        try clear hcz32_1
        try clear hcz36_0
        try clear hcz36_1
        try clear hcz39_0
        try clear hcz39_1
        try clear hcz42_0
        try clear hcz42_1
        try clear hcz45_0
        try clear hcz45_1
        try clear hcz48_0
        try clear hcz48_1
        try clear hcz49_0
        try clear hcz49_1
        try clear hfz27_0
        try clear hfz27_1
        try clear hfz32_0
        try clear hfz32_1
        try clear hfz36_0
        try clear hfz36_1
        try clear hfz39_0
        try clear hfz39_1
        try clear hfz42_0
        try clear hfz42_1
        try clear hfz45_0
        try clear hfz45_1
        try clear hfz48_0
        try clear hfz48_1
        try clear hfz49_0
        try clear hfz49_1
        try clear hx689_0
        try clear hx689_1
        try clear hx689_2
        try clear hx691_0
        try clear hx691_1
        try clear hx691_2
        try clear hx693_0
        try clear hx693_1
        try clear hx693_2
        try clear hx695_0
        try clear hx695_1
        try clear p2
        try clear p6
        try clear p689
        try clear p691
        try clear p693
        try clear p695
        try clear q6
        try clear q689
        try clear q691
        try clear q693
        try clear q695
        obtain ⟨kq, x74_34, rfl, HA, HJ34, BK688, BK696, HB⟩ := hcut
        cases kq with
        | zero => exact absurd HA.out (by simp [swarfref43_proper.j2])
        | succ kj34 =>
         have H := HA.out
         clear HA
         simp only [swarfref43_proper.j2] at H
         by_cases c51 : x74_34 = true
         ·subst c51
          rw [if_pos rfl] at H
          obtain rfl := Option.some.inj H
          go_wp2
          go_ret
          exact ⟨yE, yB⟩
         replace c51 := Bool.eq_false_iff.mpr c51
         subst c51
         replace H : (swarfref43_proper.l2 kj34 x4_2 0 l0_0 l0_1 ((rd_T58 l0_1 x4_2).f0) ((rd_T58 l0_1 x4_2).f1)) = some r := by rw [if_neg (show ¬ (false = true) by decide)] at H; exact H
         have H' := Aside0.mk H
         clear H
         go_wp2
         go_loopg [6] kj34 (fun kq v6 w' => ∃ (x6_4 : Int), v6 = .int .i64 x6_4 ∧ Aside0 (swarfref43_proper.l2 kq x4_2 x6_4 l0_0 l0_1 ((rd_T58 l0_1 x4_2).f0) ((rd_T58 l0_1 x4_2).f1) = some r) ∧ Aside0 (kq ≤ kj34) ∧ Aside0 (w'.heap[gb688]? = some (.cells #[(.slice A0_0 l0_0.length c0_0), (.slice (some ad695) l0_1.length c0_1)] 48 (0, 0))) ∧ Aside0 (w'.heap[gb696]? = some (.cells #[.int .i64 ((rd_T58 l0_1 x4_2).f0), (.slice A695_1 ((rd_T58 l0_1 x4_2).f1).length c695_1)] 58 (0, 0))) ∧ Aside0 (Below w.heap.size w w'))
         case atStart => exact ⟨(0), yS, H', ⟨Nat.le_refl _⟩, ⟨by refine yH ?_; exact BK688.out⟩, ⟨by refine yH ?_; exact BK696.out⟩, ⟨yB⟩⟩
         case round =>
          clear H'
          try clear c2
          try clear p2
          try clear c3
          try clear c4
          try clear c5
          try clear c6
          try clear p6
          try clear q6
          try clear hx6
          try clear c7
          try clear c7b0
          try clear c8
          try clear c21
          try clear c21b0
          try clear c21b1
          try clear c21b2
          try clear c33
          try clear c33b0
          try clear c34
          try clear c34b0
          try clear c38
          try clear c40
          try clear c40b0
          try clear c41
          try clear c43
          try clear c43b0
          try clear c44
          try clear c47
          try clear c51
          try clear hcz27_0
          try clear hcz27_1
          try clear hcz32_0
          try clear hcz32_1
          try clear hcz36_0
          try clear hcz36_1
          try clear hcz39_0
          try clear hcz39_1
          try clear hcz42_0
          try clear hcz42_1
          try clear hcz45_0
          try clear hcz45_1
          try clear hcz48_0
          try clear hcz48_1
          try clear hcz49_0
          try clear hcz49_1
          try clear hfz27_0
          try clear hfz27_1
          try clear hfz32_0
          try clear hfz32_1
          try clear hfz36_0
          try clear hfz36_1
          try clear hfz39_0
          try clear hfz39_1
          try clear hfz42_0
          try clear hfz42_1
          try clear hfz45_0
          try clear hfz45_1
          try clear hfz48_0
          try clear hfz48_1
          try clear hfz49_0
          try clear hfz49_1
          try clear hx689_0
          try clear hx689_1
          try clear hx689_2
          try clear hx691_0
          try clear hx691_1
          try clear hx691_2
          try clear hx693_0
          try clear hx693_1
          try clear hx693_2
          try clear hx695_0
          try clear hx695_1
          try clear p2
          try clear p6
          try clear p689
          try clear p691
          try clear p693
          try clear p695
          try clear q6
          try clear q689
          try clear q691
          try clear q693
          try clear q695
          obtain ⟨x6_4, rfl, HA, HK4, BK688, BK696, HB⟩ := hrel
          cases gk with
          | zero => exact absurd HA.out (by simp [swarfref43_proper.l2])
          | succ k4 =>
           have H := HA.out
           clear HA
           simp only [swarfref43_proper.l2] at H
           by_cases c52 : x6_4 < (((rd_T58 l0_1 x4_2).f1).length : Int)
           ·rw [if_pos c52] at H
            have c52b0 := decide_eq_true c52
            clear c52
            by_cases c53 : 0 ≤ x6_4
            ·rw [if_pos c53] at H
             have c53b0 := decide_eq_true c53
             clear c53
             replace H := Option.bind_eq_some_iff.mp H
             obtain ⟨t699, A540, H⟩ := H
             have A54 := Aside0.mk A540
             clear A540
             by_cases c55 : t699 = true
             ·subst c55
              rw [if_pos rfl] at H
              obtain rfl := Option.some.inj H
              have hnb56 := NB696_688.out
              have hnc56 := NB688_696.out
              have hcz57_0 := yZ0 BK696.out
              have hcz57_1 := yZ1 BK696.out
              have hfz57_0 := blk_frozen BK696.out 0
              have hfz57_1 := blk_frozen BK696.out 1
              have p698 : 0 ≤ (x6_4 : Int) := yD
              have q698 : x6_4 < (((rd_T58 l0_1 x4_2).f1).length : Int) := yD
              obtain ⟨ad698, A698_1, c698_1, e698, hx698_0, hx698_1, hx698_2, hl698_1, hi698_1⟩ := at_T32 HR695_1.out x6_4 p698 q698
              cases e698
              replace hx698_0 := yM HB.out hx698_0
              replace hx698_1 := yM HB.out hx698_1
              replace hx698_2 := yM HB.out hx698_2
              have HR698_1 := Aside0.mk hi698_1
              have HC698_1 := Aside0.mk hl698_1
              clear hi698_1 hl698_1
              replace p698 := eq_true p698
              replace q698 := eq_true q698
              go_wp2_with (first | ((with_reducible refine gate_callee (f := 82) rfl ?_); refine goesL_ (some 87) rfl rfl Try.func82 (by kernel_rfl) rfl #[.agg #[.bool ((rd_T32 ((rd_T58 l0_1 x4_2).f1) x6_4).f0), .slice A698_1 ((rd_T32 ((rd_T58 l0_1 x4_2).f1) x6_4).f1).length c698_1, .string ((rd_T32 ((rd_T58 l0_1 x4_2).f1) x6_4).f2)]] rfl yQ ?_; (with_reducible refine (swarfref43_Return.calls k4 ((rd_T32 ((rd_T58 l0_1 x4_2).f1) x6_4).f0) _ _ ((rd_T32 ((rd_T58 l0_1 x4_2).f1) x6_4).f1) ((rd_T32 ((rd_T58 l0_1 x4_2).f1) x6_4).f2) true _ ?side1 ?side2 A54.out).mono ?_); (case side1 => exact yC HR698_1.out); (case side2 => exact HC698_1.out); rintro e w58 ⟨rfl, hb⟩; refine ⟨_, rfl, ?_⟩; replace BK688 := Aside0.mk (blk_below (g := gb688) yK hb); replace BK696 := Aside0.mk (blk_below (g := gb696) yK hb); replace HB := Aside0.mk (below_step yB hb); (try clear hb)))
              go_ret
              exact ⟨yE, yB⟩
             replace c55 := Bool.eq_false_iff.mpr c55
             subst c55
             replace H : ((swarfref43_letter.f k4 ((rd_T32 ((rd_T58 l0_1 x4_2).f1) x6_4).f0) ((rd_T32 ((rd_T58 l0_1 x4_2).f1) x6_4).f1) ((rd_T32 ((rd_T58 l0_1 x4_2).f1) x6_4).f2) 79).bind fun t701 => (if t701 = true then (some false) else ((swarfref43_End.f k4 ((rd_T32 ((rd_T58 l0_1 x4_2).f1) x6_4).f0) ((rd_T32 ((rd_T58 l0_1 x4_2).f1) x6_4).f1) ((rd_T32 ((rd_T58 l0_1 x4_2).f1) x6_4).f2)).bind fun t703 => (if t703 = true then (some false) else (swarfref43_proper.l2 k4 x4_2 (wrap64 (x6_4 + 1)) l0_0 l0_1 ((rd_T58 l0_1 x4_2).f0) ((rd_T58 l0_1 x4_2).f1)))))) = some r := by rw [if_neg (show ¬ (false = true) by decide)] at H; exact H
             replace H := Option.bind_eq_some_iff.mp H
             obtain ⟨t701, A590, H⟩ := H
             have A59 := Aside0.mk A590
             clear A590
             by_cases c60 : t701 = true
             ·subst c60
              rw [if_pos rfl] at H
              obtain rfl := Option.some.inj H
              have hnb61 := NB696_688.out
              have hnc61 := NB688_696.out
              have hcz62_0 := yZ0 BK696.out
              have hcz62_1 := yZ1 BK696.out
              have hfz62_0 := blk_frozen BK696.out 0
              have hfz62_1 := blk_frozen BK696.out 1
              have p698 : 0 ≤ (x6_4 : Int) := yD
              have q698 : x6_4 < (((rd_T58 l0_1 x4_2).f1).length : Int) := yD
              obtain ⟨ad698, A698_1, c698_1, e698, hx698_0, hx698_1, hx698_2, hl698_1, hi698_1⟩ := at_T32 HR695_1.out x6_4 p698 q698
              cases e698
              replace hx698_0 := yM HB.out hx698_0
              replace hx698_1 := yM HB.out hx698_1
              replace hx698_2 := yM HB.out hx698_2
              have HR698_1 := Aside0.mk hi698_1
              have HC698_1 := Aside0.mk hl698_1
              clear hi698_1 hl698_1
              replace p698 := eq_true p698
              replace q698 := eq_true q698
              go_wp2_with (first | ((with_reducible refine gate_callee (f := 82) rfl ?_); refine goesL_ (some 87) rfl rfl Try.func82 (by kernel_rfl) rfl #[.agg #[.bool ((rd_T32 ((rd_T58 l0_1 x4_2).f1) x6_4).f0), .slice A698_1 ((rd_T32 ((rd_T58 l0_1 x4_2).f1) x6_4).f1).length c698_1, .string ((rd_T32 ((rd_T58 l0_1 x4_2).f1) x6_4).f2)]] rfl yQ ?_; (with_reducible refine (swarfref43_Return.calls k4 ((rd_T32 ((rd_T58 l0_1 x4_2).f1) x6_4).f0) _ _ ((rd_T32 ((rd_T58 l0_1 x4_2).f1) x6_4).f1) ((rd_T32 ((rd_T58 l0_1 x4_2).f1) x6_4).f2) false _ ?side1 ?side2 A54.out).mono ?_); (case side1 => exact yC HR698_1.out); (case side2 => exact HC698_1.out); rintro e w63 ⟨rfl, hb⟩; refine ⟨_, rfl, ?_⟩; replace BK688 := Aside0.mk (blk_below (g := gb688) yK hb); replace BK696 := Aside0.mk (blk_below (g := gb696) yK hb); replace HB := Aside0.mk (below_step yB hb); (try clear hb); have hcz64_0 := yZ0 BK696.out; have hcz64_1 := yZ1 BK696.out; have hfz64_0 := blk_frozen BK696.out 0; have hfz64_1 := blk_frozen BK696.out 1; have p700 : 0 ≤ (x6_4 : Int) := yD; have q700 : x6_4 < (((rd_T58 l0_1 x4_2).f1).length : Int) := yD; obtain ⟨ad700, A700_1, c700_1, e700, hx700_0, hx700_1, hx700_2, hl700_1, hi700_1⟩ := at_T32 HR695_1.out x6_4 p700 q700; obtain rfl : ad698 = ad700 := (by injection e700); replace hx700_0 := yM HB.out hx700_0; replace hx700_1 := yM HB.out hx700_1; replace hx700_2 := yM HB.out hx700_2; have HR700_1 := Aside0.mk hi700_1; have HC700_1 := Aside0.mk hl700_1; clear hi700_1 hl700_1; replace p700 := eq_true p700; replace q700 := eq_true q700) | (go_at_call 83; (with_reducible refine (swarfref43_letter.calls k4 ((rd_T32 ((rd_T58 l0_1 x4_2).f1) x6_4).f0) _ _ ((rd_T32 ((rd_T58 l0_1 x4_2).f1) x6_4).f1) ((rd_T32 ((rd_T58 l0_1 x4_2).f1) x6_4).f2) 79 true _ ?side1 ?side2 A59.out).mono ?_); (case side1 => exact yC HR700_1.out); (case side2 => exact HC700_1.out); rintro e w65 ⟨rfl, hb⟩; replace BK688 := Aside0.mk (blk_below (g := gb688) yK hb); replace BK696 := Aside0.mk (blk_below (g := gb696) yK hb); replace HB := Aside0.mk (below_step yB hb); (try clear hb)))
              go_ret
              exact ⟨yE, yB⟩
             replace c60 := Bool.eq_false_iff.mpr c60
             subst c60
             replace H : ((swarfref43_End.f k4 ((rd_T32 ((rd_T58 l0_1 x4_2).f1) x6_4).f0) ((rd_T32 ((rd_T58 l0_1 x4_2).f1) x6_4).f1) ((rd_T32 ((rd_T58 l0_1 x4_2).f1) x6_4).f2)).bind fun t703 => (if t703 = true then (some false) else (swarfref43_proper.l2 k4 x4_2 (wrap64 (x6_4 + 1)) l0_0 l0_1 ((rd_T58 l0_1 x4_2).f0) ((rd_T58 l0_1 x4_2).f1)))) = some r := by rw [if_neg (show ¬ (false = true) by decide)] at H; exact H
             replace H := Option.bind_eq_some_iff.mp H
             obtain ⟨t703, A660, H⟩ := H
             have A66 := Aside0.mk A660
             clear A660
             by_cases c67 : t703 = true
             ·subst c67
              rw [if_pos rfl] at H
              obtain rfl := Option.some.inj H
              have hnb68 := NB696_688.out
              have hnc68 := NB688_696.out
              have hcz69_0 := yZ0 BK696.out
              have hcz69_1 := yZ1 BK696.out
              have hfz69_0 := blk_frozen BK696.out 0
              have hfz69_1 := blk_frozen BK696.out 1
              have p698 : 0 ≤ (x6_4 : Int) := yD
              have q698 : x6_4 < (((rd_T58 l0_1 x4_2).f1).length : Int) := yD
              obtain ⟨ad698, A698_1, c698_1, e698, hx698_0, hx698_1, hx698_2, hl698_1, hi698_1⟩ := at_T32 HR695_1.out x6_4 p698 q698
              cases e698
              replace hx698_0 := yM HB.out hx698_0
              replace hx698_1 := yM HB.out hx698_1
              replace hx698_2 := yM HB.out hx698_2
              have HR698_1 := Aside0.mk hi698_1
              have HC698_1 := Aside0.mk hl698_1
              clear hi698_1 hl698_1
              replace p698 := eq_true p698
              replace q698 := eq_true q698
              go_wp2_with (first | ((with_reducible refine gate_callee (f := 82) rfl ?_); refine goesL_ (some 87) rfl rfl Try.func82 (by kernel_rfl) rfl #[.agg #[.bool ((rd_T32 ((rd_T58 l0_1 x4_2).f1) x6_4).f0), .slice A698_1 ((rd_T32 ((rd_T58 l0_1 x4_2).f1) x6_4).f1).length c698_1, .string ((rd_T32 ((rd_T58 l0_1 x4_2).f1) x6_4).f2)]] rfl yQ ?_; (with_reducible refine (swarfref43_Return.calls k4 ((rd_T32 ((rd_T58 l0_1 x4_2).f1) x6_4).f0) _ _ ((rd_T32 ((rd_T58 l0_1 x4_2).f1) x6_4).f1) ((rd_T32 ((rd_T58 l0_1 x4_2).f1) x6_4).f2) false _ ?side1 ?side2 A54.out).mono ?_); (case side1 => exact yC HR698_1.out); (case side2 => exact HC698_1.out); rintro e w70 ⟨rfl, hb⟩; refine ⟨_, rfl, ?_⟩; replace BK688 := Aside0.mk (blk_below (g := gb688) yK hb); replace BK696 := Aside0.mk (blk_below (g := gb696) yK hb); replace HB := Aside0.mk (below_step yB hb); (try clear hb); have hcz71_0 := yZ0 BK696.out; have hcz71_1 := yZ1 BK696.out; have hfz71_0 := blk_frozen BK696.out 0; have hfz71_1 := blk_frozen BK696.out 1; have p700 : 0 ≤ (x6_4 : Int) := yD; have q700 : x6_4 < (((rd_T58 l0_1 x4_2).f1).length : Int) := yD; obtain ⟨ad700, A700_1, c700_1, e700, hx700_0, hx700_1, hx700_2, hl700_1, hi700_1⟩ := at_T32 HR695_1.out x6_4 p700 q700; obtain rfl : ad698 = ad700 := (by injection e700); replace hx700_0 := yM HB.out hx700_0; replace hx700_1 := yM HB.out hx700_1; replace hx700_2 := yM HB.out hx700_2; have HR700_1 := Aside0.mk hi700_1; have HC700_1 := Aside0.mk hl700_1; clear hi700_1 hl700_1; replace p700 := eq_true p700; replace q700 := eq_true q700) | (go_at_call 83; (with_reducible refine (swarfref43_letter.calls k4 ((rd_T32 ((rd_T58 l0_1 x4_2).f1) x6_4).f0) _ _ ((rd_T32 ((rd_T58 l0_1 x4_2).f1) x6_4).f1) ((rd_T32 ((rd_T58 l0_1 x4_2).f1) x6_4).f2) 79 false _ ?side1 ?side2 A59.out).mono ?_); (case side1 => exact yC HR700_1.out); (case side2 => exact HC700_1.out); rintro e w72 ⟨rfl, hb⟩; replace BK688 := Aside0.mk (blk_below (g := gb688) yK hb); replace BK696 := Aside0.mk (blk_below (g := gb696) yK hb); replace HB := Aside0.mk (below_step yB hb); (try clear hb); have hcz73_0 := yZ0 BK696.out; have hcz73_1 := yZ1 BK696.out; have hfz73_0 := blk_frozen BK696.out 0; have hfz73_1 := blk_frozen BK696.out 1; have p702 : 0 ≤ (x6_4 : Int) := yD; have q702 : x6_4 < (((rd_T58 l0_1 x4_2).f1).length : Int) := yD; obtain ⟨ad702, A702_1, c702_1, e702, hx702_0, hx702_1, hx702_2, hl702_1, hi702_1⟩ := at_T32 HR695_1.out x6_4 p702 q702; obtain rfl : ad698 = ad702 := (by injection e702); replace hx702_0 := yM HB.out hx702_0; replace hx702_1 := yM HB.out hx702_1; replace hx702_2 := yM HB.out hx702_2; have HR702_1 := Aside0.mk hi702_1; have HC702_1 := Aside0.mk hl702_1; clear hi702_1 hl702_1; replace p702 := eq_true p702; replace q702 := eq_true q702) | (go_at_call 81; (with_reducible refine (swarfref43_End.calls k4 ((rd_T32 ((rd_T58 l0_1 x4_2).f1) x6_4).f0) _ _ ((rd_T32 ((rd_T58 l0_1 x4_2).f1) x6_4).f1) ((rd_T32 ((rd_T58 l0_1 x4_2).f1) x6_4).f2) true _ ?side1 ?side2 A66.out).mono ?_); (case side1 => exact yC HR702_1.out); (case side2 => exact HC702_1.out); rintro e w74 ⟨rfl, hb⟩; replace BK688 := Aside0.mk (blk_below (g := gb688) yK hb); replace BK696 := Aside0.mk (blk_below (g := gb696) yK hb); replace HB := Aside0.mk (below_step yB hb); (try clear hb)))
              go_ret
              exact ⟨yE, yB⟩
             replace c67 := Bool.eq_false_iff.mpr c67
             subst c67
             replace H : (swarfref43_proper.l2 k4 x4_2 (wrap64 (x6_4 + 1)) l0_0 l0_1 ((rd_T58 l0_1 x4_2).f0) ((rd_T58 l0_1 x4_2).f1)) = some r := by rw [if_neg (show ¬ (false = true) by decide)] at H; exact H
             have H' := Aside0.mk H
             clear H
             have hnb75 := NB696_688.out
             have hnc75 := NB688_696.out
             have hcz76_0 := yZ0 BK696.out
             have hcz76_1 := yZ1 BK696.out
             have hfz76_0 := blk_frozen BK696.out 0
             have hfz76_1 := blk_frozen BK696.out 1
             have p698 : 0 ≤ (x6_4 : Int) := yD
             have q698 : x6_4 < (((rd_T58 l0_1 x4_2).f1).length : Int) := yD
             obtain ⟨ad698, A698_1, c698_1, e698, hx698_0, hx698_1, hx698_2, hl698_1, hi698_1⟩ := at_T32 HR695_1.out x6_4 p698 q698
             cases e698
             replace hx698_0 := yM HB.out hx698_0
             replace hx698_1 := yM HB.out hx698_1
             replace hx698_2 := yM HB.out hx698_2
             have HR698_1 := Aside0.mk hi698_1
             have HC698_1 := Aside0.mk hl698_1
             clear hi698_1 hl698_1
             replace p698 := eq_true p698
             replace q698 := eq_true q698
             go_wp2_with (first | ((with_reducible refine gate_callee (f := 82) rfl ?_); refine goesL_ (some 87) rfl rfl Try.func82 (by kernel_rfl) rfl #[.agg #[.bool ((rd_T32 ((rd_T58 l0_1 x4_2).f1) x6_4).f0), .slice A698_1 ((rd_T32 ((rd_T58 l0_1 x4_2).f1) x6_4).f1).length c698_1, .string ((rd_T32 ((rd_T58 l0_1 x4_2).f1) x6_4).f2)]] rfl yQ ?_; (with_reducible refine (swarfref43_Return.calls k4 ((rd_T32 ((rd_T58 l0_1 x4_2).f1) x6_4).f0) _ _ ((rd_T32 ((rd_T58 l0_1 x4_2).f1) x6_4).f1) ((rd_T32 ((rd_T58 l0_1 x4_2).f1) x6_4).f2) false _ ?side1 ?side2 A54.out).mono ?_); (case side1 => exact yC HR698_1.out); (case side2 => exact HC698_1.out); rintro e w77 ⟨rfl, hb⟩; refine ⟨_, rfl, ?_⟩; replace BK688 := Aside0.mk (blk_below (g := gb688) yK hb); replace BK696 := Aside0.mk (blk_below (g := gb696) yK hb); replace HB := Aside0.mk (below_step yB hb); (try clear hb); have hcz78_0 := yZ0 BK696.out; have hcz78_1 := yZ1 BK696.out; have hfz78_0 := blk_frozen BK696.out 0; have hfz78_1 := blk_frozen BK696.out 1; have p700 : 0 ≤ (x6_4 : Int) := yD; have q700 : x6_4 < (((rd_T58 l0_1 x4_2).f1).length : Int) := yD; obtain ⟨ad700, A700_1, c700_1, e700, hx700_0, hx700_1, hx700_2, hl700_1, hi700_1⟩ := at_T32 HR695_1.out x6_4 p700 q700; obtain rfl : ad698 = ad700 := (by injection e700); replace hx700_0 := yM HB.out hx700_0; replace hx700_1 := yM HB.out hx700_1; replace hx700_2 := yM HB.out hx700_2; have HR700_1 := Aside0.mk hi700_1; have HC700_1 := Aside0.mk hl700_1; clear hi700_1 hl700_1; replace p700 := eq_true p700; replace q700 := eq_true q700) | (go_at_call 83; (with_reducible refine (swarfref43_letter.calls k4 ((rd_T32 ((rd_T58 l0_1 x4_2).f1) x6_4).f0) _ _ ((rd_T32 ((rd_T58 l0_1 x4_2).f1) x6_4).f1) ((rd_T32 ((rd_T58 l0_1 x4_2).f1) x6_4).f2) 79 false _ ?side1 ?side2 A59.out).mono ?_); (case side1 => exact yC HR700_1.out); (case side2 => exact HC700_1.out); rintro e w79 ⟨rfl, hb⟩; replace BK688 := Aside0.mk (blk_below (g := gb688) yK hb); replace BK696 := Aside0.mk (blk_below (g := gb696) yK hb); replace HB := Aside0.mk (below_step yB hb); (try clear hb); have hcz80_0 := yZ0 BK696.out; have hcz80_1 := yZ1 BK696.out; have hfz80_0 := blk_frozen BK696.out 0; have hfz80_1 := blk_frozen BK696.out 1; have p702 : 0 ≤ (x6_4 : Int) := yD; have q702 : x6_4 < (((rd_T58 l0_1 x4_2).f1).length : Int) := yD; obtain ⟨ad702, A702_1, c702_1, e702, hx702_0, hx702_1, hx702_2, hl702_1, hi702_1⟩ := at_T32 HR695_1.out x6_4 p702 q702; obtain rfl : ad698 = ad702 := (by injection e702); replace hx702_0 := yM HB.out hx702_0; replace hx702_1 := yM HB.out hx702_1; replace hx702_2 := yM HB.out hx702_2; have HR702_1 := Aside0.mk hi702_1; have HC702_1 := Aside0.mk hl702_1; clear hi702_1 hl702_1; replace p702 := eq_true p702; replace q702 := eq_true q702) | (go_at_call 81; (with_reducible refine (swarfref43_End.calls k4 ((rd_T32 ((rd_T58 l0_1 x4_2).f1) x6_4).f0) _ _ ((rd_T32 ((rd_T58 l0_1 x4_2).f1) x6_4).f1) ((rd_T32 ((rd_T58 l0_1 x4_2).f1) x6_4).f2) false _ ?side1 ?side2 A66.out).mono ?_); (case side1 => exact yC HR702_1.out); (case side2 => exact HC702_1.out); rintro e w81 ⟨rfl, hb⟩; replace BK688 := Aside0.mk (blk_below (g := gb688) yK hb); replace BK696 := Aside0.mk (blk_below (g := gb696) yK hb); replace HB := Aside0.mk (below_step yB hb); (try clear hb)))
             go_roundg k4
             case measure => have := HK1.out; have := HK2.out; have := HJ34.out; have := HK4.out; omega
             case rel => exact ⟨(wrap64 (x6_4 + 1)), yS, H', ⟨by have := HK1.out; have := HK2.out; have := HJ34.out; have := HK4.out; omega⟩, ⟨by refine yH ?_; exact BK688.out⟩, ⟨by refine yH ?_; exact BK696.out⟩, ⟨yB⟩⟩
            rw [if_neg c53] at H
            exact absurd H (by simp)
           rw [if_neg c52] at H
           have c52b0 := decide_eq_false c52
           clear c52
           have H' := Aside0.mk H
           clear H
           have hnb82 := NB696_688.out
           have hnc82 := NB688_696.out
           have hcz83_0 := yZ0 BK696.out
           have hcz83_1 := yZ1 BK696.out
           have hfz83_0 := blk_frozen BK696.out 0
           have hfz83_1 := blk_frozen BK696.out 1
           go_wp2
           go_roundg k4
           case measure => have := HK1.out; have := HK2.out; have := HJ34.out; have := HK4.out; omega
           case rel => exact ⟨(wrap64 (x4_2 + 1)), yS, H', ⟨by have := HK1.out; have := HK2.out; have := HJ34.out; have := HK4.out; omega⟩, ⟨by refine yH ?_; exact BK688.out⟩, ⟨yB⟩⟩
      rw [if_neg c34] at H
      exact absurd H (by simp)
     rw [if_neg c33] at H
     have c33b0 := decide_eq_false c33
     clear c33
     obtain rfl := Option.some.inj H
     have hcz84_0 := yZ0 BK688.out
     have hcz84_1 := yZ1 BK688.out
     have hfz84_0 := blk_frozen BK688.out 0
     have hfz84_1 := blk_frozen BK688.out 1
     go_wp2
     go_ret
     exact ⟨yE, yB⟩
end Go.Proofs.Ytehkhbnhmehobaa.P
namespace Go.Proofs.Ytehkhbnhmehobaa.P
open Go.RowKit Go.Proofs.YtehkhbnhmehobaaW.PrintWords Go.Proofs.YtehkhbnhmehobaaW.PrintLast Go.Proofs.YtehkhbnhmehobaaW.PrintMore
set_option linter.unusedVariables false
set_option linter.unusedSimpArgs false
def idxS {α : Type} (q : α → Bool) : List α → Int → Int
  | [], _ => -1
  | x :: l, i => if q x = true then i else idxS q l (i + 1)
theorem idx_ev {α : Type} {P : Nat → α → Option Bool} {q : α → Bool} : ∀ (l : List α) (i : Int), (∀ x ∈ l, Ev (fun k => P k x) (q x)) → Ev (fun k => idxF (P k) l i) (idxS q l i)
  | [], i, h => Ev.some
  | x :: l, i, h => by
    unfold idxS
    refine Ev.bind (h x List.mem_cons_self) ?_
    cases hq : q x with
    | true => exact Ev.pos rfl Ev.some
    | false => exact Ev.neg (by decide) (idx_ev l (i + 1) (fun y hy => h y (List.mem_cons_of_mem _ hy)))
theorem idxS_at {α : Type} {q : α → Bool} {b : α} (c : List α) (hb : q b = true) : ∀ (a : List α) (i : Int), (∀ x ∈ a, q x = false) → idxS q (a ++ b :: c) i = i + (a.length : Int)
  | [], i, h => by rw [List.nil_append, idxS, if_pos hb]; simp
  | x :: a, i, h => by
    rw [List.cons_append, idxS, if_neg (by rw [h x List.mem_cons_self]; decide), idxS_at c hb a (i + 1) (fun y hy => h y (List.mem_cons_of_mem _ hy))]
    simp only [List.length_cons]
    omega
theorem Ev.map {α β : Type} {g : Nat → Option α} {v : α} (f : α → β) (h : Ev g v) : Ev (fun k => (g k).map f) (f v) := by
  obtain ⟨k0, hk⟩ := h
  exact ⟨k0, fun k h => by show (g k).map f = _; rw [hk k h]; rfl⟩
structure ProperP (m : List Bk) (s : List Rb) : Prop where
  ne : 1 ≤ m.length
  main : ∀ (j : Nat) (h : j < m.length), hasS m[j].f1 77 99000 = false ∧ anyS m[j].f1 79 = false ∧ hasS m[j].f1 77 30000 = decide (j + 1 = m.length)
  sub : ∀ (j : Nat) (h : j < s.length), 1 ≤ s[j].f0 ∧ s[j].f0 ≤ 9999 ∧ (∀ (i : Nat) (h2 : i < j), s[i].f0 ≠ s[j].f0) ∧ ∀ b ∈ s[j].f1, markS b.f1 = false
section
variable {m : List Bk} {s : List Rb} (hg : goodP m s) (hp : ProperP m s)
include hp
theorem split_main : m = m.take (m.length - 1) ++ [m[m.length - 1]'(by have := hp.ne; omega)] := by
  have h := List.take_append_drop (m.length - 1) m
  rw [List.drop_eq_getElem_cons (show m.length - 1 < m.length by have := hp.ne; omega), List.drop_eq_nil_of_le (by omega)] at h
  exact h.symm
theorem main_marks : ∀ b ∈ m.take (m.length - 1), markS b.f1 = false := by
  intro b hb
  obtain ⟨j, hj, rfl⟩ := List.getElem_of_mem hb
  rw [List.length_take] at hj
  have := hp.main j (by omega)
  rw [List.getElem_take]
  unfold markS
  rw [this.1, this.2.1, this.2.2, decide_eq_false (by omega)]
  rfl
include hg
end
theorem whole_num {n : Int} (h1 : 1 ≤ n) (h2 : n ≤ 9999) : wholeT (wrap64 (1000 * n)) = (n, true) := by
  have e : wrap64 (1000 * n) = 1000 * n := by unfold wrap64; omega
  rw [e]
  unfold wholeT
  have e1 : Int.tdiv (1000 * n) 1000 = n := Int.mul_tdiv_cancel_left n (by decide)
  have e2 : Int.tmod (1000 * n) 1000 = 0 := Int.mul_tmod_right 1000 n
  have e3 : wrap64 n = n := by unfold wrap64; omega
  rw [e1, e2, e3, decide_eq_true ⟨rfl, h1, h2⟩]
section
variable {m : List Bk} {s : List Rb} (hg : goodP m s) (hp : ProperP m s)
include hg hp
end
end Go.Proofs.Ytehkhbnhmehobaa.P
