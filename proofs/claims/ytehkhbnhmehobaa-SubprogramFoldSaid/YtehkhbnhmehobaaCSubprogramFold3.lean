/- A part of the proof of SubprogramFold. -/
import Derived.Lib.SliceRun
import Derived.Test.YtehkhbnhmehobaaCSubprogramFold1
import Derived.Test.YtehkhbnhmehobaaCSubprogramFold2
namespace Go.Proofs.Ytehkhbnhmehobaa.P
open Go.RowKit Go.Proofs.YtehkhbnhmehobaaW.PrintWords Go.Proofs.YtehkhbnhmehobaaW.PrintLast Go.Proofs.YtehkhbnhmehobaaW.PrintMore
attribute [local go_sem] max2_int min2_int max_two min_two max_three min_three max_four min_four
set_option linter.unusedVariables false
set_option linter.unusedSimpArgs false
def subprogram_foldable.f (k : Nat) (a0_0 : Bool) (l0_1 : List (S78)) (a0_2 : ByteArray) : Option (Bool) := (subprogram_marked.f k a0_0 l0_1 a0_2).bind fun t399 => (if t399 = true then (some false) else ((block_Codes.f k a0_0 l0_1 a0_2 78).bind fun t400 => (if (t400.length : Int) = 0 then ((subprogram_has.f k a0_0 l0_1 a0_2 77 98000).bind fun t403 => (some (!t403))) else (some false))))
theorem subprogram_foldable.mono : ∀ a0 a1 a2 k, LeO (subprogram_foldable.f k a0 a1 a2) (subprogram_foldable.f (k + 1) a0 a1 a2) := by
 intro a0 a1 a2 k
 unfold subprogram_foldable.f
 repeat' first
   | (with_reducible exact block_Codes.mono _ _ _ _ _)
   | (with_reducible exact subprogram_has.mono _ _ _ _ _ _)
   | (with_reducible exact subprogram_marked.mono _ _ _ _)
   | (with_reducible exact LeO.refl _)
   | (with_reducible exact LeO.none _)
   | (with_reducible refine LeO.ite ?_ ?_)
   | (with_reducible refine LeO.bind ?_ (fun _ => ?_))
   | exact block_Codes.mono _ _ _ _ _
   | exact subprogram_has.mono _ _ _ _ _ _
   | exact subprogram_marked.mono _ _ _ _
   | exact LeO.none _
   | refine LeO.ite ?_ ?_
   | refine LeO.bind ?_ (fun _ => ?_)
set_option maxHeartbeats 8000000 in
set_option maxRecDepth 100000 in
theorem subprogram_foldable.calls (k : Nat) (a0_0 : Bool) (A0_1 : Option Addr) (c0_1 : Nat) (l0_1 : List (S78)) (a0_2 : ByteArray) (r : Bool) (w : World) (hr0_1 : Kd.C k78 w A0_1 l0_1.length l0_1) (hc0_1 : l0_1.length ≤ c0_1) (h : subprogram_foldable.f k a0_0 l0_1 a0_2 = some r) :
  Calls Try.prog 96 #[.agg #[.bool a0_0, .slice A0_1 l0_1.length c0_1, .string a0_2]] w fun e w' => e = .returned (.bool r) ∧ Below w.heap.size w w' := by
 have hu32 := Try.underlying32
 have HR0_1 := Aside0.mk hr0_1
 have HC0_1 := Aside0.mk hc0_1
 clear hr0_1 hc0_1
 have HB := Aside0.mk (Below.refl w.heap.size w)
 have H : ((subprogram_marked.f k a0_0 l0_1 a0_2).bind fun t399 => (if t399 = true then (some false) else ((block_Codes.f k a0_0 l0_1 a0_2 78).bind fun t400 => (if (t400.length : Int) = 0 then ((subprogram_has.f k a0_0 l0_1 a0_2 77 98000).bind fun t403 => (some (!t403))) else (some false))))) = some r := h
 clear h
 replace H := Option.bind_eq_some_iff.mp H
 obtain ⟨t399, A20, H⟩ := H
 replace H : (if t399 = true then (some false) else ((block_Codes.f k a0_0 l0_1 a0_2 78).bind fun t400 => (if (t400.length : Int) = 0 then ((subprogram_has.f k a0_0 l0_1 a0_2 77 98000).bind fun t403 => (some (!t403))) else (some false)))) = some r := H
 have A2 := Aside0.mk A20
 clear A20
 by_cases c3 : t399 = true
 ·subst c3
  have H1 : (some false) = some r := by rw [if_pos rfl] at H; exact H
  clear H
  have H := H1
  clear H1
  obtain rfl := Option.some.inj H
  go_enter Try.func96, Try.ntmps96
  go_wp2_with (first | ((with_reducible refine gate_dst (N := 1) rfl ?_); (try (refine gate_guard (by rfl) ?_; dsimp only)); refine box_event ?hg (N := 1) ?hd (cs := #[.bool a0_0, .slice A0_1 l0_1.length c0_1, .string a0_2]) (t := 32) ?hr ?_; (case hd => rfl); (case hg => rfl); (case hr => first | (go_simp; done) | (go_simp; rfl)); intro gb398 hg w4 hbox hb; have n0_ := Aside0.mk (below_step yB hb); have n1_ := Aside0.mk (hbox); have n2_ := Aside0.mk ((yG hg : w.heap.size ≤ gb398)); have n3_ := Aside0.mk ((yG hg : w.heap.size ≤ gb398)); clear HB; have HB := n0_; have BK398 := n1_; have GW398 := n2_; have GE398 := n3_; clear n0_ n1_ n2_ n3_; clear hb hbox hg; have hcz5_0 : w4.cell? ⟨gb398, 0, none⟩ = some (.bool a0_0) := (blk_cell BK398.out 0).trans rfl; have hcz5_1 : w4.cell? ⟨gb398, 1, none⟩ = some (.slice A0_1 l0_1.length c0_1) := (blk_cell BK398.out 1).trans rfl; have hcz5_2 : w4.cell? ⟨gb398, 2, none⟩ = some (.string a0_2) := (blk_cell BK398.out 2).trans rfl; have hfz5_0 := blk_frozen BK398.out 0; have hfz5_1 := blk_frozen BK398.out 1; have hfz5_2 := blk_frozen BK398.out 2) | ((with_reducible refine gate_callee (f := 100) rfl ?_); refine goesL_ (some 4) rfl rfl Try.func100 (by kernel_rfl) rfl #[.agg #[.bool a0_0, .slice A0_1 l0_1.length c0_1, .string a0_2]] rfl yQ ?_; (with_reducible refine (subprogram_marked.calls k a0_0 _ _ l0_1 a0_2 true _ ?side1 ?side2 A2.out).mono ?_); (case side1 => exact yC HR0_1.out); (case side2 => exact HC0_1.out); rintro e w6 ⟨rfl, hb⟩; refine ⟨_, rfl, ?_⟩; have n0_ := Aside0.mk (blk_below (g := gb398) (o := .cells #[.bool a0_0, .slice A0_1 l0_1.length c0_1, .string a0_2] 32 (0, 0)) yK hb); have n1_ := Aside0.mk (below_step yB hb); clear BK398; clear HB; have BK398 := n0_; have HB := n1_; clear n0_ n1_; (try clear hb); (try clear hb2); (try clear hk); (try clear hi)))
  go_ret
  exact ⟨by first | rfl | (simp [errW_none, errW_some] <;> rfl) | (simp [*, errW_none, errW_some] <;> rfl), yB⟩
 ·replace c3 := Bool.eq_false_iff.mpr c3
  subst c3
  have H1 : ((block_Codes.f k a0_0 l0_1 a0_2 78).bind fun t400 => (if (t400.length : Int) = 0 then ((subprogram_has.f k a0_0 l0_1 a0_2 77 98000).bind fun t403 => (some (!t403))) else (some false))) = some r := by rw [if_neg (show ¬ (false = true) by decide)] at H; exact H
  clear H
  have H := H1
  clear H1
  replace H := Option.bind_eq_some_iff.mp H
  obtain ⟨t400, A70, H⟩ := H
  replace H : (if (t400.length : Int) = 0 then ((subprogram_has.f k a0_0 l0_1 a0_2 77 98000).bind fun t403 => (some (!t403))) else (some false)) = some r := H
  have A7 := Aside0.mk A70
  clear A70
  by_cases c8 : (t400.length : Int) = 0
  ·rw [if_pos c8] at H
   have c8b0 : ((t400.length : Int) == 0) = true := beq_iff_eq.mpr c8
   have c8b1 : ((t400.length : Int) != 0) = false := bne_eq_false_iff_eq.mpr c8
   clear c8
   replace H := Option.bind_eq_some_iff.mp H
   obtain ⟨t403, A90, H⟩ := H
   replace H : (some (!t403)) = some r := H
   have A9 := Aside0.mk A90
   clear A90
   obtain rfl := Option.some.inj H
   go_enter Try.func96, Try.ntmps96
   go_wp2_with (first | ((with_reducible refine gate_dst (N := 1) rfl ?_); (try (refine gate_guard (by rfl) ?_; dsimp only)); refine box_event ?hg (N := 1) ?hd (cs := #[.bool a0_0, .slice A0_1 l0_1.length c0_1, .string a0_2]) (t := 32) ?hr ?_; (case hd => rfl); (case hg => rfl); (case hr => first | (go_simp; done) | (go_simp; rfl)); intro gb398 hg w10 hbox hb; have n0_ := Aside0.mk (below_step yB hb); have n1_ := Aside0.mk (hbox); have n2_ := Aside0.mk ((yG hg : w.heap.size ≤ gb398)); have n3_ := Aside0.mk ((yG hg : w.heap.size ≤ gb398)); clear HB; have HB := n0_; have BK398 := n1_; have GW398 := n2_; have GE398 := n3_; clear n0_ n1_ n2_ n3_; clear hb hbox hg; have hcz11_0 : w10.cell? ⟨gb398, 0, none⟩ = some (.bool a0_0) := (blk_cell BK398.out 0).trans rfl; have hcz11_1 : w10.cell? ⟨gb398, 1, none⟩ = some (.slice A0_1 l0_1.length c0_1) := (blk_cell BK398.out 1).trans rfl; have hcz11_2 : w10.cell? ⟨gb398, 2, none⟩ = some (.string a0_2) := (blk_cell BK398.out 2).trans rfl; have hfz11_0 := blk_frozen BK398.out 0; have hfz11_1 := blk_frozen BK398.out 1; have hfz11_2 := blk_frozen BK398.out 2) | ((with_reducible refine gate_callee (f := 100) rfl ?_); refine goesL_ (some 4) rfl rfl Try.func100 (by kernel_rfl) rfl #[.agg #[.bool a0_0, .slice A0_1 l0_1.length c0_1, .string a0_2]] rfl yQ ?_; (with_reducible refine (subprogram_marked.calls k a0_0 _ _ l0_1 a0_2 false _ ?side1 ?side2 A2.out).mono ?_); (case side1 => exact yC HR0_1.out); (case side2 => exact HC0_1.out); rintro e w12 ⟨rfl, hb⟩; refine ⟨_, rfl, ?_⟩; have n0_ := Aside0.mk (blk_below (g := gb398) (o := .cells #[.bool a0_0, .slice A0_1 l0_1.length c0_1, .string a0_2] 32 (0, 0)) yK hb); have n1_ := Aside0.mk (below_step yB hb); clear BK398; clear HB; have BK398 := n0_; have HB := n1_; clear n0_ n1_; (try clear hb); (try clear hb2); (try clear hk); (try clear hi); have hcz13_0 : w12.cell? ⟨gb398, 0, none⟩ = some (.bool a0_0) := (blk_cell BK398.out 0).trans rfl; have hcz13_1 : w12.cell? ⟨gb398, 1, none⟩ = some (.slice A0_1 l0_1.length c0_1) := (blk_cell BK398.out 1).trans rfl; have hcz13_2 : w12.cell? ⟨gb398, 2, none⟩ = some (.string a0_2) := (blk_cell BK398.out 2).trans rfl; have hfz13_0 := blk_frozen BK398.out 0; have hfz13_1 := blk_frozen BK398.out 1; have hfz13_2 := blk_frozen BK398.out 2) | (go_at_call 93; (with_reducible refine (block_Codes.calls k a0_0 _ _ l0_1 a0_2 78 t400 _ ?side1 ?side2 A7.out).mono ?_); (case side1 => exact yC HR0_1.out); (case side2 => exact HC0_1.out); rintro e w14 ⟨v401, rfl, ho0, hb⟩; have n0_ := Aside0.mk (Kd.R_lower ho0 (below_size yB)); have n1_ := Aside0.mk (blk_below (g := gb398) (o := .cells #[.bool a0_0, .slice A0_1 l0_1.length c0_1, .string a0_2] 32 (0, 0)) yK hb); have n2_ := Aside0.mk (below_step yB hb); clear BK398; clear HB; have HO402 := n0_; have BK398 := n1_; have HB := n2_; clear n0_ n1_ n2_; (try clear hb); (try clear hb2); (try clear hk); (try clear hi); (try clear ho0); obtain ⟨Ao15, co15, eo15⟩ := Kd.R_slice HO402.out; subst eo15; have hcz16_0 : w14.cell? ⟨gb398, 0, none⟩ = some (.bool a0_0) := (blk_cell BK398.out 0).trans rfl; have hcz16_1 : w14.cell? ⟨gb398, 1, none⟩ = some (.slice A0_1 l0_1.length c0_1) := (blk_cell BK398.out 1).trans rfl; have hcz16_2 : w14.cell? ⟨gb398, 2, none⟩ = some (.string a0_2) := (blk_cell BK398.out 2).trans rfl; have hfz16_0 := blk_frozen BK398.out 0; have hfz16_1 := blk_frozen BK398.out 1; have hfz16_2 := blk_frozen BK398.out 2) | (go_at_call 58; (with_reducible refine (subprogram_has.calls k a0_0 _ _ l0_1 a0_2 77 98000 t403 _ ?side1 ?side2 A9.out).mono ?_); (case side1 => exact yC HR0_1.out); (case side2 => exact HC0_1.out); rintro e w17 ⟨rfl, hb⟩; have n0_ := Aside0.mk (Kd.R_below (by (with_reducible repeat (first | apply Kd.R_alloc | apply Kd.R_drewN | apply Kd.R_drew)); exact HO402.out) hb); have n1_ := Aside0.mk (blk_below (g := gb398) (o := .cells #[.bool a0_0, .slice A0_1 l0_1.length c0_1, .string a0_2] 32 (0, 0)) yK hb); have n2_ := Aside0.mk (below_step yB hb); clear HO402; clear BK398; clear HB; have HO402 := n0_; have BK398 := n1_; have HB := n2_; clear n0_ n1_ n2_; (try clear hb); (try clear hb2); (try clear hk); (try clear hi)))
   go_ret
   exact ⟨by first | rfl | (simp [errW_none, errW_some] <;> rfl) | (simp [*, errW_none, errW_some] <;> rfl), yB⟩
  ·rw [if_neg c8] at H
   have c8b0 : ((t400.length : Int) == 0) = false := beq_eq_false_iff_ne.mpr c8
   have c8b1 : ((t400.length : Int) != 0) = true := bne_iff_ne.mpr c8
   have c8b2 : ¬ (t400 = []) := fun h_ => c8 (by rw [h_]; rfl)
   obtain rfl := Option.some.inj H
   go_enter Try.func96, Try.ntmps96
   go_wp2_with (first | ((with_reducible refine gate_dst (N := 1) rfl ?_); (try (refine gate_guard (by rfl) ?_; dsimp only)); refine box_event ?hg (N := 1) ?hd (cs := #[.bool a0_0, .slice A0_1 l0_1.length c0_1, .string a0_2]) (t := 32) ?hr ?_; (case hd => rfl); (case hg => rfl); (case hr => first | (go_simp; done) | (go_simp; rfl)); intro gb398 hg w18 hbox hb; have n0_ := Aside0.mk (below_step yB hb); have n1_ := Aside0.mk (hbox); have n2_ := Aside0.mk ((yG hg : w.heap.size ≤ gb398)); have n3_ := Aside0.mk ((yG hg : w.heap.size ≤ gb398)); clear HB; have HB := n0_; have BK398 := n1_; have GW398 := n2_; have GE398 := n3_; clear n0_ n1_ n2_ n3_; clear hb hbox hg; have hcz19_0 : w18.cell? ⟨gb398, 0, none⟩ = some (.bool a0_0) := (blk_cell BK398.out 0).trans rfl; have hcz19_1 : w18.cell? ⟨gb398, 1, none⟩ = some (.slice A0_1 l0_1.length c0_1) := (blk_cell BK398.out 1).trans rfl; have hcz19_2 : w18.cell? ⟨gb398, 2, none⟩ = some (.string a0_2) := (blk_cell BK398.out 2).trans rfl; have hfz19_0 := blk_frozen BK398.out 0; have hfz19_1 := blk_frozen BK398.out 1; have hfz19_2 := blk_frozen BK398.out 2) | ((with_reducible refine gate_callee (f := 100) rfl ?_); refine goesL_ (some 4) rfl rfl Try.func100 (by kernel_rfl) rfl #[.agg #[.bool a0_0, .slice A0_1 l0_1.length c0_1, .string a0_2]] rfl yQ ?_; (with_reducible refine (subprogram_marked.calls k a0_0 _ _ l0_1 a0_2 false _ ?side1 ?side2 A2.out).mono ?_); (case side1 => exact yC HR0_1.out); (case side2 => exact HC0_1.out); rintro e w20 ⟨rfl, hb⟩; refine ⟨_, rfl, ?_⟩; have n0_ := Aside0.mk (blk_below (g := gb398) (o := .cells #[.bool a0_0, .slice A0_1 l0_1.length c0_1, .string a0_2] 32 (0, 0)) yK hb); have n1_ := Aside0.mk (below_step yB hb); clear BK398; clear HB; have BK398 := n0_; have HB := n1_; clear n0_ n1_; (try clear hb); (try clear hb2); (try clear hk); (try clear hi); have hcz21_0 : w20.cell? ⟨gb398, 0, none⟩ = some (.bool a0_0) := (blk_cell BK398.out 0).trans rfl; have hcz21_1 : w20.cell? ⟨gb398, 1, none⟩ = some (.slice A0_1 l0_1.length c0_1) := (blk_cell BK398.out 1).trans rfl; have hcz21_2 : w20.cell? ⟨gb398, 2, none⟩ = some (.string a0_2) := (blk_cell BK398.out 2).trans rfl; have hfz21_0 := blk_frozen BK398.out 0; have hfz21_1 := blk_frozen BK398.out 1; have hfz21_2 := blk_frozen BK398.out 2) | (go_at_call 93; (with_reducible refine (block_Codes.calls k a0_0 _ _ l0_1 a0_2 78 t400 _ ?side1 ?side2 A7.out).mono ?_); (case side1 => exact yC HR0_1.out); (case side2 => exact HC0_1.out); rintro e w22 ⟨v401, rfl, ho0, hb⟩; have n0_ := Aside0.mk (Kd.R_lower ho0 (below_size yB)); have n1_ := Aside0.mk (blk_below (g := gb398) (o := .cells #[.bool a0_0, .slice A0_1 l0_1.length c0_1, .string a0_2] 32 (0, 0)) yK hb); have n2_ := Aside0.mk (below_step yB hb); clear BK398; clear HB; have HO402 := n0_; have BK398 := n1_; have HB := n2_; clear n0_ n1_ n2_; (try clear hb); (try clear hb2); (try clear hk); (try clear hi); (try clear ho0); obtain ⟨Ao23, co23, eo23⟩ := Kd.R_slice HO402.out; subst eo23))
   go_ret
   exact ⟨by first | rfl | (simp [errW_none, errW_some] <;> rfl) | (simp [*, errW_none, errW_some] <;> rfl), yB⟩
end Go.Proofs.Ytehkhbnhmehobaa.P
namespace Go.Proofs.Ytehkhbnhmehobaa.P
open Go.RowKit Go.Proofs.YtehkhbnhmehobaaW.PrintWords Go.Proofs.YtehkhbnhmehobaaW.PrintLast Go.Proofs.YtehkhbnhmehobaaW.PrintMore
attribute [local go_sem] max2_int min2_int max_two min_two max_three min_three max_four min_four
set_option linter.unusedVariables false
set_option linter.unusedSimpArgs false
attribute [local go_sem high] eqA25 eqA78
def api_Word_112.l0 : Nat → List (S78) → List (S78) → Int → Int → Option (Bool)
 | 0, _, _, _, _ => none
 | k + 1, x0, x1, x12, x13 => if x13 < x12 then (if 0 ≤ x13 then (if x13 < (x0.length : Int) then (if x13 < (x1.length : Int) then (if (!(((rd_T78 x0 x13).f0) == ((rd_T78 x1 x13).f0)) || (!(((rd_T78 x0 x13).f1) == ((rd_T78 x1 x13).f1)))) = true then (some false) else (api_Word_112.l0 k x0 x1 x12 (wrap64 (x13 + 1)))) else (none)) else (none)) else (none)) else (some true)
def api_Word_112.f (k : Nat) (l0 : List (S78)) (l1 : List (S78)) : Option (Bool) := if (l0.length : Int) = (l1.length : Int) then (api_Word_112.l0 k l0 l1 (l0.length : Int) 0) else (some false)
theorem api_Word_112.mono_l : ∀ k, (∀ y0 y1 y2 y3, LeO (api_Word_112.l0 k y0 y1 y2 y3) (api_Word_112.l0 (k + 1) y0 y1 y2 y3))
 | 0 => fun _ _ _ _ r h => by simp [api_Word_112.l0] at h
 | k + 1 => by
  have ih0 := api_Word_112.mono_l k
  ·intro y0 y1 y2 y3
   unfold api_Word_112.l0
   repeat' first
   | (with_reducible exact ih0 _ _ _ _)
   | (with_reducible exact LeO.refl _)
   | (with_reducible exact LeO.none _)
   | (with_reducible refine LeO.ite ?_ ?_)
   | (with_reducible refine LeO.bind ?_ (fun _ => ?_))
   | exact ih0 _ _ _ _
   | exact LeO.none _
   | refine LeO.ite ?_ ?_
   | refine LeO.bind ?_ (fun _ => ?_)
theorem api_Word_112.mono : ∀ a0 a1 k, LeO (api_Word_112.f k a0 a1) (api_Word_112.f (k + 1) a0 a1) := by
 intro a0 a1 k
 have ih0 := api_Word_112.mono_l k
 unfold api_Word_112.f
 repeat' first
   | (with_reducible exact ih0 _ _ _ _)
   | (with_reducible exact LeO.refl _)
   | (with_reducible exact LeO.none _)
   | (with_reducible refine LeO.ite ?_ ?_)
   | (with_reducible refine LeO.bind ?_ (fun _ => ?_))
   | exact ih0 _ _ _ _
   | exact LeO.none _
   | refine LeO.ite ?_ ?_
   | refine LeO.bind ?_ (fun _ => ?_)
set_option maxHeartbeats 8000000 in
set_option maxRecDepth 100000 in
theorem api_Word_112.calls (k : Nat) (A0 : Option Addr) (c0 : Nat) (l0 : List (S78)) (A1 : Option Addr) (c1 : Nat) (l1 : List (S78)) (r : Bool) (w : World) (hr0 : Kd.C k78 w A0 l0.length l0) (hc0 : l0.length ≤ c0) (hr1 : Kd.C k78 w A1 l1.length l1) (hc1 : l1.length ≤ c1) (h : api_Word_112.f k l0 l1 = some r) :
  Calls Try.prog 112 #[.slice A0 l0.length c0, .slice A1 l1.length c1] w fun e w' => e = .returned (.bool r) ∧ Drawn0 w w' := by
 have hu78 := Try.underlying78
 have HR0 := Aside0.mk hr0
 have HC0 := Aside0.mk hc0
 clear hr0 hc0
 have HR1 := Aside0.mk hr1
 have HC1 := Aside0.mk hc1
 clear hr1 hc1
 have H : (if (l0.length : Int) = (l1.length : Int) then (api_Word_112.l0 k l0 l1 (l0.length : Int) 0) else (some false)) = some r := h
 clear h
 by_cases c3 : (l0.length : Int) = (l1.length : Int)
 ·rw [if_pos c3] at H
  have c3b0 : ((l0.length : Int) == (l1.length : Int)) = true := beq_iff_eq.mpr c3
  have c3b1 : ((l0.length : Int) != (l1.length : Int)) = false := bne_eq_false_iff_eq.mpr c3
  have c3b2 : (l0.length == l1.length) = true := by first | simpa using c3 | (simp at c3 ⊢; omega)
  clear c3
  have H' := Aside0.mk H
  clear H
  go_enter Try.func112, Try.ntmps112
  go_wp2
  repeat (go_quiet (fail); try go_wp2)
  go_loopg [13] k (fun kq v13 w' => ∃ (x13_1 : Int), v13 = .int .i64 x13_1 ∧ Aside0 (api_Word_112.l0 kq l0 l1 (l0.length : Int) x13_1 = some r) ∧ Aside0 (kq ≤ k) ∧ Drawn0 w w')
  case atStart => exact ⟨(0), yS, H', ⟨Nat.le_refl _⟩, by repeat (first | exact Drawn0.refl _ | apply Drawn0.step)⟩
  case round =>
   clear H'
   try clear c1
   try clear p2
   try clear c3
   try clear c3b0
   try clear c3b1
   try clear c3b2
   obtain ⟨x13_1, rfl, HA, HK1, ⟨m1, rfl⟩⟩ := hrel
   cases gk with
   | zero => exact absurd HA.out (by simp [api_Word_112.l0])
   | succ k1 =>
    have H := HA.out
    clear HA
    simp only [api_Word_112.l0] at H
    by_cases c4 : x13_1 < (l0.length : Int)
    ·rw [if_pos c4] at H
     have c4b0 : decide (x13_1 < (l0.length : Int)) = true := decide_eq_true c4
     clear c4
     by_cases c5 : 0 ≤ x13_1
     ·rw [if_pos c5] at H
      have c5b0 : decide (0 ≤ x13_1) = true := decide_eq_true c5
      clear c5
      by_cases c6 : x13_1 < (l0.length : Int)
      ·rw [if_pos c6] at H
       have c6b0 : decide (x13_1 < (l0.length : Int)) = true := decide_eq_true c6
       clear c6
       by_cases c7 : x13_1 < (l1.length : Int)
       ·rw [if_pos c7] at H
        have c7b0 : decide (x13_1 < (l1.length : Int)) = true := decide_eq_true c7
        clear c7
        by_cases c8 : (!(((rd_T78 l0 x13_1).f0) == ((rd_T78 l1 x13_1).f0)) || (!(((rd_T78 l0 x13_1).f1) == ((rd_T78 l1 x13_1).f1)))) = true
        ·rw [if_pos c8] at H
         have c8b0 : (!(((rd_T78 l0 x13_1).f0) == ((rd_T78 l1 x13_1).f0)) || (!(((rd_T78 l0 x13_1).f1) == ((rd_T78 l1 x13_1).f1)))) = true := c8
         clear c8
         obtain rfl := Option.some.inj H
         have p404 : 0 ≤ (x13_1 : Int) := of_decide_eq_true yP
         have q404 : x13_1 < (l0.length : Int) := of_decide_eq_true yP
         obtain ⟨ad404, e404, hx404_0, hx404_1⟩ := at_T78 HR0.out x13_1 p404 q404
         cases e404
         replace p404 := eq_true p404
         replace q404 := eq_true q404
         have p405 : 0 ≤ (x13_1 : Int) := of_decide_eq_true yP
         have q405 : x13_1 < (l1.length : Int) := of_decide_eq_true yP
         obtain ⟨ad405, e405, hx405_0, hx405_1⟩ := at_T78 HR1.out x13_1 p405 q405
         cases e405
         replace p405 := eq_true p405
         replace q405 := eq_true q405
         go_wp2
         repeat (go_quiet (fail); try go_wp2)
         go_ret
         exact ⟨by first | rfl | (simp; done) | (simp [*]; done), by repeat (first | exact Drawn0.refl _ | apply Drawn0.step)⟩
        ·rw [if_neg c8] at H
         have c8b0 : (!(((rd_T78 l0 x13_1).f0) == ((rd_T78 l1 x13_1).f0)) || (!(((rd_T78 l0 x13_1).f1) == ((rd_T78 l1 x13_1).f1)))) = false := by simpa using c8
         clear c8
         have H' := Aside0.mk H
         clear H
         have p404 : 0 ≤ (x13_1 : Int) := of_decide_eq_true yP
         have q404 : x13_1 < (l0.length : Int) := of_decide_eq_true yP
         obtain ⟨ad404, e404, hx404_0, hx404_1⟩ := at_T78 HR0.out x13_1 p404 q404
         cases e404
         replace p404 := eq_true p404
         replace q404 := eq_true q404
         have p405 : 0 ≤ (x13_1 : Int) := of_decide_eq_true yP
         have q405 : x13_1 < (l1.length : Int) := of_decide_eq_true yP
         obtain ⟨ad405, e405, hx405_0, hx405_1⟩ := at_T78 HR1.out x13_1 p405 q405
         cases e405
         replace p405 := eq_true p405
         replace q405 := eq_true q405
         go_wp2
         repeat (go_quiet (fail); try go_wp2)
         go_roundg k1
         case measure => have := HK1.out; omega
         case rel => exact ⟨(wrap64 (x13_1 + 1)), yS, H', ⟨by have := HK1.out; omega⟩, by repeat (first | exact Drawn0.refl _ | apply Drawn0.step)⟩
       ·rw [if_neg c7] at H
        exact absurd H (by simp)
      ·rw [if_neg c6] at H
       exact absurd H (by simp)
     ·rw [if_neg c5] at H
      exact absurd H (by simp)
    ·rw [if_neg c4] at H
     have c4b0 : decide (x13_1 < (l0.length : Int)) = false := decide_eq_false c4
     clear c4
     obtain rfl := Option.some.inj H
     go_wp2
     repeat (go_quiet (fail); try go_wp2)
     go_ret
     exact ⟨by first | rfl | (simp; done) | (simp [*]; done), by repeat (first | exact Drawn0.refl _ | apply Drawn0.step)⟩
 ·rw [if_neg c3] at H
  have c3b0 : ((l0.length : Int) == (l1.length : Int)) = false := beq_eq_false_iff_ne.mpr c3
  have c3b1 : ((l0.length : Int) != (l1.length : Int)) = true := bne_iff_ne.mpr c3
  have c3b2 : (l0.length == l1.length) = false := by first | simpa using c3 | (simp at c3 ⊢; omega)
  obtain rfl := Option.some.inj H
  go_enter Try.func112, Try.ntmps112
  go_wp2
  repeat (go_quiet (fail); try go_wp2)
  go_ret
  exact ⟨by first | rfl | (simp; done) | (simp [*]; done), by repeat (first | exact Drawn0.refl _ | apply Drawn0.step)⟩
end Go.Proofs.Ytehkhbnhmehobaa.P
namespace Go.Proofs.Ytehkhbnhmehobaa.P
open Go.RowKit Go.Proofs.YtehkhbnhmehobaaW.PrintWords Go.Proofs.YtehkhbnhmehobaaW.PrintLast Go.Proofs.YtehkhbnhmehobaaW.PrintMore
attribute [local go_sem] max2_int min2_int max_two min_two max_three min_three max_four min_four
set_option linter.unusedVariables false
set_option linter.unusedSimpArgs false
def block_Equal.f (k : Nat) (a0_0 : Bool) (l0_1 : List (S78)) (a0_2 : ByteArray) (a1_0 : Bool) (l1_1 : List (S78)) (a1_2 : ByteArray) : Option (Bool) := if (a0_0 == a1_0) = true then (if a0_2.toList = a1_2.toList then ((api_Word_112.f k l0_1 l1_1).bind fun t408 => (some t408)) else (some false)) else (some false)
theorem block_Equal.mono : ∀ a0 a1 a2 a3 a4 a5 k, LeO (block_Equal.f k a0 a1 a2 a3 a4 a5) (block_Equal.f (k + 1) a0 a1 a2 a3 a4 a5) := by
 intro a0 a1 a2 a3 a4 a5 k
 unfold block_Equal.f
 repeat' first
   | (with_reducible exact api_Word_112.mono _ _ _)
   | (with_reducible exact LeO.refl _)
   | (with_reducible exact LeO.none _)
   | (with_reducible refine LeO.ite ?_ ?_)
   | (with_reducible refine LeO.bind ?_ (fun _ => ?_))
   | exact api_Word_112.mono _ _ _
   | exact LeO.none _
   | refine LeO.ite ?_ ?_
   | refine LeO.bind ?_ (fun _ => ?_)
set_option maxHeartbeats 8000000 in
set_option maxRecDepth 100000 in
theorem block_Equal.calls (k : Nat) (a0_0 : Bool) (A0_1 : Option Addr) (c0_1 : Nat) (l0_1 : List (S78)) (a0_2 : ByteArray) (a1_0 : Bool) (A1_1 : Option Addr) (c1_1 : Nat) (l1_1 : List (S78)) (a1_2 : ByteArray) (r : Bool) (w : World) (hr0_1 : Kd.C k78 w A0_1 l0_1.length l0_1) (hc0_1 : l0_1.length ≤ c0_1) (hr1_1 : Kd.C k78 w A1_1 l1_1.length l1_1) (hc1_1 : l1_1.length ≤ c1_1) (h : block_Equal.f k a0_0 l0_1 a0_2 a1_0 l1_1 a1_2 = some r) :
  Calls Try.prog 97 #[.agg #[.bool a0_0, .slice A0_1 l0_1.length c0_1, .string a0_2], .agg #[.bool a1_0, .slice A1_1 l1_1.length c1_1, .string a1_2]] w fun e w' => e = .returned (.bool r) ∧ Below w.heap.size w w' := by
 have hu32 := Try.underlying32
 have HR0_1 := Aside0.mk hr0_1
 have HC0_1 := Aside0.mk hc0_1
 clear hr0_1 hc0_1
 have HR1_1 := Aside0.mk hr1_1
 have HC1_1 := Aside0.mk hc1_1
 clear hr1_1 hc1_1
 have HB := Aside0.mk (Below.refl w.heap.size w)
 have H : (if (a0_0 == a1_0) = true then (if a0_2.toList = a1_2.toList then ((api_Word_112.f k l0_1 l1_1).bind fun t408 => (some t408)) else (some false)) else (some false)) = some r := h
 clear h
 by_cases c3 : (a0_0 == a1_0) = true
 ·rw [if_pos c3] at H
  have c3b0 : (a0_0 == a1_0) = true := c3
  (try (have c3b1 : decide (a0_0 = a1_0) = true := by simpa using c3))
  (try (have c3b2 : (a0_0 == a1_0) = true := by simpa using c3))
  clear c3
  by_cases c4 : a0_2.toList = a1_2.toList
  ·rw [if_pos c4] at H
   have c4b0 : (a0_2.toList == a1_2.toList) = true := beq_iff_eq.mpr c4
   have c4b1 : (a0_2.toList != a1_2.toList) = false := bne_eq_false_iff_eq.mpr c4
   clear c4
   replace H := Option.bind_eq_some_iff.mp H
   obtain ⟨t408, A50, H⟩ := H
   replace H : (some t408) = some r := H
   have A5 := Aside0.mk A50
   clear A50
   obtain rfl := Option.some.inj H
   go_enter Try.func97, Try.ntmps97
   go_wp2_with (first | ((with_reducible refine gate_dst (N := 2) rfl ?_); refine box_event ?hg (N := 2) ?hd (cs := #[.bool a0_0, .slice A0_1 l0_1.length c0_1, .string a0_2]) (t := 32) ?hr ?_; (case hd => rfl); (case hg => rfl); (case hr => first | (go_simp; done) | (go_simp; rfl)); intro gb406 hg w6 hbox hb; have n0_ := Aside0.mk (below_step yB hb); have n1_ := Aside0.mk (hbox); have n2_ := Aside0.mk ((yG hg : w.heap.size ≤ gb406)); have n3_ := Aside0.mk ((yG hg : w.heap.size ≤ gb406)); clear HB; have HB := n0_; have BK406 := n1_; have GW406 := n2_; have GE406 := n3_; clear n0_ n1_ n2_ n3_; clear hb hbox hg) | ((with_reducible refine gate_dst (N := 3) rfl ?_); refine box_event ?hg (N := 3) ?hd (cs := #[.bool a1_0, .slice A1_1 l1_1.length c1_1, .string a1_2]) (t := 32) ?hr ?_; (case hd => rfl); (case hg => rfl); (case hr => first | (go_simp; done) | (go_simp; rfl)); intro gb407 hg w7 hbox hb; have n0_ := Aside0.mk (blk_below (g := gb406) (o := .cells #[.bool a0_0, .slice A0_1 l0_1.length c0_1, .string a0_2] 32 (0, 0)) yK hb); have n1_ := Aside0.mk (below_step yB hb); have n2_ := Aside0.mk (hbox); have n3_ := Aside0.mk ((yG hg : w.heap.size ≤ gb407)); have n4_ := Aside0.mk ((yG hg : w.heap.size ≤ gb407)); have n5_ := Aside0.mk ((by rw [hg]; exact Nat.ne_of_lt (blk_lt (g := gb406) (o := .cells #[.bool a0_0, .slice A0_1 l0_1.length c0_1, .string a0_2] 32 (0, 0)) yK) : gb406 ≠ gb407)); have n6_ := Aside0.mk ((by rw [hg]; exact Nat.ne_of_gt (blk_lt (g := gb406) (o := .cells #[.bool a0_0, .slice A0_1 l0_1.length c0_1, .string a0_2] 32 (0, 0)) yK) : gb407 ≠ gb406)); clear BK406; clear HB; have BK406 := n0_; have HB := n1_; have BK407 := n2_; have GW407 := n3_; have GE407 := n4_; have NB406_407 := n5_; have NB407_406 := n6_; clear n0_ n1_ n2_ n3_ n4_ n5_ n6_; clear hb hbox hg; have hnb8 := NB406_407.out; have hnc8 := NB407_406.out; have hcz9_0 : w7.cell? ⟨gb406, 0, none⟩ = some (.bool a0_0) := (blk_cell BK406.out 0).trans rfl; have hcz9_1 : w7.cell? ⟨gb406, 1, none⟩ = some (.slice A0_1 l0_1.length c0_1) := (blk_cell BK406.out 1).trans rfl; have hcz9_2 : w7.cell? ⟨gb406, 2, none⟩ = some (.string a0_2) := (blk_cell BK406.out 2).trans rfl; have hfz9_0 := blk_frozen BK406.out 0; have hfz9_1 := blk_frozen BK406.out 1; have hfz9_2 := blk_frozen BK406.out 2; have hcz10_0 : w7.cell? ⟨gb407, 0, none⟩ = some (.bool a1_0) := (blk_cell BK407.out 0).trans rfl; have hcz10_1 : w7.cell? ⟨gb407, 1, none⟩ = some (.slice A1_1 l1_1.length c1_1) := (blk_cell BK407.out 1).trans rfl; have hcz10_2 : w7.cell? ⟨gb407, 2, none⟩ = some (.string a1_2) := (blk_cell BK407.out 2).trans rfl; have hfz10_0 := blk_frozen BK407.out 0; have hfz10_1 := blk_frozen BK407.out 1; have hfz10_2 := blk_frozen BK407.out 2) | (go_at_call 112; (with_reducible refine (api_Word_112.calls k _ _ l0_1 _ _ l1_1 t408 _ ?side1 ?side2 ?side3 ?side4 A5.out).mono ?_); (case side1 => exact yC HR0_1.out); (case side2 => exact HC0_1.out); (case side3 => exact yC HR1_1.out); (case side4 => exact HC1_1.out); rintro e w' ⟨rfl, ⟨nd, rfl⟩⟩))
   go_ret
   exact ⟨by first | rfl | (simp [errW_none, errW_some] <;> rfl) | (simp [*, errW_none, errW_some] <;> rfl), yB⟩
  ·rw [if_neg c4] at H
   have c4b0 : (a0_2.toList == a1_2.toList) = false := beq_eq_false_iff_ne.mpr c4
   have c4b1 : (a0_2.toList != a1_2.toList) = true := bne_iff_ne.mpr c4
   obtain rfl := Option.some.inj H
   go_enter Try.func97, Try.ntmps97
   go_wp2_with (first | ((with_reducible refine gate_dst (N := 2) rfl ?_); refine box_event ?hg (N := 2) ?hd (cs := #[.bool a0_0, .slice A0_1 l0_1.length c0_1, .string a0_2]) (t := 32) ?hr ?_; (case hd => rfl); (case hg => rfl); (case hr => first | (go_simp; done) | (go_simp; rfl)); intro gb406 hg w11 hbox hb; have n0_ := Aside0.mk (below_step yB hb); have n1_ := Aside0.mk (hbox); have n2_ := Aside0.mk ((yG hg : w.heap.size ≤ gb406)); have n3_ := Aside0.mk ((yG hg : w.heap.size ≤ gb406)); clear HB; have HB := n0_; have BK406 := n1_; have GW406 := n2_; have GE406 := n3_; clear n0_ n1_ n2_ n3_; clear hb hbox hg) | ((with_reducible refine gate_dst (N := 3) rfl ?_); refine box_event ?hg (N := 3) ?hd (cs := #[.bool a1_0, .slice A1_1 l1_1.length c1_1, .string a1_2]) (t := 32) ?hr ?_; (case hd => rfl); (case hg => rfl); (case hr => first | (go_simp; done) | (go_simp; rfl)); intro gb407 hg w12 hbox hb; have n0_ := Aside0.mk (blk_below (g := gb406) (o := .cells #[.bool a0_0, .slice A0_1 l0_1.length c0_1, .string a0_2] 32 (0, 0)) yK hb); have n1_ := Aside0.mk (below_step yB hb); have n2_ := Aside0.mk (hbox); have n3_ := Aside0.mk ((yG hg : w.heap.size ≤ gb407)); have n4_ := Aside0.mk ((yG hg : w.heap.size ≤ gb407)); have n5_ := Aside0.mk ((by rw [hg]; exact Nat.ne_of_lt (blk_lt (g := gb406) (o := .cells #[.bool a0_0, .slice A0_1 l0_1.length c0_1, .string a0_2] 32 (0, 0)) yK) : gb406 ≠ gb407)); have n6_ := Aside0.mk ((by rw [hg]; exact Nat.ne_of_gt (blk_lt (g := gb406) (o := .cells #[.bool a0_0, .slice A0_1 l0_1.length c0_1, .string a0_2] 32 (0, 0)) yK) : gb407 ≠ gb406)); clear BK406; clear HB; have BK406 := n0_; have HB := n1_; have BK407 := n2_; have GW407 := n3_; have GE407 := n4_; have NB406_407 := n5_; have NB407_406 := n6_; clear n0_ n1_ n2_ n3_ n4_ n5_ n6_; clear hb hbox hg; have hnb13 := NB406_407.out; have hnc13 := NB407_406.out; have hcz14_0 : w12.cell? ⟨gb406, 0, none⟩ = some (.bool a0_0) := (blk_cell BK406.out 0).trans rfl; have hcz14_1 : w12.cell? ⟨gb406, 1, none⟩ = some (.slice A0_1 l0_1.length c0_1) := (blk_cell BK406.out 1).trans rfl; have hcz14_2 : w12.cell? ⟨gb406, 2, none⟩ = some (.string a0_2) := (blk_cell BK406.out 2).trans rfl; have hfz14_0 := blk_frozen BK406.out 0; have hfz14_1 := blk_frozen BK406.out 1; have hfz14_2 := blk_frozen BK406.out 2; have hcz15_0 : w12.cell? ⟨gb407, 0, none⟩ = some (.bool a1_0) := (blk_cell BK407.out 0).trans rfl; have hcz15_1 : w12.cell? ⟨gb407, 1, none⟩ = some (.slice A1_1 l1_1.length c1_1) := (blk_cell BK407.out 1).trans rfl; have hcz15_2 : w12.cell? ⟨gb407, 2, none⟩ = some (.string a1_2) := (blk_cell BK407.out 2).trans rfl; have hfz15_0 := blk_frozen BK407.out 0; have hfz15_1 := blk_frozen BK407.out 1; have hfz15_2 := blk_frozen BK407.out 2))
   go_ret
   exact ⟨by first | rfl | (simp [errW_none, errW_some] <;> rfl) | (simp [*, errW_none, errW_some] <;> rfl), yB⟩
 ·rw [if_neg c3] at H
  have c3b0 : (a0_0 == a1_0) = false := by simpa using c3
  (try (have c3b1 : decide (a0_0 = a1_0) = false := by simpa using c3))
  (try (have c3b2 : (a0_0 == a1_0) = false := by simpa using c3))
  (try (have c3b3 : ¬ (a0_0 = a1_0) := by simpa using c3))
  clear c3
  obtain rfl := Option.some.inj H
  go_enter Try.func97, Try.ntmps97
  go_wp2_with (first | ((with_reducible refine gate_dst (N := 2) rfl ?_); refine box_event ?hg (N := 2) ?hd (cs := #[.bool a0_0, .slice A0_1 l0_1.length c0_1, .string a0_2]) (t := 32) ?hr ?_; (case hd => rfl); (case hg => rfl); (case hr => first | (go_simp; done) | (go_simp; rfl)); intro gb406 hg w16 hbox hb; have n0_ := Aside0.mk (below_step yB hb); have n1_ := Aside0.mk (hbox); have n2_ := Aside0.mk ((yG hg : w.heap.size ≤ gb406)); have n3_ := Aside0.mk ((yG hg : w.heap.size ≤ gb406)); clear HB; have HB := n0_; have BK406 := n1_; have GW406 := n2_; have GE406 := n3_; clear n0_ n1_ n2_ n3_; clear hb hbox hg) | ((with_reducible refine gate_dst (N := 3) rfl ?_); refine box_event ?hg (N := 3) ?hd (cs := #[.bool a1_0, .slice A1_1 l1_1.length c1_1, .string a1_2]) (t := 32) ?hr ?_; (case hd => rfl); (case hg => rfl); (case hr => first | (go_simp; done) | (go_simp; rfl)); intro gb407 hg w17 hbox hb; have n0_ := Aside0.mk (blk_below (g := gb406) (o := .cells #[.bool a0_0, .slice A0_1 l0_1.length c0_1, .string a0_2] 32 (0, 0)) yK hb); have n1_ := Aside0.mk (below_step yB hb); have n2_ := Aside0.mk (hbox); have n3_ := Aside0.mk ((yG hg : w.heap.size ≤ gb407)); have n4_ := Aside0.mk ((yG hg : w.heap.size ≤ gb407)); have n5_ := Aside0.mk ((by rw [hg]; exact Nat.ne_of_lt (blk_lt (g := gb406) (o := .cells #[.bool a0_0, .slice A0_1 l0_1.length c0_1, .string a0_2] 32 (0, 0)) yK) : gb406 ≠ gb407)); have n6_ := Aside0.mk ((by rw [hg]; exact Nat.ne_of_gt (blk_lt (g := gb406) (o := .cells #[.bool a0_0, .slice A0_1 l0_1.length c0_1, .string a0_2] 32 (0, 0)) yK) : gb407 ≠ gb406)); clear BK406; clear HB; have BK406 := n0_; have HB := n1_; have BK407 := n2_; have GW407 := n3_; have GE407 := n4_; have NB406_407 := n5_; have NB407_406 := n6_; clear n0_ n1_ n2_ n3_ n4_ n5_ n6_; clear hb hbox hg; have hnb18 := NB406_407.out; have hnc18 := NB407_406.out; have hcz19_0 : w17.cell? ⟨gb406, 0, none⟩ = some (.bool a0_0) := (blk_cell BK406.out 0).trans rfl; have hcz19_1 : w17.cell? ⟨gb406, 1, none⟩ = some (.slice A0_1 l0_1.length c0_1) := (blk_cell BK406.out 1).trans rfl; have hcz19_2 : w17.cell? ⟨gb406, 2, none⟩ = some (.string a0_2) := (blk_cell BK406.out 2).trans rfl; have hfz19_0 := blk_frozen BK406.out 0; have hfz19_1 := blk_frozen BK406.out 1; have hfz19_2 := blk_frozen BK406.out 2; have hcz20_0 : w17.cell? ⟨gb407, 0, none⟩ = some (.bool a1_0) := (blk_cell BK407.out 0).trans rfl; have hcz20_1 : w17.cell? ⟨gb407, 1, none⟩ = some (.slice A1_1 l1_1.length c1_1) := (blk_cell BK407.out 1).trans rfl; have hcz20_2 : w17.cell? ⟨gb407, 2, none⟩ = some (.string a1_2) := (blk_cell BK407.out 2).trans rfl; have hfz20_0 := blk_frozen BK407.out 0; have hfz20_1 := blk_frozen BK407.out 1; have hfz20_2 := blk_frozen BK407.out 2))
  go_ret
  exact ⟨by first | rfl | (simp [errW_none, errW_some] <;> rfl) | (simp [*, errW_none, errW_some] <;> rfl), yB⟩
end Go.Proofs.Ytehkhbnhmehobaa.P
namespace Go.Proofs.Ytehkhbnhmehobaa.P
open Go.RowKit Go.Proofs.YtehkhbnhmehobaaW.PrintWords Go.Proofs.YtehkhbnhmehobaaW.PrintLast Go.Proofs.YtehkhbnhmehobaaW.PrintMore
attribute [local go_sem] max2_int min2_int max_two min_two max_three min_three max_four min_four
set_option linter.unusedVariables false
set_option linter.unusedSimpArgs false
def subprogram_run.l0 : Nat → List (S32) → Int → Int → Int → Int → Option (Bool)
 | 0, _, _, _, _, _ => none
 | k + 1, x0, x1, x2, x10, x11 => if x11 < x10 then (if 0 ≤ (wrap64 (x1 + x11)) then (if (wrap64 (x1 + x11)) < (x0.length : Int) then ((subprogram_foldable.f k ((rd_T32 x0 (wrap64 (x1 + x11))).f0) ((rd_T32 x0 (wrap64 (x1 + x11))).f1) ((rd_T32 x0 (wrap64 (x1 + x11))).f2)).bind fun t410 => (if t410 = true then (if 0 ≤ (wrap64 (x2 + x11)) then (if (wrap64 (x2 + x11)) < (x0.length : Int) then ((block_Equal.f k ((rd_T32 x0 (wrap64 (x1 + x11))).f0) ((rd_T32 x0 (wrap64 (x1 + x11))).f1) ((rd_T32 x0 (wrap64 (x1 + x11))).f2) ((rd_T32 x0 (wrap64 (x2 + x11))).f0) ((rd_T32 x0 (wrap64 (x2 + x11))).f1) ((rd_T32 x0 (wrap64 (x2 + x11))).f2)).bind fun t413 => (if t413 = true then (subprogram_run.l0 k x0 x1 x2 x10 (wrap64 (x11 + 1))) else (some false))) else (none)) else (none)) else (some false))) else (none)) else (none)) else (some true)
def subprogram_run.f (k : Nat) (l0 : List (S32)) (a1 : Int) (a2 : Int) (a3 : Int) : Option (Bool) := subprogram_run.l0 k l0 a1 a2 a3 0
theorem subprogram_run.mono_l : ∀ k, (∀ y0 y1 y2 y3 y4, LeO (subprogram_run.l0 k y0 y1 y2 y3 y4) (subprogram_run.l0 (k + 1) y0 y1 y2 y3 y4))
 | 0 => fun _ _ _ _ _ r h => by simp [subprogram_run.l0] at h
 | k + 1 => by
  have ih0 := subprogram_run.mono_l k
  ·intro y0 y1 y2 y3 y4
   unfold subprogram_run.l0
   repeat' first
   | (with_reducible exact ih0 _ _ _ _ _)
   | (with_reducible exact block_Equal.mono _ _ _ _ _ _ _)
   | (with_reducible exact subprogram_foldable.mono _ _ _ _)
   | (with_reducible exact LeO.refl _)
   | (with_reducible exact LeO.none _)
   | (with_reducible refine LeO.ite ?_ ?_)
   | (with_reducible refine LeO.bind ?_ (fun _ => ?_))
   | exact ih0 _ _ _ _ _
   | exact block_Equal.mono _ _ _ _ _ _ _
   | exact subprogram_foldable.mono _ _ _ _
   | exact LeO.none _
   | refine LeO.ite ?_ ?_
   | refine LeO.bind ?_ (fun _ => ?_)
theorem subprogram_run.mono : ∀ a0 a1 a2 a3 k, LeO (subprogram_run.f k a0 a1 a2 a3) (subprogram_run.f (k + 1) a0 a1 a2 a3) := by
 intro a0 a1 a2 a3 k
 have ih0 := subprogram_run.mono_l k
 unfold subprogram_run.f
 repeat' first
   | (with_reducible exact ih0 _ _ _ _ _)
   | (with_reducible exact block_Equal.mono _ _ _ _ _ _ _)
   | (with_reducible exact subprogram_foldable.mono _ _ _ _)
   | (with_reducible exact LeO.refl _)
   | (with_reducible exact LeO.none _)
   | (with_reducible refine LeO.ite ?_ ?_)
   | (with_reducible refine LeO.bind ?_ (fun _ => ?_))
   | exact ih0 _ _ _ _ _
   | exact block_Equal.mono _ _ _ _ _ _ _
   | exact subprogram_foldable.mono _ _ _ _
   | exact LeO.none _
   | refine LeO.ite ?_ ?_
   | refine LeO.bind ?_ (fun _ => ?_)
def subprogram_run.T4 : Bool × List (List Nat × List Nat) := (true, [([], []), ([], []), ([], []), ([1, 2], [1, 2]), ([0, 3], [0, 3]), ([4], [4]), ([5], [5]), ([6], [6]), ([7, 6], [7]), ([8], [8]), ([8], [8]), ([8], [8]), ([10, 11, 8], [8, 10, 11]), ([9, 12, 8], [8, 9, 12]), ([13, 8], [8, 13]), ([8], [8]), ([8], [8]), ([8], [8]), ([16, 17, 8], [8, 16, 17]), ([15, 18, 8], [8, 15, 18]), ([19, 8], [8, 19]), ([14, 20, 8, 8], [8, 14, 20]), ([21, 8], [8, 21]), ([8, 22], [8, 22])])
def subprogram_run.B4 : List Nat := [0, 0, 0, 6, 15, 31, 63, 127, 255, 511, 511, 511, 3583, 8191, 16383, 511, 511, 511, 197119, 492031, 1016319, 2097151, 4194303, 8388607]
theorem subprogram_run.tab4 : rtab .any (opsOf Try.f68 4) = subprogram_run.T4 := by kernel_rfl
theorem subprogram_run.bits4 : waitsOk subprogram_run.T4.2 subprogram_run.B4 = true := by kernel_rfl
set_option maxHeartbeats 8000000 in
set_option maxRecDepth 100000 in
theorem subprogram_run.calls (k : Nat) (A0 : Option Addr) (c0 : Nat) (l0 : List (S32)) (a1 : Int) (a2 : Int) (a3 : Int) (r : Bool) (w : World) (hr0 : Kd.C k32 w A0 l0.length l0) (hc0 : l0.length ≤ c0) (h : subprogram_run.f k l0 a1 a2 a3 = some r) :
  Calls Try.prog 68 #[.slice A0 l0.length c0, .int .i64 a1, .int .i64 a2, .int .i64 a3] w fun e w' => e = .returned (.bool r) ∧ Below w.heap.size w w' := by
 have hu32 := Try.underlying32
 have HR0 := Aside0.mk hr0
 have HC0 := Aside0.mk hc0
 clear hr0 hc0
 have HB := Aside0.mk (Below.refl w.heap.size w)
 have H : (subprogram_run.l0 k l0 a1 a2 a3 0) = some r := h
 clear h
 have H' := Aside0.mk H
 clear H
 go_enter Try.func68, Try.ntmps68
 go_wp2
 go_loopg [11] k (fun kq v11 w' => ∃ (x11_1 : Int), v11 = .int .i64 x11_1 ∧ Aside0 (subprogram_run.l0 kq l0 a1 a2 a3 x11_1 = some r) ∧ Aside0 (kq ≤ k) ∧ Aside0 (Below w.heap.size w w'))
 case atStart => exact ⟨(0), yS, H', ⟨Nat.le_refl _⟩, ⟨yB⟩⟩
 case round =>
  clear H'
  try clear p2
  obtain ⟨x11_1, rfl, HA, HK1, HB⟩ := hrel
  cases gk with
  | zero => exact absurd HA.out (by simp [subprogram_run.l0])
  | succ k1 =>
   have H := HA.out
   clear HA
   simp only [subprogram_run.l0] at H
   by_cases c5 : x11_1 < a3
   ·rw [if_pos c5] at H
    have c5b0 : decide (x11_1 < a3) = true := decide_eq_true c5
    clear c5
    obtain ⟨ji6, hji6⟩ : ∃ j_ : Int, (wrap64 (a1 + x11_1)) = j_ := ⟨_, rfl⟩
    replace H : (if 0 ≤ (ji6) then (if (ji6) < (l0.length : Int) then ((subprogram_foldable.f k1 ((rd_T32 l0 (ji6)).f0) ((rd_T32 l0 (ji6)).f1) ((rd_T32 l0 (ji6)).f2)).bind fun t410 => (if t410 = true then (if 0 ≤ (wrap64 (a2 + x11_1)) then (if (wrap64 (a2 + x11_1)) < (l0.length : Int) then ((block_Equal.f k1 ((rd_T32 l0 (ji6)).f0) ((rd_T32 l0 (ji6)).f1) ((rd_T32 l0 (ji6)).f2) ((rd_T32 l0 (wrap64 (a2 + x11_1))).f0) ((rd_T32 l0 (wrap64 (a2 + x11_1))).f1) ((rd_T32 l0 (wrap64 (a2 + x11_1))).f2)).bind fun t413 => (if t413 = true then (subprogram_run.l0 k1 l0 a1 a2 a3 (wrap64 (x11_1 + 1))) else (some false))) else (none)) else (none)) else (some false))) else (none)) else (none)) = some r := by first | (rw [hji6] at H; exact H) | (simp only [hji6] at H ⊢; exact H)
    have hji6w : (IntKind.i64.wrap (a1 + x11_1)) = ji6 := (i64_w _).trans hji6
    by_cases c7 : 0 ≤ (ji6)
    ·rw [if_pos c7] at H
     have c7b0 : decide (0 ≤ (ji6)) = true := decide_eq_true c7
     clear c7
     by_cases c8 : (ji6) < (l0.length : Int)
     ·rw [if_pos c8] at H
      have c8b0 : decide ((ji6) < (l0.length : Int)) = true := decide_eq_true c8
      clear c8
      replace H := Option.bind_eq_some_iff.mp H
      obtain ⟨t410, A90, H⟩ := H
      replace H : (if t410 = true then (if 0 ≤ (wrap64 (a2 + x11_1)) then (if (wrap64 (a2 + x11_1)) < (l0.length : Int) then ((block_Equal.f k1 ((rd_T32 l0 (ji6)).f0) ((rd_T32 l0 (ji6)).f1) ((rd_T32 l0 (ji6)).f2) ((rd_T32 l0 (wrap64 (a2 + x11_1))).f0) ((rd_T32 l0 (wrap64 (a2 + x11_1))).f1) ((rd_T32 l0 (wrap64 (a2 + x11_1))).f2)).bind fun t413 => (if t413 = true then (subprogram_run.l0 k1 l0 a1 a2 a3 (wrap64 (x11_1 + 1))) else (some false))) else (none)) else (none)) else (some false)) = some r := H
      have A9 := Aside0.mk A90
      clear A90
      by_cases c10 : t410 = true
      ·subst c10
       have H1 : (if 0 ≤ (wrap64 (a2 + x11_1)) then (if (wrap64 (a2 + x11_1)) < (l0.length : Int) then ((block_Equal.f k1 ((rd_T32 l0 (ji6)).f0) ((rd_T32 l0 (ji6)).f1) ((rd_T32 l0 (ji6)).f2) ((rd_T32 l0 (wrap64 (a2 + x11_1))).f0) ((rd_T32 l0 (wrap64 (a2 + x11_1))).f1) ((rd_T32 l0 (wrap64 (a2 + x11_1))).f2)).bind fun t413 => (if t413 = true then (subprogram_run.l0 k1 l0 a1 a2 a3 (wrap64 (x11_1 + 1))) else (some false))) else (none)) else (none)) = some r := by rw [if_pos rfl] at H; exact H
       clear H
       have H := H1
       clear H1
       obtain ⟨ji11, hji11⟩ : ∃ j_ : Int, (wrap64 (a2 + x11_1)) = j_ := ⟨_, rfl⟩
       replace H : (if 0 ≤ (ji11) then (if (ji11) < (l0.length : Int) then ((block_Equal.f k1 ((rd_T32 l0 (ji6)).f0) ((rd_T32 l0 (ji6)).f1) ((rd_T32 l0 (ji6)).f2) ((rd_T32 l0 (ji11)).f0) ((rd_T32 l0 (ji11)).f1) ((rd_T32 l0 (ji11)).f2)).bind fun t413 => (if t413 = true then (subprogram_run.l0 k1 l0 a1 a2 a3 (wrap64 (x11_1 + 1))) else (some false))) else (none)) else (none)) = some r := by first | (rw [hji11] at H; exact H) | (simp only [hji11] at H ⊢; exact H)
       (try rw [hji11] at A9)
       have hji11w : (IntKind.i64.wrap (a2 + x11_1)) = ji11 := (i64_w _).trans hji11
       by_cases c12 : 0 ≤ (ji11)
       ·rw [if_pos c12] at H
        have c12b0 : decide (0 ≤ (ji11)) = true := decide_eq_true c12
        clear c12
        by_cases c13 : (ji11) < (l0.length : Int)
        ·rw [if_pos c13] at H
         have c13b0 : decide ((ji11) < (l0.length : Int)) = true := decide_eq_true c13
         clear c13
         replace H := Option.bind_eq_some_iff.mp H
         obtain ⟨t413, A140, H⟩ := H
         replace H : (if t413 = true then (subprogram_run.l0 k1 l0 a1 a2 a3 (wrap64 (x11_1 + 1))) else (some false)) = some r := H
         have A14 := Aside0.mk A140
         clear A140
         by_cases c15 : t413 = true
         ·subst c15
          have H1 : (subprogram_run.l0 k1 l0 a1 a2 a3 (wrap64 (x11_1 + 1))) = some r := by rw [if_pos rfl] at H; exact H
          clear H
          have H := H1
          clear H1
          have H' := Aside0.mk H
          clear H
          try go_wp2
          have n0_ := Aside0.mk (below_drew1 HB.out)
          clear HB
          have HB := n0_
          clear n0_
          have p409 : 0 ≤ ((ji6) : Int) := of_decide_eq_true yP
          have q409 : (ji6) < (l0.length : Int) := of_decide_eq_true yP
          obtain ⟨ad409, A409_1, c409_1, e409, hx409_0, hx409_1, hx409_2, hl409_1, hi409_1⟩ := at_T32 HR0.out (ji6) p409 q409
          have hw409_2 := hx409_2
          have hw409_1 := hx409_1
          have hw409_0 := hx409_0
          cases e409
          replace hx409_0 := (HB.out.cell (yL hx409_0)).trans hx409_0
          replace hx409_1 := (HB.out.cell (yL hx409_1)).trans hx409_1
          replace hx409_2 := (HB.out.cell (yL hx409_2)).trans hx409_2
          have HR409_1 := Aside0.mk hi409_1
          have HC409_1 := Aside0.mk hl409_1
          clear hi409_1 hl409_1
          replace p409 := eq_true p409
          replace q409 := eq_true q409
          have p411 : 0 ≤ ((ji6) : Int) := of_decide_eq_true yP
          have q411 : (ji6) < (l0.length : Int) := of_decide_eq_true yP
          obtain ⟨ad411, A411_1, c411_1, e411, hx411_0, hx411_1, hx411_2, hl411_1, hi411_1⟩ := at_T32 HR0.out (ji6) p411 q411
          have hw411_2 := hx411_2
          have hw411_1 := hx411_1
          have hw411_0 := hx411_0
          obtain rfl : ad409 = ad411 := (by injection e411)
          have HQA411_1 := Aside0.mk (show A411_1 = A409_1 from by first | (have e_ := Option.some.inj (hw409_1.symm.trans hw411_1); injection e_ with e1_ e2_ e3_; exact e1_.symm) | (have e_ := Option.some.inj (hx409_1.symm.trans hx411_1); injection e_ with e1_ e2_ e3_; exact e1_.symm))
          have HQc411_1 := Aside0.mk (show c411_1 = c409_1 from by first | (have e_ := Option.some.inj (hw409_1.symm.trans hw411_1); injection e_ with e1_ e2_ e3_; exact e3_.symm) | (have e_ := Option.some.inj (hx409_1.symm.trans hx411_1); injection e_ with e1_ e2_ e3_; exact e3_.symm))
          replace hx411_0 := (HB.out.cell (yL hx411_0)).trans hx411_0
          replace hx411_1 := (HB.out.cell (yL hx411_1)).trans hx411_1
          replace hx411_2 := (HB.out.cell (yL hx411_2)).trans hx411_2
          have HR411_1 := Aside0.mk hi411_1
          have HC411_1 := Aside0.mk hl411_1
          clear hi411_1 hl411_1
          replace p411 := eq_true p411
          replace q411 := eq_true q411
          have p412 : 0 ≤ ((ji11) : Int) := of_decide_eq_true yP
          have q412 : (ji11) < (l0.length : Int) := of_decide_eq_true yP
          obtain ⟨ad412, A412_1, c412_1, e412, hx412_0, hx412_1, hx412_2, hl412_1, hi412_1⟩ := at_T32 HR0.out (ji11) p412 q412
          have hw412_2 := hx412_2
          have hw412_1 := hx412_1
          have hw412_0 := hx412_0
          obtain rfl : ad409 = ad412 := (by injection e412)
          replace hx412_0 := (HB.out.cell (yL hx412_0)).trans hx412_0
          replace hx412_1 := (HB.out.cell (yL hx412_1)).trans hx412_1
          replace hx412_2 := (HB.out.cell (yL hx412_2)).trans hx412_2
          have HR412_1 := Aside0.mk hi412_1
          have HC412_1 := Aside0.mk hl412_1
          clear hi412_1 hl412_1
          replace p412 := eq_true p412
          replace q412 := eq_true q412
          refine start_ (n := 24) (S := fun w' => w'.cell? (ad409.add (((ji6)).toNat * 3)) = some (.bool ((rd_T32 l0 (ji6)).f0)) ∧ w'.cell? ⟨(ad409.add (((ji6)).toNat * 3)).block, (ad409.add (((ji6)).toNat * 3)).off + 1, none⟩ = some (.slice A409_1 ((rd_T32 l0 (ji6)).f1).length c409_1) ∧ w'.cell? ⟨(ad409.add (((ji6)).toNat * 3)).block, (ad409.add (((ji6)).toNat * 3)).off + 2, none⟩ = some (.string ((rd_T32 l0 (ji6)).f2)) ∧ w'.cell? (ad409.add (((ji6)).toNat * 3)) = some (.bool ((rd_T32 l0 (ji6)).f0)) ∧ w'.cell? ⟨(ad409.add (((ji6)).toNat * 3)).block, (ad409.add (((ji6)).toNat * 3)).off + 1, none⟩ = some (.slice A411_1 ((rd_T32 l0 (ji6)).f1).length c411_1) ∧ w'.cell? ⟨(ad409.add (((ji6)).toNat * 3)).block, (ad409.add (((ji6)).toNat * 3)).off + 2, none⟩ = some (.string ((rd_T32 l0 (ji6)).f2)) ∧ w'.cell? (ad409.add (((ji11)).toNat * 3)) = some (.bool ((rd_T32 l0 (ji11)).f0)) ∧ w'.cell? ⟨(ad409.add (((ji11)).toNat * 3)).block, (ad409.add (((ji11)).toNat * 3)).off + 1, none⟩ = some (.slice A412_1 ((rd_T32 l0 (ji11)).f1).length c412_1) ∧ w'.cell? ⟨(ad409.add (((ji11)).toNat * 3)).block, (ad409.add (((ji11)).toNat * 3)).off + 2, none⟩ = some (.string ((rd_T32 l0 (ji11)).f2))) (ds := []) #[false, false, false, false, false, false, false, false, false, false, false, false, false, false, false, false, false, false, false, false, false, false, false, false] (by kernel_rfl) rfl rfl ⟨((HB.out.cell (yL hw409_0)).trans hw409_0), ((HB.out.cell (yL hw409_1)).trans hw409_1), ((HB.out.cell (yL hw409_2)).trans hw409_2), ((HB.out.cell (yL hw411_0)).trans hw411_0), ((HB.out.cell (yL hw411_1)).trans hw411_1), ((HB.out.cell (yL hw411_2)).trans hw411_2), ((HB.out.cell (yL hw412_0)).trans hw412_0), ((HB.out.cell (yL hw412_1)).trans hw412_1), ((HB.out.cell (yL hw412_2)).trans hw412_2)⟩ (fun hHeld => ?_); refine with_tabW subprogram_run.tab4 subprogram_run.bits4 (fun HT_ HW_ => ?_)
          generalize wr.drew = w16 at HB HR409_1 HR411_1 HR412_1 hx409_0 hx409_1 hx409_2 hx411_0 hx411_1 hx411_2 hx412_0 hx412_1 hx412_2 hHeld ⊢
          refine yp 0 14 ?_
          refine yp 1 15 ?_
          refine yp 2 16 ?_
          refine yp 3 17 ?_
          refine yp 4 18 ?_
          refine yt 5 19 hHeld ?_
          refine one_ (i := 6) (N := some 20) #[true, true, true, true, true, true, true, false, false, false, false, false, false, false, false, false, false, false, false, false, false, false, false, false] rfl rfl (one_of HT_.out (by kernel_rfl)) (by decide) (fun K hK => ?_)
          refine goes_ Try.func96 (by kernel_rfl) rfl #[.agg #[.bool ((rd_T32 l0 (ji6)).f0), .slice A409_1 ((rd_T32 l0 (ji6)).f1).length c409_1, .string ((rd_T32 l0 (ji6)).f2)]] (by rfl) rfl rfl (by (try simp only [List.map_toArray, List.map_cons, List.map_nil]); first | done | (simp only [hji6]; rfl) | rfl | (simp only [List.length_drop, List.length_take]; rfl) | (simp only [HQA411_1.out, HQc411_1.out]; rfl) | (simp only [HQA411_1.out, HQc411_1.out, hji6]; rfl)) ?_
          with_reducible refine (subprogram_foldable.calls k1 ((rd_T32 l0 (ji6)).f0) _ _ ((rd_T32 l0 (ji6)).f1) ((rd_T32 l0 (ji6)).f2) true _ ?side1 ?side2 A9.out).mono ?_
          (case side1 => exact yC HR409_1.out)
          (case side2 => exact HC409_1.out)
          rintro e w17 ⟨rfl, hb⟩
          refine ⟨_, rfl, ?_⟩
          have n0_ := Aside0.mk (below_step yB hb)
          clear HB
          have HB := n0_
          clear n0_
          (try clear hb)
          (try clear hb2)
          (try clear hk)
          (try clear hi)
          refine hK.out _ _ ⟨((HB.out.cell (yL hw409_0)).trans hw409_0), ((HB.out.cell (yL hw409_1)).trans hw409_1), ((HB.out.cell (yL hw409_2)).trans hw409_2), ((HB.out.cell (yL hw411_0)).trans hw411_0), ((HB.out.cell (yL hw411_1)).trans hw411_1), ((HB.out.cell (yL hw411_2)).trans hw411_2), ((HB.out.cell (yL hw412_0)).trans hw412_0), ((HB.out.cell (yL hw412_1)).trans hw412_1), ((HB.out.cell (yL hw412_2)).trans hw412_2)⟩ (fun hHeld => ?_)
          clear hK K
          refine norm_ (a' := ?_) ?_ ?_
          rotate_left
          ·show Act.put _ (some 20) _ = _
           simp only [Act.put, List.setIfInBounds_toArray, List.set_cons_zero, List.set_cons_succ, i64_w, i32_w]
           rfl
          refine yp 7 21 ?_
          refine yp 8 22 ?_
          refine yp 9 23 ?_
          refine yp 10 24 ?_
          refine yp 11 25 ?_
          refine yp 12 26 ?_
          refine yp 13 27 ?_
          refine yp 15 29 ?_
          refine yp 16 30 ?_
          refine yp 17 31 ?_
          refine yp 18 32 ?_
          refine yp 19 33 ?_
          refine yt 14 28 hHeld ?_
          refine yt 20 34 hHeld ?_
          refine one_ (i := 21) (N := some 35) #[true, true, true, true, true, true, true, true, true, true, true, true, true, true, true, true, true, true, true, true, true, true, false, false] rfl rfl (one_of HT_.out (by kernel_rfl)) (by decide) (fun K hK => ?_)
          refine goes_ Try.func97 (by kernel_rfl) rfl #[.agg #[.bool ((rd_T32 l0 (ji6)).f0), .slice A411_1 ((rd_T32 l0 (ji6)).f1).length c411_1, .string ((rd_T32 l0 (ji6)).f2)], .agg #[.bool ((rd_T32 l0 (ji11)).f0), .slice A412_1 ((rd_T32 l0 (ji11)).f1).length c412_1, .string ((rd_T32 l0 (ji11)).f2)]] (by rfl) rfl rfl (by (try simp only [List.map_toArray, List.map_cons, List.map_nil]); first | done | (simp only [hji11, hji6]; rfl) | rfl | (simp only [List.length_drop, List.length_take]; rfl) | (simp only [HQA411_1.out, HQc411_1.out]; rfl) | (simp only [HQA411_1.out, HQc411_1.out, hji11, hji6]; rfl)) ?_
          with_reducible refine (block_Equal.calls k1 ((rd_T32 l0 (ji6)).f0) _ _ ((rd_T32 l0 (ji6)).f1) ((rd_T32 l0 (ji6)).f2) ((rd_T32 l0 (ji11)).f0) _ _ ((rd_T32 l0 (ji11)).f1) ((rd_T32 l0 (ji11)).f2) true _ ?side1 ?side2 ?side3 ?side4 A14.out).mono ?_
          (case side1 => exact yC HR411_1.out)
          (case side2 => exact HC411_1.out)
          (case side3 => exact yC HR412_1.out)
          (case side4 => exact HC412_1.out)
          rintro e w18 ⟨rfl, hb⟩
          refine ⟨_, rfl, ?_⟩
          have n0_ := Aside0.mk (below_step yB hb)
          clear HB
          have HB := n0_
          clear n0_
          (try clear hb)
          (try clear hb2)
          (try clear hk)
          (try clear hi)
          refine hK.out _ _ ⟨((HB.out.cell (yL hw409_0)).trans hw409_0), ((HB.out.cell (yL hw409_1)).trans hw409_1), ((HB.out.cell (yL hw409_2)).trans hw409_2), ((HB.out.cell (yL hw411_0)).trans hw411_0), ((HB.out.cell (yL hw411_1)).trans hw411_1), ((HB.out.cell (yL hw411_2)).trans hw411_2), ((HB.out.cell (yL hw412_0)).trans hw412_0), ((HB.out.cell (yL hw412_1)).trans hw412_1), ((HB.out.cell (yL hw412_2)).trans hw412_2)⟩ (fun hHeld => ?_)
          clear hK K
          refine norm_ (a' := ?_) ?_ ?_
          rotate_left
          ·show Act.put _ (some 35) _ = _
           simp only [Act.put, List.setIfInBounds_toArray, List.set_cons_zero, List.set_cons_succ, i64_w, i32_w]
           rfl
          refine yp 22 36 ?_
          refine yp 23 37 ?_
          refine done_ (done_of HT_.out (by kernel_rfl)) ?_
          try go_wp2
          go_roundg k1
          case measure => have := HK1.out; omega
          case rel => exact ⟨(wrap64 (x11_1 + 1)), yS, H', ⟨by have := HK1.out; omega⟩, ⟨yB⟩⟩
         ·replace c15 := Bool.eq_false_iff.mpr c15
          subst c15
          have H1 : (some false) = some r := by rw [if_neg (show ¬ (false = true) by decide)] at H; exact H
          clear H
          have H := H1
          clear H1
          obtain rfl := Option.some.inj H
          try go_wp2
          have n0_ := Aside0.mk (below_drew1 HB.out)
          clear HB
          have HB := n0_
          clear n0_
          have p409 : 0 ≤ ((ji6) : Int) := of_decide_eq_true yP
          have q409 : (ji6) < (l0.length : Int) := of_decide_eq_true yP
          obtain ⟨ad409, A409_1, c409_1, e409, hx409_0, hx409_1, hx409_2, hl409_1, hi409_1⟩ := at_T32 HR0.out (ji6) p409 q409
          have hw409_2 := hx409_2
          have hw409_1 := hx409_1
          have hw409_0 := hx409_0
          cases e409
          replace hx409_0 := (HB.out.cell (yL hx409_0)).trans hx409_0
          replace hx409_1 := (HB.out.cell (yL hx409_1)).trans hx409_1
          replace hx409_2 := (HB.out.cell (yL hx409_2)).trans hx409_2
          have HR409_1 := Aside0.mk hi409_1
          have HC409_1 := Aside0.mk hl409_1
          clear hi409_1 hl409_1
          replace p409 := eq_true p409
          replace q409 := eq_true q409
          have p411 : 0 ≤ ((ji6) : Int) := of_decide_eq_true yP
          have q411 : (ji6) < (l0.length : Int) := of_decide_eq_true yP
          obtain ⟨ad411, A411_1, c411_1, e411, hx411_0, hx411_1, hx411_2, hl411_1, hi411_1⟩ := at_T32 HR0.out (ji6) p411 q411
          have hw411_2 := hx411_2
          have hw411_1 := hx411_1
          have hw411_0 := hx411_0
          obtain rfl : ad409 = ad411 := (by injection e411)
          have HQA411_1 := Aside0.mk (show A411_1 = A409_1 from by first | (have e_ := Option.some.inj (hw409_1.symm.trans hw411_1); injection e_ with e1_ e2_ e3_; exact e1_.symm) | (have e_ := Option.some.inj (hx409_1.symm.trans hx411_1); injection e_ with e1_ e2_ e3_; exact e1_.symm))
          have HQc411_1 := Aside0.mk (show c411_1 = c409_1 from by first | (have e_ := Option.some.inj (hw409_1.symm.trans hw411_1); injection e_ with e1_ e2_ e3_; exact e3_.symm) | (have e_ := Option.some.inj (hx409_1.symm.trans hx411_1); injection e_ with e1_ e2_ e3_; exact e3_.symm))
          replace hx411_0 := (HB.out.cell (yL hx411_0)).trans hx411_0
          replace hx411_1 := (HB.out.cell (yL hx411_1)).trans hx411_1
          replace hx411_2 := (HB.out.cell (yL hx411_2)).trans hx411_2
          have HR411_1 := Aside0.mk hi411_1
          have HC411_1 := Aside0.mk hl411_1
          clear hi411_1 hl411_1
          replace p411 := eq_true p411
          replace q411 := eq_true q411
          have p412 : 0 ≤ ((ji11) : Int) := of_decide_eq_true yP
          have q412 : (ji11) < (l0.length : Int) := of_decide_eq_true yP
          obtain ⟨ad412, A412_1, c412_1, e412, hx412_0, hx412_1, hx412_2, hl412_1, hi412_1⟩ := at_T32 HR0.out (ji11) p412 q412
          have hw412_2 := hx412_2
          have hw412_1 := hx412_1
          have hw412_0 := hx412_0
          obtain rfl : ad409 = ad412 := (by injection e412)
          replace hx412_0 := (HB.out.cell (yL hx412_0)).trans hx412_0
          replace hx412_1 := (HB.out.cell (yL hx412_1)).trans hx412_1
          replace hx412_2 := (HB.out.cell (yL hx412_2)).trans hx412_2
          have HR412_1 := Aside0.mk hi412_1
          have HC412_1 := Aside0.mk hl412_1
          clear hi412_1 hl412_1
          replace p412 := eq_true p412
          replace q412 := eq_true q412
          refine start_ (n := 24) (S := fun w' => w'.cell? (ad409.add (((ji6)).toNat * 3)) = some (.bool ((rd_T32 l0 (ji6)).f0)) ∧ w'.cell? ⟨(ad409.add (((ji6)).toNat * 3)).block, (ad409.add (((ji6)).toNat * 3)).off + 1, none⟩ = some (.slice A409_1 ((rd_T32 l0 (ji6)).f1).length c409_1) ∧ w'.cell? ⟨(ad409.add (((ji6)).toNat * 3)).block, (ad409.add (((ji6)).toNat * 3)).off + 2, none⟩ = some (.string ((rd_T32 l0 (ji6)).f2)) ∧ w'.cell? (ad409.add (((ji6)).toNat * 3)) = some (.bool ((rd_T32 l0 (ji6)).f0)) ∧ w'.cell? ⟨(ad409.add (((ji6)).toNat * 3)).block, (ad409.add (((ji6)).toNat * 3)).off + 1, none⟩ = some (.slice A411_1 ((rd_T32 l0 (ji6)).f1).length c411_1) ∧ w'.cell? ⟨(ad409.add (((ji6)).toNat * 3)).block, (ad409.add (((ji6)).toNat * 3)).off + 2, none⟩ = some (.string ((rd_T32 l0 (ji6)).f2)) ∧ w'.cell? (ad409.add (((ji11)).toNat * 3)) = some (.bool ((rd_T32 l0 (ji11)).f0)) ∧ w'.cell? ⟨(ad409.add (((ji11)).toNat * 3)).block, (ad409.add (((ji11)).toNat * 3)).off + 1, none⟩ = some (.slice A412_1 ((rd_T32 l0 (ji11)).f1).length c412_1) ∧ w'.cell? ⟨(ad409.add (((ji11)).toNat * 3)).block, (ad409.add (((ji11)).toNat * 3)).off + 2, none⟩ = some (.string ((rd_T32 l0 (ji11)).f2))) (ds := []) #[false, false, false, false, false, false, false, false, false, false, false, false, false, false, false, false, false, false, false, false, false, false, false, false] (by kernel_rfl) rfl rfl ⟨((HB.out.cell (yL hw409_0)).trans hw409_0), ((HB.out.cell (yL hw409_1)).trans hw409_1), ((HB.out.cell (yL hw409_2)).trans hw409_2), ((HB.out.cell (yL hw411_0)).trans hw411_0), ((HB.out.cell (yL hw411_1)).trans hw411_1), ((HB.out.cell (yL hw411_2)).trans hw411_2), ((HB.out.cell (yL hw412_0)).trans hw412_0), ((HB.out.cell (yL hw412_1)).trans hw412_1), ((HB.out.cell (yL hw412_2)).trans hw412_2)⟩ (fun hHeld => ?_); refine with_tabW subprogram_run.tab4 subprogram_run.bits4 (fun HT_ HW_ => ?_)
          generalize wr.drew = w19 at HB HR409_1 HR411_1 HR412_1 hx409_0 hx409_1 hx409_2 hx411_0 hx411_1 hx411_2 hx412_0 hx412_1 hx412_2 hHeld ⊢
          refine yp 0 14 ?_
          refine yp 1 15 ?_
          refine yp 2 16 ?_
          refine yp 3 17 ?_
          refine yp 4 18 ?_
          refine yt 5 19 hHeld ?_
          refine one_ (i := 6) (N := some 20) #[true, true, true, true, true, true, true, false, false, false, false, false, false, false, false, false, false, false, false, false, false, false, false, false] rfl rfl (one_of HT_.out (by kernel_rfl)) (by decide) (fun K hK => ?_)
          refine goes_ Try.func96 (by kernel_rfl) rfl #[.agg #[.bool ((rd_T32 l0 (ji6)).f0), .slice A409_1 ((rd_T32 l0 (ji6)).f1).length c409_1, .string ((rd_T32 l0 (ji6)).f2)]] (by rfl) rfl rfl (by (try simp only [List.map_toArray, List.map_cons, List.map_nil]); first | done | (simp only [hji6]; rfl) | rfl | (simp only [List.length_drop, List.length_take]; rfl) | (simp only [HQA411_1.out, HQc411_1.out]; rfl) | (simp only [HQA411_1.out, HQc411_1.out, hji6]; rfl)) ?_
          with_reducible refine (subprogram_foldable.calls k1 ((rd_T32 l0 (ji6)).f0) _ _ ((rd_T32 l0 (ji6)).f1) ((rd_T32 l0 (ji6)).f2) true _ ?side1 ?side2 A9.out).mono ?_
          (case side1 => exact yC HR409_1.out)
          (case side2 => exact HC409_1.out)
          rintro e w20 ⟨rfl, hb⟩
          refine ⟨_, rfl, ?_⟩
          have n0_ := Aside0.mk (below_step yB hb)
          clear HB
          have HB := n0_
          clear n0_
          (try clear hb)
          (try clear hb2)
          (try clear hk)
          (try clear hi)
          refine hK.out _ _ ⟨((HB.out.cell (yL hw409_0)).trans hw409_0), ((HB.out.cell (yL hw409_1)).trans hw409_1), ((HB.out.cell (yL hw409_2)).trans hw409_2), ((HB.out.cell (yL hw411_0)).trans hw411_0), ((HB.out.cell (yL hw411_1)).trans hw411_1), ((HB.out.cell (yL hw411_2)).trans hw411_2), ((HB.out.cell (yL hw412_0)).trans hw412_0), ((HB.out.cell (yL hw412_1)).trans hw412_1), ((HB.out.cell (yL hw412_2)).trans hw412_2)⟩ (fun hHeld => ?_)
          clear hK K
          refine norm_ (a' := ?_) ?_ ?_
          rotate_left
          ·show Act.put _ (some 20) _ = _
           simp only [Act.put, List.setIfInBounds_toArray, List.set_cons_zero, List.set_cons_succ, i64_w, i32_w]
           rfl
          refine yp 7 21 ?_
          refine yp 8 22 ?_
          refine yp 9 23 ?_
          refine yp 10 24 ?_
          refine yp 11 25 ?_
          refine yp 12 26 ?_
          refine yp 13 27 ?_
          refine yp 15 29 ?_
          refine yp 16 30 ?_
          refine yp 17 31 ?_
          refine yp 18 32 ?_
          refine yp 19 33 ?_
          refine yt 14 28 hHeld ?_
          refine yt 20 34 hHeld ?_
          refine one_ (i := 21) (N := some 35) #[true, true, true, true, true, true, true, true, true, true, true, true, true, true, true, true, true, true, true, true, true, true, false, false] rfl rfl (one_of HT_.out (by kernel_rfl)) (by decide) (fun K hK => ?_)
          refine goes_ Try.func97 (by kernel_rfl) rfl #[.agg #[.bool ((rd_T32 l0 (ji6)).f0), .slice A411_1 ((rd_T32 l0 (ji6)).f1).length c411_1, .string ((rd_T32 l0 (ji6)).f2)], .agg #[.bool ((rd_T32 l0 (ji11)).f0), .slice A412_1 ((rd_T32 l0 (ji11)).f1).length c412_1, .string ((rd_T32 l0 (ji11)).f2)]] (by rfl) rfl rfl (by (try simp only [List.map_toArray, List.map_cons, List.map_nil]); first | done | (simp only [hji11, hji6]; rfl) | rfl | (simp only [List.length_drop, List.length_take]; rfl) | (simp only [HQA411_1.out, HQc411_1.out]; rfl) | (simp only [HQA411_1.out, HQc411_1.out, hji11, hji6]; rfl)) ?_
          with_reducible refine (block_Equal.calls k1 ((rd_T32 l0 (ji6)).f0) _ _ ((rd_T32 l0 (ji6)).f1) ((rd_T32 l0 (ji6)).f2) ((rd_T32 l0 (ji11)).f0) _ _ ((rd_T32 l0 (ji11)).f1) ((rd_T32 l0 (ji11)).f2) false _ ?side1 ?side2 ?side3 ?side4 A14.out).mono ?_
          (case side1 => exact yC HR411_1.out)
          (case side2 => exact HC411_1.out)
          (case side3 => exact yC HR412_1.out)
          (case side4 => exact HC412_1.out)
          rintro e w21 ⟨rfl, hb⟩
          refine ⟨_, rfl, ?_⟩
          have n0_ := Aside0.mk (below_step yB hb)
          clear HB
          have HB := n0_
          clear n0_
          (try clear hb)
          (try clear hb2)
          (try clear hk)
          (try clear hi)
          refine hK.out _ _ ⟨((HB.out.cell (yL hw409_0)).trans hw409_0), ((HB.out.cell (yL hw409_1)).trans hw409_1), ((HB.out.cell (yL hw409_2)).trans hw409_2), ((HB.out.cell (yL hw411_0)).trans hw411_0), ((HB.out.cell (yL hw411_1)).trans hw411_1), ((HB.out.cell (yL hw411_2)).trans hw411_2), ((HB.out.cell (yL hw412_0)).trans hw412_0), ((HB.out.cell (yL hw412_1)).trans hw412_1), ((HB.out.cell (yL hw412_2)).trans hw412_2)⟩ (fun hHeld => ?_)
          clear hK K
          refine norm_ (a' := ?_) ?_ ?_
          rotate_left
          ·show Act.put _ (some 35) _ = _
           simp only [Act.put, List.setIfInBounds_toArray, List.set_cons_zero, List.set_cons_succ, i64_w, i32_w]
           rfl
          refine yp 22 36 ?_
          refine yp 23 37 ?_
          refine done_ (done_of HT_.out (by kernel_rfl)) ?_
          try go_wp2
          go_ret
          exact ⟨by first | rfl | (simp [errW_none, errW_some] <;> rfl) | (simp only [← hji6, ← hji11]; first | rfl | (simp [errW_none, errW_some] <;> rfl)) | (simp [*, errW_none, errW_some] <;> rfl), yB⟩
        ·rw [if_neg c13] at H
         exact absurd H (by simp)
       ·rw [if_neg c12] at H
        exact absurd H (by simp)
      ·replace c10 := Bool.eq_false_iff.mpr c10
       subst c10
       have H1 : (some false) = some r := by rw [if_neg (show ¬ (false = true) by decide)] at H; exact H
       clear H
       have H := H1
       clear H1
       obtain rfl := Option.some.inj H
       try go_wp2
       have n0_ := Aside0.mk (below_drew1 HB.out)
       clear HB
       have HB := n0_
       clear n0_
       have p409 : 0 ≤ ((ji6) : Int) := of_decide_eq_true yP
       have q409 : (ji6) < (l0.length : Int) := of_decide_eq_true yP
       obtain ⟨ad409, A409_1, c409_1, e409, hx409_0, hx409_1, hx409_2, hl409_1, hi409_1⟩ := at_T32 HR0.out (ji6) p409 q409
       have hw409_2 := hx409_2
       have hw409_1 := hx409_1
       have hw409_0 := hx409_0
       cases e409
       replace hx409_0 := (HB.out.cell (yL hx409_0)).trans hx409_0
       replace hx409_1 := (HB.out.cell (yL hx409_1)).trans hx409_1
       replace hx409_2 := (HB.out.cell (yL hx409_2)).trans hx409_2
       have HR409_1 := Aside0.mk hi409_1
       have HC409_1 := Aside0.mk hl409_1
       clear hi409_1 hl409_1
       replace p409 := eq_true p409
       replace q409 := eq_true q409
       refine start_ (n := 24) (S := fun w' => w'.cell? (ad409.add (((ji6)).toNat * 3)) = some (.bool ((rd_T32 l0 (ji6)).f0)) ∧ w'.cell? ⟨(ad409.add (((ji6)).toNat * 3)).block, (ad409.add (((ji6)).toNat * 3)).off + 1, none⟩ = some (.slice A409_1 ((rd_T32 l0 (ji6)).f1).length c409_1) ∧ w'.cell? ⟨(ad409.add (((ji6)).toNat * 3)).block, (ad409.add (((ji6)).toNat * 3)).off + 2, none⟩ = some (.string ((rd_T32 l0 (ji6)).f2))) (ds := []) #[false, false, false, false, false, false, false, false, false, false, false, false, false, false, false, false, false, false, false, false, false, false, false, false] (by kernel_rfl) rfl rfl ⟨((HB.out.cell (yL hw409_0)).trans hw409_0), ((HB.out.cell (yL hw409_1)).trans hw409_1), ((HB.out.cell (yL hw409_2)).trans hw409_2)⟩ (fun hHeld => ?_); refine with_tabW subprogram_run.tab4 subprogram_run.bits4 (fun HT_ HW_ => ?_)
       generalize wr.drew = w22 at HB HR409_1 hx409_0 hx409_1 hx409_2 hHeld ⊢
       refine yp 0 14 ?_
       refine yp 1 15 ?_
       refine yp 2 16 ?_
       refine yp 3 17 ?_
       refine yp 4 18 ?_
       refine yt 5 19 hHeld ?_
       refine one_ (i := 6) (N := some 20) #[true, true, true, true, true, true, true, false, false, false, false, false, false, false, false, false, false, false, false, false, false, false, false, false] rfl rfl (one_of HT_.out (by kernel_rfl)) (by decide) (fun K hK => ?_)
       refine goes_ Try.func96 (by kernel_rfl) rfl #[.agg #[.bool ((rd_T32 l0 (ji6)).f0), .slice A409_1 ((rd_T32 l0 (ji6)).f1).length c409_1, .string ((rd_T32 l0 (ji6)).f2)]] (by rfl) rfl rfl (by (try simp only [List.map_toArray, List.map_cons, List.map_nil]); first | done | (simp only [hji6]; rfl) | rfl | (simp only [List.length_drop, List.length_take]; rfl)) ?_
       with_reducible refine (subprogram_foldable.calls k1 ((rd_T32 l0 (ji6)).f0) _ _ ((rd_T32 l0 (ji6)).f1) ((rd_T32 l0 (ji6)).f2) false _ ?side1 ?side2 A9.out).mono ?_
       (case side1 => exact yC HR409_1.out)
       (case side2 => exact HC409_1.out)
       rintro e w23 ⟨rfl, hb⟩
       refine ⟨_, rfl, ?_⟩
       have n0_ := Aside0.mk (below_step yB hb)
       clear HB
       have HB := n0_
       clear n0_
       (try clear hb)
       (try clear hb2)
       (try clear hk)
       (try clear hi)
       refine hK.out _ _ ⟨((HB.out.cell (yL hw409_0)).trans hw409_0), ((HB.out.cell (yL hw409_1)).trans hw409_1), ((HB.out.cell (yL hw409_2)).trans hw409_2)⟩ (fun hHeld => ?_)
       clear hK K
       refine norm_ (a' := ?_) ?_ ?_
       rotate_left
       ·show Act.put _ (some 20) _ = _
        simp only [Act.put, List.setIfInBounds_toArray, List.set_cons_zero, List.set_cons_succ, i64_w, i32_w]
        rfl
       refine yp 7 21 ?_
       refine yp 8 22 ?_
       refine yu 9 23 ?_
       refine yu 10 24 ?_
       refine yu 11 25 ?_
       refine yu 12 26 ?_
       refine yu 13 27 ?_
       refine yu 14 28 ?_
       refine yu 15 29 ?_
       refine yu 16 30 ?_
       refine yu 17 31 ?_
       refine yu 18 32 ?_
       refine yu 19 33 ?_
       refine yu 20 34 ?_
       refine yu 21 35 ?_
       refine yu 22 36 ?_
       refine yp 23 37 ?_
       refine done_ (done_of HT_.out (by kernel_rfl)) ?_
       try go_wp2
       go_ret
       exact ⟨by first | rfl | (simp [errW_none, errW_some] <;> rfl) | (simp only [← hji6]; first | rfl | (simp [errW_none, errW_some] <;> rfl)) | (simp [*, errW_none, errW_some] <;> rfl), yB⟩
     ·rw [if_neg c8] at H
      exact absurd H (by simp)
    ·rw [if_neg c7] at H
     exact absurd H (by simp)
   ·rw [if_neg c5] at H
    have c5b0 : decide (x11_1 < a3) = false := decide_eq_false c5
    clear c5
    obtain rfl := Option.some.inj H
    go_wp2
    go_ret
    exact ⟨by first | rfl | (simp [errW_none, errW_some] <;> rfl) | (simp [*, errW_none, errW_some] <;> rfl), yB⟩
end Go.Proofs.Ytehkhbnhmehobaa.P
namespace Go.Proofs.Ytehkhbnhmehobaa.P
open Go.RowKit Go.Proofs.YtehkhbnhmehobaaW.PrintWords Go.Proofs.YtehkhbnhmehobaaW.PrintLast Go.Proofs.YtehkhbnhmehobaaW.PrintMore
attribute [local go_sem] max2_int min2_int max_two min_two max_three min_three max_four min_four
set_option linter.unusedVariables false
set_option linter.unusedSimpArgs false
mutual
def subprogram_first.l0 : Nat → List (S32) → Int → Int → Option (Int)
 | 0, _, _, _ => none
 | k + 1, x0, x1, x5 => if (wrap64 (x5 + x1)) ≤ (wrap64 ((x0.length : Int) - x1)) then (subprogram_first.l1 k x0 x1 x5 (wrap64 (x5 + x1))) else (some (-1))
def subprogram_first.l1 : Nat → List (S32) → Int → Int → Int → Option (Int)
 | 0, _, _, _, _ => none
 | k + 1, x0, x1, x5, x6 => if (wrap64 (x6 + x1)) ≤ (x0.length : Int) then ((subprogram_run.f k x0 x5 x6 x1).bind fun t414 => (if t414 = true then (some x5) else (subprogram_first.l1 k x0 x1 x5 (wrap64 (x6 + 1))))) else (subprogram_first.l0 k x0 x1 (wrap64 (x5 + 1)))
end
def subprogram_first.f (k : Nat) (l0 : List (S32)) (a1 : Int) : Option (Int) := subprogram_first.l0 k l0 a1 0
theorem subprogram_first.mono_l : ∀ k, (∀ y0 y1 y2, LeO (subprogram_first.l0 k y0 y1 y2) (subprogram_first.l0 (k + 1) y0 y1 y2)) ∧ (∀ y0 y1 y2 y3, LeO (subprogram_first.l1 k y0 y1 y2 y3) (subprogram_first.l1 (k + 1) y0 y1 y2 y3))
 | 0 => ⟨fun _ _ _ r h => by simp [subprogram_first.l0] at h, fun _ _ _ _ r h => by simp [subprogram_first.l1] at h⟩
 | k + 1 => by
  obtain ⟨ih0, ih1⟩ := subprogram_first.mono_l k
  refine ⟨?_, ?_⟩
  ·intro y0 y1 y2
   unfold subprogram_first.l0
   repeat' first
   | (with_reducible exact ih0 _ _ _)
   | (with_reducible exact ih1 _ _ _ _)
   | (with_reducible exact subprogram_run.mono _ _ _ _ _)
   | (with_reducible exact LeO.refl _)
   | (with_reducible exact LeO.none _)
   | (with_reducible refine LeO.ite ?_ ?_)
   | (with_reducible refine LeO.bind ?_ (fun _ => ?_))
   | exact ih0 _ _ _
   | exact ih1 _ _ _ _
   | exact subprogram_run.mono _ _ _ _ _
   | exact LeO.none _
   | refine LeO.ite ?_ ?_
   | refine LeO.bind ?_ (fun _ => ?_)
  ·intro y0 y1 y2 y3
   unfold subprogram_first.l1
   repeat' first
   | (with_reducible exact ih0 _ _ _)
   | (with_reducible exact ih1 _ _ _ _)
   | (with_reducible exact subprogram_run.mono _ _ _ _ _)
   | (with_reducible exact LeO.refl _)
   | (with_reducible exact LeO.none _)
   | (with_reducible refine LeO.ite ?_ ?_)
   | (with_reducible refine LeO.bind ?_ (fun _ => ?_))
   | exact ih0 _ _ _
   | exact ih1 _ _ _ _
   | exact subprogram_run.mono _ _ _ _ _
   | exact LeO.none _
   | refine LeO.ite ?_ ?_
   | refine LeO.bind ?_ (fun _ => ?_)
theorem subprogram_first.mono : ∀ a0 a1 k, LeO (subprogram_first.f k a0 a1) (subprogram_first.f (k + 1) a0 a1) := by
 intro a0 a1 k
 obtain ⟨ih0, ih1⟩ := subprogram_first.mono_l k
 unfold subprogram_first.f
 repeat' first
   | (with_reducible exact ih0 _ _ _)
   | (with_reducible exact ih1 _ _ _ _)
   | (with_reducible exact subprogram_run.mono _ _ _ _ _)
   | (with_reducible exact LeO.refl _)
   | (with_reducible exact LeO.none _)
   | (with_reducible refine LeO.ite ?_ ?_)
   | (with_reducible refine LeO.bind ?_ (fun _ => ?_))
   | exact ih0 _ _ _
   | exact ih1 _ _ _ _
   | exact subprogram_run.mono _ _ _ _ _
   | exact LeO.none _
   | refine LeO.ite ?_ ?_
   | refine LeO.bind ?_ (fun _ => ?_)
set_option maxHeartbeats 8000000 in
set_option maxRecDepth 100000 in
theorem subprogram_first.calls (k : Nat) (A0 : Option Addr) (c0 : Nat) (l0 : List (S32)) (a1 : Int) (r : Int) (w : World) (hr0 : Kd.C k32 w A0 l0.length l0) (hc0 : l0.length ≤ c0) (h : subprogram_first.f k l0 a1 = some r) :
  Calls Try.prog 67 #[.slice A0 l0.length c0, .int .i64 a1] w fun e w' => e = .returned (.int .i64 r) ∧ Below w.heap.size w w' := by
 have HR0 := Aside0.mk hr0
 have HC0 := Aside0.mk hc0
 clear hr0 hc0
 have HB := Aside0.mk (Below.refl w.heap.size w)
 have H : (subprogram_first.l0 k l0 a1 0) = some r := h
 clear h
 have H' := Aside0.mk H
 clear H
 go_enter Try.func67, Try.ntmps67
 go_wp2
 go_loopg [5] k (fun kq v5 w' => ∃ (x5_1 : Int), v5 = .int .i64 x5_1 ∧ Aside0 (subprogram_first.l0 kq l0 a1 x5_1 = some r) ∧ Aside0 (kq ≤ k) ∧ Aside0 (Below w.heap.size w w'))
 case atStart => exact ⟨(0), yS, H', ⟨Nat.le_refl _⟩, ⟨yB⟩⟩
 case round =>
  clear H'
  try clear p2
  obtain ⟨x5_1, rfl, HA, HK1, HB⟩ := hrel
  cases gk with
  | zero => exact absurd HA.out (by simp [subprogram_first.l0])
  | succ k1 =>
   have H := HA.out
   clear HA
   simp only [subprogram_first.l0] at H
   by_cases c3 : (wrap64 (x5_1 + a1)) ≤ (wrap64 ((l0.length : Int) - a1))
   ·rw [if_pos c3] at H
    have c3b0 : decide ((wrap64 (x5_1 + a1)) ≤ (wrap64 ((l0.length : Int) - a1))) = true := decide_eq_true c3
    clear c3
    have H' := Aside0.mk H
    clear H
    go_wp2
    go_loopg [6] k1 (fun kq v6 w' => ∃ (x6_2 : Int), v6 = .int .i64 x6_2 ∧ Aside0 (subprogram_first.l1 kq l0 a1 x5_1 x6_2 = some r) ∧ Aside0 (kq ≤ k1) ∧ Aside0 (Below w.heap.size w w'))
    case atStart => exact ⟨(wrap64 (x5_1 + a1)), yS, H', ⟨Nat.le_refl _⟩, ⟨yB⟩⟩
    case round =>
     clear H'
     try clear p2
     try clear c3
     try clear c3b0
     try clear p2
     obtain ⟨x6_2, rfl, HA, HK2, HB⟩ := hrel
     cases gk with
     | zero => exact absurd HA.out (by simp [subprogram_first.l1])
     | succ k2 =>
      have H := HA.out
      clear HA
      simp only [subprogram_first.l1] at H
      by_cases c4 : (wrap64 (x6_2 + a1)) ≤ (l0.length : Int)
      ·rw [if_pos c4] at H
       have c4b0 : decide ((wrap64 (x6_2 + a1)) ≤ (l0.length : Int)) = true := decide_eq_true c4
       clear c4
       replace H := Option.bind_eq_some_iff.mp H
       obtain ⟨t414, A50, H⟩ := H
       replace H : (if t414 = true then (some x5_1) else (subprogram_first.l1 k2 l0 a1 x5_1 (wrap64 (x6_2 + 1)))) = some r := H
       have A5 := Aside0.mk A50
       clear A50
       by_cases c6 : t414 = true
       ·subst c6
        have H1 : (some x5_1) = some r := by rw [if_pos rfl] at H; exact H
        clear H
        have H := H1
        clear H1
        obtain rfl := Option.some.inj H
        go_wp2_with (first | ((with_reducible refine gate_callee (f := 68) rfl ?_); refine goesL_ (some 32) rfl rfl Try.func68 (by kernel_rfl) rfl #[.slice A0 l0.length c0, .int .i64 x5_1, .int .i64 x6_2, .int .i64 a1] rfl yQ ?_; (with_reducible refine (subprogram_run.calls k2 _ _ l0 x5_1 x6_2 a1 true _ ?side1 ?side2 A5.out).mono ?_); (case side1 => exact yC HR0.out); (case side2 => exact HC0.out); rintro e w7 ⟨rfl, hb⟩; refine ⟨_, rfl, ?_⟩; have n0_ := Aside0.mk (below_step yB hb); clear HB; have HB := n0_; clear n0_; (try clear hb); (try clear hb2); (try clear hk); (try clear hi)))
        go_ret
        exact ⟨by first | rfl | (simp [errW_none, errW_some] <;> rfl) | (simp [*, errW_none, errW_some] <;> rfl), yB⟩
       ·replace c6 := Bool.eq_false_iff.mpr c6
        subst c6
        have H1 : (subprogram_first.l1 k2 l0 a1 x5_1 (wrap64 (x6_2 + 1))) = some r := by rw [if_neg (show ¬ (false = true) by decide)] at H; exact H
        clear H
        have H := H1
        clear H1
        have H' := Aside0.mk H
        clear H
        go_wp2_with (first | ((with_reducible refine gate_callee (f := 68) rfl ?_); refine goesL_ (some 32) rfl rfl Try.func68 (by kernel_rfl) rfl #[.slice A0 l0.length c0, .int .i64 x5_1, .int .i64 x6_2, .int .i64 a1] rfl yQ ?_; (with_reducible refine (subprogram_run.calls k2 _ _ l0 x5_1 x6_2 a1 false _ ?side1 ?side2 A5.out).mono ?_); (case side1 => exact yC HR0.out); (case side2 => exact HC0.out); rintro e w8 ⟨rfl, hb⟩; refine ⟨_, rfl, ?_⟩; have n0_ := Aside0.mk (below_step yB hb); clear HB; have HB := n0_; clear n0_; (try clear hb); (try clear hb2); (try clear hk); (try clear hi)))
        go_roundg k2
        case measure => have := HK1.out; have := HK2.out; omega
        case rel => exact ⟨(wrap64 (x6_2 + 1)), yS, H', ⟨by have := HK1.out; have := HK2.out; omega⟩, ⟨yB⟩⟩
      ·rw [if_neg c4] at H
       have c4b0 : decide ((wrap64 (x6_2 + a1)) ≤ (l0.length : Int)) = false := decide_eq_false c4
       clear c4
       have H' := Aside0.mk H
       clear H
       go_wp2
       go_roundg k2
       case measure => have := HK1.out; have := HK2.out; omega
       case rel => exact ⟨(wrap64 (x5_1 + 1)), yS, H', ⟨by have := HK1.out; have := HK2.out; omega⟩, ⟨yB⟩⟩
   ·rw [if_neg c3] at H
    have c3b0 : decide ((wrap64 (x5_1 + a1)) ≤ (wrap64 ((l0.length : Int) - a1))) = false := decide_eq_false c3
    clear c3
    obtain rfl := Option.some.inj H
    go_wp2
    go_ret
    exact ⟨by first | rfl | (simp [errW_none, errW_some] <;> rfl) | (simp [*, errW_none, errW_some] <;> rfl), yB⟩
end Go.Proofs.Ytehkhbnhmehobaa.P
namespace Go.Proofs.Ytehkhbnhmehobaa.P
open Go.RowKit Go.Proofs.YtehkhbnhmehobaaW.PrintWords Go.Proofs.YtehkhbnhmehobaaW.PrintLast Go.Proofs.YtehkhbnhmehobaaW.PrintMore
set_option linter.unusedVariables false
set_option linter.unusedSimpArgs false
def Clone_Block.f (l0 : List (S32)) : Option ((List (S32))) := if l0.length < 2932031007402 then some l0 else none
set_option maxHeartbeats 1000000 in
set_option maxRecDepth 100000 in
theorem Clone_Block.calls (P0_ : Nat → Prop) (A0 : Option Addr) (c0 : Nat) (l0 : List (S32)) (r : List (S32)) (w : World) (hs0 : Kd.V k32 32 w w.heap.size (fun k_ => P0_ k_) (.slice A0 l0.length c0) l0) (h : Clone_Block.f l0 = some r) :
    Calls Try.prog 33 #[.slice A0 l0.length c0] w fun e w' => ∃ v0_ : Value, e = .returned (v0_) ∧ Kd.N k32 32 w' w.heap.size (fun k_ => (P0_ k_ ∨ w.heap.size ≤ k_)) v0_ r ∧ Below w.heap.size w w' := by
  unfold Clone_Block.f at h
  by_cases hl : l0.length < 2932031007402
  rotate_left
  · rw [if_neg hl] at h; cases h
  rw [if_pos hl] at h
  obtain rfl := Option.some.inj h
  have HL := Aside0.mk hl
  have HS := Aside0.mk hs0
  clear hs0 hl h
  have qT : ∀ (w : World) (a : Option Addr) (n c n' c' : Nat), (binOp .eql 35 (.slice a n c) (.slice none n' c')).run Try.prog w = .ok (.bool a.isNone) w := fun w a n c n' c' => Lib.run_eql_slice_nil w _ _ a n c n' c' Try.underlying35
  cases A0 with
  | none =>
    have h0 : l0 = [] := by
      have hc := (Kd.V_reads' HS.out).2.2
      obtain ⟨_, _, hn⟩ := hc
      cases l0 with
      | nil => rfl
      | cons x l => obtain ⟨ad, he, _⟩ := hn (by simp); cases he
    subst h0
    go_enter Try.func33, Try.ntmps33
    go_wp2
    go_ret
    exact ⟨_, rfl, Kd.N_nil _ _ _ _ _, Below.refl _ _⟩
  | some ad =>
    go_enter Try.func33, Try.ntmps33
    go_wp2_with (first | ((with_reducible refine gate_dst (N := 5) rfl ?_); refine Kd.N_lit k32 w.heap.size 32 ?hg (N' := 5) ?hd (xs := ([] : List (S32))) (inner := []) (ok := (fun k_ => (P0_ k_ ∨ w.heap.size ≤ k_))) (okp := (fun k_ => (P0_ k_ ∨ w.heap.size ≤ k_))) ?hr ?hp (fun _ hk => hk) (.inr (Nat.le_refl _)) (Below.refl _ _) (Nat.le_refl _) (by simp) ?_; (case hd => rfl); (case hg => rfl); (case hr => first | (go_simp; done) | (go_simp; rfl)); (case hp => exact (Reps.none _ _)); intro v5 w4 ho5 hb hg_ hnew_; have HO5 := Aside0.mk ho5; have HB4 := Aside0.mk hb; have HN5 := Aside0.mk (show ∃ b, v5.ownBlock = some b ∧ w.heap.size ≤ b from hnew_); have HS4 := Aside0.mk (Kd.V_elder' HS.out (Kd.N_base ho5) hb); clear hg_ hnew_ hb ho5) | ((with_reducible refine gate_builtin (b := .append) (xs := #[.tmp 5, .tmp 6]) rfl ?_); at_builtin; refine Kd.N_append_rows k32 (w0 := w) w.heap.size rfl (.tmp 5) (.tmp 6) 35 32 (.agg #[(.bool false), (.slice none 0 0), (.string ⟨#[]⟩)]) 48 rfl Try.underlying35 info32 rfl (by decide) (by omega) v5 [] l0 _ _ _ (fun k_ => (P0_ k_ ∨ w.heap.size ≤ k_)) (fun k_ => (fun k_ => (P0_ k_ ∨ w.heap.size ≤ k_)) k_ ∧ some k_ ≠ (v5 : Value).ownBlock) rfl rfl ?aO ?aR (fun _ hk => hk) ?aF ?aB ?aS ?aL ?_; (case aO => exact HO5.out); (case aR => exact Kd.V_F (Kd.V_mono HS4.out (fun k_ hk => ⟨.inl hk.1, hk.2⟩))); (case aF => exact fun k_ hk => .inr (Nat.le_trans HB4.out.size hk)); (case aB => exact HB4.out); (case aS => exact HB4.out.size); (case aL => have := HL.out; simp only [List.length_nil]; omega); intro v7 w5 ho7 hb hg_ hat_; have HO7 := Aside0.mk ho7; have HB5 := Aside0.mk hb; clear hg_ hat_ hb ho7))
    go_ret
    exact ⟨_, rfl, HO7.out, HB5.out⟩
def Clone_Word.f (l0 : List (S78)) : Option ((List (S78))) := if l0.length < 8796093022208 then some l0 else none
set_option maxHeartbeats 1000000 in
set_option maxRecDepth 100000 in
theorem Clone_Word.calls (A0 : Option Addr) (c0 : Nat) (l0 : List (S78)) (r : List (S78)) (w : World) (hr0 : Kd.C k78 w A0 l0.length l0) (hc0 : l0.length ≤ c0) (h : Clone_Word.f l0 = some r) :
    Calls Try.prog 65 #[.slice A0 l0.length c0] w fun e w' => ∃ v0_ : Value, e = .returned (v0_) ∧ Kd.R k78 78 w' w.heap.size (fun _ => True) v0_ r ∧ Below w.heap.size w w' := by
  unfold Clone_Word.f at h
  by_cases hl : l0.length < 8796093022208
  rotate_left
  · rw [if_neg hl] at h; cases h
  rw [if_pos hl] at h
  obtain rfl := Option.some.inj h
  have HL := Aside0.mk hl
  have HR := Aside0.mk hr0
  clear hr0 hl h
  have qT : ∀ (w : World) (a : Option Addr) (n c n' c' : Nat), (binOp .eql 30 (.slice a n c) (.slice none n' c')).run Try.prog w = .ok (.bool a.isNone) w := fun w a n c n' c' => Lib.run_eql_slice_nil w _ _ a n c n' c' Try.underlying30
  cases A0 with
  | none =>
    have h0 : l0 = [] := by
      obtain ⟨_, _, hn⟩ := HR.out
      cases l0 with
      | nil => rfl
      | cons x l => obtain ⟨ad, he, _⟩ := hn (by simp); cases he
    subst h0
    go_enter Try.func65, Try.ntmps65
    go_wp2
    go_ret
    exact ⟨_, rfl, Kd.R_nil _ _ _ _ _, Below.refl _ _⟩
  | some ad =>
    go_enter Try.func65, Try.ntmps65
    go_wp2_with (first | ((with_reducible refine gate_dst (N := 5) rfl ?_); refine Kd.R_lit k78 w.heap.size 78 ?hg (N := 5) ?hd (xs := ([] : List (S78))) (inner := []) (ok := (fun _ => True)) (okp := (fun _ => False)) ?hr ?hp (fun _ hk => hk.elim) trivial (Below.refl _ _) (Nat.le_refl _) (by simp) ?_; (case hd => rfl); (case hg => rfl); (case hr => first | (go_simp; done) | (go_simp; rfl)); (case hp => exact (Reps.none _ _)); intro v5 w4 ho5 hb hg_ hnew_; have HO5 := Aside0.mk ho5; have HB4 := Aside0.mk hb; have HR4 := Aside0.mk (Kd.C_below HR.out hb); clear hg_ hnew_ hb ho5) | ((with_reducible refine gate_builtin (b := .append) (xs := #[.tmp 5, .tmp 6]) rfl ?_); at_builtin; refine Kd.R_append_rows k78 (Rr := fun x c => k78.K w4 x c) (w0 := w) w.heap.size rfl (.tmp 5) (.tmp 6) 30 78 (.agg #[(.int .u8 0), (.int .i64 0)]) 16 rfl Try.underlying30 info78 rfl (by decide) (by omega) v5 [] l0 _ _ _ (fun _ => True) (fun _ => False) rfl rfl ?aO ?aR ?aK (fun _ hk => hk.elim) (fun _ _ => trivial) ?aB ?aS ?aL ?_; (case aO => exact HO5.out); (case aR => exact HR4.out); (case aK => exact fun x cs hk => by rw [k78_open hk]; exact k78_mkM _ _ _ _); (case aB => exact HB4.out); (case aS => exact HB4.out.size); (case aL => have := HL.out; simp only [List.length_nil]; omega); intro v7 w5 ho7 hb hg_ hat_; have HO7 := Aside0.mk ho7; have HB5 := Aside0.mk hb; clear hg_ hat_ hb ho7))
    go_ret
    exact ⟨_, rfl, HO7.out, HB5.out⟩
end Go.Proofs.Ytehkhbnhmehobaa.P
namespace Go.Proofs.Ytehkhbnhmehobaa.P
open Go.RowKit Go.Proofs.YtehkhbnhmehobaaW.PrintWords Go.Proofs.YtehkhbnhmehobaaW.PrintLast Go.Proofs.YtehkhbnhmehobaaW.PrintMore
attribute [local go_sem] max2_int min2_int max_two min_two max_three min_three max_four min_four
set_option linter.unusedVariables false
set_option linter.unusedSimpArgs false
mutual
def subprogram_Fold.j0 : Nat → List (S32) → Int → Int → Bool → Option ((List (S32)) × (List (S81)) × Int)
 | 0, _, _, _, _ => none
 | k + 1, x0, x1, x2, x20 => if x20 = true then (some (([] : List (S32)), ([] : List (S81)), 1)) else (if x2 ≤ (wrap64 ((x0.length : Int) / 2)) then ((subprogram_first.f k x0 x2).bind fun t416 => (subprogram_Fold.j1 k x0 x1 x2 t416)) else (subprogram_Fold.j1 k x0 x1 x2 (-1)))
def subprogram_Fold.j1 : Nat → List (S32) → Int → Int → Int → Option ((List (S32)) × (List (S81)) × Int)
 | 0, _, _, _, _ => none
 | k + 1, x0, x1, x2, x8 => if x8 < 0 then ((Clone_Block.f x0).bind fun t417 => (some (t417, ([] : List (S81)), 0))) else (subprogram_Fold.l0 k x0 x1 x2 x8 ([] : List (S32)) 0)
def subprogram_Fold.l0 : Nat → List (S32) → Int → Int → Int → List (S32) → Int → Option ((List (S32)) × (List (S81)) × Int)
 | 0, _, _, _, _, _, _ => none
 | k + 1, x0, x1, x2, x8, x9, x10 => if x10 < (x0.length : Int) then (if (wrap64 (x10 + x2)) ≤ (x0.length : Int) then ((subprogram_run.f k x0 x8 x10 x2).bind fun t420 => (if t420 = true then (if x9.length < 2932031007402 then (subprogram_Fold.l0 k x0 x1 x2 x8 (x9 ++ [(⟨false, (([(⟨77, 98000⟩ : S78), (⟨80, wrap64 (1000 * x1)⟩ : S78)] : List (S78))), (⟨#[]⟩ : ByteArray)⟩ : S32)]) (wrap64 (x10 + x2))) else (none)) else (if 0 ≤ x10 then (if x9.length < 2932031007402 then (subprogram_Fold.l0 k x0 x1 x2 x8 (x9 ++ [(⟨(rd_T32 x0 x10).f0, (rd_T32 x0 x10).f1, (rd_T32 x0 x10).f2⟩ : S32)]) (wrap64 (x10 + 1))) else (none)) else (none)))) else (if 0 ≤ x10 then (if x9.length < 2932031007402 then (subprogram_Fold.l0 k x0 x1 x2 x8 (x9 ++ [(⟨(rd_T32 x0 x10).f0, (rd_T32 x0 x10).f1, (rd_T32 x0 x10).f2⟩ : S32)]) (wrap64 (x10 + 1))) else (none)) else (none))) else (if 0 ≤ x8 then (if x8 ≤ (wrap64 (x8 + x2)) then (if (wrap64 (x8 + x2)) ≤ (x0.length : Int) then ((Clone_Block.f ((x0.take ((wrap64 (x8 + x2)) : Int).toNat).drop (x8 : Int).toNat)).bind fun t440 => (some (x9, (([(⟨x1, t440⟩ : S81)] : List (S81))), 0))) else (none)) else (none)) else (none))
end
def subprogram_Fold.f (k : Nat) (l0 : List (S32)) (a1 : Int) (a2 : Int) : Option ((List (S32)) × (List (S81)) × Int) := if a1 < 1 then (subprogram_Fold.j0 k l0 a1 a2 true) else (if a1 > 9999 then (subprogram_Fold.j0 k l0 a1 a2 true) else (subprogram_Fold.j0 k l0 a1 a2 (decide (a2 < 1))))
theorem subprogram_Fold.mono_l : ∀ k, (∀ y0 y1 y2 y3, LeO (subprogram_Fold.j0 k y0 y1 y2 y3) (subprogram_Fold.j0 (k + 1) y0 y1 y2 y3)) ∧ (∀ y0 y1 y2 y3, LeO (subprogram_Fold.j1 k y0 y1 y2 y3) (subprogram_Fold.j1 (k + 1) y0 y1 y2 y3)) ∧ (∀ y0 y1 y2 y3 y4 y5, LeO (subprogram_Fold.l0 k y0 y1 y2 y3 y4 y5) (subprogram_Fold.l0 (k + 1) y0 y1 y2 y3 y4 y5))
 | 0 => ⟨fun _ _ _ _ r h => by simp [subprogram_Fold.j0] at h, fun _ _ _ _ r h => by simp [subprogram_Fold.j1] at h, fun _ _ _ _ _ _ r h => by simp [subprogram_Fold.l0] at h⟩
 | k + 1 => by
  obtain ⟨ih0, ih1, ih2⟩ := subprogram_Fold.mono_l k
  refine ⟨?_, ?_, ?_⟩
  ·intro y0 y1 y2 y3
   unfold subprogram_Fold.j0
   repeat' first
   | (with_reducible exact ih0 _ _ _ _)
   | (with_reducible exact ih1 _ _ _ _)
   | (with_reducible exact ih2 _ _ _ _ _ _)
   | (with_reducible exact subprogram_first.mono _ _ _)
   | (with_reducible exact subprogram_run.mono _ _ _ _ _)
   | (with_reducible exact LeO.refl _)
   | (with_reducible exact LeO.none _)
   | (with_reducible refine LeO.ite ?_ ?_)
   | (with_reducible refine LeO.bind ?_ (fun _ => ?_))
   | exact ih0 _ _ _ _
   | exact ih1 _ _ _ _
   | exact ih2 _ _ _ _ _ _
   | exact subprogram_first.mono _ _ _
   | exact subprogram_run.mono _ _ _ _ _
   | exact LeO.none _
   | refine LeO.ite ?_ ?_
   | refine LeO.bind ?_ (fun _ => ?_)
  ·intro y0 y1 y2 y3
   unfold subprogram_Fold.j1
   repeat' first
   | (with_reducible exact ih0 _ _ _ _)
   | (with_reducible exact ih1 _ _ _ _)
   | (with_reducible exact ih2 _ _ _ _ _ _)
   | (with_reducible exact subprogram_first.mono _ _ _)
   | (with_reducible exact subprogram_run.mono _ _ _ _ _)
   | (with_reducible exact LeO.refl _)
   | (with_reducible exact LeO.none _)
   | (with_reducible refine LeO.ite ?_ ?_)
   | (with_reducible refine LeO.bind ?_ (fun _ => ?_))
   | exact ih0 _ _ _ _
   | exact ih1 _ _ _ _
   | exact ih2 _ _ _ _ _ _
   | exact subprogram_first.mono _ _ _
   | exact subprogram_run.mono _ _ _ _ _
   | exact LeO.none _
   | refine LeO.ite ?_ ?_
   | refine LeO.bind ?_ (fun _ => ?_)
  ·intro y0 y1 y2 y3 y4 y5
   unfold subprogram_Fold.l0
   repeat' first
   | (with_reducible exact ih0 _ _ _ _)
   | (with_reducible exact ih1 _ _ _ _)
   | (with_reducible exact ih2 _ _ _ _ _ _)
   | (with_reducible exact subprogram_first.mono _ _ _)
   | (with_reducible exact subprogram_run.mono _ _ _ _ _)
   | (with_reducible exact LeO.refl _)
   | (with_reducible exact LeO.none _)
   | (with_reducible refine LeO.ite ?_ ?_)
   | (with_reducible refine LeO.bind ?_ (fun _ => ?_))
   | exact ih0 _ _ _ _
   | exact ih1 _ _ _ _
   | exact ih2 _ _ _ _ _ _
   | exact subprogram_first.mono _ _ _
   | exact subprogram_run.mono _ _ _ _ _
   | exact LeO.none _
   | refine LeO.ite ?_ ?_
   | refine LeO.bind ?_ (fun _ => ?_)
theorem subprogram_Fold.mono : ∀ a0 a1 a2 k, LeO (subprogram_Fold.f k a0 a1 a2) (subprogram_Fold.f (k + 1) a0 a1 a2) := by
 intro a0 a1 a2 k
 obtain ⟨ih0, ih1, ih2⟩ := subprogram_Fold.mono_l k
 unfold subprogram_Fold.f
 repeat' first
   | (with_reducible exact ih0 _ _ _ _)
   | (with_reducible exact ih1 _ _ _ _)
   | (with_reducible exact ih2 _ _ _ _ _ _)
   | (with_reducible exact subprogram_first.mono _ _ _)
   | (with_reducible exact subprogram_run.mono _ _ _ _ _)
   | (with_reducible exact LeO.refl _)
   | (with_reducible exact LeO.none _)
   | (with_reducible refine LeO.ite ?_ ?_)
   | (with_reducible refine LeO.bind ?_ (fun _ => ?_))
   | exact ih0 _ _ _ _
   | exact ih1 _ _ _ _
   | exact ih2 _ _ _ _ _ _
   | exact subprogram_first.mono _ _ _
   | exact subprogram_run.mono _ _ _ _ _
   | exact LeO.none _
   | refine LeO.ite ?_ ?_
   | refine LeO.bind ?_ (fun _ => ?_)
set_option maxHeartbeats 8000000 in
set_option maxRecDepth 100000 in
theorem subprogram_Fold.calls (k : Nat) (P0_ : Nat → Prop) (A0 : Option Addr) (c0 : Nat) (l0 : List (S32)) (a1 : Int) (a2 : Int) (r1 : List (S32)) (r2 : List (S81)) (r3 : Int) (w : World) (hs0 : Kd.V k32 32 w w.heap.size (fun k_ => P0_ k_) (.slice A0 l0.length c0) l0) (h : subprogram_Fold.f k l0 a1 a2 = some (r1, r2, r3)) :
  Calls Try.prog 32 #[.slice A0 l0.length c0, .int .i64 a1, .int .i64 a2] w fun e w' => ∃ v0_ v1_ : Value, e = .returned (.tuple #[.agg #[v0_, v1_], .int .i64 r3]) ∧ Kd.N k32 32 w' w.heap.size (fun k_ => (P0_ k_ ∨ w.heap.size ≤ k_) ∧ some k_ ≠ (v1_ : Value).ownBlock) v0_ r1 ∧ Kd.N k81 81 w' w.heap.size (fun k_ => (P0_ k_ ∨ w.heap.size ≤ k_) ∧ some k_ ≠ (v0_ : Value).ownBlock) v1_ r2 ∧ Below w.heap.size w w' := by
 have hu54 := Try.underlying54
 have hu78 := Try.underlying78
 have hu32 := Try.underlying32
 have hu81 := Try.underlying81
 have HO0 := Aside0.mk (show Kd.V k32 32 w w.heap.size (fun k_ => (P0_ k_ ∨ w.heap.size ≤ k_)) (.slice A0 l0.length c0) l0 from Kd.V_mono hs0 (fun k_ hk => .inl hk))
 have HB := Aside0.mk (Below.refl w.heap.size w)
 have H : (if a1 < 1 then (subprogram_Fold.j0 k l0 a1 a2 true) else (if a1 > 9999 then (subprogram_Fold.j0 k l0 a1 a2 true) else (subprogram_Fold.j0 k l0 a1 a2 (decide (a2 < 1))))) = some (r1, r2, r3) := h
 clear h
 have HC4 := Aside0.mk H
 clear H
 go_enter Try.func32, Try.ntmps32
 go_upto_region 1 with (first | ((with_reducible refine gate_dst (N := 6) rfl ?_); refine box_event ?hg (N := 6) ?hd (cs := #[.slice none 0 0, .slice none 0 0]) (t := 54) ?hr ?_; (case hd => rfl); (case hg => rfl); (case hr => first | (go_simp; done) | (go_simp; rfl)); intro gb415 hg w5 hbox hb; have n0_ := Aside0.mk (Kd.V_below (Kd.V_elderB (by (with_reducible repeat (first | apply Kd.V_alloc | apply Kd.V_drewN | apply Kd.V_drew)); exact HO0.out) gb415 (Nat.le_of_eq hg.symm)) hb); have n1_ := Aside0.mk (below_step yB hb); have n2_ := Aside0.mk (hbox); have n3_ := Aside0.mk ((yG hg : w.heap.size ≤ gb415)); have n4_ := Aside0.mk ((yG hg : w.heap.size ≤ gb415)); clear HO0; clear HB; have HO0 := n0_; have HB := n1_; have BK415 := n2_; have GW415 := n3_; have GE415 := n4_; clear n0_ n1_ n2_ n3_ n4_; clear hb hbox hg))
 (try simp only [Act.put, List.setIfInBounds_toArray, List.set_cons_zero, List.set_cons_succ])
 go_cut [20] (fun v20 wc => ∃ (kq : Nat) (x20_3 : Bool), v20 = .bool x20_3 ∧ Aside0 (subprogram_Fold.j0 kq l0 a1 a2 x20_3 = some (r1, r2, r3)) ∧ Aside0 (kq ≤ k) ∧ Aside0 (Kd.V k32 32 wc w.heap.size (fun k_ => (P0_ k_ ∨ w.heap.size ≤ k_) ∧ k_ ≠ gb415) (.slice A0 l0.length c0) l0) ∧ Aside0 (wc.heap[gb415]? = some (.cells #[(.slice none 0 0), (.slice none 0 0)] 54 (0, 0))) ∧ Aside0 (Below w.heap.size w wc))
 case first =>
  have H := HC4.out
  clear HC4
  by_cases c6 : a1 < 1
  ·rw [if_pos c6] at H
   have c6b0 : decide (a1 < 1) = true := decide_eq_true c6
   clear c6
   (first | rw [c6b0] | (simp only [i64_w, i32_w]; rw [c6b0]) | skip)
   have H' := Aside0.mk H
   clear H
   go_wp2
   go_meet
   case rel => exact ⟨_, (true), yS, H', ⟨by first | omega | exact Nat.le_refl _⟩, ⟨by (with_reducible repeat (first | apply Kd.V_alloc | apply Kd.V_drewN | apply Kd.V_drew)); exact HO0.out⟩, ⟨by (with_reducible repeat (first | refine blk_drewN ?_ _ | refine blk_drew ?_ | refine blk_alloc ?_ _)); exact BK415.out⟩, ⟨yB⟩⟩
  ·rw [if_neg c6] at H
   have c6b0 : decide (a1 < 1) = false := decide_eq_false c6
   clear c6
   (first | rw [c6b0] | (simp only [i64_w, i32_w]; rw [c6b0]) | skip)
   by_cases c7 : a1 > 9999
   ·rw [if_pos c7] at H
    have c7b0 : decide (9999 < a1) = true := decide_eq_true c7
    clear c7
    have H' := Aside0.mk H
    clear H
    go_wp2
    go_meet
    case rel => exact ⟨_, (true), yS, H', ⟨by first | omega | exact Nat.le_refl _⟩, ⟨by (with_reducible repeat (first | apply Kd.V_alloc | apply Kd.V_drewN | apply Kd.V_drew)); exact HO0.out⟩, ⟨by (with_reducible repeat (first | refine blk_drewN ?_ _ | refine blk_drew ?_ | refine blk_alloc ?_ _)); exact BK415.out⟩, ⟨yB⟩⟩
   ·rw [if_neg c7] at H
    have c7b0 : decide (9999 < a1) = false := decide_eq_false c7
    clear c7
    have H' := Aside0.mk H
    clear H
    go_wp2
    go_meet
    case rel => exact ⟨_, (decide (a2 < 1)), yS, H', ⟨by first | omega | exact Nat.le_refl _⟩, ⟨by (with_reducible repeat (first | apply Kd.V_alloc | apply Kd.V_drewN | apply Kd.V_drew)); exact HO0.out⟩, ⟨by (with_reducible repeat (first | refine blk_drewN ?_ _ | refine blk_drew ?_ | refine blk_alloc ?_ _)); exact BK415.out⟩, ⟨yB⟩⟩
 case rest =>
  clear HC4
  try clear p2
  try clear c3
  try clear c6
  try clear c6b0
  try clear c7
  try clear c7b0
  obtain ⟨kq, x20_3, rfl, HA, HJ3, HO_0, BK415, HB⟩ := hcut
  cases kq with
  | zero => exact absurd HA.out (by simp [subprogram_Fold.j0])
  | succ kj3 =>
   have H := HA.out
   clear HA
   simp only [subprogram_Fold.j0] at H
   by_cases c8 : x20_3 = true
   ·subst c8
    have H1 : (some (([] : List (S32)), ([] : List (S81)), 1)) = some (r1, r2, r3) := by rw [if_pos rfl] at H; exact H
    clear H
    have H := H1
    clear H1
    simp only [Option.some.injEq, Prod.mk.injEq] at H
    obtain ⟨rfl, rfl, rfl⟩ := H
    have hcz9_0 : wc.cell? ⟨gb415, 0, none⟩ = some (.slice none 0 0) := (blk_cell BK415.out 0).trans rfl
    have hcz9_1 : wc.cell? ⟨gb415, 1, none⟩ = some (.slice none 0 0) := (blk_cell BK415.out 1).trans rfl
    have hfz9_0 := blk_frozen BK415.out 0
    have hfz9_1 := blk_frozen BK415.out 1
    go_wp2
    refine bodyPost_ret (results_ct rfl _ _ gb415 54 #[.slice none 0 0, .slice none 0 0] (0, 0) _ rfl (by (with_reducible repeat (first | refine blk_drewN ?_ _ | refine blk_drew ?_ | refine blk_alloc ?_ _)); refine blk_put (cs := #[.slice none 0 0, .slice none 0 0]) ?_ 1 _ rfl; (with_reducible repeat (first | refine blk_drewN ?_ _ | refine blk_drew ?_ | refine blk_alloc ?_ _)); refine blk_put (cs := #[.slice none 0 0, .slice none 0 0]) ?_ 0 _ rfl; (with_reducible repeat (first | refine blk_drewN ?_ _ | refine blk_drew ?_ | refine blk_alloc ?_ _)); exact BK415.out) Try.underlying54 rfl (by kernel_rfl)) rfl ?_
    exact ⟨_, _, by first | rfl | (simp [errW_none, errW_some] <;> rfl) | (simp [*, errW_none, errW_some] <;> rfl), by first | exact Kd.S_nil _ _ _ _ _ | exact Kd.N_nil _ _ _ _ _ | exact Kd.V_nil _ _ _ _ _ | exact Kd.Q_nil _ _ _ _ _ | exact Kd.R_nil _ _ _ _ _, by first | exact Kd.R_nil _ _ _ _ _ | exact Kd.N_nil _ _ _ _ _ | exact Kd.V_nil _ _ _ _ _ | exact Kd.Q_nil _ _ _ _ _ | exact Kd.S_nil _ _ _ _ _, yB⟩
   ·replace c8 := Bool.eq_false_iff.mpr c8
    subst c8
    have H1 : (if a2 ≤ (wrap64 ((l0.length : Int) / 2)) then ((subprogram_first.f kj3 l0 a2).bind fun t416 => (subprogram_Fold.j1 kj3 l0 a1 a2 t416)) else (subprogram_Fold.j1 kj3 l0 a1 a2 (-1))) = some (r1, r2, r3) := by rw [if_neg (show ¬ (false = true) by decide)] at H; exact H
    clear H
    have H := H1
    clear H1
    have HC10 := Aside0.mk H
    clear H
    go_upto_if 26 with (fail)
    go_cut [8] (fun v8 wc => ∃ (kq : Nat) (x8_9 : Int), v8 = .int .i64 x8_9 ∧ Aside0 (subprogram_Fold.j1 kq l0 a1 a2 x8_9 = some (r1, r2, r3)) ∧ Aside0 (kq ≤ kj3) ∧ Aside0 (Kd.V k32 32 wc w.heap.size (fun k_ => (P0_ k_ ∨ w.heap.size ≤ k_) ∧ k_ ≠ gb415) (.slice A0 l0.length c0) l0) ∧ Aside0 (wc.heap[gb415]? = some (.cells #[(.slice none 0 0), (.slice none 0 0)] 54 (0, 0))) ∧ Aside0 (Below w.heap.size w wc))
    case first =>
     have H := HC10.out
     clear HC10
     by_cases c11 : a2 ≤ (wrap64 ((l0.length : Int) / 2))
     ·rw [if_pos c11] at H
      have c11b0 : decide (a2 ≤ (wrap64 ((l0.length : Int) / 2))) = true := decide_eq_true c11
      clear c11
      (first | rw [c11b0] | (simp only [i64_w, i32_w]; rw [c11b0]) | skip)
      replace H := Option.bind_eq_some_iff.mp H
      obtain ⟨t416, A120, H⟩ := H
      replace H : (subprogram_Fold.j1 kj3 l0 a1 a2 t416) = some (r1, r2, r3) := H
      have A12 := Aside0.mk A120
      clear A120
      have H' := Aside0.mk H
      clear H
      go_wp2_with (first | ((with_reducible refine gate_callee (f := 67) rfl ?_); refine goesL_ (some 29) rfl rfl Try.func67 (by kernel_rfl) rfl #[.slice A0 l0.length c0, .int .i64 a2] rfl yQ ?_; (with_reducible refine (subprogram_first.calls kj3 _ _ l0 a2 t416 _ ?side1 ?side2 A12.out).mono ?_); (case side1 => repeat (first | exact (Kd.V_reads' HO_0.out).2.2 | (with_reducible refine Kd.C_alloc ?_ _) | (with_reducible refine Kd.C_drewN ?_ _) | (with_reducible refine Kd.C_drew ?_))); (case side2 => exact (Kd.V_reads' HO_0.out).2.1); rintro e w13 ⟨rfl, hb⟩; refine ⟨_, rfl, ?_⟩; have n0_ := Aside0.mk (Kd.V_below (by (with_reducible repeat (first | apply Kd.V_alloc | apply Kd.V_drewN | apply Kd.V_drew)); exact HO_0.out) hb); have n1_ := Aside0.mk (blk_below (g := gb415) (o := .cells #[.slice none 0 0, .slice none 0 0] 54 (0, 0)) yK hb); have n2_ := Aside0.mk (below_step yB hb); clear HO_0; clear BK415; clear HB; have HO_0 := n0_; have BK415 := n1_; have HB := n2_; clear n0_ n1_ n2_; (try clear hb); (try clear hb2); (try clear hk); (try clear hi)))
      go_meet
      case rel => exact ⟨_, (t416), yS, H', ⟨by have := HJ3.out; first | omega | exact Nat.le_refl _⟩, ⟨by (with_reducible repeat (first | apply Kd.V_alloc | apply Kd.V_drewN | apply Kd.V_drew)); exact HO_0.out⟩, ⟨by (with_reducible repeat (first | refine blk_drewN ?_ _ | refine blk_drew ?_ | refine blk_alloc ?_ _)); exact BK415.out⟩, ⟨yB⟩⟩
     ·rw [if_neg c11] at H
      have c11b0 : decide (a2 ≤ (wrap64 ((l0.length : Int) / 2))) = false := decide_eq_false c11
      clear c11
      (first | rw [c11b0] | (simp only [i64_w, i32_w]; rw [c11b0]) | skip)
      have H' := Aside0.mk H
      clear H
      go_wp2
      go_meet
      case rel => exact ⟨_, ((-1)), yS, H', ⟨by have := HJ3.out; first | omega | exact Nat.le_refl _⟩, ⟨by (with_reducible repeat (first | apply Kd.V_alloc | apply Kd.V_drewN | apply Kd.V_drew)); exact HO_0.out⟩, ⟨by (with_reducible repeat (first | refine blk_drewN ?_ _ | refine blk_drew ?_ | refine blk_alloc ?_ _)); exact BK415.out⟩, ⟨yB⟩⟩
    case rest =>
     clear HC10
     try clear c1
     try clear p2
     try clear c3
     try clear c6
     try clear c6b0
     try clear p6
     try clear c7
     try clear c7b0
     try clear c8
     try clear c11
     try clear c11b0
     try clear hcz9_0
     try clear hcz9_1
     try clear hfz9_0
     try clear hfz9_1
     try clear p2
     obtain ⟨kq, x8_9, rfl, HA, HJ9, HO_0, BK415, HB⟩ := hcut
     cases kq with
     | zero => exact absurd HA.out (by simp [subprogram_Fold.j1])
     | succ kj9 =>
      have H := HA.out
      clear HA
      simp only [subprogram_Fold.j1] at H
      by_cases c14 : x8_9 < 0
      ·rw [if_pos c14] at H
       have c14b0 : decide (x8_9 < 0) = true := decide_eq_true c14
       clear c14
       replace H := Option.bind_eq_some_iff.mp H
       obtain ⟨t417, A150, H⟩ := H
       replace H : (some (t417, ([] : List (S81)), 0)) = some (r1, r2, r3) := H
       have A15 := Aside0.mk A150
       clear A150
       simp only [Option.some.injEq, Prod.mk.injEq] at H
       obtain ⟨rfl, rfl, rfl⟩ := H
       go_wp2_with (first | ((with_reducible refine gate_callee (f := 33) rfl ?_); refine goesL_ (some 33) rfl rfl Try.func33 (by kernel_rfl) rfl #[.slice A0 l0.length c0] rfl yQ ?_; (with_reducible refine (Clone_Block.calls (fun k_ => ((P0_ k_ ∨ w.heap.size ≤ k_) ∧ k_ ≠ gb415)) _ _ l0 t417 _ ?side1 A15.out).mono ?_); (case side1 => exact HO_0.out); rintro e w16 ⟨v418, rfl, ho0, hb⟩; refine ⟨_, rfl, ?_⟩; have n0_ := Aside0.mk (Kd.V_elder' (by (with_reducible repeat (first | apply Kd.V_alloc | apply Kd.V_drewN | apply Kd.V_drew)); exact HO_0.out) (by first | exact Kd.N_base ho0 | exact Kd.S_base ho0) hb); have n1_ := Aside0.mk (Kd.N_lower (Kd.N_mono (ok' := fun k_ => (P0_ k_ ∨ w.heap.size ≤ k_) ∧ k_ ≠ gb415) ho0 (fun k_ hk_ => ⟨Or.elim hk_ (fun hs_ => hs_.1) (fun hn_ => (.inr (Nat.le_trans (below_size yB) hn_))), Or.elim hk_ (fun hs_ => hs_.2) (fun hn_ => (Kd.freshB (g := gb415) (o := .cells #[.slice none 0 0, .slice none 0 0] 54 (0, 0)) yK k_ hn_))⟩)) (below_size yB)); have n2_ := Aside0.mk (blk_below (g := gb415) (o := .cells #[.slice none 0 0, .slice none 0 0] 54 (0, 0)) yK hb); have n3_ := Aside0.mk (below_step yB hb); clear HO_0; clear BK415; clear HB; have HO_0 := n0_; have HO419 := n1_; have BK415 := n2_; have HB := n3_; clear n0_ n1_ n2_ n3_; (try clear hb); (try clear hb2); (try clear hk); (try clear hi); (try clear ho0); obtain ⟨Ao17, co17, eo17⟩ := Kd.N_slice HO419.out; subst eo17; have hcz18_0 : w16.cell? ⟨gb415, 0, none⟩ = some (.slice none 0 0) := (blk_cell BK415.out 0).trans rfl; have hcz18_1 : w16.cell? ⟨gb415, 1, none⟩ = some (.slice none 0 0) := (blk_cell BK415.out 1).trans rfl; have hfz18_0 := blk_frozen BK415.out 0; have hfz18_1 := blk_frozen BK415.out 1))
       refine bodyPost_ret (results_ct rfl _ _ gb415 54 #[.slice Ao17 t417.length co17, .slice none 0 0] (0, 0) _ rfl (by (with_reducible repeat (first | refine blk_drewN ?_ _ | refine blk_drew ?_ | refine blk_alloc ?_ _)); refine blk_put (cs := #[.slice Ao17 t417.length co17, .slice none 0 0]) ?_ 1 _ rfl; (with_reducible repeat (first | refine blk_drewN ?_ _ | refine blk_drew ?_ | refine blk_alloc ?_ _)); refine blk_put (cs := #[.slice none 0 0, .slice none 0 0]) ?_ 0 _ rfl; (with_reducible repeat (first | refine blk_drewN ?_ _ | refine blk_drew ?_ | refine blk_alloc ?_ _)); exact BK415.out) Try.underlying54 rfl (by kernel_rfl)) rfl ?_
       exact ⟨_, _, by first | rfl | (simp [errW_none, errW_some] <;> rfl) | (simp [*, errW_none, errW_some] <;> rfl), by (with_reducible repeat (first | apply Kd.N_alloc | apply Kd.N_drewN | apply Kd.N_drew)); exact Kd.N_mono (Kd.N_far (p := ⟨gb415, 1, none⟩) (Kd.N_far (p := ⟨gb415, 0, none⟩) (Kd.N_mono HO419.out (fun k_ hk => (⟨hk, hk.2⟩ : _ ∧ k_ ≠ gb415))) (fun _ hk => hk.2) (.slice Ao17 t417.length co17)) (fun _ hk => hk.2) (.slice none 0 0)) (fun _ hk => ⟨hk.1.1, (by simp [Value.ownBlock])⟩), by first | exact Kd.R_nil _ _ _ _ _ | exact Kd.N_nil _ _ _ _ _ | exact Kd.V_nil _ _ _ _ _ | exact Kd.Q_nil _ _ _ _ _ | exact Kd.S_nil _ _ _ _ _, yB⟩
      ·rw [if_neg c14] at H
       have c14b0 : decide (x8_9 < 0) = false := decide_eq_false c14
       clear c14
       have H' := Aside0.mk H
       clear H
       go_wp2
       go_loopg [9, 10] kj9 (fun kq v9 v10 w' => ∃ (x9_3 : List (S32)) (x10_3 : Int), v10 = .int .i64 x10_3 ∧ Aside0 (subprogram_Fold.l0 kq l0 a1 a2 x8_9 x9_3 x10_3 = some (r1, r2, r3)) ∧ Aside0 (kq ≤ kj9) ∧ Aside0 (Kd.V k32 32 w' w.heap.size (fun k_ => (P0_ k_ ∨ w.heap.size ≤ k_) ∧ some k_ ≠ (v9 : Value).ownBlock ∧ k_ ≠ gb415) (.slice A0 l0.length c0) l0) ∧ Aside0 (Kd.N k32 32 w' w.heap.size (fun k_ => (P0_ k_ ∨ w.heap.size ≤ k_) ∧ k_ ≠ gb415) v9 x9_3) ∧ Aside0 (w'.heap[gb415]? = some (.cells #[(.slice none 0 0), (.slice none 0 0)] 54 (0, 0))) ∧ Aside0 (Below w.heap.size w w'))
       case atStart => exact ⟨(([] : List (S32))), (0), yS, H', ⟨Nat.le_refl _⟩, ⟨by (with_reducible repeat (first | apply Kd.V_alloc | apply Kd.V_drewN | apply Kd.V_drew)); exact Kd.V_mono HO_0.out (fun _ hk => ⟨hk.1, ⟨(by simp [Value.ownBlock]), hk.2⟩⟩)⟩, ⟨by first | exact Kd.S_nil _ _ _ _ _ | exact Kd.N_nil _ _ _ _ _ | exact Kd.V_nil _ _ _ _ _ | exact Kd.Q_nil _ _ _ _ _ | exact Kd.R_nil _ _ _ _ _⟩, ⟨by (with_reducible repeat (first | refine blk_drewN ?_ _ | refine blk_drew ?_ | refine blk_alloc ?_ _)); exact BK415.out⟩, ⟨yB⟩⟩
       case round =>
        clear H'
        try clear c1
        try clear p2
        try clear c3
        try clear c6
        try clear c6b0
        try clear p6
        try clear c7
        try clear c7b0
        try clear c8
        try clear c11
        try clear c11b0
        try clear c14
        try clear c14b0
        try clear hcz18_0
        try clear hcz18_1
        try clear hcz9_0
        try clear hcz9_1
        try clear hfz18_0
        try clear hfz18_1
        try clear hfz9_0
        try clear hfz9_1
        try clear p2
        try clear p6
        obtain ⟨x9_3, x10_3, rfl, HA, HK3, HO_0, HO_9, BK415, HB⟩ := hrel
        cases gk with
        | zero => exact absurd HA.out (by simp [subprogram_Fold.l0])
        | succ k3 =>
         have H := HA.out
         clear HA
         simp only [subprogram_Fold.l0] at H
         by_cases c19 : x10_3 < (l0.length : Int)
         ·rw [if_pos c19] at H
          have c19b0 : decide (x10_3 < (l0.length : Int)) = true := decide_eq_true c19
          clear c19
          by_cases c20 : (wrap64 (x10_3 + a2)) ≤ (l0.length : Int)
          ·rw [if_pos c20] at H
           have c20b0 : decide ((wrap64 (x10_3 + a2)) ≤ (l0.length : Int)) = true := decide_eq_true c20
           clear c20
           replace H := Option.bind_eq_some_iff.mp H
           obtain ⟨t420, A210, H⟩ := H
           replace H : (if t420 = true then (if x9_3.length < 2932031007402 then (subprogram_Fold.l0 k3 l0 a1 a2 x8_9 (x9_3 ++ [(⟨false, (([(⟨77, 98000⟩ : S78), (⟨80, wrap64 (1000 * a1)⟩ : S78)] : List (S78))), (⟨#[]⟩ : ByteArray)⟩ : S32)]) (wrap64 (x10_3 + a2))) else (none)) else (if 0 ≤ x10_3 then (if x9_3.length < 2932031007402 then (subprogram_Fold.l0 k3 l0 a1 a2 x8_9 (x9_3 ++ [(⟨(rd_T32 l0 x10_3).f0, (rd_T32 l0 x10_3).f1, (rd_T32 l0 x10_3).f2⟩ : S32)]) (wrap64 (x10_3 + 1))) else (none)) else (none))) = some (r1, r2, r3) := H
           have A21 := Aside0.mk A210
           clear A210
           by_cases c22 : t420 = true
           ·subst c22
            have H1 : (if x9_3.length < 2932031007402 then (subprogram_Fold.l0 k3 l0 a1 a2 x8_9 (x9_3 ++ [(⟨false, (([(⟨77, 98000⟩ : S78), (⟨80, wrap64 (1000 * a1)⟩ : S78)] : List (S78))), (⟨#[]⟩ : ByteArray)⟩ : S32)]) (wrap64 (x10_3 + a2))) else (none)) = some (r1, r2, r3) := by rw [if_pos rfl] at H; exact H
            clear H
            have H := H1
            clear H1
            obtain ⟨y421, hy421⟩ : ∃ y_ : List (S78), y_ = (([(⟨77, 98000⟩ : S78), (⟨80, wrap64 (1000 * a1)⟩ : S78)] : List (S78))) := ⟨_, rfl⟩
            replace H : (if x9_3.length < 2932031007402 then (subprogram_Fold.l0 k3 l0 a1 a2 x8_9 (x9_3 ++ [(⟨false, y421, (⟨#[]⟩ : ByteArray)⟩ : S32)]) (wrap64 (x10_3 + a2))) else (none)) = some (r1, r2, r3) := by first | (rw [hy421]; with_reducible exact H) | (have H2_ := (Option.bind_some _ _).symm.trans H; rw [hy421]; with_reducible exact H2_) | (have H2_ := (Option.bind_some _ _).symm.trans H; with_reducible exact H2_) | with_reducible exact H | (rw [hy421]; exact H) | exact H
            have Ny421 := Aside0.mk hy421
            clear hy421
            by_cases c23 : x9_3.length < 2932031007402
            ·rw [if_pos c23] at H
             have LMc23 := Aside0.mk c23
             clear c23
             obtain ⟨y424, hy424⟩ : ∃ y_ : List (S32), y_ = (x9_3 ++ [(⟨false, y421, (⟨#[]⟩ : ByteArray)⟩ : S32)]) := ⟨_, rfl⟩
             replace H : (subprogram_Fold.l0 k3 l0 a1 a2 x8_9 y424 (wrap64 (x10_3 + a2))) = some (r1, r2, r3) := by first | (rw [hy424]; with_reducible exact H) | (have H2_ := (Option.bind_some _ _).symm.trans H; rw [hy424]; with_reducible exact H2_) | (have H2_ := (Option.bind_some _ _).symm.trans H; with_reducible exact H2_) | with_reducible exact H | (rw [hy424]; exact H) | exact H
             have Ny424 := Aside0.mk hy424
             clear hy424
             have H' := Aside0.mk H
             clear H
             go_wp2_with (first | (go_at_call 68; (with_reducible refine (subprogram_run.calls k3 _ _ l0 x8_9 x10_3 a2 true _ ?side1 ?side2 A21.out).mono ?_); (case side1 => repeat (first | exact (Kd.V_reads' HO_0.out).2.2 | (with_reducible refine Kd.C_alloc ?_ _) | (with_reducible refine Kd.C_drewN ?_ _) | (with_reducible refine Kd.C_drew ?_))); (case side2 => exact (Kd.V_reads' HO_0.out).2.1); rintro e w24 ⟨rfl, hb⟩; have n0_ := Aside0.mk (Kd.V_below (by (with_reducible repeat (first | apply Kd.V_alloc | apply Kd.V_drewN | apply Kd.V_drew)); exact HO_0.out) hb); have n1_ := Aside0.mk (Kd.N_below (by (with_reducible repeat (first | apply Kd.N_alloc | apply Kd.N_drewN | apply Kd.N_drew)); exact HO_9.out) hb); have n2_ := Aside0.mk (blk_below (g := gb415) (o := .cells #[.slice none 0 0, .slice none 0 0] 54 (0, 0)) yK hb); have n3_ := Aside0.mk (below_step yB hb); clear HO_0; clear HO_9; clear BK415; clear HB; have HO_0 := n0_; have HO_9 := n1_; have BK415 := n2_; have HB := n3_; clear n0_ n1_ n2_ n3_; (try clear hb); (try clear hb2); (try clear hk); (try clear hi)) | ((with_reducible refine gate_dst (N := 57) rfl ?_); refine Kd.R_lit k78 _ 78 ?hg (N := 57) ?hd (xs := ([(⟨77, 98000⟩ : S78), (⟨80, wrap64 (1000 * a1)⟩ : S78)] : List (S78))) (inner := [.int .u8 77, .int .i64 98000, .int .u8 80, .int .i64 (wrap64 (1000 * a1))]) (ok := fun _ => True) (okp := fun _ => True) ?hr ?hp (fun _ hk => hk) trivial (Below.refl _ _) (Nat.le_refl _) (by simp) ?_; (case hd => rfl); (case hg => rfl); (case hr => first | (go_simp; done) | (go_simp; rfl)); (case hp => exact (Reps.c2 (show Kd.M k78 _ _ _ (⟨77, 98000⟩ : S78) [.int .u8 77, .int .i64 98000] from (k78_mkM _ _ _ (⟨77, 98000⟩ : S78) )) (Reps.c2 (show Kd.M k78 _ _ _ (⟨80, wrap64 (1000 * a1)⟩ : S78) [.int .u8 80, .int .i64 (wrap64 (1000 * a1))] from (k78_mkM _ _ _ (⟨80, wrap64 (1000 * a1)⟩ : S78) )) (Reps.none _ _)))); intro v422 w25 ho26 hb hg_ hnew_; clear hg_ hnew_; (first | rw [← Ny421.out] at ho26 | (simp only [Int.reduceToNat] at ho26; rw [← Ny421.out] at ho26)); have n0_ := Aside0.mk (Kd.V_elder' (by (with_reducible repeat (first | apply Kd.V_alloc | apply Kd.V_drewN | apply Kd.V_drew)); exact HO_0.out) (Kd.R_base ho26) hb); have n1_ := Aside0.mk (Kd.N_elder' (by (with_reducible repeat (first | apply Kd.N_alloc | apply Kd.N_drewN | apply Kd.N_drew)); exact HO_9.out) (Kd.R_base ho26) hb); have n2_ := Aside0.mk (Kd.R_lower (Kd.R_newM (M := fun k_ => (w.heap.size ≤ k_)) ho26 (below_size yB) (fun k_ h_ => h_)) (below_size yB)); have n3_ := Aside0.mk (blk_below (g := gb415) (o := .cells #[.slice none 0 0, .slice none 0 0] 54 (0, 0)) yK hb); have n4_ := Aside0.mk (below_step yB hb); clear HO_0; clear HO_9; clear BK415; clear HB; have HO_0 := n0_; have HO_9 := n1_; have HO423 := n2_; have BK415 := n3_; have HB := n4_; clear n0_ n1_ n2_ n3_ n4_; clear hb ho26; obtain ⟨Ao27, co27, eo27⟩ := Kd.R_slice HO423.out; subst eo27) | ((with_reducible refine gate_builtin (b := .append) (xs := #[.tmp 52, .tmp 59]) rfl ?_); at_builtin; refine Kd.N_append k32 (w0 := w) w.heap.size rfl (.tmp 52) (.tmp 59) 35 32 (.agg #[(.bool false), (.slice none 0 0), (.string ⟨#[]⟩)]) 48 rfl Try.underlying35 info32 rfl (by decide) (by omega) u9 x9_3 (⟨false, y421, (⟨#[]⟩ : ByteArray)⟩ : S32) [.bool false, .slice Ao27 y421.length co27, .string (⟨#[]⟩ : ByteArray)] (fun k_ => (P0_ k_ ∨ w.heap.size ≤ k_) ∧ k_ ≠ gb415) (fun k_ => ((fun k_ => (P0_ k_ ∨ w.heap.size ≤ k_) ∧ k_ ≠ gb415)) k_ ∧ some k_ ≠ (u9 : Value).ownBlock) rfl rfl ?aP (fun _ hk => hk) ?aF ?aO ?aB ?aS ?aL ?_; (case aP => exact (k32_mkF _ _ (⟨false, y421, (⟨#[]⟩ : ByteArray)⟩ : S32) (Kd.R_reads' (Kd.R_mono (ok' := (fun k_ => ((fun k_ => (P0_ k_ ∨ w.heap.size ≤ k_) ∧ k_ ≠ gb415)) k_ ∧ some k_ ≠ (u9 : Value).ownBlock)) (Kd.R_types (Kd.R_apart' (HO423.out) (Kd.N_typed HO_9.out) (by decide)) BK415.out (by decide)) (fun k_ hk => ⟨⟨(.inr (hk.1.1.1)), hk.2⟩, hk.1.2⟩))).2.1 (Kd.R_F (Kd.R_mono (ok' := (fun k_ => ((fun k_ => (P0_ k_ ∨ w.heap.size ≤ k_) ∧ k_ ≠ gb415)) k_ ∧ some k_ ≠ (u9 : Value).ownBlock)) (Kd.R_types (Kd.R_apart' (HO423.out) (Kd.N_typed HO_9.out) (by decide)) BK415.out (by decide)) (fun k_ hk => ⟨⟨(.inr (hk.1.1.1)), hk.2⟩, hk.1.2⟩))))); (case aB => exact yB); (case aF => exact (fun k_ hk => ⟨(.inr (Nat.le_trans (below_size yB) hk)), Kd.freshB (g := gb415) (o := .cells #[.slice none 0 0, .slice none 0 0] 54 (0, 0)) yK k_ hk⟩)); (case aO => exact (by (with_reducible repeat (first | apply Kd.N_alloc | apply Kd.N_drewN | apply Kd.N_drew)); exact Kd.N_mono HO_9.out (fun _ hk => ⟨hk.1.1, hk.1.2⟩))); (case aS => exact (below_size yB)); (case aL => have := LMc23.out; omega); intro v425 w28 ho hb hg hat; rw [← Ny424.out] at ho; have n0_ := Aside0.mk (Kd.V_afterv (ok := (fun k_ => (P0_ k_ ∨ w.heap.size ≤ k_) ∧ some k_ ≠ (.slice Ao27 y421.length co27 : Value).ownBlock ∧ k_ ≠ gb415)) (by (with_reducible repeat (first | apply Kd.V_alloc | apply Kd.V_drewN | apply Kd.V_drew)); exact Kd.V_mono HO_0.out (fun _ hk => ⟨⟨hk.1.1, ⟨hk.2, hk.1.2.2⟩⟩, hk.1.2.1⟩)) hg hat); have n1_ := Aside0.mk (blk_grown (g := gb415) (o := .cells #[.slice none 0 0, .slice none 0 0] 54 (0, 0)) yK hg (Kd.N_ne HO_9.out BK415.out (by decide))); have n2_ := Aside0.mk (hb); have n3_ := Aside0.mk (ho); clear HO_0; clear BK415; clear HB; clear HO_9; clear HO423; have HO_0 := n0_; have BK415 := n1_; have HB := n2_; have HO426 := n3_; clear n0_ n1_ n2_ n3_; clear ho hb hg hat))
             go_roundg k3
             case measure => have := HJ3.out; have := HJ9.out; have := HK3.out; omega
             case rel => exact ⟨(y424), (wrap64 (x10_3 + a2)), yS, H', ⟨by have := HJ3.out; have := HJ9.out; have := HK3.out; omega⟩, ⟨by (with_reducible repeat (first | apply Kd.V_alloc | apply Kd.V_drewN | apply Kd.V_drew)); exact Kd.V_mono HO_0.out (fun _ hk => ⟨hk.1.1, ⟨hk.2, hk.1.2.2⟩⟩)⟩, ⟨by (with_reducible repeat (first | apply Kd.N_alloc | apply Kd.N_drewN | apply Kd.N_drew)); exact HO426.out⟩, ⟨by (with_reducible repeat (first | refine blk_drewN ?_ _ | refine blk_drew ?_ | refine blk_alloc ?_ _)); exact BK415.out⟩, ⟨yB⟩⟩
            ·rw [if_neg c23] at H
             exact absurd H (by simp)
           ·replace c22 := Bool.eq_false_iff.mpr c22
            subst c22
            have H1 : (if 0 ≤ x10_3 then (if x9_3.length < 2932031007402 then (subprogram_Fold.l0 k3 l0 a1 a2 x8_9 (x9_3 ++ [(⟨(rd_T32 l0 x10_3).f0, (rd_T32 l0 x10_3).f1, (rd_T32 l0 x10_3).f2⟩ : S32)]) (wrap64 (x10_3 + 1))) else (none)) else (none)) = some (r1, r2, r3) := by rw [if_neg (show ¬ (false = true) by decide)] at H; exact H
            clear H
            have H := H1
            clear H1
            by_cases c29 : 0 ≤ x10_3
            ·rw [if_pos c29] at H
             have c29b0 : decide (0 ≤ x10_3) = true := decide_eq_true c29
             clear c29
             by_cases c30 : x9_3.length < 2932031007402
             ·rw [if_pos c30] at H
              have LMc30 := Aside0.mk c30
              clear c30
              obtain ⟨y428, hy428⟩ : ∃ y_ : List (S32), y_ = (x9_3 ++ [(⟨(rd_T32 l0 x10_3).f0, (rd_T32 l0 x10_3).f1, (rd_T32 l0 x10_3).f2⟩ : S32)]) := ⟨_, rfl⟩
              replace H : (subprogram_Fold.l0 k3 l0 a1 a2 x8_9 y428 (wrap64 (x10_3 + 1))) = some (r1, r2, r3) := by first | (rw [hy428]; with_reducible exact H) | (have H2_ := (Option.bind_some _ _).symm.trans H; rw [hy428]; with_reducible exact H2_) | (have H2_ := (Option.bind_some _ _).symm.trans H; with_reducible exact H2_) | with_reducible exact H | (rw [hy428]; exact H) | exact H
              have Ny428 := Aside0.mk hy428
              clear hy428
              have H' := Aside0.mk H
              clear H
              go_wp2_with (first | (go_at_call 68; (with_reducible refine (subprogram_run.calls k3 _ _ l0 x8_9 x10_3 a2 false _ ?side1 ?side2 A21.out).mono ?_); (case side1 => repeat (first | exact (Kd.V_reads' HO_0.out).2.2 | (with_reducible refine Kd.C_alloc ?_ _) | (with_reducible refine Kd.C_drewN ?_ _) | (with_reducible refine Kd.C_drew ?_))); (case side2 => exact (Kd.V_reads' HO_0.out).2.1); rintro e w31 ⟨rfl, hb⟩; have n0_ := Aside0.mk (Kd.V_below (by (with_reducible repeat (first | apply Kd.V_alloc | apply Kd.V_drewN | apply Kd.V_drew)); exact HO_0.out) hb); have n1_ := Aside0.mk (Kd.N_below (by (with_reducible repeat (first | apply Kd.N_alloc | apply Kd.N_drewN | apply Kd.N_drew)); exact HO_9.out) hb); have n2_ := Aside0.mk (blk_below (g := gb415) (o := .cells #[.slice none 0 0, .slice none 0 0] 54 (0, 0)) yK hb); have n3_ := Aside0.mk (below_step yB hb); clear HO_0; clear HO_9; clear BK415; clear HB; have HO_0 := n0_; have HO_9 := n1_; have BK415 := n2_; have HB := n3_; clear n0_ n1_ n2_ n3_; (try clear hb); (try clear hb2); (try clear hk); (try clear hi); have p427 : 0 ≤ (x10_3 : Int) := of_decide_eq_true yP; have q427 : x10_3 < (l0.length : Int) := of_decide_eq_true yP; obtain ⟨ad427, A427_1, c427_1, e427, hx427_0, hx427_1, hx427_2, hl427_1, hi427_1⟩ := at_T32 (Kd.V_reads' HO_0.out).2.2 x10_3 p427 q427; cases e427; obtain ⟨ce427, hce427, hMe427, hcc427⟩ := Kd.V_get HO_0.out z32 x10_3 p427 (by first | exact q427 | exact of_decide_eq_true yP | (have e_ := (Kd.V_reads' HO_0.out).1; omega)); obtain ⟨ua427_1, uc427_1, rfl, ul427_1, ge427_1⟩ := k32_openF hMe427; have hv427_1 := hcc427 1 _ rfl; rw [add_field _ _ 1 (by omega)] at hv427_1; replace hv427_1 := Option.some.inj (hv427_1.symm.trans hx427_1); injection hv427_1 with hva_ hvn_ hvc_; rw [hva_] at ge427_1; rw [hvc_] at ul427_1; have HL427_1 := Aside0.mk (show Kd.V k78 78 _ w.heap.size _ _ ((rd_T32 l0 x10_3).f1) from Kd.V_mk ul427_1 ge427_1); clear hva_ hvn_ hvc_ ge427_1 ul427_1; clear hcc427 hce427; have HR427_1 := Aside0.mk hi427_1; have HC427_1 := Aside0.mk hl427_1; clear hi427_1 hl427_1; replace p427 := eq_true p427; replace q427 := eq_true q427) | ((with_reducible refine gate_builtin (b := .append) (xs := #[.tmp 64, .tmp 69]) rfl ?_); at_builtin; refine Kd.N_append k32 (w0 := w) w.heap.size rfl (.tmp 64) (.tmp 69) 35 32 (.agg #[(.bool false), (.slice none 0 0), (.string ⟨#[]⟩)]) 48 rfl Try.underlying35 info32 rfl (by decide) (by omega) u9 x9_3 (⟨(rd_T32 l0 x10_3).f0, (rd_T32 l0 x10_3).f1, (rd_T32 l0 x10_3).f2⟩ : S32) [.bool ((rd_T32 l0 x10_3).f0), .slice A427_1 ((rd_T32 l0 x10_3).f1).length c427_1, .string ((rd_T32 l0 x10_3).f2)] (fun k_ => (P0_ k_ ∨ w.heap.size ≤ k_) ∧ k_ ≠ gb415) (fun k_ => ((fun k_ => (P0_ k_ ∨ w.heap.size ≤ k_) ∧ k_ ≠ gb415)) k_ ∧ some k_ ≠ (u9 : Value).ownBlock) rfl rfl ?aP (fun _ hk => hk) ?aF ?aO ?aB ?aS ?aL ?_; (case aP => exact (k32_mkF _ _ (⟨(rd_T32 l0 x10_3).f0, (rd_T32 l0 x10_3).f1, (rd_T32 l0 x10_3).f2⟩ : S32) (Kd.V_reads' (Kd.V_mono (ok' := (fun k_ => ((fun k_ => (P0_ k_ ∨ w.heap.size ≤ k_) ∧ k_ ≠ gb415)) k_ ∧ some k_ ≠ (u9 : Value).ownBlock)) (HL427_1.out) (fun k_ hk => ⟨⟨hk.1, hk.2.2⟩, hk.2.1⟩))).2.1 (Kd.V_F (Kd.V_mono (ok' := (fun k_ => ((fun k_ => (P0_ k_ ∨ w.heap.size ≤ k_) ∧ k_ ≠ gb415)) k_ ∧ some k_ ≠ (u9 : Value).ownBlock)) (HL427_1.out) (fun k_ hk => ⟨⟨hk.1, hk.2.2⟩, hk.2.1⟩))))); (case aB => exact yB); (case aF => exact (fun k_ hk => ⟨(.inr (Nat.le_trans (below_size yB) hk)), Kd.freshB (g := gb415) (o := .cells #[.slice none 0 0, .slice none 0 0] 54 (0, 0)) yK k_ hk⟩)); (case aO => exact (by (with_reducible repeat (first | apply Kd.N_alloc | apply Kd.N_drewN | apply Kd.N_drew)); exact HO_9.out)); (case aS => exact (below_size yB)); (case aL => have := LMc30.out; omega); intro v429 w32 ho hb hg hat; rw [← Ny428.out] at ho; have n0_ := Aside0.mk (Kd.V_afterv (ok := (fun k_ => (P0_ k_ ∨ w.heap.size ≤ k_) ∧ k_ ≠ gb415)) (by (with_reducible repeat (first | apply Kd.V_alloc | apply Kd.V_drewN | apply Kd.V_drew)); exact Kd.V_mono HO_0.out (fun _ hk => ⟨⟨hk.1, hk.2.2⟩, hk.2.1⟩)) hg hat); have n1_ := Aside0.mk (blk_grown (g := gb415) (o := .cells #[.slice none 0 0, .slice none 0 0] 54 (0, 0)) yK hg (Kd.N_ne HO_9.out BK415.out (by decide))); have n2_ := Aside0.mk (Kd.V_afterv (ok := (fun k_ => (P0_ k_ ∨ w.heap.size ≤ k_) ∧ k_ ≠ gb415)) (by (with_reducible repeat (first | apply Kd.V_alloc | apply Kd.V_drewN | apply Kd.V_drew)); exact Kd.V_mono HL427_1.out (fun _ hk => ⟨⟨hk.1, hk.2.2⟩, hk.2.1⟩)) hg hat); have n3_ := Aside0.mk (hb); have n4_ := Aside0.mk (ho); clear HO_0; clear BK415; clear HL427_1; clear HB; clear HO_9; have HO_0 := n0_; have BK415 := n1_; have HL427_1 := n2_; have HB := n3_; have HO430 := n4_; clear n0_ n1_ n2_ n3_ n4_; clear ho hb hg hat))
              go_roundg k3
              case measure => have := HJ3.out; have := HJ9.out; have := HK3.out; omega
              case rel => exact ⟨(y428), (wrap64 (x10_3 + 1)), yS, H', ⟨by have := HJ3.out; have := HJ9.out; have := HK3.out; omega⟩, ⟨by (with_reducible repeat (first | apply Kd.V_alloc | apply Kd.V_drewN | apply Kd.V_drew)); exact Kd.V_mono HO_0.out (fun _ hk => ⟨hk.1.1, ⟨hk.2, hk.1.2⟩⟩)⟩, ⟨by (with_reducible repeat (first | apply Kd.N_alloc | apply Kd.N_drewN | apply Kd.N_drew)); exact HO430.out⟩, ⟨by (with_reducible repeat (first | refine blk_drewN ?_ _ | refine blk_drew ?_ | refine blk_alloc ?_ _)); exact BK415.out⟩, ⟨yB⟩⟩
             ·rw [if_neg c30] at H
              exact absurd H (by simp)
            ·rw [if_neg c29] at H
             exact absurd H (by simp)
          ·rw [if_neg c20] at H
           have c20b0 : decide ((wrap64 (x10_3 + a2)) ≤ (l0.length : Int)) = false := decide_eq_false c20
           clear c20
           by_cases c33 : 0 ≤ x10_3
           ·rw [if_pos c33] at H
            have c33b0 : decide (0 ≤ x10_3) = true := decide_eq_true c33
            clear c33
            by_cases c34 : x9_3.length < 2932031007402
            ·rw [if_pos c34] at H
             have LMc34 := Aside0.mk c34
             clear c34
             obtain ⟨y432, hy432⟩ : ∃ y_ : List (S32), y_ = (x9_3 ++ [(⟨(rd_T32 l0 x10_3).f0, (rd_T32 l0 x10_3).f1, (rd_T32 l0 x10_3).f2⟩ : S32)]) := ⟨_, rfl⟩
             replace H : (subprogram_Fold.l0 k3 l0 a1 a2 x8_9 y432 (wrap64 (x10_3 + 1))) = some (r1, r2, r3) := by first | (rw [hy432]; with_reducible exact H) | (have H2_ := (Option.bind_some _ _).symm.trans H; rw [hy432]; with_reducible exact H2_) | (have H2_ := (Option.bind_some _ _).symm.trans H; with_reducible exact H2_) | with_reducible exact H | (rw [hy432]; exact H) | exact H
             have Ny432 := Aside0.mk hy432
             clear hy432
             have H' := Aside0.mk H
             clear H
             have p431 : 0 ≤ (x10_3 : Int) := of_decide_eq_true yP
             have q431 : x10_3 < (l0.length : Int) := of_decide_eq_true yP
             obtain ⟨ad431, A431_1, c431_1, e431, hx431_0, hx431_1, hx431_2, hl431_1, hi431_1⟩ := at_T32 (Kd.V_reads' HO_0.out).2.2 x10_3 p431 q431
             cases e431
             obtain ⟨ce431, hce431, hMe431, hcc431⟩ := Kd.V_get HO_0.out z32 x10_3 p431 (by first | exact q431 | exact of_decide_eq_true yP | (have e_ := (Kd.V_reads' HO_0.out).1; omega))
             obtain ⟨ua431_1, uc431_1, rfl, ul431_1, ge431_1⟩ := k32_openF hMe431
             have hv431_1 := hcc431 1 _ rfl
             rw [add_field _ _ 1 (by omega)] at hv431_1
             replace hv431_1 := Option.some.inj (hv431_1.symm.trans hx431_1)
             injection hv431_1 with hva_ hvn_ hvc_
             rw [hva_] at ge431_1
             rw [hvc_] at ul431_1
             have HL431_1 := Aside0.mk (show Kd.V k78 78 _ w.heap.size _ _ ((rd_T32 l0 x10_3).f1) from Kd.V_mk ul431_1 ge431_1)
             clear hva_ hvn_ hvc_ ge431_1 ul431_1
             clear hcc431 hce431
             have HR431_1 := Aside0.mk hi431_1
             have HC431_1 := Aside0.mk hl431_1
             clear hi431_1 hl431_1
             replace p431 := eq_true p431
             replace q431 := eq_true q431
             go_wp2_with (first | ((with_reducible refine gate_builtin (b := .append) (xs := #[.tmp 64, .tmp 69]) rfl ?_); at_builtin; refine Kd.N_append k32 (w0 := w) w.heap.size rfl (.tmp 64) (.tmp 69) 35 32 (.agg #[(.bool false), (.slice none 0 0), (.string ⟨#[]⟩)]) 48 rfl Try.underlying35 info32 rfl (by decide) (by omega) u9 x9_3 (⟨(rd_T32 l0 x10_3).f0, (rd_T32 l0 x10_3).f1, (rd_T32 l0 x10_3).f2⟩ : S32) [.bool ((rd_T32 l0 x10_3).f0), .slice A431_1 ((rd_T32 l0 x10_3).f1).length c431_1, .string ((rd_T32 l0 x10_3).f2)] (fun k_ => (P0_ k_ ∨ w.heap.size ≤ k_) ∧ k_ ≠ gb415) (fun k_ => ((fun k_ => (P0_ k_ ∨ w.heap.size ≤ k_) ∧ k_ ≠ gb415)) k_ ∧ some k_ ≠ (u9 : Value).ownBlock) rfl rfl ?aP (fun _ hk => hk) ?aF ?aO ?aB ?aS ?aL ?_; (case aP => exact (k32_mkF _ _ (⟨(rd_T32 l0 x10_3).f0, (rd_T32 l0 x10_3).f1, (rd_T32 l0 x10_3).f2⟩ : S32) (Kd.V_reads' (Kd.V_mono (ok' := (fun k_ => ((fun k_ => (P0_ k_ ∨ w.heap.size ≤ k_) ∧ k_ ≠ gb415)) k_ ∧ some k_ ≠ (u9 : Value).ownBlock)) (HL431_1.out) (fun k_ hk => ⟨⟨hk.1, hk.2.2⟩, hk.2.1⟩))).2.1 (Kd.V_F (Kd.V_mono (ok' := (fun k_ => ((fun k_ => (P0_ k_ ∨ w.heap.size ≤ k_) ∧ k_ ≠ gb415)) k_ ∧ some k_ ≠ (u9 : Value).ownBlock)) (HL431_1.out) (fun k_ hk => ⟨⟨hk.1, hk.2.2⟩, hk.2.1⟩))))); (case aB => exact yB); (case aF => exact (fun k_ hk => ⟨(.inr (Nat.le_trans (below_size yB) hk)), Kd.freshB (g := gb415) (o := .cells #[.slice none 0 0, .slice none 0 0] 54 (0, 0)) yK k_ hk⟩)); (case aO => exact (by (with_reducible repeat (first | apply Kd.N_alloc | apply Kd.N_drewN | apply Kd.N_drew)); exact HO_9.out)); (case aS => exact (below_size yB)); (case aL => have := LMc34.out; omega); intro v433 w35 ho hb hg hat; rw [← Ny432.out] at ho; have n0_ := Aside0.mk (Kd.V_afterv (ok := (fun k_ => (P0_ k_ ∨ w.heap.size ≤ k_) ∧ k_ ≠ gb415)) (by (with_reducible repeat (first | apply Kd.V_alloc | apply Kd.V_drewN | apply Kd.V_drew)); exact Kd.V_mono HO_0.out (fun _ hk => ⟨⟨hk.1, hk.2.2⟩, hk.2.1⟩)) hg hat); have n1_ := Aside0.mk (blk_grown (g := gb415) (o := .cells #[.slice none 0 0, .slice none 0 0] 54 (0, 0)) yK hg (Kd.N_ne HO_9.out BK415.out (by decide))); have n2_ := Aside0.mk (Kd.V_afterv (ok := (fun k_ => (P0_ k_ ∨ w.heap.size ≤ k_) ∧ k_ ≠ gb415)) (by (with_reducible repeat (first | apply Kd.V_alloc | apply Kd.V_drewN | apply Kd.V_drew)); exact Kd.V_mono HL431_1.out (fun _ hk => ⟨⟨hk.1, hk.2.2⟩, hk.2.1⟩)) hg hat); have n3_ := Aside0.mk (hb); have n4_ := Aside0.mk (ho); clear HO_0; clear BK415; clear HL431_1; clear HB; clear HO_9; have HO_0 := n0_; have BK415 := n1_; have HL431_1 := n2_; have HB := n3_; have HO434 := n4_; clear n0_ n1_ n2_ n3_ n4_; clear ho hb hg hat))
             go_roundg k3
             case measure => have := HJ3.out; have := HJ9.out; have := HK3.out; omega
             case rel => exact ⟨(y432), (wrap64 (x10_3 + 1)), yS, H', ⟨by have := HJ3.out; have := HJ9.out; have := HK3.out; omega⟩, ⟨by (with_reducible repeat (first | apply Kd.V_alloc | apply Kd.V_drewN | apply Kd.V_drew)); exact Kd.V_mono HO_0.out (fun _ hk => ⟨hk.1.1, ⟨hk.2, hk.1.2⟩⟩)⟩, ⟨by (with_reducible repeat (first | apply Kd.N_alloc | apply Kd.N_drewN | apply Kd.N_drew)); exact HO434.out⟩, ⟨by (with_reducible repeat (first | refine blk_drewN ?_ _ | refine blk_drew ?_ | refine blk_alloc ?_ _)); exact BK415.out⟩, ⟨yB⟩⟩
            ·rw [if_neg c34] at H
             exact absurd H (by simp)
           ·rw [if_neg c33] at H
            exact absurd H (by simp)
         ·rw [if_neg c19] at H
          have c19b0 : decide (x10_3 < (l0.length : Int)) = false := decide_eq_false c19
          clear c19
          by_cases c36 : 0 ≤ x8_9
          ·rw [if_pos c36] at H
           have c36b0 := eq_true c36
           have c36b1 : decide (0 ≤ x8_9) = true := decide_eq_true c36
           clear c36
           by_cases c37 : x8_9 ≤ (wrap64 (x8_9 + a2))
           ·rw [if_pos c37] at H
            have c37b0 := eq_true c37
            have c37b1 : decide (x8_9 ≤ (wrap64 (x8_9 + a2))) = true := decide_eq_true c37
            by_cases c38 : (wrap64 (x8_9 + a2)) ≤ (l0.length : Int)
            ·rw [if_pos c38] at H
             have c38b0 := eq_true c38
             have c38b1 : decide ((wrap64 (x8_9 + a2)) ≤ (l0.length : Int)) = true := decide_eq_true c38
             obtain ⟨y435, hy435⟩ : ∃ y_ : List (S32), y_ = ((l0.take ((wrap64 (x8_9 + a2)) : Int).toNat).drop (x8_9 : Int).toNat) := ⟨_, rfl⟩
             replace H : ((Clone_Block.f y435).bind fun t440 => (some (x9_3, (([(⟨a1, t440⟩ : S81)] : List (S81))), 0))) = some (r1, r2, r3) := by first | (rw [hy435]; with_reducible exact H) | (have H2_ := (Option.bind_some _ _).symm.trans H; rw [hy435]; with_reducible exact H2_) | (have H2_ := (Option.bind_some _ _).symm.trans H; with_reducible exact H2_) | with_reducible exact H | (rw [hy435]; exact H) | exact H
             have Ny435 := Aside0.mk hy435
             clear hy435
             replace H := Option.bind_eq_some_iff.mp H
             obtain ⟨t440, A390, H⟩ := H
             replace H : (some (x9_3, (([(⟨a1, t440⟩ : S81)] : List (S81))), 0)) = some (r1, r2, r3) := H
             have A39 := Aside0.mk A390
             clear A390
             obtain ⟨y443, hy443⟩ : ∃ y_ : List (S81), y_ = (([(⟨a1, t440⟩ : S81)] : List (S81))) := ⟨_, rfl⟩
             replace H : (some (x9_3, y443, 0)) = some (r1, r2, r3) := by first | (rw [hy443]; with_reducible exact H) | (have H2_ := (Option.bind_some _ _).symm.trans H; rw [hy443]; with_reducible exact H2_) | (have H2_ := (Option.bind_some _ _).symm.trans H; with_reducible exact H2_) | with_reducible exact H | (rw [hy443]; exact H) | exact H
             have Ny443 := Aside0.mk hy443
             clear hy443
             simp only [Option.some.injEq, Prod.mk.injEq] at H
             obtain ⟨rfl, rfl, rfl⟩ := H
             have q40 : ((wrap64 (x8_9 + a2)) : Int) ≤ ((l0.length : Int) : Int) := of_decide_eq_true yP
             obtain ⟨i040, hi040, _, hsz40, _⟩ := info_parts info32
             have hroom40 : l0.length ≤ c0 := (Kd.V_reads' HO_0.out).2.1
             have hC40 : Kd.F k32 _ _ A0 l0.length l0 := (Kd.V_at (base := w.heap.size) HO_0.out).2.2
             have ql40 : (x8_9 : Int) ≤ ((wrap64 (x8_9 + a2)) : Int) := of_decide_eq_true yP
             have q040 : (0 : Int) ≤ (x8_9 : Int) := of_decide_eq_true yP
             have hcut40 := cut_mid (P := Try.prog) 35 32 .i64 .i64 Try.underlying35 hi040 3 hsz40 A0 l0.length c0 x8_9 (wrap64 (x8_9 + a2)) q040 ql40 q40 hroom40
             have hr40 := Kd.F_mid (lo := (x8_9 : Int).toNat) (hi := ((wrap64 (x8_9 + a2)) : Int).toNat) (c := c0) hC40 (by omega) (by omega) hroom40
             obtain ⟨A40, hA40⟩ : ∃ A1, A1 = (if c0 = (x8_9 : Int).toNat then A0 else (A0 : Option Addr).map (·.add ((x8_9 : Int).toNat * 3))) := ⟨_, rfl⟩
             obtain ⟨c40, hc40⟩ : ∃ c1, c1 = c0 - (x8_9 : Int).toNat := ⟨_, rfl⟩
             have hy40 : y435.length = ((wrap64 (x8_9 + a2)) : Int).toNat - (x8_9 : Int).toNat := (by rw [Ny435.out, List.length_drop, List.length_take] <;> omega)
             rw [show ((l0).take ((wrap64 (x8_9 + a2)) : Int).toNat).drop (x8_9 : Int).toNat = y435 from Ny435.out.symm] at hr40
             replace hr40 : Kd.F k32 _ _ A40 y435.length y435 := (by rw [hA40]; exact hr40)
             rw [← hy40, ← hA40, ← hc40] at hcut40
             have HO439 := Aside0.mk (show Kd.V k32 32 _ w.heap.size _ (.slice A40 y435.length c40) y435 from Kd.V_mk (by rw [hy40, hc40]; exact Nat.sub_le_sub_right (Nat.le_trans (by omega) hroom40) _) hr40)
             have HC439 := Aside0.mk (show y435.length ≤ c40 from by rw [hy40, hc40]; exact Nat.sub_le_sub_right (Nat.le_trans (by omega) hroom40) _)
             clear hr40 hC40 hroom40 hi040 hsz40 hc40
             have KY40 := Aside0.mk hy40
             have KA40 := Aside0.mk hA40
             clear hy40 hA40
             replace q40 := eq_true q40
             go_wp2_with (first | ((with_reducible refine gate_callee (f := 33) rfl ?_); refine goesL_ (some 81) rfl rfl Try.func33 (by kernel_rfl) rfl #[.slice A40 y435.length c40] rfl yQ ?_; (with_reducible refine (Clone_Block.calls (fun k_ => ((P0_ k_ ∨ w.heap.size ≤ k_) ∧ (some k_ ≠ (u9 : Value).ownBlock ∧ k_ ≠ gb415))) _ _ y435 t440 _ ?side1 A39.out).mono ?_); (case side1 => exact HO439.out); rintro e w41 ⟨v441, rfl, ho0, hb⟩; refine ⟨_, rfl, ?_⟩; have n0_ := Aside0.mk (Kd.V_elder' (by (with_reducible repeat (first | apply Kd.V_alloc | apply Kd.V_drewN | apply Kd.V_drew)); exact HO_0.out) (by first | exact Kd.N_base ho0 | exact Kd.S_base ho0) hb); have n1_ := Aside0.mk (Kd.N_elder' (by (with_reducible repeat (first | apply Kd.N_alloc | apply Kd.N_drewN | apply Kd.N_drew)); exact HO_9.out) (by first | exact Kd.N_base ho0 | exact Kd.S_base ho0) hb); have n2_ := Aside0.mk (Kd.V_elder' (by (with_reducible repeat (first | apply Kd.V_alloc | apply Kd.V_drewN | apply Kd.V_drew)); exact HO439.out) (by first | exact Kd.N_base ho0 | exact Kd.S_base ho0) hb); have n3_ := Aside0.mk (Kd.N_lower (Kd.N_mono (ok' := fun k_ => (P0_ k_ ∨ w.heap.size ≤ k_) ∧ some k_ ≠ (u9 : Value).ownBlock ∧ k_ ≠ gb415) ho0 (fun k_ hk_ => ⟨Or.elim hk_ (fun hs_ => hs_.1) (fun hn_ => (.inr (Nat.le_trans (below_size yB) hn_))), Or.elim hk_ (fun hs_ => hs_.2.1) (fun hn_ => (Kd.fresh' (Kd.N_lt (by (with_reducible repeat (first | apply Kd.N_alloc | apply Kd.N_drewN | apply Kd.N_drew)); exact HO_9.out)) k_ hn_)), Or.elim hk_ (fun hs_ => hs_.2.2) (fun hn_ => (Kd.freshB (g := gb415) (o := .cells #[.slice none 0 0, .slice none 0 0] 54 (0, 0)) yK k_ hn_))⟩)) (below_size yB)); have n4_ := Aside0.mk (blk_below (g := gb415) (o := .cells #[.slice none 0 0, .slice none 0 0] 54 (0, 0)) yK hb); have n5_ := Aside0.mk (below_step yB hb); clear HO_0; clear HO_9; clear HO439; clear BK415; clear HB; have HO_0 := n0_; have HO_9 := n1_; have HO439 := n2_; have HO442 := n3_; have BK415 := n4_; have HB := n5_; clear n0_ n1_ n2_ n3_ n4_ n5_; (try clear hb); (try clear hb2); (try clear hk); (try clear hi); (try clear ho0); obtain ⟨Ao42, co42, eo42⟩ := Kd.N_slice HO442.out; subst eo42) | ((with_reducible refine gate_dst (N := 83) rfl ?_); refine Kd.N_lit k81 _ 81 ?hg (N' := 83) ?hd (xs := ([(⟨a1, t440⟩ : S81)] : List (S81))) (inner := [.int .i64 a1, .slice Ao42 t440.length co42]) (ok := (fun k_ => (P0_ k_ ∨ w.heap.size ≤ k_) ∧ some k_ ≠ (u9 : Value).ownBlock ∧ k_ ≠ gb415)) (okp := (fun k_ => (P0_ k_ ∨ w.heap.size ≤ k_) ∧ some k_ ≠ (u9 : Value).ownBlock ∧ k_ ≠ gb415)) ?hr ?hp (fun _ hk => hk) ((show ∀ k_, w41.heap.size ≤ k_ → (fun k_ => (P0_ k_ ∨ w.heap.size ≤ k_) ∧ some k_ ≠ (u9 : Value).ownBlock ∧ k_ ≠ gb415) k_ from fun k_ hk => ⟨(.inr (Nat.le_trans (below_size yB) hk)), Kd.fresh' (Kd.N_lt (by (with_reducible repeat (first | apply Kd.N_alloc | apply Kd.N_drewN | apply Kd.N_drew)); exact HO_9.out)) k_ hk, Kd.freshB (g := gb415) (o := .cells #[.slice none 0 0, .slice none 0 0] 54 (0, 0)) yK k_ hk⟩) _ (Nat.le_refl _)) (Below.refl _ _) (Nat.le_refl _) (by simp) ?_; (case hd => rfl); (case hg => rfl); (case hr => first | (go_simp; done) | (go_simp; rfl)); (case hp => exact (Reps.c2 (show Kd.FK k81 _ _ (⟨a1, t440⟩ : S81) [.int .i64 a1, .slice Ao42 t440.length co42] from (k81_mkF _ _ (⟨a1, t440⟩ : S81) (Kd.N_reads' (Kd.N_mono (ok' := (fun k_ => (P0_ k_ ∨ w.heap.size ≤ k_) ∧ some k_ ≠ (u9 : Value).ownBlock ∧ k_ ≠ gb415)) (HO442.out) (fun k_ hk => ⟨hk.1, ⟨hk.2.1, hk.2.2⟩⟩))).2.1 (Kd.N_F (Kd.N_mono (ok' := (fun k_ => (P0_ k_ ∨ w.heap.size ≤ k_) ∧ some k_ ≠ (u9 : Value).ownBlock ∧ k_ ≠ gb415)) (HO442.out) (fun k_ hk => ⟨hk.1, ⟨hk.2.1, hk.2.2⟩⟩))))) (Reps.none _ _))); intro v444 w43 ho44 hb hg_ hnew_; clear hg_ hnew_; (first | rw [← Ny443.out] at ho44 | (simp only [Int.reduceToNat] at ho44; rw [← Ny443.out] at ho44)); have n0_ := Aside0.mk (Kd.V_elder' (by (with_reducible repeat (first | apply Kd.V_alloc | apply Kd.V_drewN | apply Kd.V_drew)); exact HO_0.out) (Kd.N_base ho44) hb); have n1_ := Aside0.mk (Kd.N_elder' (by (with_reducible repeat (first | apply Kd.N_alloc | apply Kd.N_drewN | apply Kd.N_drew)); exact HO_9.out) (Kd.N_base ho44) hb); have n2_ := Aside0.mk (Kd.V_elder' (by (with_reducible repeat (first | apply Kd.V_alloc | apply Kd.V_drewN | apply Kd.V_drew)); exact HO439.out) (Kd.N_base ho44) hb); have n3_ := Aside0.mk (Kd.N_lower ho44 (below_size yB)); have n4_ := Aside0.mk (blk_below (g := gb415) (o := .cells #[.slice none 0 0, .slice none 0 0] 54 (0, 0)) yK hb); have n5_ := Aside0.mk (below_step yB hb); clear HO_0; clear HO_9; clear HO439; clear BK415; clear HB; clear HO442; have HO_0 := n0_; have HO_9 := n1_; have HO439 := n2_; have HO445 := n3_; have BK415 := n4_; have HB := n5_; clear n0_ n1_ n2_ n3_ n4_ n5_; clear hb ho44; obtain ⟨Ao45, co45, eo45⟩ := Kd.N_slice HO445.out; subst eo45; obtain ⟨Ao46, co46, eo46⟩ := Kd.N_slice HO_9.out; subst eo46; have hcz47_0 : w43.cell? ⟨gb415, 0, none⟩ = some (.slice none 0 0) := (blk_cell BK415.out 0).trans rfl; have hcz47_1 : w43.cell? ⟨gb415, 1, none⟩ = some (.slice none 0 0) := (blk_cell BK415.out 1).trans rfl; have hfz47_0 := blk_frozen BK415.out 0; have hfz47_1 := blk_frozen BK415.out 1))
             refine bodyPost_ret (results_ct rfl _ _ gb415 54 #[.slice Ao46 x9_3.length co46, .slice Ao45 y443.length co45] (0, 0) _ rfl (by (with_reducible repeat (first | refine blk_drewN ?_ _ | refine blk_drew ?_ | refine blk_alloc ?_ _)); refine blk_put (cs := #[.slice Ao46 x9_3.length co46, .slice none 0 0]) ?_ 1 _ rfl; (with_reducible repeat (first | refine blk_drewN ?_ _ | refine blk_drew ?_ | refine blk_alloc ?_ _)); refine blk_put (cs := #[.slice none 0 0, .slice none 0 0]) ?_ 0 _ rfl; (with_reducible repeat (first | refine blk_drewN ?_ _ | refine blk_drew ?_ | refine blk_alloc ?_ _)); exact BK415.out) Try.underlying54 rfl (by kernel_rfl)) rfl ?_
             exact ⟨_, _, by first | rfl | (simp [errW_none, errW_some] <;> rfl) | (simp [*, errW_none, errW_some] <;> rfl), by (with_reducible repeat (first | apply Kd.N_alloc | apply Kd.N_drewN | apply Kd.N_drew)); exact Kd.N_mono (Kd.N_far (p := ⟨gb415, 1, none⟩) (Kd.N_far (p := ⟨gb415, 0, none⟩) (Kd.N_mono HO_9.out (fun k_ hk => (⟨hk, hk.1.1.2⟩ : _ ∧ k_ ≠ gb415))) (fun _ hk => hk.2) (.slice Ao46 x9_3.length co46)) (fun _ hk => hk.2) (.slice Ao45 y443.length co45)) (fun _ hk => ⟨hk.1.1.1.1, hk.1.2⟩), by (with_reducible repeat (first | apply Kd.N_alloc | apply Kd.N_drewN | apply Kd.N_drew)); exact Kd.N_mono (Kd.N_far (p := ⟨gb415, 1, none⟩) (Kd.N_far (p := ⟨gb415, 0, none⟩) (Kd.N_mono HO445.out (fun k_ hk => (⟨hk, hk.2.2⟩ : _ ∧ k_ ≠ gb415))) (fun _ hk => hk.2) (.slice Ao46 x9_3.length co46)) (fun _ hk => hk.2) (.slice Ao45 y443.length co45)) (fun _ hk => ⟨hk.1.1, hk.1.2.1⟩), yB⟩
            ·rw [if_neg c38] at H
             exact absurd H (by simp)
           ·rw [if_neg c37] at H
            exact absurd H (by simp)
          ·rw [if_neg c36] at H
           exact absurd H (by simp)
end Go.Proofs.Ytehkhbnhmehobaa.P
namespace Go.Proofs.Ytehkhbnhmehobaa.P
open Go.RowKit Go.Proofs.YtehkhbnhmehobaaW.PrintWords Go.Proofs.YtehkhbnhmehobaaW.PrintLast Go.Proofs.YtehkhbnhmehobaaW.PrintMore
attribute [local go_sem] max2_int min2_int max_two min_two max_three min_three max_four min_four
set_option linter.unusedVariables false
set_option linter.unusedSimpArgs false
def swarfref43_folds.f (k : Nat) (a0_0 : Bool) (l0_1 : List (S78)) (a0_2 : ByteArray) : Option (Bool) := (swarfref43_letter.f k a0_0 l0_1 a0_2 78).bind fun t599 => (if t599 = true then (some false) else ((swarfref43_letter.f k a0_0 l0_1 a0_2 79).bind fun t600 => (if t600 = true then (some false) else ((swarfref43_End.f k a0_0 l0_1 a0_2).bind fun t601 => (if t601 = true then (some false) else ((swarfref43_Return.f k a0_0 l0_1 a0_2).bind fun t602 => (if t602 = true then (some false) else ((swarfref43_has.f k a0_0 l0_1 a0_2 77 98000).bind fun t603 => (some (!t603))))))))))
theorem swarfref43_folds.mono : ∀ a0 a1 a2 k, LeO (swarfref43_folds.f k a0 a1 a2) (swarfref43_folds.f (k + 1) a0 a1 a2) := by
 intro a0 a1 a2 k
 unfold swarfref43_folds.f
 repeat' first
   | (with_reducible exact swarfref43_End.mono _ _ _ _)
   | (with_reducible exact swarfref43_Return.mono _ _ _ _)
   | (with_reducible exact swarfref43_has.mono _ _ _ _ _ _)
   | (with_reducible exact swarfref43_letter.mono _ _ _ _ _)
   | (with_reducible exact LeO.refl _)
   | (with_reducible exact LeO.none _)
   | (with_reducible refine LeO.ite ?_ ?_)
   | (with_reducible refine LeO.bind ?_ (fun _ => ?_))
   | exact swarfref43_End.mono _ _ _ _
   | exact swarfref43_Return.mono _ _ _ _
   | exact swarfref43_has.mono _ _ _ _ _ _
   | exact swarfref43_letter.mono _ _ _ _ _
   | exact LeO.none _
   | refine LeO.ite ?_ ?_
   | refine LeO.bind ?_ (fun _ => ?_)
set_option maxHeartbeats 8000000 in
set_option maxRecDepth 100000 in
theorem swarfref43_folds.calls (k : Nat) (a0_0 : Bool) (A0_1 : Option Addr) (c0_1 : Nat) (l0_1 : List (S78)) (a0_2 : ByteArray) (r : Bool) (w : World) (hr0_1 : Kd.C k78 w A0_1 l0_1.length l0_1) (hc0_1 : l0_1.length ≤ c0_1) (h : swarfref43_folds.f k a0_0 l0_1 a0_2 = some r) :
  Calls Try.prog 98 #[.agg #[.bool a0_0, .slice A0_1 l0_1.length c0_1, .string a0_2]] w fun e w' => e = .returned (.bool r) ∧ Below w.heap.size w w' := by
 have hu32 := Try.underlying32
 have HR0_1 := Aside0.mk hr0_1
 have HC0_1 := Aside0.mk hc0_1
 clear hr0_1 hc0_1
 have HB := Aside0.mk (Below.refl w.heap.size w)
 have H : ((swarfref43_letter.f k a0_0 l0_1 a0_2 78).bind fun t599 => (if t599 = true then (some false) else ((swarfref43_letter.f k a0_0 l0_1 a0_2 79).bind fun t600 => (if t600 = true then (some false) else ((swarfref43_End.f k a0_0 l0_1 a0_2).bind fun t601 => (if t601 = true then (some false) else ((swarfref43_Return.f k a0_0 l0_1 a0_2).bind fun t602 => (if t602 = true then (some false) else ((swarfref43_has.f k a0_0 l0_1 a0_2 77 98000).bind fun t603 => (some (!t603))))))))))) = some r := h
 clear h
 replace H := Option.bind_eq_some_iff.mp H
 obtain ⟨t599, A20, H⟩ := H
 replace H : (if t599 = true then (some false) else ((swarfref43_letter.f k a0_0 l0_1 a0_2 79).bind fun t600 => (if t600 = true then (some false) else ((swarfref43_End.f k a0_0 l0_1 a0_2).bind fun t601 => (if t601 = true then (some false) else ((swarfref43_Return.f k a0_0 l0_1 a0_2).bind fun t602 => (if t602 = true then (some false) else ((swarfref43_has.f k a0_0 l0_1 a0_2 77 98000).bind fun t603 => (some (!t603)))))))))) = some r := H
 have A2 := Aside0.mk A20
 clear A20
 by_cases c3 : t599 = true
 ·subst c3
  have H1 : (some false) = some r := by rw [if_pos rfl] at H; exact H
  clear H
  have H := H1
  clear H1
  obtain rfl := Option.some.inj H
  go_enter Try.func98, Try.ntmps98
  go_wp2_with (first | ((with_reducible refine gate_dst (N := 1) rfl ?_); refine box_event ?hg (N := 1) ?hd (cs := #[.bool a0_0, .slice A0_1 l0_1.length c0_1, .string a0_2]) (t := 32) ?hr ?_; (case hd => rfl); (case hg => rfl); (case hr => first | (go_simp; done) | (go_simp; rfl)); intro gb598 hg w4 hbox hb; have n0_ := Aside0.mk (below_step yB hb); have n1_ := Aside0.mk (hbox); have n2_ := Aside0.mk ((yG hg : w.heap.size ≤ gb598)); have n3_ := Aside0.mk ((yG hg : w.heap.size ≤ gb598)); clear HB; have HB := n0_; have BK598 := n1_; have GW598 := n2_; have GE598 := n3_; clear n0_ n1_ n2_ n3_; clear hb hbox hg; have hcz5_0 : w4.cell? ⟨gb598, 0, none⟩ = some (.bool a0_0) := (blk_cell BK598.out 0).trans rfl; have hcz5_1 : w4.cell? ⟨gb598, 1, none⟩ = some (.slice A0_1 l0_1.length c0_1) := (blk_cell BK598.out 1).trans rfl; have hcz5_2 : w4.cell? ⟨gb598, 2, none⟩ = some (.string a0_2) := (blk_cell BK598.out 2).trans rfl; have hfz5_0 := blk_frozen BK598.out 0; have hfz5_1 := blk_frozen BK598.out 1; have hfz5_2 := blk_frozen BK598.out 2) | ((with_reducible refine gate_callee (f := 83) rfl ?_); refine goesL_ (some 4) rfl rfl Try.func83 (by kernel_rfl) rfl #[.agg #[.bool a0_0, .slice A0_1 l0_1.length c0_1, .string a0_2], .int .u8 78] rfl yQ ?_; (with_reducible refine (swarfref43_letter.calls k a0_0 _ _ l0_1 a0_2 78 true _ ?side1 ?side2 A2.out).mono ?_); (case side1 => exact yC HR0_1.out); (case side2 => exact HC0_1.out); rintro e w6 ⟨rfl, hb⟩; refine ⟨_, rfl, ?_⟩; have n0_ := Aside0.mk (blk_below (g := gb598) (o := .cells #[.bool a0_0, .slice A0_1 l0_1.length c0_1, .string a0_2] 32 (0, 0)) yK hb); have n1_ := Aside0.mk (below_step yB hb); clear BK598; clear HB; have BK598 := n0_; have HB := n1_; clear n0_ n1_; (try clear hb); (try clear hb2); (try clear hk); (try clear hi)))
  go_ret
  exact ⟨by first | rfl | (simp [errW_none, errW_some] <;> rfl) | (simp [*, errW_none, errW_some] <;> rfl), yB⟩
 ·replace c3 := Bool.eq_false_iff.mpr c3
  subst c3
  have H1 : ((swarfref43_letter.f k a0_0 l0_1 a0_2 79).bind fun t600 => (if t600 = true then (some false) else ((swarfref43_End.f k a0_0 l0_1 a0_2).bind fun t601 => (if t601 = true then (some false) else ((swarfref43_Return.f k a0_0 l0_1 a0_2).bind fun t602 => (if t602 = true then (some false) else ((swarfref43_has.f k a0_0 l0_1 a0_2 77 98000).bind fun t603 => (some (!t603))))))))) = some r := by rw [if_neg (show ¬ (false = true) by decide)] at H; exact H
  clear H
  have H := H1
  clear H1
  replace H := Option.bind_eq_some_iff.mp H
  obtain ⟨t600, A70, H⟩ := H
  replace H : (if t600 = true then (some false) else ((swarfref43_End.f k a0_0 l0_1 a0_2).bind fun t601 => (if t601 = true then (some false) else ((swarfref43_Return.f k a0_0 l0_1 a0_2).bind fun t602 => (if t602 = true then (some false) else ((swarfref43_has.f k a0_0 l0_1 a0_2 77 98000).bind fun t603 => (some (!t603)))))))) = some r := H
  have A7 := Aside0.mk A70
  clear A70
  by_cases c8 : t600 = true
  ·subst c8
   have H1 : (some false) = some r := by rw [if_pos rfl] at H; exact H
   clear H
   have H := H1
   clear H1
   obtain rfl := Option.some.inj H
   go_enter Try.func98, Try.ntmps98
   go_wp2_with (first | ((with_reducible refine gate_dst (N := 1) rfl ?_); refine box_event ?hg (N := 1) ?hd (cs := #[.bool a0_0, .slice A0_1 l0_1.length c0_1, .string a0_2]) (t := 32) ?hr ?_; (case hd => rfl); (case hg => rfl); (case hr => first | (go_simp; done) | (go_simp; rfl)); intro gb598 hg w9 hbox hb; have n0_ := Aside0.mk (below_step yB hb); have n1_ := Aside0.mk (hbox); have n2_ := Aside0.mk ((yG hg : w.heap.size ≤ gb598)); have n3_ := Aside0.mk ((yG hg : w.heap.size ≤ gb598)); clear HB; have HB := n0_; have BK598 := n1_; have GW598 := n2_; have GE598 := n3_; clear n0_ n1_ n2_ n3_; clear hb hbox hg; have hcz10_0 : w9.cell? ⟨gb598, 0, none⟩ = some (.bool a0_0) := (blk_cell BK598.out 0).trans rfl; have hcz10_1 : w9.cell? ⟨gb598, 1, none⟩ = some (.slice A0_1 l0_1.length c0_1) := (blk_cell BK598.out 1).trans rfl; have hcz10_2 : w9.cell? ⟨gb598, 2, none⟩ = some (.string a0_2) := (blk_cell BK598.out 2).trans rfl; have hfz10_0 := blk_frozen BK598.out 0; have hfz10_1 := blk_frozen BK598.out 1; have hfz10_2 := blk_frozen BK598.out 2) | ((with_reducible refine gate_callee (f := 83) rfl ?_); refine goesL_ (some 4) rfl rfl Try.func83 (by kernel_rfl) rfl #[.agg #[.bool a0_0, .slice A0_1 l0_1.length c0_1, .string a0_2], .int .u8 78] rfl yQ ?_; (with_reducible refine (swarfref43_letter.calls k a0_0 _ _ l0_1 a0_2 78 false _ ?side1 ?side2 A2.out).mono ?_); (case side1 => exact yC HR0_1.out); (case side2 => exact HC0_1.out); rintro e w11 ⟨rfl, hb⟩; refine ⟨_, rfl, ?_⟩; have n0_ := Aside0.mk (blk_below (g := gb598) (o := .cells #[.bool a0_0, .slice A0_1 l0_1.length c0_1, .string a0_2] 32 (0, 0)) yK hb); have n1_ := Aside0.mk (below_step yB hb); clear BK598; clear HB; have BK598 := n0_; have HB := n1_; clear n0_ n1_; (try clear hb); (try clear hb2); (try clear hk); (try clear hi); have hcz12_0 : w11.cell? ⟨gb598, 0, none⟩ = some (.bool a0_0) := (blk_cell BK598.out 0).trans rfl; have hcz12_1 : w11.cell? ⟨gb598, 1, none⟩ = some (.slice A0_1 l0_1.length c0_1) := (blk_cell BK598.out 1).trans rfl; have hcz12_2 : w11.cell? ⟨gb598, 2, none⟩ = some (.string a0_2) := (blk_cell BK598.out 2).trans rfl; have hfz12_0 := blk_frozen BK598.out 0; have hfz12_1 := blk_frozen BK598.out 1; have hfz12_2 := blk_frozen BK598.out 2) | (go_at_call 83; (with_reducible refine (swarfref43_letter.calls k a0_0 _ _ l0_1 a0_2 79 true _ ?side1 ?side2 A7.out).mono ?_); (case side1 => exact yC HR0_1.out); (case side2 => exact HC0_1.out); rintro e w13 ⟨rfl, hb⟩; have n0_ := Aside0.mk (blk_below (g := gb598) (o := .cells #[.bool a0_0, .slice A0_1 l0_1.length c0_1, .string a0_2] 32 (0, 0)) yK hb); have n1_ := Aside0.mk (below_step yB hb); clear BK598; clear HB; have BK598 := n0_; have HB := n1_; clear n0_ n1_; (try clear hb); (try clear hb2); (try clear hk); (try clear hi)))
   go_ret
   exact ⟨by first | rfl | (simp [errW_none, errW_some] <;> rfl) | (simp [*, errW_none, errW_some] <;> rfl), yB⟩
  ·replace c8 := Bool.eq_false_iff.mpr c8
   subst c8
   have H1 : ((swarfref43_End.f k a0_0 l0_1 a0_2).bind fun t601 => (if t601 = true then (some false) else ((swarfref43_Return.f k a0_0 l0_1 a0_2).bind fun t602 => (if t602 = true then (some false) else ((swarfref43_has.f k a0_0 l0_1 a0_2 77 98000).bind fun t603 => (some (!t603))))))) = some r := by rw [if_neg (show ¬ (false = true) by decide)] at H; exact H
   clear H
   have H := H1
   clear H1
   replace H := Option.bind_eq_some_iff.mp H
   obtain ⟨t601, A140, H⟩ := H
   replace H : (if t601 = true then (some false) else ((swarfref43_Return.f k a0_0 l0_1 a0_2).bind fun t602 => (if t602 = true then (some false) else ((swarfref43_has.f k a0_0 l0_1 a0_2 77 98000).bind fun t603 => (some (!t603)))))) = some r := H
   have A14 := Aside0.mk A140
   clear A140
   by_cases c15 : t601 = true
   ·subst c15
    have H1 : (some false) = some r := by rw [if_pos rfl] at H; exact H
    clear H
    have H := H1
    clear H1
    obtain rfl := Option.some.inj H
    go_enter Try.func98, Try.ntmps98
    go_wp2_with (first | ((with_reducible refine gate_dst (N := 1) rfl ?_); refine box_event ?hg (N := 1) ?hd (cs := #[.bool a0_0, .slice A0_1 l0_1.length c0_1, .string a0_2]) (t := 32) ?hr ?_; (case hd => rfl); (case hg => rfl); (case hr => first | (go_simp; done) | (go_simp; rfl)); intro gb598 hg w16 hbox hb; have n0_ := Aside0.mk (below_step yB hb); have n1_ := Aside0.mk (hbox); have n2_ := Aside0.mk ((yG hg : w.heap.size ≤ gb598)); have n3_ := Aside0.mk ((yG hg : w.heap.size ≤ gb598)); clear HB; have HB := n0_; have BK598 := n1_; have GW598 := n2_; have GE598 := n3_; clear n0_ n1_ n2_ n3_; clear hb hbox hg; have hcz17_0 : w16.cell? ⟨gb598, 0, none⟩ = some (.bool a0_0) := (blk_cell BK598.out 0).trans rfl; have hcz17_1 : w16.cell? ⟨gb598, 1, none⟩ = some (.slice A0_1 l0_1.length c0_1) := (blk_cell BK598.out 1).trans rfl; have hcz17_2 : w16.cell? ⟨gb598, 2, none⟩ = some (.string a0_2) := (blk_cell BK598.out 2).trans rfl; have hfz17_0 := blk_frozen BK598.out 0; have hfz17_1 := blk_frozen BK598.out 1; have hfz17_2 := blk_frozen BK598.out 2) | ((with_reducible refine gate_callee (f := 83) rfl ?_); refine goesL_ (some 4) rfl rfl Try.func83 (by kernel_rfl) rfl #[.agg #[.bool a0_0, .slice A0_1 l0_1.length c0_1, .string a0_2], .int .u8 78] rfl yQ ?_; (with_reducible refine (swarfref43_letter.calls k a0_0 _ _ l0_1 a0_2 78 false _ ?side1 ?side2 A2.out).mono ?_); (case side1 => exact yC HR0_1.out); (case side2 => exact HC0_1.out); rintro e w18 ⟨rfl, hb⟩; refine ⟨_, rfl, ?_⟩; have n0_ := Aside0.mk (blk_below (g := gb598) (o := .cells #[.bool a0_0, .slice A0_1 l0_1.length c0_1, .string a0_2] 32 (0, 0)) yK hb); have n1_ := Aside0.mk (below_step yB hb); clear BK598; clear HB; have BK598 := n0_; have HB := n1_; clear n0_ n1_; (try clear hb); (try clear hb2); (try clear hk); (try clear hi); have hcz19_0 : w18.cell? ⟨gb598, 0, none⟩ = some (.bool a0_0) := (blk_cell BK598.out 0).trans rfl; have hcz19_1 : w18.cell? ⟨gb598, 1, none⟩ = some (.slice A0_1 l0_1.length c0_1) := (blk_cell BK598.out 1).trans rfl; have hcz19_2 : w18.cell? ⟨gb598, 2, none⟩ = some (.string a0_2) := (blk_cell BK598.out 2).trans rfl; have hfz19_0 := blk_frozen BK598.out 0; have hfz19_1 := blk_frozen BK598.out 1; have hfz19_2 := blk_frozen BK598.out 2) | (go_at_call 83; (with_reducible refine (swarfref43_letter.calls k a0_0 _ _ l0_1 a0_2 79 false _ ?side1 ?side2 A7.out).mono ?_); (case side1 => exact yC HR0_1.out); (case side2 => exact HC0_1.out); rintro e w20 ⟨rfl, hb⟩; have n0_ := Aside0.mk (blk_below (g := gb598) (o := .cells #[.bool a0_0, .slice A0_1 l0_1.length c0_1, .string a0_2] 32 (0, 0)) yK hb); have n1_ := Aside0.mk (below_step yB hb); clear BK598; clear HB; have BK598 := n0_; have HB := n1_; clear n0_ n1_; (try clear hb); (try clear hb2); (try clear hk); (try clear hi); have hcz21_0 : w20.cell? ⟨gb598, 0, none⟩ = some (.bool a0_0) := (blk_cell BK598.out 0).trans rfl; have hcz21_1 : w20.cell? ⟨gb598, 1, none⟩ = some (.slice A0_1 l0_1.length c0_1) := (blk_cell BK598.out 1).trans rfl; have hcz21_2 : w20.cell? ⟨gb598, 2, none⟩ = some (.string a0_2) := (blk_cell BK598.out 2).trans rfl; have hfz21_0 := blk_frozen BK598.out 0; have hfz21_1 := blk_frozen BK598.out 1; have hfz21_2 := blk_frozen BK598.out 2) | (go_at_call 81; (with_reducible refine (swarfref43_End.calls k a0_0 _ _ l0_1 a0_2 true _ ?side1 ?side2 A14.out).mono ?_); (case side1 => exact yC HR0_1.out); (case side2 => exact HC0_1.out); rintro e w22 ⟨rfl, hb⟩; have n0_ := Aside0.mk (blk_below (g := gb598) (o := .cells #[.bool a0_0, .slice A0_1 l0_1.length c0_1, .string a0_2] 32 (0, 0)) yK hb); have n1_ := Aside0.mk (below_step yB hb); clear BK598; clear HB; have BK598 := n0_; have HB := n1_; clear n0_ n1_; (try clear hb); (try clear hb2); (try clear hk); (try clear hi)))
    go_ret
    exact ⟨by first | rfl | (simp [errW_none, errW_some] <;> rfl) | (simp [*, errW_none, errW_some] <;> rfl), yB⟩
   ·replace c15 := Bool.eq_false_iff.mpr c15
    subst c15
    have H1 : ((swarfref43_Return.f k a0_0 l0_1 a0_2).bind fun t602 => (if t602 = true then (some false) else ((swarfref43_has.f k a0_0 l0_1 a0_2 77 98000).bind fun t603 => (some (!t603))))) = some r := by rw [if_neg (show ¬ (false = true) by decide)] at H; exact H
    clear H
    have H := H1
    clear H1
    replace H := Option.bind_eq_some_iff.mp H
    obtain ⟨t602, A230, H⟩ := H
    replace H : (if t602 = true then (some false) else ((swarfref43_has.f k a0_0 l0_1 a0_2 77 98000).bind fun t603 => (some (!t603)))) = some r := H
    have A23 := Aside0.mk A230
    clear A230
    by_cases c24 : t602 = true
    ·subst c24
     have H1 : (some false) = some r := by rw [if_pos rfl] at H; exact H
     clear H
     have H := H1
     clear H1
     obtain rfl := Option.some.inj H
     go_enter Try.func98, Try.ntmps98
     go_wp2_with (first | ((with_reducible refine gate_dst (N := 1) rfl ?_); refine box_event ?hg (N := 1) ?hd (cs := #[.bool a0_0, .slice A0_1 l0_1.length c0_1, .string a0_2]) (t := 32) ?hr ?_; (case hd => rfl); (case hg => rfl); (case hr => first | (go_simp; done) | (go_simp; rfl)); intro gb598 hg w25 hbox hb; have n0_ := Aside0.mk (below_step yB hb); have n1_ := Aside0.mk (hbox); have n2_ := Aside0.mk ((yG hg : w.heap.size ≤ gb598)); have n3_ := Aside0.mk ((yG hg : w.heap.size ≤ gb598)); clear HB; have HB := n0_; have BK598 := n1_; have GW598 := n2_; have GE598 := n3_; clear n0_ n1_ n2_ n3_; clear hb hbox hg; have hcz26_0 : w25.cell? ⟨gb598, 0, none⟩ = some (.bool a0_0) := (blk_cell BK598.out 0).trans rfl; have hcz26_1 : w25.cell? ⟨gb598, 1, none⟩ = some (.slice A0_1 l0_1.length c0_1) := (blk_cell BK598.out 1).trans rfl; have hcz26_2 : w25.cell? ⟨gb598, 2, none⟩ = some (.string a0_2) := (blk_cell BK598.out 2).trans rfl; have hfz26_0 := blk_frozen BK598.out 0; have hfz26_1 := blk_frozen BK598.out 1; have hfz26_2 := blk_frozen BK598.out 2) | ((with_reducible refine gate_callee (f := 83) rfl ?_); refine goesL_ (some 4) rfl rfl Try.func83 (by kernel_rfl) rfl #[.agg #[.bool a0_0, .slice A0_1 l0_1.length c0_1, .string a0_2], .int .u8 78] rfl yQ ?_; (with_reducible refine (swarfref43_letter.calls k a0_0 _ _ l0_1 a0_2 78 false _ ?side1 ?side2 A2.out).mono ?_); (case side1 => exact yC HR0_1.out); (case side2 => exact HC0_1.out); rintro e w27 ⟨rfl, hb⟩; refine ⟨_, rfl, ?_⟩; have n0_ := Aside0.mk (blk_below (g := gb598) (o := .cells #[.bool a0_0, .slice A0_1 l0_1.length c0_1, .string a0_2] 32 (0, 0)) yK hb); have n1_ := Aside0.mk (below_step yB hb); clear BK598; clear HB; have BK598 := n0_; have HB := n1_; clear n0_ n1_; (try clear hb); (try clear hb2); (try clear hk); (try clear hi); have hcz28_0 : w27.cell? ⟨gb598, 0, none⟩ = some (.bool a0_0) := (blk_cell BK598.out 0).trans rfl; have hcz28_1 : w27.cell? ⟨gb598, 1, none⟩ = some (.slice A0_1 l0_1.length c0_1) := (blk_cell BK598.out 1).trans rfl; have hcz28_2 : w27.cell? ⟨gb598, 2, none⟩ = some (.string a0_2) := (blk_cell BK598.out 2).trans rfl; have hfz28_0 := blk_frozen BK598.out 0; have hfz28_1 := blk_frozen BK598.out 1; have hfz28_2 := blk_frozen BK598.out 2) | (go_at_call 83; (with_reducible refine (swarfref43_letter.calls k a0_0 _ _ l0_1 a0_2 79 false _ ?side1 ?side2 A7.out).mono ?_); (case side1 => exact yC HR0_1.out); (case side2 => exact HC0_1.out); rintro e w29 ⟨rfl, hb⟩; have n0_ := Aside0.mk (blk_below (g := gb598) (o := .cells #[.bool a0_0, .slice A0_1 l0_1.length c0_1, .string a0_2] 32 (0, 0)) yK hb); have n1_ := Aside0.mk (below_step yB hb); clear BK598; clear HB; have BK598 := n0_; have HB := n1_; clear n0_ n1_; (try clear hb); (try clear hb2); (try clear hk); (try clear hi); have hcz30_0 : w29.cell? ⟨gb598, 0, none⟩ = some (.bool a0_0) := (blk_cell BK598.out 0).trans rfl; have hcz30_1 : w29.cell? ⟨gb598, 1, none⟩ = some (.slice A0_1 l0_1.length c0_1) := (blk_cell BK598.out 1).trans rfl; have hcz30_2 : w29.cell? ⟨gb598, 2, none⟩ = some (.string a0_2) := (blk_cell BK598.out 2).trans rfl; have hfz30_0 := blk_frozen BK598.out 0; have hfz30_1 := blk_frozen BK598.out 1; have hfz30_2 := blk_frozen BK598.out 2) | (go_at_call 81; (with_reducible refine (swarfref43_End.calls k a0_0 _ _ l0_1 a0_2 false _ ?side1 ?side2 A14.out).mono ?_); (case side1 => exact yC HR0_1.out); (case side2 => exact HC0_1.out); rintro e w31 ⟨rfl, hb⟩; have n0_ := Aside0.mk (blk_below (g := gb598) (o := .cells #[.bool a0_0, .slice A0_1 l0_1.length c0_1, .string a0_2] 32 (0, 0)) yK hb); have n1_ := Aside0.mk (below_step yB hb); clear BK598; clear HB; have BK598 := n0_; have HB := n1_; clear n0_ n1_; (try clear hb); (try clear hb2); (try clear hk); (try clear hi); have hcz32_0 : w31.cell? ⟨gb598, 0, none⟩ = some (.bool a0_0) := (blk_cell BK598.out 0).trans rfl; have hcz32_1 : w31.cell? ⟨gb598, 1, none⟩ = some (.slice A0_1 l0_1.length c0_1) := (blk_cell BK598.out 1).trans rfl; have hcz32_2 : w31.cell? ⟨gb598, 2, none⟩ = some (.string a0_2) := (blk_cell BK598.out 2).trans rfl; have hfz32_0 := blk_frozen BK598.out 0; have hfz32_1 := blk_frozen BK598.out 1; have hfz32_2 := blk_frozen BK598.out 2) | (go_at_call 82; (with_reducible refine (swarfref43_Return.calls k a0_0 _ _ l0_1 a0_2 true _ ?side1 ?side2 A23.out).mono ?_); (case side1 => exact yC HR0_1.out); (case side2 => exact HC0_1.out); rintro e w33 ⟨rfl, hb⟩; have n0_ := Aside0.mk (blk_below (g := gb598) (o := .cells #[.bool a0_0, .slice A0_1 l0_1.length c0_1, .string a0_2] 32 (0, 0)) yK hb); have n1_ := Aside0.mk (below_step yB hb); clear BK598; clear HB; have BK598 := n0_; have HB := n1_; clear n0_ n1_; (try clear hb); (try clear hb2); (try clear hk); (try clear hi)))
     go_ret
     exact ⟨by first | rfl | (simp [errW_none, errW_some] <;> rfl) | (simp [*, errW_none, errW_some] <;> rfl), yB⟩
    ·replace c24 := Bool.eq_false_iff.mpr c24
     subst c24
     have H1 : ((swarfref43_has.f k a0_0 l0_1 a0_2 77 98000).bind fun t603 => (some (!t603))) = some r := by rw [if_neg (show ¬ (false = true) by decide)] at H; exact H
     clear H
     have H := H1
     clear H1
     replace H := Option.bind_eq_some_iff.mp H
     obtain ⟨t603, A340, H⟩ := H
     replace H : (some (!t603)) = some r := H
     have A34 := Aside0.mk A340
     clear A340
     obtain rfl := Option.some.inj H
     go_enter Try.func98, Try.ntmps98
     go_wp2_with (first | ((with_reducible refine gate_dst (N := 1) rfl ?_); refine box_event ?hg (N := 1) ?hd (cs := #[.bool a0_0, .slice A0_1 l0_1.length c0_1, .string a0_2]) (t := 32) ?hr ?_; (case hd => rfl); (case hg => rfl); (case hr => first | (go_simp; done) | (go_simp; rfl)); intro gb598 hg w35 hbox hb; have n0_ := Aside0.mk (below_step yB hb); have n1_ := Aside0.mk (hbox); have n2_ := Aside0.mk ((yG hg : w.heap.size ≤ gb598)); have n3_ := Aside0.mk ((yG hg : w.heap.size ≤ gb598)); clear HB; have HB := n0_; have BK598 := n1_; have GW598 := n2_; have GE598 := n3_; clear n0_ n1_ n2_ n3_; clear hb hbox hg; have hcz36_0 : w35.cell? ⟨gb598, 0, none⟩ = some (.bool a0_0) := (blk_cell BK598.out 0).trans rfl; have hcz36_1 : w35.cell? ⟨gb598, 1, none⟩ = some (.slice A0_1 l0_1.length c0_1) := (blk_cell BK598.out 1).trans rfl; have hcz36_2 : w35.cell? ⟨gb598, 2, none⟩ = some (.string a0_2) := (blk_cell BK598.out 2).trans rfl; have hfz36_0 := blk_frozen BK598.out 0; have hfz36_1 := blk_frozen BK598.out 1; have hfz36_2 := blk_frozen BK598.out 2) | ((with_reducible refine gate_callee (f := 83) rfl ?_); refine goesL_ (some 4) rfl rfl Try.func83 (by kernel_rfl) rfl #[.agg #[.bool a0_0, .slice A0_1 l0_1.length c0_1, .string a0_2], .int .u8 78] rfl yQ ?_; (with_reducible refine (swarfref43_letter.calls k a0_0 _ _ l0_1 a0_2 78 false _ ?side1 ?side2 A2.out).mono ?_); (case side1 => exact yC HR0_1.out); (case side2 => exact HC0_1.out); rintro e w37 ⟨rfl, hb⟩; refine ⟨_, rfl, ?_⟩; have n0_ := Aside0.mk (blk_below (g := gb598) (o := .cells #[.bool a0_0, .slice A0_1 l0_1.length c0_1, .string a0_2] 32 (0, 0)) yK hb); have n1_ := Aside0.mk (below_step yB hb); clear BK598; clear HB; have BK598 := n0_; have HB := n1_; clear n0_ n1_; (try clear hb); (try clear hb2); (try clear hk); (try clear hi); have hcz38_0 : w37.cell? ⟨gb598, 0, none⟩ = some (.bool a0_0) := (blk_cell BK598.out 0).trans rfl; have hcz38_1 : w37.cell? ⟨gb598, 1, none⟩ = some (.slice A0_1 l0_1.length c0_1) := (blk_cell BK598.out 1).trans rfl; have hcz38_2 : w37.cell? ⟨gb598, 2, none⟩ = some (.string a0_2) := (blk_cell BK598.out 2).trans rfl; have hfz38_0 := blk_frozen BK598.out 0; have hfz38_1 := blk_frozen BK598.out 1; have hfz38_2 := blk_frozen BK598.out 2) | (go_at_call 83; (with_reducible refine (swarfref43_letter.calls k a0_0 _ _ l0_1 a0_2 79 false _ ?side1 ?side2 A7.out).mono ?_); (case side1 => exact yC HR0_1.out); (case side2 => exact HC0_1.out); rintro e w39 ⟨rfl, hb⟩; have n0_ := Aside0.mk (blk_below (g := gb598) (o := .cells #[.bool a0_0, .slice A0_1 l0_1.length c0_1, .string a0_2] 32 (0, 0)) yK hb); have n1_ := Aside0.mk (below_step yB hb); clear BK598; clear HB; have BK598 := n0_; have HB := n1_; clear n0_ n1_; (try clear hb); (try clear hb2); (try clear hk); (try clear hi); have hcz40_0 : w39.cell? ⟨gb598, 0, none⟩ = some (.bool a0_0) := (blk_cell BK598.out 0).trans rfl; have hcz40_1 : w39.cell? ⟨gb598, 1, none⟩ = some (.slice A0_1 l0_1.length c0_1) := (blk_cell BK598.out 1).trans rfl; have hcz40_2 : w39.cell? ⟨gb598, 2, none⟩ = some (.string a0_2) := (blk_cell BK598.out 2).trans rfl; have hfz40_0 := blk_frozen BK598.out 0; have hfz40_1 := blk_frozen BK598.out 1; have hfz40_2 := blk_frozen BK598.out 2) | (go_at_call 81; (with_reducible refine (swarfref43_End.calls k a0_0 _ _ l0_1 a0_2 false _ ?side1 ?side2 A14.out).mono ?_); (case side1 => exact yC HR0_1.out); (case side2 => exact HC0_1.out); rintro e w41 ⟨rfl, hb⟩; have n0_ := Aside0.mk (blk_below (g := gb598) (o := .cells #[.bool a0_0, .slice A0_1 l0_1.length c0_1, .string a0_2] 32 (0, 0)) yK hb); have n1_ := Aside0.mk (below_step yB hb); clear BK598; clear HB; have BK598 := n0_; have HB := n1_; clear n0_ n1_; (try clear hb); (try clear hb2); (try clear hk); (try clear hi); have hcz42_0 : w41.cell? ⟨gb598, 0, none⟩ = some (.bool a0_0) := (blk_cell BK598.out 0).trans rfl; have hcz42_1 : w41.cell? ⟨gb598, 1, none⟩ = some (.slice A0_1 l0_1.length c0_1) := (blk_cell BK598.out 1).trans rfl; have hcz42_2 : w41.cell? ⟨gb598, 2, none⟩ = some (.string a0_2) := (blk_cell BK598.out 2).trans rfl; have hfz42_0 := blk_frozen BK598.out 0; have hfz42_1 := blk_frozen BK598.out 1; have hfz42_2 := blk_frozen BK598.out 2) | (go_at_call 82; (with_reducible refine (swarfref43_Return.calls k a0_0 _ _ l0_1 a0_2 false _ ?side1 ?side2 A23.out).mono ?_); (case side1 => exact yC HR0_1.out); (case side2 => exact HC0_1.out); rintro e w43 ⟨rfl, hb⟩; have n0_ := Aside0.mk (blk_below (g := gb598) (o := .cells #[.bool a0_0, .slice A0_1 l0_1.length c0_1, .string a0_2] 32 (0, 0)) yK hb); have n1_ := Aside0.mk (below_step yB hb); clear BK598; clear HB; have BK598 := n0_; have HB := n1_; clear n0_ n1_; (try clear hb); (try clear hb2); (try clear hk); (try clear hi); have hcz44_0 : w43.cell? ⟨gb598, 0, none⟩ = some (.bool a0_0) := (blk_cell BK598.out 0).trans rfl; have hcz44_1 : w43.cell? ⟨gb598, 1, none⟩ = some (.slice A0_1 l0_1.length c0_1) := (blk_cell BK598.out 1).trans rfl; have hcz44_2 : w43.cell? ⟨gb598, 2, none⟩ = some (.string a0_2) := (blk_cell BK598.out 2).trans rfl; have hfz44_0 := blk_frozen BK598.out 0; have hfz44_1 := blk_frozen BK598.out 1; have hfz44_2 := blk_frozen BK598.out 2) | (go_at_call 60; (with_reducible refine (swarfref43_has.calls k a0_0 _ _ l0_1 a0_2 77 98000 t603 _ ?side1 ?side2 A34.out).mono ?_); (case side1 => exact yC HR0_1.out); (case side2 => exact HC0_1.out); rintro e w45 ⟨rfl, hb⟩; have n0_ := Aside0.mk (blk_below (g := gb598) (o := .cells #[.bool a0_0, .slice A0_1 l0_1.length c0_1, .string a0_2] 32 (0, 0)) yK hb); have n1_ := Aside0.mk (below_step yB hb); clear BK598; clear HB; have BK598 := n0_; have HB := n1_; clear n0_ n1_; (try clear hb); (try clear hb2); (try clear hk); (try clear hi)))
     go_ret
     exact ⟨by first | rfl | (simp [errW_none, errW_some] <;> rfl) | (simp [*, errW_none, errW_some] <;> rfl), yB⟩
end Go.Proofs.Ytehkhbnhmehobaa.P
namespace Go.Proofs.Ytehkhbnhmehobaa.P
open Go.RowKit Go.Proofs.YtehkhbnhmehobaaW.PrintWords Go.Proofs.YtehkhbnhmehobaaW.PrintLast Go.Proofs.YtehkhbnhmehobaaW.PrintMore
attribute [local go_sem] max2_int min2_int max_two min_two max_three min_three max_four min_four
set_option linter.unusedVariables false
set_option linter.unusedSimpArgs false
def swarfref43_run.l0 : Nat → List (S32) → Int → Int → Int → Int → Option (Bool)
 | 0, _, _, _, _, _ => none
 | k + 1, x0, x1, x2, x3, x9 => if x9 < x3 then (if 0 ≤ (wrap64 (x1 + x9)) then (if (wrap64 (x1 + x9)) < (x0.length : Int) then ((swarfref43_folds.f k ((rd_T32 x0 (wrap64 (x1 + x9))).f0) ((rd_T32 x0 (wrap64 (x1 + x9))).f1) ((rd_T32 x0 (wrap64 (x1 + x9))).f2)).bind fun t605 => (if t605 = true then (if 0 ≤ (wrap64 (x2 + x9)) then (if (wrap64 (x2 + x9)) < (x0.length : Int) then ((swarfref41_Equal.f k ((rd_T32 x0 (wrap64 (x1 + x9))).f0) ((rd_T32 x0 (wrap64 (x1 + x9))).f1) ((rd_T32 x0 (wrap64 (x1 + x9))).f2) ((rd_T32 x0 (wrap64 (x2 + x9))).f0) ((rd_T32 x0 (wrap64 (x2 + x9))).f1) ((rd_T32 x0 (wrap64 (x2 + x9))).f2)).bind fun t608 => (if t608 = true then (swarfref43_run.l0 k x0 x1 x2 x3 (wrap64 (x9 + 1))) else (some false))) else (none)) else (none)) else (some false))) else (none)) else (none)) else (some true)
def swarfref43_run.f (k : Nat) (l0 : List (S32)) (a1 : Int) (a2 : Int) (a3 : Int) : Option (Bool) := if (wrap64 (a2 + a3)) > (l0.length : Int) then (some false) else (swarfref43_run.l0 k l0 a1 a2 a3 0)
theorem swarfref43_run.mono_l : ∀ k, (∀ y0 y1 y2 y3 y4, LeO (swarfref43_run.l0 k y0 y1 y2 y3 y4) (swarfref43_run.l0 (k + 1) y0 y1 y2 y3 y4))
 | 0 => fun _ _ _ _ _ r h => by simp [swarfref43_run.l0] at h
 | k + 1 => by
  have ih0 := swarfref43_run.mono_l k
  ·intro y0 y1 y2 y3 y4
   unfold swarfref43_run.l0
   repeat' first
   | (with_reducible exact ih0 _ _ _ _ _)
   | (with_reducible exact swarfref41_Equal.mono _ _ _ _ _ _ _)
   | (with_reducible exact swarfref43_folds.mono _ _ _ _)
   | (with_reducible exact LeO.refl _)
   | (with_reducible exact LeO.none _)
   | (with_reducible refine LeO.ite ?_ ?_)
   | (with_reducible refine LeO.bind ?_ (fun _ => ?_))
   | exact ih0 _ _ _ _ _
   | exact swarfref41_Equal.mono _ _ _ _ _ _ _
   | exact swarfref43_folds.mono _ _ _ _
   | exact LeO.none _
   | refine LeO.ite ?_ ?_
   | refine LeO.bind ?_ (fun _ => ?_)
theorem swarfref43_run.mono : ∀ a0 a1 a2 a3 k, LeO (swarfref43_run.f k a0 a1 a2 a3) (swarfref43_run.f (k + 1) a0 a1 a2 a3) := by
 intro a0 a1 a2 a3 k
 have ih0 := swarfref43_run.mono_l k
 unfold swarfref43_run.f
 repeat' first
   | (with_reducible exact ih0 _ _ _ _ _)
   | (with_reducible exact swarfref41_Equal.mono _ _ _ _ _ _ _)
   | (with_reducible exact swarfref43_folds.mono _ _ _ _)
   | (with_reducible exact LeO.refl _)
   | (with_reducible exact LeO.none _)
   | (with_reducible refine LeO.ite ?_ ?_)
   | (with_reducible refine LeO.bind ?_ (fun _ => ?_))
   | exact ih0 _ _ _ _ _
   | exact swarfref41_Equal.mono _ _ _ _ _ _ _
   | exact swarfref43_folds.mono _ _ _ _
   | exact LeO.none _
   | refine LeO.ite ?_ ?_
   | refine LeO.bind ?_ (fun _ => ?_)
def swarfref43_run.T6 : Bool × List (List Nat × List Nat) := (true, [([], []), ([], []), ([], []), ([1, 2], [1, 2]), ([0, 3], [0, 3]), ([4], [4]), ([5], [5]), ([6], [6]), ([7, 6], [7]), ([8], [8]), ([8], [8]), ([8], [8]), ([10, 11, 8], [8, 10, 11]), ([9, 12, 8], [8, 9, 12]), ([13, 8], [8, 13]), ([8], [8]), ([8], [8]), ([8], [8]), ([16, 17, 8], [8, 16, 17]), ([15, 18, 8], [8, 15, 18]), ([19, 8], [8, 19]), ([14, 20, 8, 8], [8, 14, 20]), ([21, 8], [8, 21]), ([8, 22], [8, 22])])
def swarfref43_run.B6 : List Nat := [0, 0, 0, 6, 15, 31, 63, 127, 255, 511, 511, 511, 3583, 8191, 16383, 511, 511, 511, 197119, 492031, 1016319, 2097151, 4194303, 8388607]
theorem swarfref43_run.tab6 : rtab .any (opsOf Try.f69 6) = swarfref43_run.T6 := by kernel_rfl
theorem swarfref43_run.bits6 : waitsOk swarfref43_run.T6.2 swarfref43_run.B6 = true := by kernel_rfl
set_option maxHeartbeats 8000000 in
set_option maxRecDepth 100000 in
theorem swarfref43_run.calls (k : Nat) (A0 : Option Addr) (c0 : Nat) (l0 : List (S32)) (a1 : Int) (a2 : Int) (a3 : Int) (r : Bool) (w : World) (hr0 : Kd.C k32 w A0 l0.length l0) (hc0 : l0.length ≤ c0) (h : swarfref43_run.f k l0 a1 a2 a3 = some r) :
  Calls Try.prog 69 #[.slice A0 l0.length c0, .int .i64 a1, .int .i64 a2, .int .i64 a3] w fun e w' => e = .returned (.bool r) ∧ Below w.heap.size w w' := by
 have hu32 := Try.underlying32
 have HR0 := Aside0.mk hr0
 have HC0 := Aside0.mk hc0
 clear hr0 hc0
 have HB := Aside0.mk (Below.refl w.heap.size w)
 have H : (if (wrap64 (a2 + a3)) > (l0.length : Int) then (some false) else (swarfref43_run.l0 k l0 a1 a2 a3 0)) = some r := h
 clear h
 by_cases c5 : (wrap64 (a2 + a3)) > (l0.length : Int)
 ·rw [if_pos c5] at H
  have c5b0 : decide ((l0.length : Int) < (wrap64 (a2 + a3))) = true := decide_eq_true c5
  clear c5
  obtain rfl := Option.some.inj H
  go_enter Try.func69, Try.ntmps69
  go_wp2
  go_ret
  exact ⟨by first | rfl | (simp [errW_none, errW_some] <;> rfl) | (simp [*, errW_none, errW_some] <;> rfl), yB⟩
 ·rw [if_neg c5] at H
  have c5b0 : decide ((l0.length : Int) < (wrap64 (a2 + a3))) = false := decide_eq_false c5
  clear c5
  have H' := Aside0.mk H
  clear H
  go_enter Try.func69, Try.ntmps69
  go_wp2
  go_loopg [9] k (fun kq v9 w' => ∃ (x9_1 : Int), v9 = .int .i64 x9_1 ∧ Aside0 (swarfref43_run.l0 kq l0 a1 a2 a3 x9_1 = some r) ∧ Aside0 (kq ≤ k) ∧ Aside0 (Below w.heap.size w w'))
  case atStart => exact ⟨(0), yS, H', ⟨Nat.le_refl _⟩, ⟨yB⟩⟩
  case round =>
   clear H'
   try clear p2
   try clear c5
   try clear c5b0
   obtain ⟨x9_1, rfl, HA, HK1, HB⟩ := hrel
   cases gk with
   | zero => exact absurd HA.out (by simp [swarfref43_run.l0])
   | succ k1 =>
    have H := HA.out
    clear HA
    simp only [swarfref43_run.l0] at H
    by_cases c6 : x9_1 < a3
    ·rw [if_pos c6] at H
     have c6b0 : decide (x9_1 < a3) = true := decide_eq_true c6
     clear c6
     obtain ⟨ji7, hji7⟩ : ∃ j_ : Int, (wrap64 (a1 + x9_1)) = j_ := ⟨_, rfl⟩
     replace H : (if 0 ≤ (ji7) then (if (ji7) < (l0.length : Int) then ((swarfref43_folds.f k1 ((rd_T32 l0 (ji7)).f0) ((rd_T32 l0 (ji7)).f1) ((rd_T32 l0 (ji7)).f2)).bind fun t605 => (if t605 = true then (if 0 ≤ (wrap64 (a2 + x9_1)) then (if (wrap64 (a2 + x9_1)) < (l0.length : Int) then ((swarfref41_Equal.f k1 ((rd_T32 l0 (ji7)).f0) ((rd_T32 l0 (ji7)).f1) ((rd_T32 l0 (ji7)).f2) ((rd_T32 l0 (wrap64 (a2 + x9_1))).f0) ((rd_T32 l0 (wrap64 (a2 + x9_1))).f1) ((rd_T32 l0 (wrap64 (a2 + x9_1))).f2)).bind fun t608 => (if t608 = true then (swarfref43_run.l0 k1 l0 a1 a2 a3 (wrap64 (x9_1 + 1))) else (some false))) else (none)) else (none)) else (some false))) else (none)) else (none)) = some r := by first | (rw [hji7] at H; exact H) | (simp only [hji7] at H ⊢; exact H)
     have hji7w : (IntKind.i64.wrap (a1 + x9_1)) = ji7 := (i64_w _).trans hji7
     by_cases c8 : 0 ≤ (ji7)
     ·rw [if_pos c8] at H
      have c8b0 : decide (0 ≤ (ji7)) = true := decide_eq_true c8
      clear c8
      by_cases c9 : (ji7) < (l0.length : Int)
      ·rw [if_pos c9] at H
       have c9b0 : decide ((ji7) < (l0.length : Int)) = true := decide_eq_true c9
       clear c9
       replace H := Option.bind_eq_some_iff.mp H
       obtain ⟨t605, A100, H⟩ := H
       replace H : (if t605 = true then (if 0 ≤ (wrap64 (a2 + x9_1)) then (if (wrap64 (a2 + x9_1)) < (l0.length : Int) then ((swarfref41_Equal.f k1 ((rd_T32 l0 (ji7)).f0) ((rd_T32 l0 (ji7)).f1) ((rd_T32 l0 (ji7)).f2) ((rd_T32 l0 (wrap64 (a2 + x9_1))).f0) ((rd_T32 l0 (wrap64 (a2 + x9_1))).f1) ((rd_T32 l0 (wrap64 (a2 + x9_1))).f2)).bind fun t608 => (if t608 = true then (swarfref43_run.l0 k1 l0 a1 a2 a3 (wrap64 (x9_1 + 1))) else (some false))) else (none)) else (none)) else (some false)) = some r := H
       have A10 := Aside0.mk A100
       clear A100
       by_cases c11 : t605 = true
       ·subst c11
        have H1 : (if 0 ≤ (wrap64 (a2 + x9_1)) then (if (wrap64 (a2 + x9_1)) < (l0.length : Int) then ((swarfref41_Equal.f k1 ((rd_T32 l0 (ji7)).f0) ((rd_T32 l0 (ji7)).f1) ((rd_T32 l0 (ji7)).f2) ((rd_T32 l0 (wrap64 (a2 + x9_1))).f0) ((rd_T32 l0 (wrap64 (a2 + x9_1))).f1) ((rd_T32 l0 (wrap64 (a2 + x9_1))).f2)).bind fun t608 => (if t608 = true then (swarfref43_run.l0 k1 l0 a1 a2 a3 (wrap64 (x9_1 + 1))) else (some false))) else (none)) else (none)) = some r := by rw [if_pos rfl] at H; exact H
        clear H
        have H := H1
        clear H1
        obtain ⟨ji12, hji12⟩ : ∃ j_ : Int, (wrap64 (a2 + x9_1)) = j_ := ⟨_, rfl⟩
        replace H : (if 0 ≤ (ji12) then (if (ji12) < (l0.length : Int) then ((swarfref41_Equal.f k1 ((rd_T32 l0 (ji7)).f0) ((rd_T32 l0 (ji7)).f1) ((rd_T32 l0 (ji7)).f2) ((rd_T32 l0 (ji12)).f0) ((rd_T32 l0 (ji12)).f1) ((rd_T32 l0 (ji12)).f2)).bind fun t608 => (if t608 = true then (swarfref43_run.l0 k1 l0 a1 a2 a3 (wrap64 (x9_1 + 1))) else (some false))) else (none)) else (none)) = some r := by first | (rw [hji12] at H; exact H) | (simp only [hji12] at H ⊢; exact H)
        (try rw [hji12] at A10)
        have hji12w : (IntKind.i64.wrap (a2 + x9_1)) = ji12 := (i64_w _).trans hji12
        by_cases c13 : 0 ≤ (ji12)
        ·rw [if_pos c13] at H
         have c13b0 : decide (0 ≤ (ji12)) = true := decide_eq_true c13
         clear c13
         by_cases c14 : (ji12) < (l0.length : Int)
         ·rw [if_pos c14] at H
          have c14b0 : decide ((ji12) < (l0.length : Int)) = true := decide_eq_true c14
          clear c14
          replace H := Option.bind_eq_some_iff.mp H
          obtain ⟨t608, A150, H⟩ := H
          replace H : (if t608 = true then (swarfref43_run.l0 k1 l0 a1 a2 a3 (wrap64 (x9_1 + 1))) else (some false)) = some r := H
          have A15 := Aside0.mk A150
          clear A150
          by_cases c16 : t608 = true
          ·subst c16
           have H1 : (swarfref43_run.l0 k1 l0 a1 a2 a3 (wrap64 (x9_1 + 1))) = some r := by rw [if_pos rfl] at H; exact H
           clear H
           have H := H1
           clear H1
           have H' := Aside0.mk H
           clear H
           try go_wp2
           have n0_ := Aside0.mk (below_drew1 HB.out)
           clear HB
           have HB := n0_
           clear n0_
           have p604 : 0 ≤ ((ji7) : Int) := of_decide_eq_true yP
           have q604 : (ji7) < (l0.length : Int) := of_decide_eq_true yP
           obtain ⟨ad604, A604_1, c604_1, e604, hx604_0, hx604_1, hx604_2, hl604_1, hi604_1⟩ := at_T32 HR0.out (ji7) p604 q604
           have hw604_2 := hx604_2
           have hw604_1 := hx604_1
           have hw604_0 := hx604_0
           cases e604
           replace hx604_0 := (HB.out.cell (yL hx604_0)).trans hx604_0
           replace hx604_1 := (HB.out.cell (yL hx604_1)).trans hx604_1
           replace hx604_2 := (HB.out.cell (yL hx604_2)).trans hx604_2
           have HR604_1 := Aside0.mk hi604_1
           have HC604_1 := Aside0.mk hl604_1
           clear hi604_1 hl604_1
           replace p604 := eq_true p604
           replace q604 := eq_true q604
           have p606 : 0 ≤ ((ji7) : Int) := of_decide_eq_true yP
           have q606 : (ji7) < (l0.length : Int) := of_decide_eq_true yP
           obtain ⟨ad606, A606_1, c606_1, e606, hx606_0, hx606_1, hx606_2, hl606_1, hi606_1⟩ := at_T32 HR0.out (ji7) p606 q606
           have hw606_2 := hx606_2
           have hw606_1 := hx606_1
           have hw606_0 := hx606_0
           obtain rfl : ad604 = ad606 := (by injection e606)
           have HQA606_1 := Aside0.mk (show A606_1 = A604_1 from by first | (have e_ := Option.some.inj (hw604_1.symm.trans hw606_1); injection e_ with e1_ e2_ e3_; exact e1_.symm) | (have e_ := Option.some.inj (hx604_1.symm.trans hx606_1); injection e_ with e1_ e2_ e3_; exact e1_.symm))
           have HQc606_1 := Aside0.mk (show c606_1 = c604_1 from by first | (have e_ := Option.some.inj (hw604_1.symm.trans hw606_1); injection e_ with e1_ e2_ e3_; exact e3_.symm) | (have e_ := Option.some.inj (hx604_1.symm.trans hx606_1); injection e_ with e1_ e2_ e3_; exact e3_.symm))
           replace hx606_0 := (HB.out.cell (yL hx606_0)).trans hx606_0
           replace hx606_1 := (HB.out.cell (yL hx606_1)).trans hx606_1
           replace hx606_2 := (HB.out.cell (yL hx606_2)).trans hx606_2
           have HR606_1 := Aside0.mk hi606_1
           have HC606_1 := Aside0.mk hl606_1
           clear hi606_1 hl606_1
           replace p606 := eq_true p606
           replace q606 := eq_true q606
           have p607 : 0 ≤ ((ji12) : Int) := of_decide_eq_true yP
           have q607 : (ji12) < (l0.length : Int) := of_decide_eq_true yP
           obtain ⟨ad607, A607_1, c607_1, e607, hx607_0, hx607_1, hx607_2, hl607_1, hi607_1⟩ := at_T32 HR0.out (ji12) p607 q607
           have hw607_2 := hx607_2
           have hw607_1 := hx607_1
           have hw607_0 := hx607_0
           obtain rfl : ad604 = ad607 := (by injection e607)
           replace hx607_0 := (HB.out.cell (yL hx607_0)).trans hx607_0
           replace hx607_1 := (HB.out.cell (yL hx607_1)).trans hx607_1
           replace hx607_2 := (HB.out.cell (yL hx607_2)).trans hx607_2
           have HR607_1 := Aside0.mk hi607_1
           have HC607_1 := Aside0.mk hl607_1
           clear hi607_1 hl607_1
           replace p607 := eq_true p607
           replace q607 := eq_true q607
           refine start_ (n := 24) (S := fun w' => w'.cell? (ad604.add (((ji7)).toNat * 3)) = some (.bool ((rd_T32 l0 (ji7)).f0)) ∧ w'.cell? ⟨(ad604.add (((ji7)).toNat * 3)).block, (ad604.add (((ji7)).toNat * 3)).off + 1, none⟩ = some (.slice A604_1 ((rd_T32 l0 (ji7)).f1).length c604_1) ∧ w'.cell? ⟨(ad604.add (((ji7)).toNat * 3)).block, (ad604.add (((ji7)).toNat * 3)).off + 2, none⟩ = some (.string ((rd_T32 l0 (ji7)).f2)) ∧ w'.cell? (ad604.add (((ji7)).toNat * 3)) = some (.bool ((rd_T32 l0 (ji7)).f0)) ∧ w'.cell? ⟨(ad604.add (((ji7)).toNat * 3)).block, (ad604.add (((ji7)).toNat * 3)).off + 1, none⟩ = some (.slice A606_1 ((rd_T32 l0 (ji7)).f1).length c606_1) ∧ w'.cell? ⟨(ad604.add (((ji7)).toNat * 3)).block, (ad604.add (((ji7)).toNat * 3)).off + 2, none⟩ = some (.string ((rd_T32 l0 (ji7)).f2)) ∧ w'.cell? (ad604.add (((ji12)).toNat * 3)) = some (.bool ((rd_T32 l0 (ji12)).f0)) ∧ w'.cell? ⟨(ad604.add (((ji12)).toNat * 3)).block, (ad604.add (((ji12)).toNat * 3)).off + 1, none⟩ = some (.slice A607_1 ((rd_T32 l0 (ji12)).f1).length c607_1) ∧ w'.cell? ⟨(ad604.add (((ji12)).toNat * 3)).block, (ad604.add (((ji12)).toNat * 3)).off + 2, none⟩ = some (.string ((rd_T32 l0 (ji12)).f2))) (ds := []) #[false, false, false, false, false, false, false, false, false, false, false, false, false, false, false, false, false, false, false, false, false, false, false, false] (by kernel_rfl) rfl rfl ⟨((HB.out.cell (yL hw604_0)).trans hw604_0), ((HB.out.cell (yL hw604_1)).trans hw604_1), ((HB.out.cell (yL hw604_2)).trans hw604_2), ((HB.out.cell (yL hw606_0)).trans hw606_0), ((HB.out.cell (yL hw606_1)).trans hw606_1), ((HB.out.cell (yL hw606_2)).trans hw606_2), ((HB.out.cell (yL hw607_0)).trans hw607_0), ((HB.out.cell (yL hw607_1)).trans hw607_1), ((HB.out.cell (yL hw607_2)).trans hw607_2)⟩ (fun hHeld => ?_); refine with_tabW swarfref43_run.tab6 swarfref43_run.bits6 (fun HT_ HW_ => ?_)
           generalize wr.drew = w17 at HB HR604_1 HR606_1 HR607_1 hx604_0 hx604_1 hx604_2 hx606_0 hx606_1 hx606_2 hx607_0 hx607_1 hx607_2 hHeld ⊢
           refine yp 0 21 ?_
           refine yp 1 22 ?_
           refine yp 2 23 ?_
           refine yp 3 24 ?_
           refine yp 4 25 ?_
           refine yt 5 26 hHeld ?_
           refine one_ (i := 6) (N := some 27) #[true, true, true, true, true, true, true, false, false, false, false, false, false, false, false, false, false, false, false, false, false, false, false, false] rfl rfl (one_of HT_.out (by kernel_rfl)) (by decide) (fun K hK => ?_)
           refine goes_ Try.func98 (by kernel_rfl) rfl #[.agg #[.bool ((rd_T32 l0 (ji7)).f0), .slice A604_1 ((rd_T32 l0 (ji7)).f1).length c604_1, .string ((rd_T32 l0 (ji7)).f2)]] (by rfl) rfl rfl (by (try simp only [List.map_toArray, List.map_cons, List.map_nil]); first | done | (simp only [hji7]; rfl) | rfl | (simp only [List.length_drop, List.length_take]; rfl) | (simp only [HQA606_1.out, HQc606_1.out]; rfl) | (simp only [HQA606_1.out, HQc606_1.out, hji7]; rfl)) ?_
           with_reducible refine (swarfref43_folds.calls k1 ((rd_T32 l0 (ji7)).f0) _ _ ((rd_T32 l0 (ji7)).f1) ((rd_T32 l0 (ji7)).f2) true _ ?side1 ?side2 A10.out).mono ?_
           (case side1 => exact yC HR604_1.out)
           (case side2 => exact HC604_1.out)
           rintro e w18 ⟨rfl, hb⟩
           refine ⟨_, rfl, ?_⟩
           have n0_ := Aside0.mk (below_step yB hb)
           clear HB
           have HB := n0_
           clear n0_
           (try clear hb)
           (try clear hb2)
           (try clear hk)
           (try clear hi)
           refine hK.out _ _ ⟨((HB.out.cell (yL hw604_0)).trans hw604_0), ((HB.out.cell (yL hw604_1)).trans hw604_1), ((HB.out.cell (yL hw604_2)).trans hw604_2), ((HB.out.cell (yL hw606_0)).trans hw606_0), ((HB.out.cell (yL hw606_1)).trans hw606_1), ((HB.out.cell (yL hw606_2)).trans hw606_2), ((HB.out.cell (yL hw607_0)).trans hw607_0), ((HB.out.cell (yL hw607_1)).trans hw607_1), ((HB.out.cell (yL hw607_2)).trans hw607_2)⟩ (fun hHeld => ?_)
           clear hK K
           refine norm_ (a' := ?_) ?_ ?_
           rotate_left
           ·show Act.put _ (some 27) _ = _
            simp only [Act.put, List.setIfInBounds_toArray, List.set_cons_zero, List.set_cons_succ, i64_w, i32_w]
            rfl
           refine yp 7 28 ?_
           refine yp 8 29 ?_
           refine yp 9 30 ?_
           refine yp 10 31 ?_
           refine yp 11 32 ?_
           refine yp 12 33 ?_
           refine yp 13 34 ?_
           refine yp 15 36 ?_
           refine yp 16 37 ?_
           refine yp 17 38 ?_
           refine yp 18 39 ?_
           refine yp 19 40 ?_
           refine yt 14 35 hHeld ?_
           refine yt 20 41 hHeld ?_
           refine one_ (i := 21) (N := some 42) #[true, true, true, true, true, true, true, true, true, true, true, true, true, true, true, true, true, true, true, true, true, true, false, false] rfl rfl (one_of HT_.out (by kernel_rfl)) (by decide) (fun K hK => ?_)
           refine goes_ Try.func53 (by kernel_rfl) rfl #[.agg #[.bool ((rd_T32 l0 (ji7)).f0), .slice A606_1 ((rd_T32 l0 (ji7)).f1).length c606_1, .string ((rd_T32 l0 (ji7)).f2)], .agg #[.bool ((rd_T32 l0 (ji12)).f0), .slice A607_1 ((rd_T32 l0 (ji12)).f1).length c607_1, .string ((rd_T32 l0 (ji12)).f2)]] (by rfl) rfl rfl (by (try simp only [List.map_toArray, List.map_cons, List.map_nil]); first | done | (simp only [hji12, hji7]; rfl) | rfl | (simp only [List.length_drop, List.length_take]; rfl) | (simp only [HQA606_1.out, HQc606_1.out]; rfl) | (simp only [HQA606_1.out, HQc606_1.out, hji12, hji7]; rfl)) ?_
           with_reducible refine (swarfref41_Equal.calls k1 ((rd_T32 l0 (ji7)).f0) _ _ ((rd_T32 l0 (ji7)).f1) ((rd_T32 l0 (ji7)).f2) ((rd_T32 l0 (ji12)).f0) _ _ ((rd_T32 l0 (ji12)).f1) ((rd_T32 l0 (ji12)).f2) true _ ?side1 ?side2 ?side3 ?side4 A15.out).mono ?_
           (case side1 => exact yC HR606_1.out)
           (case side2 => exact HC606_1.out)
           (case side3 => exact yC HR607_1.out)
           (case side4 => exact HC607_1.out)
           rintro e w19 ⟨rfl, hb⟩
           refine ⟨_, rfl, ?_⟩
           have n0_ := Aside0.mk (below_step yB hb)
           clear HB
           have HB := n0_
           clear n0_
           (try clear hb)
           (try clear hb2)
           (try clear hk)
           (try clear hi)
           refine hK.out _ _ ⟨((HB.out.cell (yL hw604_0)).trans hw604_0), ((HB.out.cell (yL hw604_1)).trans hw604_1), ((HB.out.cell (yL hw604_2)).trans hw604_2), ((HB.out.cell (yL hw606_0)).trans hw606_0), ((HB.out.cell (yL hw606_1)).trans hw606_1), ((HB.out.cell (yL hw606_2)).trans hw606_2), ((HB.out.cell (yL hw607_0)).trans hw607_0), ((HB.out.cell (yL hw607_1)).trans hw607_1), ((HB.out.cell (yL hw607_2)).trans hw607_2)⟩ (fun hHeld => ?_)
           clear hK K
           refine norm_ (a' := ?_) ?_ ?_
           rotate_left
           ·show Act.put _ (some 42) _ = _
            simp only [Act.put, List.setIfInBounds_toArray, List.set_cons_zero, List.set_cons_succ, i64_w, i32_w]
            rfl
           refine yp 22 43 ?_
           refine yp 23 44 ?_
           refine done_ (done_of HT_.out (by kernel_rfl)) ?_
           try go_wp2
           go_roundg k1
           case measure => have := HK1.out; omega
           case rel => exact ⟨(wrap64 (x9_1 + 1)), yS, H', ⟨by have := HK1.out; omega⟩, ⟨yB⟩⟩
          ·replace c16 := Bool.eq_false_iff.mpr c16
           subst c16
           have H1 : (some false) = some r := by rw [if_neg (show ¬ (false = true) by decide)] at H; exact H
           clear H
           have H := H1
           clear H1
           obtain rfl := Option.some.inj H
           try go_wp2
           have n0_ := Aside0.mk (below_drew1 HB.out)
           clear HB
           have HB := n0_
           clear n0_
           have p604 : 0 ≤ ((ji7) : Int) := of_decide_eq_true yP
           have q604 : (ji7) < (l0.length : Int) := of_decide_eq_true yP
           obtain ⟨ad604, A604_1, c604_1, e604, hx604_0, hx604_1, hx604_2, hl604_1, hi604_1⟩ := at_T32 HR0.out (ji7) p604 q604
           have hw604_2 := hx604_2
           have hw604_1 := hx604_1
           have hw604_0 := hx604_0
           cases e604
           replace hx604_0 := (HB.out.cell (yL hx604_0)).trans hx604_0
           replace hx604_1 := (HB.out.cell (yL hx604_1)).trans hx604_1
           replace hx604_2 := (HB.out.cell (yL hx604_2)).trans hx604_2
           have HR604_1 := Aside0.mk hi604_1
           have HC604_1 := Aside0.mk hl604_1
           clear hi604_1 hl604_1
           replace p604 := eq_true p604
           replace q604 := eq_true q604
           have p606 : 0 ≤ ((ji7) : Int) := of_decide_eq_true yP
           have q606 : (ji7) < (l0.length : Int) := of_decide_eq_true yP
           obtain ⟨ad606, A606_1, c606_1, e606, hx606_0, hx606_1, hx606_2, hl606_1, hi606_1⟩ := at_T32 HR0.out (ji7) p606 q606
           have hw606_2 := hx606_2
           have hw606_1 := hx606_1
           have hw606_0 := hx606_0
           obtain rfl : ad604 = ad606 := (by injection e606)
           have HQA606_1 := Aside0.mk (show A606_1 = A604_1 from by first | (have e_ := Option.some.inj (hw604_1.symm.trans hw606_1); injection e_ with e1_ e2_ e3_; exact e1_.symm) | (have e_ := Option.some.inj (hx604_1.symm.trans hx606_1); injection e_ with e1_ e2_ e3_; exact e1_.symm))
           have HQc606_1 := Aside0.mk (show c606_1 = c604_1 from by first | (have e_ := Option.some.inj (hw604_1.symm.trans hw606_1); injection e_ with e1_ e2_ e3_; exact e3_.symm) | (have e_ := Option.some.inj (hx604_1.symm.trans hx606_1); injection e_ with e1_ e2_ e3_; exact e3_.symm))
           replace hx606_0 := (HB.out.cell (yL hx606_0)).trans hx606_0
           replace hx606_1 := (HB.out.cell (yL hx606_1)).trans hx606_1
           replace hx606_2 := (HB.out.cell (yL hx606_2)).trans hx606_2
           have HR606_1 := Aside0.mk hi606_1
           have HC606_1 := Aside0.mk hl606_1
           clear hi606_1 hl606_1
           replace p606 := eq_true p606
           replace q606 := eq_true q606
           have p607 : 0 ≤ ((ji12) : Int) := of_decide_eq_true yP
           have q607 : (ji12) < (l0.length : Int) := of_decide_eq_true yP
           obtain ⟨ad607, A607_1, c607_1, e607, hx607_0, hx607_1, hx607_2, hl607_1, hi607_1⟩ := at_T32 HR0.out (ji12) p607 q607
           have hw607_2 := hx607_2
           have hw607_1 := hx607_1
           have hw607_0 := hx607_0
           obtain rfl : ad604 = ad607 := (by injection e607)
           replace hx607_0 := (HB.out.cell (yL hx607_0)).trans hx607_0
           replace hx607_1 := (HB.out.cell (yL hx607_1)).trans hx607_1
           replace hx607_2 := (HB.out.cell (yL hx607_2)).trans hx607_2
           have HR607_1 := Aside0.mk hi607_1
           have HC607_1 := Aside0.mk hl607_1
           clear hi607_1 hl607_1
           replace p607 := eq_true p607
           replace q607 := eq_true q607
           refine start_ (n := 24) (S := fun w' => w'.cell? (ad604.add (((ji7)).toNat * 3)) = some (.bool ((rd_T32 l0 (ji7)).f0)) ∧ w'.cell? ⟨(ad604.add (((ji7)).toNat * 3)).block, (ad604.add (((ji7)).toNat * 3)).off + 1, none⟩ = some (.slice A604_1 ((rd_T32 l0 (ji7)).f1).length c604_1) ∧ w'.cell? ⟨(ad604.add (((ji7)).toNat * 3)).block, (ad604.add (((ji7)).toNat * 3)).off + 2, none⟩ = some (.string ((rd_T32 l0 (ji7)).f2)) ∧ w'.cell? (ad604.add (((ji7)).toNat * 3)) = some (.bool ((rd_T32 l0 (ji7)).f0)) ∧ w'.cell? ⟨(ad604.add (((ji7)).toNat * 3)).block, (ad604.add (((ji7)).toNat * 3)).off + 1, none⟩ = some (.slice A606_1 ((rd_T32 l0 (ji7)).f1).length c606_1) ∧ w'.cell? ⟨(ad604.add (((ji7)).toNat * 3)).block, (ad604.add (((ji7)).toNat * 3)).off + 2, none⟩ = some (.string ((rd_T32 l0 (ji7)).f2)) ∧ w'.cell? (ad604.add (((ji12)).toNat * 3)) = some (.bool ((rd_T32 l0 (ji12)).f0)) ∧ w'.cell? ⟨(ad604.add (((ji12)).toNat * 3)).block, (ad604.add (((ji12)).toNat * 3)).off + 1, none⟩ = some (.slice A607_1 ((rd_T32 l0 (ji12)).f1).length c607_1) ∧ w'.cell? ⟨(ad604.add (((ji12)).toNat * 3)).block, (ad604.add (((ji12)).toNat * 3)).off + 2, none⟩ = some (.string ((rd_T32 l0 (ji12)).f2))) (ds := []) #[false, false, false, false, false, false, false, false, false, false, false, false, false, false, false, false, false, false, false, false, false, false, false, false] (by kernel_rfl) rfl rfl ⟨((HB.out.cell (yL hw604_0)).trans hw604_0), ((HB.out.cell (yL hw604_1)).trans hw604_1), ((HB.out.cell (yL hw604_2)).trans hw604_2), ((HB.out.cell (yL hw606_0)).trans hw606_0), ((HB.out.cell (yL hw606_1)).trans hw606_1), ((HB.out.cell (yL hw606_2)).trans hw606_2), ((HB.out.cell (yL hw607_0)).trans hw607_0), ((HB.out.cell (yL hw607_1)).trans hw607_1), ((HB.out.cell (yL hw607_2)).trans hw607_2)⟩ (fun hHeld => ?_); refine with_tabW swarfref43_run.tab6 swarfref43_run.bits6 (fun HT_ HW_ => ?_)
           generalize wr.drew = w20 at HB HR604_1 HR606_1 HR607_1 hx604_0 hx604_1 hx604_2 hx606_0 hx606_1 hx606_2 hx607_0 hx607_1 hx607_2 hHeld ⊢
           refine yp 0 21 ?_
           refine yp 1 22 ?_
           refine yp 2 23 ?_
           refine yp 3 24 ?_
           refine yp 4 25 ?_
           refine yt 5 26 hHeld ?_
           refine one_ (i := 6) (N := some 27) #[true, true, true, true, true, true, true, false, false, false, false, false, false, false, false, false, false, false, false, false, false, false, false, false] rfl rfl (one_of HT_.out (by kernel_rfl)) (by decide) (fun K hK => ?_)
           refine goes_ Try.func98 (by kernel_rfl) rfl #[.agg #[.bool ((rd_T32 l0 (ji7)).f0), .slice A604_1 ((rd_T32 l0 (ji7)).f1).length c604_1, .string ((rd_T32 l0 (ji7)).f2)]] (by rfl) rfl rfl (by (try simp only [List.map_toArray, List.map_cons, List.map_nil]); first | done | (simp only [hji7]; rfl) | rfl | (simp only [List.length_drop, List.length_take]; rfl) | (simp only [HQA606_1.out, HQc606_1.out]; rfl) | (simp only [HQA606_1.out, HQc606_1.out, hji7]; rfl)) ?_
           with_reducible refine (swarfref43_folds.calls k1 ((rd_T32 l0 (ji7)).f0) _ _ ((rd_T32 l0 (ji7)).f1) ((rd_T32 l0 (ji7)).f2) true _ ?side1 ?side2 A10.out).mono ?_
           (case side1 => exact yC HR604_1.out)
           (case side2 => exact HC604_1.out)
           rintro e w21 ⟨rfl, hb⟩
           refine ⟨_, rfl, ?_⟩
           have n0_ := Aside0.mk (below_step yB hb)
           clear HB
           have HB := n0_
           clear n0_
           (try clear hb)
           (try clear hb2)
           (try clear hk)
           (try clear hi)
           refine hK.out _ _ ⟨((HB.out.cell (yL hw604_0)).trans hw604_0), ((HB.out.cell (yL hw604_1)).trans hw604_1), ((HB.out.cell (yL hw604_2)).trans hw604_2), ((HB.out.cell (yL hw606_0)).trans hw606_0), ((HB.out.cell (yL hw606_1)).trans hw606_1), ((HB.out.cell (yL hw606_2)).trans hw606_2), ((HB.out.cell (yL hw607_0)).trans hw607_0), ((HB.out.cell (yL hw607_1)).trans hw607_1), ((HB.out.cell (yL hw607_2)).trans hw607_2)⟩ (fun hHeld => ?_)
           clear hK K
           refine norm_ (a' := ?_) ?_ ?_
           rotate_left
           ·show Act.put _ (some 27) _ = _
            simp only [Act.put, List.setIfInBounds_toArray, List.set_cons_zero, List.set_cons_succ, i64_w, i32_w]
            rfl
           refine yp 7 28 ?_
           refine yp 8 29 ?_
           refine yp 9 30 ?_
           refine yp 10 31 ?_
           refine yp 11 32 ?_
           refine yp 12 33 ?_
           refine yp 13 34 ?_
           refine yp 15 36 ?_
           refine yp 16 37 ?_
           refine yp 17 38 ?_
           refine yp 18 39 ?_
           refine yp 19 40 ?_
           refine yt 14 35 hHeld ?_
           refine yt 20 41 hHeld ?_
           refine one_ (i := 21) (N := some 42) #[true, true, true, true, true, true, true, true, true, true, true, true, true, true, true, true, true, true, true, true, true, true, false, false] rfl rfl (one_of HT_.out (by kernel_rfl)) (by decide) (fun K hK => ?_)
           refine goes_ Try.func53 (by kernel_rfl) rfl #[.agg #[.bool ((rd_T32 l0 (ji7)).f0), .slice A606_1 ((rd_T32 l0 (ji7)).f1).length c606_1, .string ((rd_T32 l0 (ji7)).f2)], .agg #[.bool ((rd_T32 l0 (ji12)).f0), .slice A607_1 ((rd_T32 l0 (ji12)).f1).length c607_1, .string ((rd_T32 l0 (ji12)).f2)]] (by rfl) rfl rfl (by (try simp only [List.map_toArray, List.map_cons, List.map_nil]); first | done | (simp only [hji12, hji7]; rfl) | rfl | (simp only [List.length_drop, List.length_take]; rfl) | (simp only [HQA606_1.out, HQc606_1.out]; rfl) | (simp only [HQA606_1.out, HQc606_1.out, hji12, hji7]; rfl)) ?_
           with_reducible refine (swarfref41_Equal.calls k1 ((rd_T32 l0 (ji7)).f0) _ _ ((rd_T32 l0 (ji7)).f1) ((rd_T32 l0 (ji7)).f2) ((rd_T32 l0 (ji12)).f0) _ _ ((rd_T32 l0 (ji12)).f1) ((rd_T32 l0 (ji12)).f2) false _ ?side1 ?side2 ?side3 ?side4 A15.out).mono ?_
           (case side1 => exact yC HR606_1.out)
           (case side2 => exact HC606_1.out)
           (case side3 => exact yC HR607_1.out)
           (case side4 => exact HC607_1.out)
           rintro e w22 ⟨rfl, hb⟩
           refine ⟨_, rfl, ?_⟩
           have n0_ := Aside0.mk (below_step yB hb)
           clear HB
           have HB := n0_
           clear n0_
           (try clear hb)
           (try clear hb2)
           (try clear hk)
           (try clear hi)
           refine hK.out _ _ ⟨((HB.out.cell (yL hw604_0)).trans hw604_0), ((HB.out.cell (yL hw604_1)).trans hw604_1), ((HB.out.cell (yL hw604_2)).trans hw604_2), ((HB.out.cell (yL hw606_0)).trans hw606_0), ((HB.out.cell (yL hw606_1)).trans hw606_1), ((HB.out.cell (yL hw606_2)).trans hw606_2), ((HB.out.cell (yL hw607_0)).trans hw607_0), ((HB.out.cell (yL hw607_1)).trans hw607_1), ((HB.out.cell (yL hw607_2)).trans hw607_2)⟩ (fun hHeld => ?_)
           clear hK K
           refine norm_ (a' := ?_) ?_ ?_
           rotate_left
           ·show Act.put _ (some 42) _ = _
            simp only [Act.put, List.setIfInBounds_toArray, List.set_cons_zero, List.set_cons_succ, i64_w, i32_w]
            rfl
           refine yp 22 43 ?_
           refine yp 23 44 ?_
           refine done_ (done_of HT_.out (by kernel_rfl)) ?_
           try go_wp2
           go_ret
           exact ⟨by first | rfl | (simp [errW_none, errW_some] <;> rfl) | (simp only [← hji7, ← hji12]; first | rfl | (simp [errW_none, errW_some] <;> rfl)) | (simp [*, errW_none, errW_some] <;> rfl), yB⟩
         ·rw [if_neg c14] at H
          exact absurd H (by simp)
        ·rw [if_neg c13] at H
         exact absurd H (by simp)
       ·replace c11 := Bool.eq_false_iff.mpr c11
        subst c11
        have H1 : (some false) = some r := by rw [if_neg (show ¬ (false = true) by decide)] at H; exact H
        clear H
        have H := H1
        clear H1
        obtain rfl := Option.some.inj H
        try go_wp2
        have n0_ := Aside0.mk (below_drew1 HB.out)
        clear HB
        have HB := n0_
        clear n0_
        have p604 : 0 ≤ ((ji7) : Int) := of_decide_eq_true yP
        have q604 : (ji7) < (l0.length : Int) := of_decide_eq_true yP
        obtain ⟨ad604, A604_1, c604_1, e604, hx604_0, hx604_1, hx604_2, hl604_1, hi604_1⟩ := at_T32 HR0.out (ji7) p604 q604
        have hw604_2 := hx604_2
        have hw604_1 := hx604_1
        have hw604_0 := hx604_0
        cases e604
        replace hx604_0 := (HB.out.cell (yL hx604_0)).trans hx604_0
        replace hx604_1 := (HB.out.cell (yL hx604_1)).trans hx604_1
        replace hx604_2 := (HB.out.cell (yL hx604_2)).trans hx604_2
        have HR604_1 := Aside0.mk hi604_1
        have HC604_1 := Aside0.mk hl604_1
        clear hi604_1 hl604_1
        replace p604 := eq_true p604
        replace q604 := eq_true q604
        refine start_ (n := 24) (S := fun w' => w'.cell? (ad604.add (((ji7)).toNat * 3)) = some (.bool ((rd_T32 l0 (ji7)).f0)) ∧ w'.cell? ⟨(ad604.add (((ji7)).toNat * 3)).block, (ad604.add (((ji7)).toNat * 3)).off + 1, none⟩ = some (.slice A604_1 ((rd_T32 l0 (ji7)).f1).length c604_1) ∧ w'.cell? ⟨(ad604.add (((ji7)).toNat * 3)).block, (ad604.add (((ji7)).toNat * 3)).off + 2, none⟩ = some (.string ((rd_T32 l0 (ji7)).f2))) (ds := []) #[false, false, false, false, false, false, false, false, false, false, false, false, false, false, false, false, false, false, false, false, false, false, false, false] (by kernel_rfl) rfl rfl ⟨((HB.out.cell (yL hw604_0)).trans hw604_0), ((HB.out.cell (yL hw604_1)).trans hw604_1), ((HB.out.cell (yL hw604_2)).trans hw604_2)⟩ (fun hHeld => ?_); refine with_tabW swarfref43_run.tab6 swarfref43_run.bits6 (fun HT_ HW_ => ?_)
        generalize wr.drew = w23 at HB HR604_1 hx604_0 hx604_1 hx604_2 hHeld ⊢
        refine yp 0 21 ?_
        refine yp 1 22 ?_
        refine yp 2 23 ?_
        refine yp 3 24 ?_
        refine yp 4 25 ?_
        refine yt 5 26 hHeld ?_
        refine one_ (i := 6) (N := some 27) #[true, true, true, true, true, true, true, false, false, false, false, false, false, false, false, false, false, false, false, false, false, false, false, false] rfl rfl (one_of HT_.out (by kernel_rfl)) (by decide) (fun K hK => ?_)
        refine goes_ Try.func98 (by kernel_rfl) rfl #[.agg #[.bool ((rd_T32 l0 (ji7)).f0), .slice A604_1 ((rd_T32 l0 (ji7)).f1).length c604_1, .string ((rd_T32 l0 (ji7)).f2)]] (by rfl) rfl rfl (by (try simp only [List.map_toArray, List.map_cons, List.map_nil]); first | done | (simp only [hji7]; rfl) | rfl | (simp only [List.length_drop, List.length_take]; rfl)) ?_
        with_reducible refine (swarfref43_folds.calls k1 ((rd_T32 l0 (ji7)).f0) _ _ ((rd_T32 l0 (ji7)).f1) ((rd_T32 l0 (ji7)).f2) false _ ?side1 ?side2 A10.out).mono ?_
        (case side1 => exact yC HR604_1.out)
        (case side2 => exact HC604_1.out)
        rintro e w24 ⟨rfl, hb⟩
        refine ⟨_, rfl, ?_⟩
        have n0_ := Aside0.mk (below_step yB hb)
        clear HB
        have HB := n0_
        clear n0_
        (try clear hb)
        (try clear hb2)
        (try clear hk)
        (try clear hi)
        refine hK.out _ _ ⟨((HB.out.cell (yL hw604_0)).trans hw604_0), ((HB.out.cell (yL hw604_1)).trans hw604_1), ((HB.out.cell (yL hw604_2)).trans hw604_2)⟩ (fun hHeld => ?_)
        clear hK K
        refine norm_ (a' := ?_) ?_ ?_
        rotate_left
        ·show Act.put _ (some 27) _ = _
         simp only [Act.put, List.setIfInBounds_toArray, List.set_cons_zero, List.set_cons_succ, i64_w, i32_w]
         rfl
        refine yp 7 28 ?_
        refine yp 8 29 ?_
        refine yu 9 30 ?_
        refine yu 10 31 ?_
        refine yu 11 32 ?_
        refine yu 12 33 ?_
        refine yu 13 34 ?_
        refine yu 14 35 ?_
        refine yu 15 36 ?_
        refine yu 16 37 ?_
        refine yu 17 38 ?_
        refine yu 18 39 ?_
        refine yu 19 40 ?_
        refine yu 20 41 ?_
        refine yu 21 42 ?_
        refine yu 22 43 ?_
        refine yp 23 44 ?_
        refine done_ (done_of HT_.out (by kernel_rfl)) ?_
        try go_wp2
        go_ret
        exact ⟨by first | rfl | (simp [errW_none, errW_some] <;> rfl) | (simp only [← hji7]; first | rfl | (simp [errW_none, errW_some] <;> rfl)) | (simp [*, errW_none, errW_some] <;> rfl), yB⟩
      ·rw [if_neg c9] at H
       exact absurd H (by simp)
     ·rw [if_neg c8] at H
      exact absurd H (by simp)
    ·rw [if_neg c6] at H
     have c6b0 : decide (x9_1 < a3) = false := decide_eq_false c6
     clear c6
     obtain rfl := Option.some.inj H
     go_wp2
     go_ret
     exact ⟨by first | rfl | (simp [errW_none, errW_some] <;> rfl) | (simp [*, errW_none, errW_some] <;> rfl), yB⟩
end Go.Proofs.Ytehkhbnhmehobaa.P
