/- A part of the proof of SubprogramFolded. -/

import Derived.Test.YtehkhbnhmehobaaCSubprogramFolded1
import Derived.Test.YtehkhbnhmehobaaCSubprogramFolded2
import Derived.Test.YtehkhbnhmehobaaCSubprogramFolded3
import Derived.Test.YtehkhbnhmehobaaCSubprogramFolded4
namespace Go.Proofs.Ytehkhbnhmehobaa.P
open Go.RowKit Go.Proofs.YtehkhbnhmehobaaW.PrintWords Go.Proofs.YtehkhbnhmehobaaW.PrintLast Go.Proofs.YtehkhbnhmehobaaW.PrintMore
attribute [local go_sem] max2_int min2_int max_two min_two max_three min_three max_four min_four
set_option linter.unusedVariables false
set_option linter.unusedSimpArgs false
def swarfref43_blocks.l0 : Nat → List (S32) → Int → List (S32) → List (S58) → Option ((List (S32)))
 | 0, _, _, _, _ => none
 | k + 1, x3, x4, x705000, x705001 => if x4 < (x705001.length : Int) then (if 0 ≤ x4 then (if x3.length + ((rd_T58 x705001 x4).f1).length < 2932031007402 then (swarfref43_blocks.l0 k (x3 ++ ((rd_T58 x705001 x4).f1)) (wrap64 (x4 + 1)) x705000 x705001) else (none)) else (none)) else (some x3)
def swarfref43_blocks.f (k : Nat) (l0_0 : List (S32)) (l0_1 : List (S58)) : Option ((List (S32))) := (some (([] : List (S32)) : List (S32))).bind fun y705 => (if y705.length + l0_0.length < 2932031007402 then (swarfref43_blocks.l0 k (y705 ++ l0_0) 0 l0_0 l0_1) else (none))
set_option maxHeartbeats 8000000 in
set_option maxRecDepth 100000 in
theorem swarfref43_blocks.calls (k : Nat) (P0_0_ : Nat → Prop) (A0_0 : Option Addr) (c0_0 : Nat) (l0_0 : List (S32)) (P0_1_ : Nat → Prop) (A0_1 : Option Addr) (c0_1 : Nat) (l0_1 : List (S58)) (r : List (S32)) (w : World) (hs0_0 : Kd.V k32 32 w w.heap.size (fun k_ => P0_0_ k_) (.slice A0_0 l0_0.length c0_0) l0_0) (hs0_1 : Kd.V k58 58 w w.heap.size (fun k_ => P0_1_ k_) (.slice A0_1 l0_1.length c0_1) l0_1) (h : swarfref43_blocks.f k l0_0 l0_1 = some r) :
  Calls Try.prog 71 #[.agg #[.slice A0_0 l0_0.length c0_0, .slice A0_1 l0_1.length c0_1]] w fun e w' => ∃ v0_ : Value, e = .returned (v0_) ∧ Kd.N k32 32 w' w.heap.size (fun k_ => ((P0_0_ k_ ∨ P0_1_ k_) ∨ w.heap.size ≤ k_)) v0_ r ∧ Below w.heap.size w w' := by
 have hu48 := Try.underlying48
 have HO0_0 := Aside0.mk (show Kd.V k32 32 w w.heap.size (fun k_ => ((P0_0_ k_ ∨ P0_1_ k_) ∨ w.heap.size ≤ k_)) (.slice A0_0 l0_0.length c0_0) l0_0 from Kd.V_mono hs0_0 (fun k_ hk => .inl (.inl hk)))
 have HO0_1 := Aside0.mk (show Kd.V k58 58 w w.heap.size (fun k_ => ((P0_0_ k_ ∨ P0_1_ k_) ∨ w.heap.size ≤ k_)) (.slice A0_1 l0_1.length c0_1) l0_1 from Kd.V_mono hs0_1 (fun k_ hk => .inl (.inr hk)))
 have HB := Aside0.mk (Below.refl w.heap.size w)
 have H : ((some (([] : List (S32)) : List (S32))).bind fun y705 => (if y705.length + l0_0.length < 2932031007402 then (swarfref43_blocks.l0 k (y705 ++ l0_0) 0 l0_0 l0_1) else (none))) = some r := h
 clear h
 obtain ⟨y705, hy705⟩ : ∃ y_ : List (S32), y_ = (([] : List (S32))) := ⟨_, rfl⟩
 replace H : (if y705.length + l0_0.length < 2932031007402 then (swarfref43_blocks.l0 k (y705 ++ l0_0) 0 l0_0 l0_1) else (none)) = some r := by first | (rw [hy705]; with_reducible exact H) | (have H2_ := (Option.bind_some _ _).symm.trans H; rw [hy705]; with_reducible exact H2_) | (have H2_ := (Option.bind_some _ _).symm.trans H; with_reducible exact H2_) | with_reducible exact H | (rw [hy705]; exact H) | exact H
 have Ny705 := Aside0.mk hy705
 clear hy705
 by_cases c2 : y705.length + l0_0.length < 2932031007402
 ·rw [if_pos c2] at H
  have LMc2 := Aside0.mk c2
  clear c2
  obtain ⟨y708, hy708⟩ : ∃ y_ : List (S32), y_ = (y705 ++ l0_0) := ⟨_, rfl⟩
  replace H : (swarfref43_blocks.l0 k y708 0 l0_0 l0_1) = some r := by first | (rw [hy708]; with_reducible exact H) | (have H2_ := (Option.bind_some _ _).symm.trans H; rw [hy708]; with_reducible exact H2_) | (have H2_ := (Option.bind_some _ _).symm.trans H; with_reducible exact H2_) | with_reducible exact H | (rw [hy708]; exact H) | exact H
  have Ny708 := Aside0.mk hy708
  clear hy708
  have H' := Aside0.mk H
  clear H
  go_enter Try.func71, Try.ntmps71
  go_wp2_with (first | ((with_reducible refine gate_dst (N := 1) rfl ?_); refine yX 1 #[.slice A0_0 l0_0.length c0_0, .slice A0_1 l0_1.length c0_1] 48 ?_; intro gb704 hg w3 hbox hb; replace HO0_0 := Aside0.mk (Kd.V_below (Kd.V_elderB (yV HO0_0.out) gb704 (Nat.le_of_eq hg.symm)) hb); replace HO0_1 := Aside0.mk (Kd.V_below (Kd.V_elderB (yV HO0_1.out) gb704 (Nat.le_of_eq hg.symm)) hb); have BK704 := Aside0.mk (hbox); have GE704 := Aside0.mk ((yG hg : w.heap.size ≤ gb704)); replace HB := Aside0.mk (below_step yB hb); clear hb hbox hg) | ((with_reducible refine gate_dst (N := 5) rfl ?_); refine Kd.N_lit k32 _ 32 ?hg (N' := 5) ?hd (xs := ([] : List (S32))) (inner := []) (ok := (fun k_ => ((P0_0_ k_ ∨ P0_1_ k_) ∨ w.heap.size ≤ k_) ∧ k_ ≠ gb704)) (okp := (fun k_ => ((P0_0_ k_ ∨ P0_1_ k_) ∨ w.heap.size ≤ k_) ∧ k_ ≠ gb704)) ?hr ?hp (fun _ hk => hk) ((show ∀ k_, w3.heap.size ≤ k_ → (fun k_ => ((P0_0_ k_ ∨ P0_1_ k_) ∨ w.heap.size ≤ k_) ∧ k_ ≠ gb704) k_ from fun k_ hk => ⟨(.inr (Nat.le_trans (below_size yB) hk)), Kd.freshB (g := gb704) yK k_ hk⟩) _ (Nat.le_refl _)) (Below.refl _ _) (Nat.le_refl _) (by simp) ?_; (case hd => rfl); (case hg => rfl); (case hr => first | (go_simp; done) | (go_simp; rfl)); (case hp => exact (Reps.none _ _)); intro v706 w4 ho5 hb hg_ hnew_; clear hg_ hnew_; (first | rw [← Ny705.out] at ho5 | (simp only [Int.reduceToNat] at ho5; rw [← Ny705.out] at ho5)); replace HO0_0 := Aside0.mk (Kd.V_elder' (yV HO0_0.out) (Kd.N_base ho5) hb); replace HO0_1 := Aside0.mk (Kd.V_elder' (yV HO0_1.out) (Kd.N_base ho5) hb); have HO707 := Aside0.mk (Kd.N_lower ho5 (below_size yB)); replace BK704 := Aside0.mk (blk_below (g := gb704) yK hb); replace HB := Aside0.mk (below_step yB hb); clear hb ho5; have hcz6_0 := yZ0 BK704.out; have hcz6_1 := yZ1 BK704.out; have hfz6_0 := blk_frozen BK704.out 0; have hfz6_1 := blk_frozen BK704.out 1) | ((with_reducible refine gate_builtin (b := .append) (xs := #[.tmp 5, .tmp 7]) rfl ?_); at_builtin; refine Kd.N_append_rows k32 (w0 := w) w.heap.size rfl (.tmp 5) (.tmp 7) 35 32 (.agg #[(.bool false), (.slice none 0 0), (.string ⟨#[]⟩)]) 48 rfl Try.underlying35 info32 rfl (by decide) (by omega) v706 y705 l0_0 _ _ _ (fun k_ => ((P0_0_ k_ ∨ P0_1_ k_) ∨ w.heap.size ≤ k_) ∧ k_ ≠ gb704) (fun k_ => ((fun k_ => ((P0_0_ k_ ∨ P0_1_ k_) ∨ w.heap.size ≤ k_) ∧ k_ ≠ gb704)) k_ ∧ some k_ ≠ (v706 : Value).ownBlock) rfl rfl ?aO ?aR (fun _ hk => hk) ?aF ?aB ?aS ?aL ?_; (case aR => exact (by skip; exact Kd.V_F (Kd.V_mono (ok' := (fun k_ => ((fun k_ => ((P0_0_ k_ ∨ P0_1_ k_) ∨ w.heap.size ≤ k_) ∧ k_ ≠ gb704)) k_ ∧ some k_ ≠ (v706 : Value).ownBlock)) (HO0_0.out) (fun k_ hk => ⟨⟨hk.1.1, hk.1.2⟩, hk.2⟩)))); (case aB => exact yB); (case aF => exact (fun k_ hk => ⟨(.inr (Nat.le_trans (below_size yB) hk)), Kd.freshB (g := gb704) yK k_ hk⟩)); (case aO => exact (yN HO707.out)); (case aS => exact (below_size yB)); (case aL => have := LMc2.out; omega); intro v709 w7 ho hb hg hat; rw [← Ny708.out] at ho; have n0_ := Aside0.mk (Kd.V_afterv (ok := (fun k_ => ((P0_0_ k_ ∨ P0_1_ k_) ∨ w.heap.size ≤ k_) ∧ k_ ≠ gb704)) (yV HO0_0.out) hg hat); have n1_ := Aside0.mk (Kd.V_afterv (ok := (fun k_ => ((P0_0_ k_ ∨ P0_1_ k_) ∨ w.heap.size ≤ k_) ∧ k_ ≠ gb704)) (yV HO0_1.out) hg hat); have n2_ := Aside0.mk (blk_grown (g := gb704) yK hg (Kd.N_ne HO707.out BK704.out (by decide))); have n3_ := Aside0.mk (hb); have n4_ := Aside0.mk (ho); clear HO0_0; clear HO0_1; clear BK704; clear HB; clear HO707; have HO0_0 := n0_; have HO0_1 := n1_; have BK704 := n2_; have HB := n3_; have HO710 := n4_; clear n0_ n1_ n2_ n3_ n4_; clear ho hb hg hat))
  go_loopg [3, 4] k (fun kq v3 v4 w' => ∃ (x3_1 : List (S32)) (x4_1 : Int), v4 = .int .i64 x4_1 ∧ Aside0 (swarfref43_blocks.l0 kq x3_1 x4_1 l0_0 l0_1 = some r) ∧ Aside0 (kq ≤ k) ∧ Aside0 (Kd.N k32 32 w' w.heap.size (fun k_ => ((P0_0_ k_ ∨ P0_1_ k_) ∨ w.heap.size ≤ k_) ∧ k_ ≠ gb704) v3 x3_1) ∧ Aside0 (Kd.V k32 32 w' w.heap.size (fun k_ => ((P0_0_ k_ ∨ P0_1_ k_) ∨ w.heap.size ≤ k_) ∧ some k_ ≠ (v3 : Value).ownBlock ∧ k_ ≠ gb704) (.slice A0_0 l0_0.length c0_0) l0_0) ∧ Aside0 (Kd.V k58 58 w' w.heap.size (fun k_ => ((P0_0_ k_ ∨ P0_1_ k_) ∨ w.heap.size ≤ k_) ∧ some k_ ≠ (v3 : Value).ownBlock ∧ k_ ≠ gb704) (.slice A0_1 l0_1.length c0_1) l0_1) ∧ Aside0 (w'.heap[gb704]? = some (.cells #[(.slice A0_0 l0_0.length c0_0), (.slice A0_1 l0_1.length c0_1)] 48 (0, 0))) ∧ Aside0 (Below w.heap.size w w'))
  case atStart => exact ⟨(y708), (0), yS, H', ⟨Nat.le_refl _⟩, ⟨by refine yN ?_; exact HO710.out⟩, ⟨by refine yV ?_; exact Kd.V_mono HO0_0.out (fun _ hk => ⟨hk.1.1, ⟨hk.2, hk.1.2⟩⟩)⟩, ⟨by refine yV ?_; exact Kd.V_mono HO0_1.out (fun _ hk => ⟨hk.1.1, ⟨hk.2, hk.1.2⟩⟩)⟩, ⟨by refine yH ?_; exact BK704.out⟩, ⟨yB⟩⟩
  case round =>
   clear H'
   try clear c2
   try clear p2
   try clear c7
   try clear hcz6_0
   try clear hcz6_1
   try clear hfz6_0
   try clear hfz6_1
   obtain ⟨x3_1, x4_1, rfl, HA, HK1, HO_3, HO_705000, HO_705001, BK704, HB⟩ := hrel
   cases gk with
   | zero => exact absurd HA.out (by simp [swarfref43_blocks.l0])
   | succ k1 =>
    have H := HA.out
    clear HA
    simp only [swarfref43_blocks.l0] at H
    by_cases c8 : x4_1 < (l0_1.length : Int)
    ·rw [if_pos c8] at H
     have c8b0 := decide_eq_true c8
     clear c8
     by_cases c9 : 0 ≤ x4_1
     ·rw [if_pos c9] at H
      have c9b0 := decide_eq_true c9
      clear c9
      by_cases c10 : x3_1.length + ((rd_T58 l0_1 x4_1).f1).length < 2932031007402
      ·rw [if_pos c10] at H
       have LMc10 := Aside0.mk c10
       clear c10
       obtain ⟨y712, hy712⟩ : ∃ y_ : List (S32), y_ = (x3_1 ++ ((rd_T58 l0_1 x4_1).f1)) := ⟨_, rfl⟩
       replace H : (swarfref43_blocks.l0 k1 y712 (wrap64 (x4_1 + 1)) l0_0 l0_1) = some r := by first | (rw [hy712]; with_reducible exact H) | (have H2_ := (Option.bind_some _ _).symm.trans H; rw [hy712]; with_reducible exact H2_) | (have H2_ := (Option.bind_some _ _).symm.trans H; with_reducible exact H2_) | with_reducible exact H | (rw [hy712]; exact H) | exact H
       have Ny712 := Aside0.mk hy712
       clear hy712
       have H' := Aside0.mk H
       clear H
       have hcz11_0 := yZ0 BK704.out
       have hcz11_1 := yZ1 BK704.out
       have hfz11_0 := blk_frozen BK704.out 0
       have hfz11_1 := blk_frozen BK704.out 1
       have p711 : 0 ≤ (x4_1 : Int) := yD
       have q711 : x4_1 < (l0_1.length : Int) := yD
       obtain ⟨ad711, A711_1, c711_1, e711, hx711_0, hx711_1, hl711_1, hi711_1⟩ := at_T58 (Kd.V_reads' HO_705001.out).2.2 x4_1 p711 q711
       cases e711
       obtain ⟨ce711, hce711, hMe711, hcc711⟩ := Kd.V_get HO_705001.out z58 x4_1 p711 (by first | exact q711 | exact yD | (have e_ := (Kd.V_reads' HO_705001.out).1; omega))
       obtain ⟨ua711_1, uc711_1, rfl, ul711_1, ge711_1⟩ := k58_openF hMe711
       have hv711_1 := hcc711 1 _ rfl
       rw [add_field _ _ 1 (by omega)] at hv711_1
       replace hv711_1 := Option.some.inj (hv711_1.symm.trans hx711_1)
       injection hv711_1 with hva_ hvn_ hvc_
       rw [hva_] at ge711_1
       rw [hvc_] at ul711_1
       have HL711_1 := Aside0.mk (show Kd.V k32 32 _ w.heap.size _ _ ((rd_T58 l0_1 x4_1).f1) from Kd.V_mk ul711_1 ge711_1)
       clear hva_ hvn_ hvc_ ge711_1 ul711_1
       clear hcc711 hce711
       have HR711_1 := Aside0.mk hi711_1
       have HC711_1 := Aside0.mk hl711_1
       clear hi711_1 hl711_1
       replace p711 := eq_true p711
       replace q711 := eq_true q711
       go_wp2_with (first | ((with_reducible refine gate_builtin (b := .append) (xs := #[.tmp 16, .tmp 22]) rfl ?_); at_builtin; refine Kd.N_append_rows k32 (w0 := w) w.heap.size rfl (.tmp 16) (.tmp 22) 35 32 (.agg #[(.bool false), (.slice none 0 0), (.string ⟨#[]⟩)]) 48 rfl Try.underlying35 info32 rfl (by decide) (by omega) u3 x3_1 ((rd_T58 l0_1 x4_1).f1) _ _ _ (fun k_ => ((P0_0_ k_ ∨ P0_1_ k_) ∨ w.heap.size ≤ k_) ∧ k_ ≠ gb704) (fun k_ => ((fun k_ => ((P0_0_ k_ ∨ P0_1_ k_) ∨ w.heap.size ≤ k_) ∧ k_ ≠ gb704)) k_ ∧ some k_ ≠ (u3 : Value).ownBlock) rfl rfl ?aO ?aR (fun _ hk => hk) ?aF ?aB ?aS ?aL ?_; (case aR => exact (by skip; exact Kd.V_F (Kd.V_mono (ok' := (fun k_ => ((fun k_ => ((P0_0_ k_ ∨ P0_1_ k_) ∨ w.heap.size ≤ k_) ∧ k_ ≠ gb704)) k_ ∧ some k_ ≠ (u3 : Value).ownBlock)) (HL711_1.out) (fun k_ hk => ⟨⟨hk.1, hk.2.2⟩, hk.2.1⟩)))); (case aB => exact yB); (case aF => exact (fun k_ hk => ⟨(.inr (Nat.le_trans (below_size yB) hk)), Kd.freshB (g := gb704) yK k_ hk⟩)); (case aO => exact (yN HO_3.out)); (case aS => exact (below_size yB)); (case aL => have := LMc10.out; omega); intro v713 w12 ho hb hg hat; rw [← Ny712.out] at ho; have n0_ := Aside0.mk (Kd.V_afterv (ok := (fun k_ => ((P0_0_ k_ ∨ P0_1_ k_) ∨ w.heap.size ≤ k_) ∧ k_ ≠ gb704)) (yV (Kd.V_mono HO_705000.out (fun _ hk => ⟨⟨hk.1, hk.2.2⟩, hk.2.1⟩))) hg hat); have n1_ := Aside0.mk (Kd.V_afterv (ok := (fun k_ => ((P0_0_ k_ ∨ P0_1_ k_) ∨ w.heap.size ≤ k_) ∧ k_ ≠ gb704)) (yV (Kd.V_mono HO_705001.out (fun _ hk => ⟨⟨hk.1, hk.2.2⟩, hk.2.1⟩))) hg hat); have n2_ := Aside0.mk (blk_grown (g := gb704) yK hg (Kd.N_ne HO_3.out BK704.out (by decide))); have n3_ := Aside0.mk (Kd.V_afterv (ok := (fun k_ => ((P0_0_ k_ ∨ P0_1_ k_) ∨ w.heap.size ≤ k_) ∧ k_ ≠ gb704)) (yV (Kd.V_mono HL711_1.out (fun _ hk => ⟨⟨hk.1, hk.2.2⟩, hk.2.1⟩))) hg hat); have n4_ := Aside0.mk (hb); have n5_ := Aside0.mk (ho); clear HO_705000; clear HO_705001; clear BK704; clear HL711_1; clear HB; clear HO_3; have HO_705000 := n0_; have HO_705001 := n1_; have BK704 := n2_; have HL711_1 := n3_; have HB := n4_; have HO714 := n5_; clear n0_ n1_ n2_ n3_ n4_ n5_; clear ho hb hg hat))
       go_roundg k1
       case measure => have := HK1.out; omega
       case rel => exact ⟨(y712), (wrap64 (x4_1 + 1)), yS, H', ⟨by have := HK1.out; omega⟩, ⟨by refine yN ?_; exact HO714.out⟩, ⟨by refine yV ?_; exact Kd.V_mono HO_705000.out (fun _ hk => ⟨hk.1.1, ⟨hk.2, hk.1.2⟩⟩)⟩, ⟨by refine yV ?_; exact Kd.V_mono HO_705001.out (fun _ hk => ⟨hk.1.1, ⟨hk.2, hk.1.2⟩⟩)⟩, ⟨by refine yH ?_; exact BK704.out⟩, ⟨yB⟩⟩
      rw [if_neg c10] at H
      exact absurd H (by simp)
     rw [if_neg c9] at H
     exact absurd H (by simp)
    rw [if_neg c8] at H
    have c8b0 := decide_eq_false c8
    clear c8
    obtain rfl := Option.some.inj H
    have hcz13_0 := yZ0 BK704.out
    have hcz13_1 := yZ1 BK704.out
    have hfz13_0 := blk_frozen BK704.out 0
    have hfz13_1 := blk_frozen BK704.out 1
    go_wp2
    go_ret
    exact ⟨_, yE, by refine yN ?_; exact Kd.N_mono HO_3.out (fun _ hk => hk.1), yB⟩
 rw [if_neg c2] at H
 exact absurd H (by simp)
def swarfref43_sum.f (a0 : Int) (a1 : Int) : Option (Int) := some (mn 20001 (wrap64 (a0 + a1)))
set_option maxHeartbeats 8000000 in
set_option maxRecDepth 100000 in
theorem swarfref43_sum.calls (a0 : Int) (a1 : Int) (r : Int) (w : World) (h : swarfref43_sum.f a0 a1 = some r) :
  Calls Try.prog 99 #[.int .i64 a0, .int .i64 a1] w fun e w' => e = .returned (.int .i64 r) ∧ Below w.heap.size w w' := by
 have HB := Aside0.mk (Below.refl w.heap.size w)
 have H : (some (mn 20001 (wrap64 (a0 + a1)))) = some r := h
 clear h
 obtain ⟨ji3, hji3⟩ : ∃ j_ : Int, (mn 20001 (wrap64 (a0 + a1))) = j_ := ⟨_, rfl⟩
 replace H : (some ji3) = some r := by first | (rw [hji3] at H; exact H) | (simp only [hji3] at H ⊢; exact H)
 (try (have hji3h : ji3 ≤ 20001 := by (rw [← hji3]; unfold mn; (repeat' split) <;> omega)))
 (try (have hji3g : ji3 ≤ 64 := by omega))
 have hji3_ : (if (wrap64 (a0 + a1)) < 20001 then (wrap64 (a0 + a1)) else 20001) = ji3 := hji3
 obtain rfl := Option.some.inj H
 go_enter Try.func99, Try.ntmps99
 go_wp2
 go_ret
 exact ⟨by first | rfl | (simp [errW_none, errW_some] <;> rfl) | (simp only [← hji3]; first | rfl | (simp [errW_none, errW_some] <;> rfl)) | (simp [*, errW_none, errW_some] <;> rfl), yB⟩
def swarfref43_measure.l0 : Nat → List (S32) → List Int → List Int → Int → Int → Int → List (S32) → List (S58) → Option (Int × Int × Bool)
 | 0, _, _, _, _, _, _, _, _ => none
 | k + 1, x1, x2, x3, x11, x12, x13, x716000, x716001 => if x13 < (x1.length : Int) then (if 0 ≤ x13 then ((swarfref43_Call.f k ((rd_T32 x1 x13).f0) ((rd_T32 x1 x13).f1) ((rd_T32 x1 x13).f2)).bind fun bt717 => (if bt717.2.2.1 = true then ((swarfref43_Find.f k x716000 x716001 bt717.1).bind fun t722 => (if 0 ≤ t722 then (if t722 < (x2.length : Int) then (if (rd x2 t722) < 0 then (some (0, 0, false)) else ((swarfref43_sum.f x11 (mn 20001 (wrap64 ((rd x2 t722) * bt717.2.1)))).bind fun t725 => (if t722 < (x3.length : Int) then (swarfref43_measure.l0 k x1 x2 x3 t725 (mx x12 (wrap64 ((rd x3 t722) + 1))) (wrap64 (x13 + 1)) x716000 x716001) else (none)))) else (none)) else (none))) else ((swarfref43_sum.f x11 1).bind fun t721 => (swarfref43_measure.l0 k x1 x2 x3 t721 x12 (wrap64 (x13 + 1)) x716000 x716001)))) else (none)) else (some (x11, x12, true))
def swarfref43_measure.f (k : Nat) (l0_0 : List (S32)) (l0_1 : List (S58)) (l1 : List (S32)) (l2 : List Int) (l3 : List Int) : Option (Int × Int × Bool) := swarfref43_measure.l0 k l1 l2 l3 0 0 0 l0_0 l0_1
set_option maxHeartbeats 8000000 in
set_option maxRecDepth 100000 in
theorem swarfref43_measure.calls (k : Nat) (A0_0 : Option Addr) (c0_0 : Nat) (l0_0 : List (S32)) (A0_1 : Option Addr) (c0_1 : Nat) (l0_1 : List (S58)) (A1 : Option Addr) (c1 : Nat) (l1 : List (S32)) (A2 : Option Addr) (c2 : Nat) (l2 : List Int) (A3 : Option Addr) (c3 : Nat) (l3 : List Int) (r1 : Int) (r2 : Int) (r3 : Bool) (w : World) (hr0_0 : Kd.C k32 w A0_0 l0_0.length l0_0) (hc0_0 : l0_0.length ≤ c0_0) (hr0_1 : Kd.C k58 w A0_1 l0_1.length l0_1) (hc0_1 : l0_1.length ≤ c0_1) (hr1 : Kd.C k32 w A1 l1.length l1) (hc1 : l1.length ≤ c1) (hr2 : Kd.C (Kd.int .i64) w A2 l2.length l2) (hc2 : l2.length ≤ c2) (hr3 : Kd.C (Kd.int .i64) w A3 l3.length l3) (hc3 : l3.length ≤ c3) (h : swarfref43_measure.f k l0_0 l0_1 l1 l2 l3 = some (r1, r2, r3)) :
  Calls Try.prog 72 #[.agg #[.slice A0_0 l0_0.length c0_0, .slice A0_1 l0_1.length c0_1], .slice A1 l1.length c1, .slice A2 l2.length c2, .slice A3 l3.length c3] w fun e w' => e = .returned (.tuple #[.int .i64 r1, .int .i64 r2, .bool r3]) ∧ Below w.heap.size w w' := by
 have hu48 := Try.underlying48
 have hu32 := Try.underlying32
 have HR0_0 := Aside0.mk hr0_0
 have HC0_0 := Aside0.mk hc0_0
 clear hr0_0 hc0_0
 have HR0_1 := Aside0.mk hr0_1
 have HC0_1 := Aside0.mk hc0_1
 clear hr0_1 hc0_1
 have HR1 := Aside0.mk hr1
 have HC1 := Aside0.mk hc1
 clear hr1 hc1
 have HR2 := Aside0.mk hr2
 have HC2 := Aside0.mk hc2
 clear hr2 hc2
 have HR3 := Aside0.mk hr3
 have HC3 := Aside0.mk hc3
 clear hr3 hc3
 have HB := Aside0.mk (Below.refl w.heap.size w)
 have H : (swarfref43_measure.l0 k l1 l2 l3 0 0 0 l0_0 l0_1) = some (r1, r2, r3) := h
 clear h
 have H' := Aside0.mk H
 clear H
 go_enter Try.func72, Try.ntmps72
 go_wp2_with (first | ((with_reducible refine gate_dst (N := 4) rfl ?_); refine yX 4 #[.slice A0_0 l0_0.length c0_0, .slice A0_1 l0_1.length c0_1] 48 ?_; intro gb715 hg w5 hbox hb; have BK715 := Aside0.mk (hbox); have GE715 := Aside0.mk ((yG hg : w.heap.size ≤ gb715)); replace HB := Aside0.mk (below_step yB hb); clear hb hbox hg))
 go_loopg [11, 12, 13] k (fun kq v11 v12 v13 w' => ∃ (x11_1 : Int) (x12_1 : Int) (x13_1 : Int), v11 = .int .i64 x11_1 ∧ v12 = .int .i64 x12_1 ∧ v13 = .int .i64 x13_1 ∧ Aside0 (swarfref43_measure.l0 kq l1 l2 l3 x11_1 x12_1 x13_1 l0_0 l0_1 = some (r1, r2, r3)) ∧ Aside0 (kq ≤ k) ∧ Aside0 (w'.heap[gb715]? = some (.cells #[(.slice A0_0 l0_0.length c0_0), (.slice A0_1 l0_1.length c0_1)] 48 (0, 0))) ∧ Aside0 (Below w.heap.size w w'))
 case atStart => exact ⟨(0), (0), (0), yS, yS, yS, H', ⟨Nat.le_refl _⟩, ⟨by refine yH ?_; exact BK715.out⟩, ⟨yB⟩⟩
 case round =>
  clear H'
  try clear c1
  try clear c2
  try clear p2
  try clear c3
  obtain ⟨x11_1, x12_1, x13_1, rfl, rfl, rfl, HA, HK1, BK715, HB⟩ := hrel
  cases gk with
  | zero => exact absurd HA.out (by simp [swarfref43_measure.l0])
  | succ k1 =>
   have H := HA.out
   clear HA
   simp only [swarfref43_measure.l0] at H
   by_cases c6 : x13_1 < (l1.length : Int)
   ·rw [if_pos c6] at H
    have c6b0 := decide_eq_true c6
    clear c6
    by_cases c7 : 0 ≤ x13_1
    ·rw [if_pos c7] at H
     have c7b0 := decide_eq_true c7
     clear c7
     replace H := Option.bind_eq_some_iff.mp H
     obtain ⟨⟨t717, t718, t719, t720⟩, A80, H⟩ := H
     have A8 := Aside0.mk A80
     clear A80
     by_cases c9 : t719 = true
     ·subst c9
      rw [if_pos rfl] at H
      replace H := Option.bind_eq_some_iff.mp H
      obtain ⟨t722, A100, H⟩ := H
      have A10 := Aside0.mk A100
      clear A100
      by_cases c11 : 0 ≤ t722
      ·rw [if_pos c11] at H
       have c11b0 := decide_eq_true c11
       clear c11
       by_cases c12 : t722 < (l2.length : Int)
       ·rw [if_pos c12] at H
        have c12b0 := decide_eq_true c12
        clear c12
        by_cases c13 : (rd l2 t722) < 0
        ·rw [if_pos c13] at H
         have c13b0 := decide_eq_true c13
         clear c13
         simp only [Option.some.injEq, Prod.mk.injEq] at H
         obtain ⟨rfl, rfl, rfl⟩ := H
         have p716 : 0 ≤ (x13_1 : Int) := yD
         have q716 : x13_1 < (l1.length : Int) := yD
         obtain ⟨ad716, A716_1, c716_1, e716, hx716_0, hx716_1, hx716_2, hl716_1, hi716_1⟩ := at_T32 HR1.out x13_1 p716 q716
         cases e716
         replace hx716_0 := yM HB.out hx716_0
         replace hx716_1 := yM HB.out hx716_1
         replace hx716_2 := yM HB.out hx716_2
         have HR716_1 := Aside0.mk hi716_1
         have HC716_1 := Aside0.mk hl716_1
         clear hi716_1 hl716_1
         replace p716 := eq_true p716
         replace q716 := eq_true q716
         go_wp2_with (first | ((with_reducible refine gate_callee (f := 26) rfl ?_); refine goesL_ (some 30) rfl rfl Try.func26 (by kernel_rfl) rfl #[.agg #[.bool ((rd_T32 l1 x13_1).f0), .slice A716_1 ((rd_T32 l1 x13_1).f1).length c716_1, .string ((rd_T32 l1 x13_1).f2)]] rfl yQ ?_; (with_reducible refine (swarfref43_Call.calls k1 ((rd_T32 l1 x13_1).f0) _ _ ((rd_T32 l1 x13_1).f1) ((rd_T32 l1 x13_1).f2) t717 t718 true t720 _ ?side1 ?side2 A8.out).mono ?_); (case side1 => exact yC HR716_1.out); (case side2 => exact HC716_1.out); rintro e w14 ⟨rfl, hb⟩; refine ⟨_, rfl, ?_⟩; replace BK715 := Aside0.mk (blk_below (g := gb715) yK hb); replace HB := Aside0.mk (below_step yB hb); (try clear hb); have hcz15_0 := yZ0 BK715.out; have hcz15_1 := yZ1 BK715.out; have hfz15_0 := blk_frozen BK715.out 0; have hfz15_1 := blk_frozen BK715.out 1) | ((with_reducible refine gate_callee (f := 30) rfl ?_); refine goesL_ (some 41) rfl rfl Try.func30 (by kernel_rfl) rfl #[.agg #[.slice A0_0 l0_0.length c0_0, .slice A0_1 l0_1.length c0_1], .int .i64 t717] rfl yQ ?_; (with_reducible refine (swarfref43_Find.calls k1 _ _ l0_0 _ _ l0_1 t717 t722 _ ?side1 ?side2 ?side3 ?side4 A10.out).mono ?_); (case side1 => exact yC HR0_0.out); (case side2 => exact HC0_0.out); (case side3 => exact yC HR0_1.out); (case side4 => exact HC0_1.out); rintro e w16 ⟨rfl, hb⟩; refine ⟨_, rfl, ?_⟩; replace BK715 := Aside0.mk (blk_below (g := gb715) yK hb); replace HB := Aside0.mk (below_step yB hb); (try clear hb); have p723 : 0 ≤ (t722 : Int) := yD; have q723 : t722 < (l2.length : Int) := yD; obtain ⟨ad723, e723, hx723_0⟩ := Kd.at_int HR2.out t722 p723 q723; cases e723; replace hx723_0 := yM HB.out hx723_0; replace p723 := eq_true p723; replace q723 := eq_true q723))
         go_ret3
         exact ⟨yE, yB⟩
        rw [if_neg c13] at H
        have c13b0 := decide_eq_false c13
        clear c13
        obtain ⟨ji17, hji17⟩ : ∃ j_ : Int, (mn 20001 (wrap64 ((rd l2 t722) * t718))) = j_ := ⟨_, rfl⟩
        replace H : ((swarfref43_sum.f x11_1 (ji17)).bind fun t725 => (if t722 < (l3.length : Int) then (swarfref43_measure.l0 k1 l1 l2 l3 t725 (mx x12_1 (wrap64 ((rd l3 t722) + 1))) (wrap64 (x13_1 + 1)) l0_0 l0_1) else (none))) = some (r1, r2, r3) := by first | (rw [hji17] at H; exact H) | (simp only [hji17] at H ⊢; exact H)
        (try rw [hji17] at A8)
        (try rw [hji17] at A10)
        have hji17_ : (if (wrap64 ((rd l2 t722) * t718)) < 20001 then (wrap64 ((rd l2 t722) * t718)) else 20001) = ji17 := hji17
        replace H := Option.bind_eq_some_iff.mp H
        obtain ⟨t725, A180, H⟩ := H
        have A18 := Aside0.mk A180
        clear A180
        by_cases c19 : t722 < (l3.length : Int)
        ·rw [if_pos c19] at H
         have c19b0 := decide_eq_true c19
         clear c19
         obtain ⟨ji20, hji20⟩ : ∃ j_ : Int, (mx x12_1 (wrap64 ((rd l3 t722) + 1))) = j_ := ⟨_, rfl⟩
         replace H : (swarfref43_measure.l0 k1 l1 l2 l3 t725 ji20 (wrap64 (x13_1 + 1)) l0_0 l0_1) = some (r1, r2, r3) := by first | (rw [hji20] at H; exact H) | (simp only [hji20] at H ⊢; exact H)
         (try rw [hji20] at A8)
         (try rw [hji20] at A10)
         (try rw [hji20] at A18)
         have hji20_ : (if x12_1 < (wrap64 ((rd l3 t722) + 1)) then (wrap64 ((rd l3 t722) + 1)) else x12_1) = ji20 := hji20
         have H' := Aside0.mk H
         clear H
         have p716 : 0 ≤ (x13_1 : Int) := yD
         have q716 : x13_1 < (l1.length : Int) := yD
         obtain ⟨ad716, A716_1, c716_1, e716, hx716_0, hx716_1, hx716_2, hl716_1, hi716_1⟩ := at_T32 HR1.out x13_1 p716 q716
         cases e716
         replace hx716_0 := yM HB.out hx716_0
         replace hx716_1 := yM HB.out hx716_1
         replace hx716_2 := yM HB.out hx716_2
         have HR716_1 := Aside0.mk hi716_1
         have HC716_1 := Aside0.mk hl716_1
         clear hi716_1 hl716_1
         replace p716 := eq_true p716
         replace q716 := eq_true q716
         go_wp2_with (first | ((with_reducible refine gate_callee (f := 26) rfl ?_); refine goesL_ (some 30) rfl rfl Try.func26 (by kernel_rfl) rfl #[.agg #[.bool ((rd_T32 l1 x13_1).f0), .slice A716_1 ((rd_T32 l1 x13_1).f1).length c716_1, .string ((rd_T32 l1 x13_1).f2)]] rfl yQ ?_; (with_reducible refine (swarfref43_Call.calls k1 ((rd_T32 l1 x13_1).f0) _ _ ((rd_T32 l1 x13_1).f1) ((rd_T32 l1 x13_1).f2) t717 t718 true t720 _ ?side1 ?side2 A8.out).mono ?_); (case side1 => exact yC HR716_1.out); (case side2 => exact HC716_1.out); rintro e w21 ⟨rfl, hb⟩; refine ⟨_, rfl, ?_⟩; replace BK715 := Aside0.mk (blk_below (g := gb715) yK hb); replace HB := Aside0.mk (below_step yB hb); (try clear hb); have hcz22_0 := yZ0 BK715.out; have hcz22_1 := yZ1 BK715.out; have hfz22_0 := blk_frozen BK715.out 0; have hfz22_1 := blk_frozen BK715.out 1) | ((with_reducible refine gate_callee (f := 30) rfl ?_); refine goesL_ (some 41) rfl rfl Try.func30 (by kernel_rfl) rfl #[.agg #[.slice A0_0 l0_0.length c0_0, .slice A0_1 l0_1.length c0_1], .int .i64 t717] rfl yQ ?_; (with_reducible refine (swarfref43_Find.calls k1 _ _ l0_0 _ _ l0_1 t717 t722 _ ?side1 ?side2 ?side3 ?side4 A10.out).mono ?_); (case side1 => exact yC HR0_0.out); (case side2 => exact HC0_0.out); (case side3 => exact yC HR0_1.out); (case side4 => exact HC0_1.out); rintro e w23 ⟨rfl, hb⟩; refine ⟨_, rfl, ?_⟩; replace BK715 := Aside0.mk (blk_below (g := gb715) yK hb); replace HB := Aside0.mk (below_step yB hb); (try clear hb); have p723 : 0 ≤ (t722 : Int) := yD; have q723 : t722 < (l2.length : Int) := yD; obtain ⟨ad723, e723, hx723_0⟩ := Kd.at_int HR2.out t722 p723 q723; cases e723; replace hx723_0 := yM HB.out hx723_0; replace p723 := eq_true p723; replace q723 := eq_true q723; have p724 : 0 ≤ (t722 : Int) := yD; have q724 : t722 < (l2.length : Int) := yD; obtain ⟨ad724, e724, hx724_0⟩ := Kd.at_int HR2.out t722 p724 q724; obtain rfl : ad723 = ad724 := (by injection e724); replace hx724_0 := yM HB.out hx724_0; replace p724 := eq_true p724; replace q724 := eq_true q724) | ((with_reducible refine gate_callee (f := 99) rfl ?_); refine goesL_ (some 55) rfl rfl Try.func99 (by kernel_rfl) rfl #[.int .i64 x11_1, .int .i64 ji17] rfl (by (try simp only [List.map_toArray, List.map_cons, List.map_nil]); first | done | (simp only [hji17]; rfl) | rfl | (simp only [List.length_drop, List.length_take]; rfl)) ?_; (with_reducible refine (swarfref43_sum.calls x11_1 ji17 t725 _ A18.out).mono ?_); rintro e w24 ⟨rfl, hb⟩; refine ⟨_, rfl, ?_⟩; replace BK715 := Aside0.mk (blk_below (g := gb715) yK hb); replace HB := Aside0.mk (below_step yB hb); (try clear hb); have p726 : 0 ≤ (t722 : Int) := yD; have q726 : t722 < (l3.length : Int) := yD; obtain ⟨ad726, e726, hx726_0⟩ := Kd.at_int HR3.out t722 p726 q726; cases e726; replace hx726_0 := yM HB.out hx726_0; replace p726 := eq_true p726; replace q726 := eq_true q726))
         go_roundg k1
         case measure => have := HK1.out; omega
         case rel => exact ⟨(t725), (ji20), (wrap64 (x13_1 + 1)), yS, (by first | rfl | (simp; done) | (simp only [← hji20] <;> (first | rfl | simp)) | (simp [*]; done)), yS, H', ⟨by have := HK1.out; omega⟩, ⟨by refine yH ?_; exact BK715.out⟩, ⟨yB⟩⟩
        rw [if_neg c19] at H
        exact absurd H (by simp)
       rw [if_neg c12] at H
       exact absurd H (by simp)
      rw [if_neg c11] at H
      exact absurd H (by simp)
     replace c9 := Bool.eq_false_iff.mpr c9
     subst c9
     replace H : ((swarfref43_sum.f x11_1 1).bind fun t721 => (swarfref43_measure.l0 k1 l1 l2 l3 t721 x12_1 (wrap64 (x13_1 + 1)) l0_0 l0_1)) = some (r1, r2, r3) := by rw [if_neg (show ¬ (false = true) by decide)] at H; exact H
     replace H := Option.bind_eq_some_iff.mp H
     obtain ⟨t721, A250, H⟩ := H
     have A25 := Aside0.mk A250
     clear A250
     have H' := Aside0.mk H
     clear H
     have p716 : 0 ≤ (x13_1 : Int) := yD
     have q716 : x13_1 < (l1.length : Int) := yD
     obtain ⟨ad716, A716_1, c716_1, e716, hx716_0, hx716_1, hx716_2, hl716_1, hi716_1⟩ := at_T32 HR1.out x13_1 p716 q716
     cases e716
     replace hx716_0 := yM HB.out hx716_0
     replace hx716_1 := yM HB.out hx716_1
     replace hx716_2 := yM HB.out hx716_2
     have HR716_1 := Aside0.mk hi716_1
     have HC716_1 := Aside0.mk hl716_1
     clear hi716_1 hl716_1
     replace p716 := eq_true p716
     replace q716 := eq_true q716
     go_wp2_with (first | ((with_reducible refine gate_callee (f := 26) rfl ?_); refine goesL_ (some 30) rfl rfl Try.func26 (by kernel_rfl) rfl #[.agg #[.bool ((rd_T32 l1 x13_1).f0), .slice A716_1 ((rd_T32 l1 x13_1).f1).length c716_1, .string ((rd_T32 l1 x13_1).f2)]] rfl yQ ?_; (with_reducible refine (swarfref43_Call.calls k1 ((rd_T32 l1 x13_1).f0) _ _ ((rd_T32 l1 x13_1).f1) ((rd_T32 l1 x13_1).f2) t717 t718 false t720 _ ?side1 ?side2 A8.out).mono ?_); (case side1 => exact yC HR716_1.out); (case side2 => exact HC716_1.out); rintro e w26 ⟨rfl, hb⟩; refine ⟨_, rfl, ?_⟩; replace BK715 := Aside0.mk (blk_below (g := gb715) yK hb); replace HB := Aside0.mk (below_step yB hb); (try clear hb)) | ((with_reducible refine gate_callee (f := 99) rfl ?_); refine goesL_ (some 38) rfl rfl Try.func99 (by kernel_rfl) rfl #[.int .i64 x11_1, .int .i64 1] rfl yQ ?_; (with_reducible refine (swarfref43_sum.calls x11_1 1 t721 _ A25.out).mono ?_); rintro e w27 ⟨rfl, hb⟩; refine ⟨_, rfl, ?_⟩; replace BK715 := Aside0.mk (blk_below (g := gb715) yK hb); replace HB := Aside0.mk (below_step yB hb); (try clear hb)))
     go_roundg k1
     case measure => have := HK1.out; omega
     case rel => exact ⟨(t721), (x12_1), (wrap64 (x13_1 + 1)), yS, yS, yS, H', ⟨by have := HK1.out; omega⟩, ⟨by refine yH ?_; exact BK715.out⟩, ⟨yB⟩⟩
    rw [if_neg c7] at H
    exact absurd H (by simp)
   rw [if_neg c6] at H
   have c6b0 := decide_eq_false c6
   clear c6
   simp only [Option.some.injEq, Prod.mk.injEq] at H
   obtain ⟨rfl, rfl, rfl⟩ := H
   go_wp2
   go_ret3
   exact ⟨yE, yB⟩
mutual
def swarfref43_Check.l0 : Nat → List (S32) → Int → List (S32) → List (S58) → Option (Int × Int)
 | 0, _, _, _, _ => none
 | k + 1, x4, x5, x728000, x728001 => if x5 < (x4.length : Int) then (if 0 ≤ x5 then ((swarfref43_Call.f k ((rd_T32 x4 x5).f0) ((rd_T32 x4 x5).f1) ((rd_T32 x4 x5).f2)).bind fun bt733 => (if bt733.2.2.2 = 0 then (swarfref43_Check.l0 k x4 (wrap64 (x5 + 1)) x728000 x728001) else (some (0, 1)))) else (none)) else (swarfref43_Check.l1 k x4 0 x728000 x728001)
def swarfref43_Check.l1 : Nat → List (S32) → Int → List (S32) → List (S58) → Option (Int × Int)
 | 0, _, _, _, _ => none
 | k + 1, x4, x10, x728000, x728001 => if x10 < (x4.length : Int) then (if 0 ≤ x10 then ((swarfref43_Call.f k ((rd_T32 x4 x10).f0) ((rd_T32 x4 x10).f1) ((rd_T32 x4 x10).f2)).bind fun bt738 => (if bt738.2.2.1 = true then ((swarfref43_Find.f k x728000 x728001 bt738.1).bind fun t742 => (if t742 < 0 then (some (0, 4)) else (swarfref43_Check.l1 k x4 (wrap64 (x10 + 1)) x728000 x728001))) else (swarfref43_Check.l1 k x4 (wrap64 (x10 + 1)) x728000 x728001))) else (none)) else (if 0 ≤ (x728001.length : Int) then (if ((x728001.length : Int) : Int).toNat ≤ 35184372088832 then (swarfref43_Check.l2 k (List.replicate ((x728001.length : Int) : Int).toNat 0) (List.replicate ((x728001.length : Int) : Int).toNat 0) 0 x728000 x728001) else (none)) else (none))
def swarfref43_Check.l2 : Nat → List Int → List Int → Int → List (S32) → List (S58) → Option (Int × Int)
 | 0, _, _, _, _, _ => none
 | k + 1, x15, x16, x17, x728000, x728001 => if x17 < (x15.length : Int) then (if 0 ≤ x17 then (swarfref43_Check.l2 k (x15.set (x17 : Int).toNat (-1)) x16 (wrap64 (x17 + 1)) x728000 x728001) else (none)) else (swarfref43_Check.l3 k x15 x16 0 x728000 x728001)
def swarfref43_Check.l3 : Nat → List Int → List Int → Int → List (S32) → List (S58) → Option (Int × Int)
 | 0, _, _, _, _, _ => none
 | k + 1, x15, x16, x18, x728000, x728001 => if x18 < (x728001.length : Int) then (swarfref43_Check.l4 k x15 x16 x18 0 x728000 x728001) else (swarfref43_Check.l5 k x15 x16 0 x728000 x728001)
def swarfref43_Check.l4 : Nat → List Int → List Int → Int → Int → List (S32) → List (S58) → Option (Int × Int)
 | 0, _, _, _, _, _, _ => none
 | k + 1, x15, x16, x18, x19, x728000, x728001 => if x19 < (x728001.length : Int) then (if 0 ≤ x19 then ((swarfref43_measure.f k x728000 x728001 ((rd_T58 x728001 x19).f1) x15 x16).bind fun bt751 => (if bt751.2.2 = true then (if x19 < (x15.length : Int) then (if x19 < (x16.length : Int) then (swarfref43_Check.l4 k (x15.set (x19 : Int).toNat bt751.1) (x16.set (x19 : Int).toNat bt751.2.1) x18 (wrap64 (x19 + 1)) x728000 x728001) else (none)) else (none)) else (swarfref43_Check.l4 k x15 x16 x18 (wrap64 (x19 + 1)) x728000 x728001))) else (none)) else (swarfref43_Check.l3 k x15 x16 (wrap64 (x18 + 1)) x728000 x728001)
def swarfref43_Check.l5 : Nat → List Int → List Int → Int → List (S32) → List (S58) → Option (Int × Int)
 | 0, _, _, _, _, _ => none
 | k + 1, x15, x16, x23, x728000, x728001 => if x23 < (x15.length : Int) then (if 0 ≤ x23 then (if (rd x15 x23) < 0 then (some (0, 12)) else (swarfref43_Check.l5 k x15 x16 (wrap64 (x23 + 1)) x728000 x728001)) else (none)) else ((swarfref43_measure.f k x728000 x728001 x728000 x15 x16).bind fun bt757 => (if bt757.2.1 > 8 then (some (0, 3)) else (if bt757.1 > 20000 then (some (0, 3)) else (some (bt757.1, 0)))))
end
def swarfref43_Check.f (k : Nat) (l0_0 : List (S32)) (l0_1 : List (S58)) : Option (Int × Int) := (swarfref43_proper.f k l0_0 l0_1).bind fun t728 => (if t728 = true then ((swarfref43_blocks.f k l0_0 l0_1).bind fun t729 => (swarfref43_Check.l0 k t729 0 l0_0 l0_1)) else (some (0, 1)))
def swarfref43_Check.T16 : Bool × List (List Nat × List Nat) := (true, [([], []), ([0], [0]), ([1], [1]), ([2, 2], [2]), ([], []), ([4], [4]), ([5], [5]), ([6, 6], [6]), ([3, 0, 1, 2, 3], [3]), ([7, 8, 0, 1, 2, 3, 4, 5, 6, 7, 8], [7])])
def swarfref43_Check.B16 : List Nat := [0, 1, 3, 7, 0, 16, 48, 112, 15, 511]
theorem swarfref43_Check.tab16 : rtab .any (opsOf Try.f37 16) = swarfref43_Check.T16 := by kernel_rfl
theorem swarfref43_Check.bits16 : waitsOk swarfref43_Check.T16.2 swarfref43_Check.B16 = true := by kernel_rfl
def swarfref43_Check.T27 : Bool × List (List Nat × List Nat) := (true, [([], []), ([], []), ([1], [1]), ([], []), ([2, 3], [2, 3]), ([4], [4]), ([5], [5]), ([], []), ([], []), ([0, 6, 7, 8], [0, 6, 7, 8]), ([9], [9]), ([10], [10]), ([10], [10]), ([10], [10]), ([11, 9, 0, 1, 2, 3, 4, 5, 6, 7, 8, 9, 10, 11], [11]), ([12, 14, 0, 1, 2, 3, 4, 5, 6, 7, 8, 9, 10, 11, 12, 14], [12]), ([13, 15, 0, 1, 2, 3, 4, 5, 6, 7, 8, 9, 10, 11, 12, 13, 14, 15], [13])])
def swarfref43_Check.B27 : List Nat := [0, 0, 2, 0, 14, 30, 62, 0, 0, 511, 1023, 2047, 2047, 2047, 4095, 24575, 65535]
theorem swarfref43_Check.tab27 : rtab .any (opsOf Try.f37 27) = swarfref43_Check.T27 := by kernel_rfl
theorem swarfref43_Check.bits27 : waitsOk swarfref43_Check.T27.2 swarfref43_Check.B27 = true := by kernel_rfl
set_option maxHeartbeats 8000000 in
set_option maxRecDepth 100000 in
theorem swarfref43_Check.calls (k : Nat) (A0_0 : Option Addr) (c0_0 : Nat) (l0_0 : List (S32)) (A0_1 : Option Addr) (c0_1 : Nat) (l0_1 : List (S58)) (r1 : Int) (r2 : Int) (w : World) (hr0_0 : Kd.C k32 w A0_0 l0_0.length l0_0) (hc0_0 : l0_0.length ≤ c0_0) (hr0_1 : Kd.C k58 w A0_1 l0_1.length l0_1) (hc0_1 : l0_1.length ≤ c0_1) (h : swarfref43_Check.f k l0_0 l0_1 = some (r1, r2)) :
  Calls Try.prog 37 #[.agg #[.slice A0_0 l0_0.length c0_0, .slice A0_1 l0_1.length c0_1]] w fun e w' => e = .returned (.tuple #[.int .i64 r1, .int .i64 r2]) ∧ Below w.heap.size w w' := by
 have hu48 := Try.underlying48
 have hu32 := Try.underlying32
 have HR0_0 := Aside0.mk hr0_0
 have HC0_0 := Aside0.mk hc0_0
 clear hr0_0 hc0_0
 have HR0_1 := Aside0.mk hr0_1
 have HC0_1 := Aside0.mk hc0_1
 clear hr0_1 hc0_1
 have HB := Aside0.mk (Below.refl w.heap.size w)
 have H : ((swarfref43_proper.f k l0_0 l0_1).bind fun t728 => (if t728 = true then ((swarfref43_blocks.f k l0_0 l0_1).bind fun t729 => (swarfref43_Check.l0 k t729 0 l0_0 l0_1)) else (some (0, 1)))) = some (r1, r2) := h
 clear h
 replace H := Option.bind_eq_some_iff.mp H
 obtain ⟨t728, A20, H⟩ := H
 have A2 := Aside0.mk A20
 clear A20
 by_cases c3 : t728 = true
 ·subst c3
  rw [if_pos rfl] at H
  replace H := Option.bind_eq_some_iff.mp H
  obtain ⟨t729, A40, H⟩ := H
  have A4 := Aside0.mk A40
  clear A40
  have H' := Aside0.mk H
  clear H
  go_enter Try.func37, Try.ntmps37
  go_wp2_with (first | ((with_reducible refine gate_dst (N := 1) rfl ?_); refine yX 1 #[.slice A0_0 l0_0.length c0_0, .slice A0_1 l0_1.length c0_1] 48 ?_; intro gb727 hg w5 hbox hb; have BK727 := Aside0.mk (hbox); have GW727 := Aside0.mk ((yG hg : w.heap.size ≤ gb727)); have GE727 := Aside0.mk ((yG hg : w.heap.size ≤ gb727)); replace HB := Aside0.mk (below_step yB hb); clear hb hbox hg; have hcz6_0 := yZ0 BK727.out; have hcz6_1 := yZ1 BK727.out; have hfz6_0 := blk_frozen BK727.out 0; have hfz6_1 := blk_frozen BK727.out 1) | ((with_reducible refine gate_callee (f := 70) rfl ?_); refine goesL_ (some 28) rfl rfl Try.func70 (by kernel_rfl) rfl #[.agg #[.slice A0_0 l0_0.length c0_0, .slice A0_1 l0_1.length c0_1]] rfl yQ ?_; (with_reducible refine (swarfref43_proper.calls k _ _ l0_0 _ _ l0_1 true _ ?side1 ?side2 ?side3 ?side4 A2.out).mono ?_); (case side1 => exact yC HR0_0.out); (case side2 => exact HC0_0.out); (case side3 => exact yC HR0_1.out); (case side4 => exact HC0_1.out); rintro e w7 ⟨rfl, hb⟩; refine ⟨_, rfl, ?_⟩; replace BK727 := Aside0.mk (blk_below (g := gb727) yK hb); replace HB := Aside0.mk (below_step yB hb); (try clear hb); have hcz8_0 := yZ0 BK727.out; have hcz8_1 := yZ1 BK727.out; have hfz8_0 := blk_frozen BK727.out 0; have hfz8_1 := blk_frozen BK727.out 1) | ((with_reducible refine gate_callee (f := 71) rfl ?_); refine goesL_ (some 31) rfl rfl Try.func71 (by kernel_rfl) rfl #[.agg #[.slice A0_0 l0_0.length c0_0, .slice A0_1 l0_1.length c0_1]] rfl yQ ?_; (with_reducible refine (swarfref43_blocks.calls k (fun k_ => k_ < w.heap.size) _ _ l0_0 (fun k_ => k_ < w.heap.size) _ _ l0_1 t729 _ ?side1 ?side2 A4.out).mono ?_); (case side1 => exact Kd.V_mk HC0_0.out (Kd.F_below (Kd.C_F k32_heap HR0_0.out) yB)); (case side2 => exact Kd.V_mk HC0_1.out (Kd.F_below (Kd.C_F k58_heap HR0_1.out) yB)); rintro e w9 ⟨v730, rfl, ho0, hb⟩; refine ⟨_, rfl, ?_⟩; have HO731 := Aside0.mk (Kd.N_lower (Kd.N_mono (ok' := fun k_ => k_ ≠ gb727) ho0 (fun k_ hk_ => Or.elim hk_ (fun hs_ => Or.elim hs_ (fun hs_ => fun e_ => Nat.not_le.2 hs_ (by rw [e_]; exact GW727.out)) (fun hs_ => fun e_ => Nat.not_le.2 hs_ (by rw [e_]; exact GW727.out))) (fun hn_ => (Kd.freshB (g := gb727) yK k_ hn_)))) (below_size yB)); replace BK727 := Aside0.mk (blk_below (g := gb727) yK hb); replace HB := Aside0.mk (below_step yB hb); (try clear hb); (try clear ho0)))
  go_loopg [5] k (fun kq v5 w' => ∃ (x5_1 : Int), v5 = .int .i64 x5_1 ∧ Aside0 (swarfref43_Check.l0 kq t729 x5_1 l0_0 l0_1 = some (r1, r2)) ∧ Aside0 (kq ≤ k) ∧ Aside0 (Kd.N k32 32 w' w.heap.size (fun k_ => k_ ≠ gb727) v730 t729) ∧ Aside0 (w'.heap[gb727]? = some (.cells #[(.slice A0_0 l0_0.length c0_0), (.slice A0_1 l0_1.length c0_1)] 48 (0, 0))) ∧ Aside0 (Below w.heap.size w w'))
  case atStart => exact ⟨(0), yS, H', ⟨Nat.le_refl _⟩, ⟨by refine yN ?_; exact HO731.out⟩, ⟨by refine yH ?_; exact BK727.out⟩, ⟨yB⟩⟩
  case round =>
   clear H'
   try clear p2
   try clear c3
   try clear c7
   try clear hcz6_0
   try clear hcz6_1
   try clear hcz8_0
   try clear hcz8_1
   try clear hfz6_0
   try clear hfz6_1
   try clear hfz8_0
   try clear hfz8_1
   obtain ⟨x5_1, rfl, HA, HK1, HO_4, BK727, HB⟩ := hrel
   cases gk with
   | zero => exact absurd HA.out (by simp [swarfref43_Check.l0])
   | succ k1 =>
    have H := HA.out
    clear HA
    simp only [swarfref43_Check.l0] at H
    by_cases c10 : x5_1 < (t729.length : Int)
    ·rw [if_pos c10] at H
     have c10b0 := decide_eq_true c10
     clear c10
     by_cases c11 : 0 ≤ x5_1
     ·rw [if_pos c11] at H
      have c11b0 := decide_eq_true c11
      clear c11
      replace H := Option.bind_eq_some_iff.mp H
      obtain ⟨⟨t733, t734, t735, t736⟩, A120, H⟩ := H
      have A12 := Aside0.mk A120
      clear A120
      by_cases c13 : t736 = 0
      ·rw [if_pos c13] at H
       have c13b0 : (t736 == 0) = true := beq_iff_eq.mpr c13
       have c13b1 : (t736 != 0) = false := bne_eq_false_iff_eq.mpr c13
       clear c13
       have H' := Aside0.mk H
       clear H
       obtain ⟨Ao14, co14, eo14⟩ := Kd.N_slice HO_4.out
       subst eo14
       have p732 : 0 ≤ (x5_1 : Int) := yD
       have q732 : x5_1 < (t729.length : Int) := yD
       obtain ⟨ad732, A732_1, c732_1, e732, hx732_0, hx732_1, hx732_2, hl732_1, hi732_1⟩ := at_T32 (Kd.N_reads' HO_4.out).2.2 x5_1 p732 q732
       cases e732
       obtain ⟨ce732, hce732, hMe732, hcc732⟩ := Kd.N_get HO_4.out z32 x5_1 p732 (by first | exact q732 | exact yD | (have e_ := (Kd.N_reads' HO_4.out).1; omega))
       obtain ⟨ua732_1, uc732_1, rfl, ul732_1, ge732_1⟩ := k32_openF hMe732
       have hv732_1 := hcc732 1 _ rfl
       rw [add_field _ _ 1 (by omega)] at hv732_1
       replace hv732_1 := Option.some.inj (hv732_1.symm.trans hx732_1)
       injection hv732_1 with hva_ hvn_ hvc_
       rw [hva_] at ge732_1
       rw [hvc_] at ul732_1
       have HL732_1 := Aside0.mk (show Kd.V k78 78 _ w.heap.size _ _ ((rd_T32 t729 x5_1).f1) from Kd.V_mk ul732_1 ge732_1)
       clear hva_ hvn_ hvc_ ge732_1 ul732_1
       clear hcc732 hce732
       have HR732_1 := Aside0.mk hi732_1
       have HC732_1 := Aside0.mk hl732_1
       clear hi732_1 hl732_1
       replace p732 := eq_true p732
       replace q732 := eq_true q732
       go_wp2_with (first | ((with_reducible refine gate_callee (f := 26) rfl ?_); refine goesL_ (some 43) rfl rfl Try.func26 (by kernel_rfl) rfl #[.agg #[.bool ((rd_T32 t729 x5_1).f0), .slice A732_1 ((rd_T32 t729 x5_1).f1).length c732_1, .string ((rd_T32 t729 x5_1).f2)]] rfl yQ ?_; (with_reducible refine (swarfref43_Call.calls k1 ((rd_T32 t729 x5_1).f0) _ _ ((rd_T32 t729 x5_1).f1) ((rd_T32 t729 x5_1).f2) t733 t734 t735 t736 _ ?side1 ?side2 A12.out).mono ?_); (case side1 => repeat (first | exact (by repeat (first | (with_reducible exact HR732_1.out) | (with_reducible refine Kd.C_alloc ?_ _) | (with_reducible refine Kd.C_drewN ?_ _) | (with_reducible refine Kd.C_drew ?_) | exact HR732_1.out)) | (with_reducible refine Kd.C_alloc ?_ _) | (with_reducible refine Kd.C_drewN ?_ _) | (with_reducible refine Kd.C_drew ?_))); (case side2 => exact HC732_1.out); rintro e w15 ⟨rfl, hb⟩; refine ⟨_, rfl, ?_⟩; replace HO_4 := Aside0.mk (Kd.N_below (yN HO_4.out) hb); replace HL732_1 := Aside0.mk (Kd.V_below (yV HL732_1.out) hb); replace BK727 := Aside0.mk (blk_below (g := gb727) yK hb); replace HR732_1 := Aside0.mk (Kd.C_below (by repeat (first | (with_reducible exact HR732_1.out) | (with_reducible refine Kd.C_alloc ?_ _) | (with_reducible refine Kd.C_drewN ?_ _) | (with_reducible refine Kd.C_drew ?_) | exact HR732_1.out)) hb); replace HB := Aside0.mk (below_step yB hb); (try clear hb)))
       go_roundg k1
       case measure => have := HK1.out; omega
       case rel => exact ⟨(wrap64 (x5_1 + 1)), yS, H', ⟨by have := HK1.out; omega⟩, ⟨by refine yN ?_; exact HO_4.out⟩, ⟨by refine yH ?_; exact BK727.out⟩, ⟨yB⟩⟩
      rw [if_neg c13] at H
      have c13b0 : (t736 == 0) = false := beq_eq_false_iff_ne.mpr c13
      have c13b1 : (t736 != 0) = true := bne_iff_ne.mpr c13
      simp only [Option.some.injEq, Prod.mk.injEq] at H
      obtain ⟨rfl, rfl⟩ := H
      obtain ⟨Ao16, co16, eo16⟩ := Kd.N_slice HO_4.out
      subst eo16
      have p732 : 0 ≤ (x5_1 : Int) := yD
      have q732 : x5_1 < (t729.length : Int) := yD
      obtain ⟨ad732, A732_1, c732_1, e732, hx732_0, hx732_1, hx732_2, hl732_1, hi732_1⟩ := at_T32 (Kd.N_reads' HO_4.out).2.2 x5_1 p732 q732
      cases e732
      obtain ⟨ce732, hce732, hMe732, hcc732⟩ := Kd.N_get HO_4.out z32 x5_1 p732 (by first | exact q732 | exact yD | (have e_ := (Kd.N_reads' HO_4.out).1; omega))
      obtain ⟨ua732_1, uc732_1, rfl, ul732_1, ge732_1⟩ := k32_openF hMe732
      have hv732_1 := hcc732 1 _ rfl
      rw [add_field _ _ 1 (by omega)] at hv732_1
      replace hv732_1 := Option.some.inj (hv732_1.symm.trans hx732_1)
      injection hv732_1 with hva_ hvn_ hvc_
      rw [hva_] at ge732_1
      rw [hvc_] at ul732_1
      have HL732_1 := Aside0.mk (show Kd.V k78 78 _ w.heap.size _ _ ((rd_T32 t729 x5_1).f1) from Kd.V_mk ul732_1 ge732_1)
      clear hva_ hvn_ hvc_ ge732_1 ul732_1
      clear hcc732 hce732
      have HR732_1 := Aside0.mk hi732_1
      have HC732_1 := Aside0.mk hl732_1
      clear hi732_1 hl732_1
      replace p732 := eq_true p732
      replace q732 := eq_true q732
      go_wp2_with (first | ((with_reducible refine gate_callee (f := 26) rfl ?_); refine goesL_ (some 43) rfl rfl Try.func26 (by kernel_rfl) rfl #[.agg #[.bool ((rd_T32 t729 x5_1).f0), .slice A732_1 ((rd_T32 t729 x5_1).f1).length c732_1, .string ((rd_T32 t729 x5_1).f2)]] rfl yQ ?_; (with_reducible refine (swarfref43_Call.calls k1 ((rd_T32 t729 x5_1).f0) _ _ ((rd_T32 t729 x5_1).f1) ((rd_T32 t729 x5_1).f2) t733 t734 t735 t736 _ ?side1 ?side2 A12.out).mono ?_); (case side1 => repeat (first | exact (by repeat (first | (with_reducible exact HR732_1.out) | (with_reducible refine Kd.C_alloc ?_ _) | (with_reducible refine Kd.C_drewN ?_ _) | (with_reducible refine Kd.C_drew ?_) | exact HR732_1.out)) | (with_reducible refine Kd.C_alloc ?_ _) | (with_reducible refine Kd.C_drewN ?_ _) | (with_reducible refine Kd.C_drew ?_))); (case side2 => exact HC732_1.out); rintro e w17 ⟨rfl, hb⟩; refine ⟨_, rfl, ?_⟩; replace HO_4 := Aside0.mk (Kd.N_below (yN HO_4.out) hb); replace HL732_1 := Aside0.mk (Kd.V_below (yV HL732_1.out) hb); replace BK727 := Aside0.mk (blk_below (g := gb727) yK hb); replace HR732_1 := Aside0.mk (Kd.C_below (by repeat (first | (with_reducible exact HR732_1.out) | (with_reducible refine Kd.C_alloc ?_ _) | (with_reducible refine Kd.C_drewN ?_ _) | (with_reducible refine Kd.C_drew ?_) | exact HR732_1.out)) hb); replace HB := Aside0.mk (below_step yB hb); (try clear hb)))
      go_ret2
      exact ⟨yE, yB⟩
     rw [if_neg c11] at H
     exact absurd H (by simp)
    rw [if_neg c10] at H
    have c10b0 := decide_eq_false c10
    clear c10
    have H' := Aside0.mk H
    clear H
    obtain ⟨Ao18, co18, eo18⟩ := Kd.N_slice HO_4.out
    subst eo18
    go_wp2
    go_loopg [10] k1 (fun kq v10 w' => ∃ (x10_2 : Int), v10 = .int .i64 x10_2 ∧ Aside0 (swarfref43_Check.l1 kq t729 x10_2 l0_0 l0_1 = some (r1, r2)) ∧ Aside0 (kq ≤ k1) ∧ Aside0 (Kd.N k32 32 w' w.heap.size (fun k_ => k_ ≠ gb727) (.slice Ao18 t729.length co18) t729) ∧ Aside0 (w'.heap[gb727]? = some (.cells #[(.slice A0_0 l0_0.length c0_0), (.slice A0_1 l0_1.length c0_1)] 48 (0, 0))) ∧ Aside0 (Below w.heap.size w w'))
    case atStart => exact ⟨(0), yS, H', ⟨Nat.le_refl _⟩, ⟨by refine yN ?_; exact HO_4.out⟩, ⟨by refine yH ?_; exact BK727.out⟩, ⟨yB⟩⟩
    case round =>
     clear H'
     try clear c1
     try clear c2
     try clear p2
     try clear c3
     try clear p6
     try clear c7
     try clear p7
     try clear q7
     try clear hx7
     try clear c10
     try clear c10b0
     try clear c11
     try clear c11b0
     try clear c13
     try clear c13b0
     try clear c13b1
     try clear hcz6_0
     try clear hcz6_1
     try clear hcz8_0
     try clear hcz8_1
     try clear hfz6_0
     try clear hfz6_1
     try clear hfz8_0
     try clear hfz8_1
     try clear hx732_0
     try clear hx732_1
     try clear hx732_2
     try clear p2
     try clear p732
     try clear q732
     obtain ⟨x10_2, rfl, HA, HK2, HO_4, BK727, HB⟩ := hrel
     cases gk with
     | zero => exact absurd HA.out (by simp [swarfref43_Check.l1])
     | succ k2 =>
      have H := HA.out
      clear HA
      simp only [swarfref43_Check.l1] at H
      by_cases c19 : x10_2 < (t729.length : Int)
      ·rw [if_pos c19] at H
       have c19b0 := decide_eq_true c19
       clear c19
       by_cases c20 : 0 ≤ x10_2
       ·rw [if_pos c20] at H
        have c20b0 := decide_eq_true c20
        clear c20
        replace H := Option.bind_eq_some_iff.mp H
        obtain ⟨⟨t738, t739, t740, t741⟩, A210, H⟩ := H
        have A21 := Aside0.mk A210
        clear A210
        by_cases c22 : t740 = true
        ·subst c22
         rw [if_pos rfl] at H
         replace H := Option.bind_eq_some_iff.mp H
         obtain ⟨t742, A230, H⟩ := H
         have A23 := Aside0.mk A230
         clear A230
         by_cases c24 : t742 < 0
         ·rw [if_pos c24] at H
          have c24b0 := decide_eq_true c24
          clear c24
          simp only [Option.some.injEq, Prod.mk.injEq] at H
          obtain ⟨rfl, rfl⟩ := H
          have p737 : 0 ≤ (x10_2 : Int) := yD
          have q737 : x10_2 < (t729.length : Int) := yD
          obtain ⟨ad737, A737_1, c737_1, e737, hx737_0, hx737_1, hx737_2, hl737_1, hi737_1⟩ := at_T32 (Kd.N_reads' HO_4.out).2.2 x10_2 p737 q737
          cases e737
          obtain ⟨ce737, hce737, hMe737, hcc737⟩ := Kd.N_get HO_4.out z32 x10_2 p737 (by first | exact q737 | exact yD | (have e_ := (Kd.N_reads' HO_4.out).1; omega))
          obtain ⟨ua737_1, uc737_1, rfl, ul737_1, ge737_1⟩ := k32_openF hMe737
          have hv737_1 := hcc737 1 _ rfl
          rw [add_field _ _ 1 (by omega)] at hv737_1
          replace hv737_1 := Option.some.inj (hv737_1.symm.trans hx737_1)
          injection hv737_1 with hva_ hvn_ hvc_
          rw [hva_] at ge737_1
          rw [hvc_] at ul737_1
          have HL737_1 := Aside0.mk (show Kd.V k78 78 _ w.heap.size _ _ ((rd_T32 t729 x10_2).f1) from Kd.V_mk ul737_1 ge737_1)
          clear hva_ hvn_ hvc_ ge737_1 ul737_1
          clear hcc737 hce737
          have HR737_1 := Aside0.mk hi737_1
          have HC737_1 := Aside0.mk hl737_1
          clear hi737_1 hl737_1
          replace p737 := eq_true p737
          replace q737 := eq_true q737
          go_wp2_with (first | ((with_reducible refine gate_callee (f := 26) rfl ?_); refine goesL_ (some 61) rfl rfl Try.func26 (by kernel_rfl) rfl #[.agg #[.bool ((rd_T32 t729 x10_2).f0), .slice A737_1 ((rd_T32 t729 x10_2).f1).length c737_1, .string ((rd_T32 t729 x10_2).f2)]] rfl yQ ?_; (with_reducible refine (swarfref43_Call.calls k2 ((rd_T32 t729 x10_2).f0) _ _ ((rd_T32 t729 x10_2).f1) ((rd_T32 t729 x10_2).f2) t738 t739 true t741 _ ?side1 ?side2 A21.out).mono ?_); (case side1 => repeat (first | exact (by repeat (first | (with_reducible exact HR737_1.out) | (with_reducible refine Kd.C_alloc ?_ _) | (with_reducible refine Kd.C_drewN ?_ _) | (with_reducible refine Kd.C_drew ?_) | exact HR737_1.out)) | (with_reducible refine Kd.C_alloc ?_ _) | (with_reducible refine Kd.C_drewN ?_ _) | (with_reducible refine Kd.C_drew ?_))); (case side2 => exact HC737_1.out); rintro e w25 ⟨rfl, hb⟩; refine ⟨_, rfl, ?_⟩; replace HO_4 := Aside0.mk (Kd.N_below (yN HO_4.out) hb); replace HL737_1 := Aside0.mk (Kd.V_below (yV HL737_1.out) hb); replace BK727 := Aside0.mk (blk_below (g := gb727) yK hb); replace HR737_1 := Aside0.mk (Kd.C_below (by repeat (first | (with_reducible exact HR737_1.out) | (with_reducible refine Kd.C_alloc ?_ _) | (with_reducible refine Kd.C_drewN ?_ _) | (with_reducible refine Kd.C_drew ?_) | exact HR737_1.out)) hb); replace HB := Aside0.mk (below_step yB hb); (try clear hb); have hcz26_0 := yZ0 BK727.out; have hcz26_1 := yZ1 BK727.out; have hfz26_0 := blk_frozen BK727.out 0; have hfz26_1 := blk_frozen BK727.out 1) | (go_at_call 30; (with_reducible refine (swarfref43_Find.calls k2 _ _ l0_0 _ _ l0_1 t738 t742 _ ?side1 ?side2 ?side3 ?side4 A23.out).mono ?_); (case side1 => exact yC HR0_0.out); (case side2 => exact HC0_0.out); (case side3 => exact yC HR0_1.out); (case side4 => exact HC0_1.out); rintro e w27 ⟨rfl, hb⟩; replace HO_4 := Aside0.mk (Kd.N_below (yN HO_4.out) hb); replace HL737_1 := Aside0.mk (Kd.V_below (yV HL737_1.out) hb); replace BK727 := Aside0.mk (blk_below (g := gb727) yK hb); replace HR737_1 := Aside0.mk (Kd.C_below (by repeat (first | (with_reducible exact HR737_1.out) | (with_reducible refine Kd.C_alloc ?_ _) | (with_reducible refine Kd.C_drewN ?_ _) | (with_reducible refine Kd.C_drew ?_) | exact HR737_1.out)) hb); replace HB := Aside0.mk (below_step yB hb); (try clear hb)))
          go_ret2
          exact ⟨yE, yB⟩
         rw [if_neg c24] at H
         have c24b0 := decide_eq_false c24
         clear c24
         have H' := Aside0.mk H
         clear H
         have p737 : 0 ≤ (x10_2 : Int) := yD
         have q737 : x10_2 < (t729.length : Int) := yD
         obtain ⟨ad737, A737_1, c737_1, e737, hx737_0, hx737_1, hx737_2, hl737_1, hi737_1⟩ := at_T32 (Kd.N_reads' HO_4.out).2.2 x10_2 p737 q737
         cases e737
         obtain ⟨ce737, hce737, hMe737, hcc737⟩ := Kd.N_get HO_4.out z32 x10_2 p737 (by first | exact q737 | exact yD | (have e_ := (Kd.N_reads' HO_4.out).1; omega))
         obtain ⟨ua737_1, uc737_1, rfl, ul737_1, ge737_1⟩ := k32_openF hMe737
         have hv737_1 := hcc737 1 _ rfl
         rw [add_field _ _ 1 (by omega)] at hv737_1
         replace hv737_1 := Option.some.inj (hv737_1.symm.trans hx737_1)
         injection hv737_1 with hva_ hvn_ hvc_
         rw [hva_] at ge737_1
         rw [hvc_] at ul737_1
         have HL737_1 := Aside0.mk (show Kd.V k78 78 _ w.heap.size _ _ ((rd_T32 t729 x10_2).f1) from Kd.V_mk ul737_1 ge737_1)
         clear hva_ hvn_ hvc_ ge737_1 ul737_1
         clear hcc737 hce737
         have HR737_1 := Aside0.mk hi737_1
         have HC737_1 := Aside0.mk hl737_1
         clear hi737_1 hl737_1
         replace p737 := eq_true p737
         replace q737 := eq_true q737
         go_wp2_with (first | ((with_reducible refine gate_callee (f := 26) rfl ?_); refine goesL_ (some 61) rfl rfl Try.func26 (by kernel_rfl) rfl #[.agg #[.bool ((rd_T32 t729 x10_2).f0), .slice A737_1 ((rd_T32 t729 x10_2).f1).length c737_1, .string ((rd_T32 t729 x10_2).f2)]] rfl yQ ?_; (with_reducible refine (swarfref43_Call.calls k2 ((rd_T32 t729 x10_2).f0) _ _ ((rd_T32 t729 x10_2).f1) ((rd_T32 t729 x10_2).f2) t738 t739 true t741 _ ?side1 ?side2 A21.out).mono ?_); (case side1 => repeat (first | exact (by repeat (first | (with_reducible exact HR737_1.out) | (with_reducible refine Kd.C_alloc ?_ _) | (with_reducible refine Kd.C_drewN ?_ _) | (with_reducible refine Kd.C_drew ?_) | exact HR737_1.out)) | (with_reducible refine Kd.C_alloc ?_ _) | (with_reducible refine Kd.C_drewN ?_ _) | (with_reducible refine Kd.C_drew ?_))); (case side2 => exact HC737_1.out); rintro e w28 ⟨rfl, hb⟩; refine ⟨_, rfl, ?_⟩; replace HO_4 := Aside0.mk (Kd.N_below (yN HO_4.out) hb); replace HL737_1 := Aside0.mk (Kd.V_below (yV HL737_1.out) hb); replace BK727 := Aside0.mk (blk_below (g := gb727) yK hb); replace HR737_1 := Aside0.mk (Kd.C_below (by repeat (first | (with_reducible exact HR737_1.out) | (with_reducible refine Kd.C_alloc ?_ _) | (with_reducible refine Kd.C_drewN ?_ _) | (with_reducible refine Kd.C_drew ?_) | exact HR737_1.out)) hb); replace HB := Aside0.mk (below_step yB hb); (try clear hb); have hcz29_0 := yZ0 BK727.out; have hcz29_1 := yZ1 BK727.out; have hfz29_0 := blk_frozen BK727.out 0; have hfz29_1 := blk_frozen BK727.out 1) | (go_at_call 30; (with_reducible refine (swarfref43_Find.calls k2 _ _ l0_0 _ _ l0_1 t738 t742 _ ?side1 ?side2 ?side3 ?side4 A23.out).mono ?_); (case side1 => exact yC HR0_0.out); (case side2 => exact HC0_0.out); (case side3 => exact yC HR0_1.out); (case side4 => exact HC0_1.out); rintro e w30 ⟨rfl, hb⟩; replace HO_4 := Aside0.mk (Kd.N_below (yN HO_4.out) hb); replace HL737_1 := Aside0.mk (Kd.V_below (yV HL737_1.out) hb); replace BK727 := Aside0.mk (blk_below (g := gb727) yK hb); replace HR737_1 := Aside0.mk (Kd.C_below (by repeat (first | (with_reducible exact HR737_1.out) | (with_reducible refine Kd.C_alloc ?_ _) | (with_reducible refine Kd.C_drewN ?_ _) | (with_reducible refine Kd.C_drew ?_) | exact HR737_1.out)) hb); replace HB := Aside0.mk (below_step yB hb); (try clear hb)))
         go_roundg k2
         case measure => have := HK1.out; have := HK2.out; omega
         case rel => exact ⟨(wrap64 (x10_2 + 1)), yS, H', ⟨by have := HK1.out; have := HK2.out; omega⟩, ⟨by refine yN ?_; exact HO_4.out⟩, ⟨by refine yH ?_; exact BK727.out⟩, ⟨yB⟩⟩
        replace c22 := Bool.eq_false_iff.mpr c22
        subst c22
        replace H : (swarfref43_Check.l1 k2 t729 (wrap64 (x10_2 + 1)) l0_0 l0_1) = some (r1, r2) := by rw [if_neg (show ¬ (false = true) by decide)] at H; exact H
        have H' := Aside0.mk H
        clear H
        have p737 : 0 ≤ (x10_2 : Int) := yD
        have q737 : x10_2 < (t729.length : Int) := yD
        obtain ⟨ad737, A737_1, c737_1, e737, hx737_0, hx737_1, hx737_2, hl737_1, hi737_1⟩ := at_T32 (Kd.N_reads' HO_4.out).2.2 x10_2 p737 q737
        cases e737
        obtain ⟨ce737, hce737, hMe737, hcc737⟩ := Kd.N_get HO_4.out z32 x10_2 p737 (by first | exact q737 | exact yD | (have e_ := (Kd.N_reads' HO_4.out).1; omega))
        obtain ⟨ua737_1, uc737_1, rfl, ul737_1, ge737_1⟩ := k32_openF hMe737
        have hv737_1 := hcc737 1 _ rfl
        rw [add_field _ _ 1 (by omega)] at hv737_1
        replace hv737_1 := Option.some.inj (hv737_1.symm.trans hx737_1)
        injection hv737_1 with hva_ hvn_ hvc_
        rw [hva_] at ge737_1
        rw [hvc_] at ul737_1
        have HL737_1 := Aside0.mk (show Kd.V k78 78 _ w.heap.size _ _ ((rd_T32 t729 x10_2).f1) from Kd.V_mk ul737_1 ge737_1)
        clear hva_ hvn_ hvc_ ge737_1 ul737_1
        clear hcc737 hce737
        have HR737_1 := Aside0.mk hi737_1
        have HC737_1 := Aside0.mk hl737_1
        clear hi737_1 hl737_1
        replace p737 := eq_true p737
        replace q737 := eq_true q737
        go_wp2_with (first | ((with_reducible refine gate_callee (f := 26) rfl ?_); refine goesL_ (some 61) rfl rfl Try.func26 (by kernel_rfl) rfl #[.agg #[.bool ((rd_T32 t729 x10_2).f0), .slice A737_1 ((rd_T32 t729 x10_2).f1).length c737_1, .string ((rd_T32 t729 x10_2).f2)]] rfl yQ ?_; (with_reducible refine (swarfref43_Call.calls k2 ((rd_T32 t729 x10_2).f0) _ _ ((rd_T32 t729 x10_2).f1) ((rd_T32 t729 x10_2).f2) t738 t739 false t741 _ ?side1 ?side2 A21.out).mono ?_); (case side1 => repeat (first | exact (by repeat (first | (with_reducible exact HR737_1.out) | (with_reducible refine Kd.C_alloc ?_ _) | (with_reducible refine Kd.C_drewN ?_ _) | (with_reducible refine Kd.C_drew ?_) | exact HR737_1.out)) | (with_reducible refine Kd.C_alloc ?_ _) | (with_reducible refine Kd.C_drewN ?_ _) | (with_reducible refine Kd.C_drew ?_))); (case side2 => exact HC737_1.out); rintro e w31 ⟨rfl, hb⟩; refine ⟨_, rfl, ?_⟩; replace HO_4 := Aside0.mk (Kd.N_below (yN HO_4.out) hb); replace HL737_1 := Aside0.mk (Kd.V_below (yV HL737_1.out) hb); replace BK727 := Aside0.mk (blk_below (g := gb727) yK hb); replace HR737_1 := Aside0.mk (Kd.C_below (by repeat (first | (with_reducible exact HR737_1.out) | (with_reducible refine Kd.C_alloc ?_ _) | (with_reducible refine Kd.C_drewN ?_ _) | (with_reducible refine Kd.C_drew ?_) | exact HR737_1.out)) hb); replace HB := Aside0.mk (below_step yB hb); (try clear hb)))
        go_roundg k2
        case measure => have := HK1.out; have := HK2.out; omega
        case rel => exact ⟨(wrap64 (x10_2 + 1)), yS, H', ⟨by have := HK1.out; have := HK2.out; omega⟩, ⟨by refine yN ?_; exact HO_4.out⟩, ⟨by refine yH ?_; exact BK727.out⟩, ⟨yB⟩⟩
       rw [if_neg c20] at H
       exact absurd H (by simp)
      rw [if_neg c19] at H
      have c19b0 := decide_eq_false c19
      clear c19
      by_cases c32 : 0 ≤ (l0_1.length : Int)
      ·rw [if_pos c32] at H
       have c32b0 := eq_true c32
       have c32b1 := decide_eq_true c32
       clear c32
       by_cases c33 : ((l0_1.length : Int) : Int).toNat ≤ 35184372088832
       ·rw [if_pos c33] at H
        have c33b0 := eq_true c33
        have c33b1 := decide_eq_true c33
        clear c33
        obtain ⟨y743, hy743⟩ : ∃ y_ : List Int, y_ = (List.replicate ((l0_1.length : Int) : Int).toNat 0) := ⟨_, rfl⟩
        replace H : (swarfref43_Check.l2 k2 y743 (List.replicate ((l0_1.length : Int) : Int).toNat 0) 0 l0_0 l0_1) = some (r1, r2) := by first | (rw [hy743]; with_reducible exact H) | (have H2_ := (Option.bind_some _ _).symm.trans H; rw [hy743]; with_reducible exact H2_) | (have H2_ := (Option.bind_some _ _).symm.trans H; with_reducible exact H2_) | with_reducible exact H | (rw [hy743]; exact H) | exact H
        have Ny743 := Aside0.mk hy743
        clear hy743
        obtain ⟨y746, hy746⟩ : ∃ y_ : List Int, y_ = (List.replicate ((l0_1.length : Int) : Int).toNat 0) := ⟨_, rfl⟩
        replace H : (swarfref43_Check.l2 k2 y743 y746 0 l0_0 l0_1) = some (r1, r2) := by first | (rw [hy746]; with_reducible exact H) | (have H2_ := (Option.bind_some _ _).symm.trans H; rw [hy746]; with_reducible exact H2_) | (have H2_ := (Option.bind_some _ _).symm.trans H; with_reducible exact H2_) | with_reducible exact H | (rw [hy746]; exact H) | exact H
        have Ny746 := Aside0.mk hy746
        clear hy746
        have H' := Aside0.mk H
        clear H
        try go_wp2
        replace HO_4 := Aside0.mk (Kd.N_drew HO_4.out)
        replace BK727 := Aside0.mk (blk_drew BK727.out)
        replace HB := Aside0.mk (below_drew1 HB.out)
        refine start_ (n := 10) (S := fun w' => w'.cell? ⟨gb727, 0, none⟩ = some (.slice A0_0 l0_0.length c0_0) ∧ w'.cell? ⟨gb727, 1, none⟩ = some (.slice A0_1 l0_1.length c0_1)) (ds := []) #[false, false, false, false, false, false, false, false, false, false] (by kernel_rfl) rfl rfl ⟨(blk_cell BK727.out 0).trans rfl, (blk_cell BK727.out 1).trans rfl⟩ (fun hHeld => ?_); refine with_tabW swarfref43_Check.tab16 swarfref43_Check.bits16 (fun HT_ HW_ => ?_)
        generalize wr.drew = w34 at HO_4 BK727 HB hHeld ⊢
        refine yp 0 73 ?_
        refine yp 4 77 ?_
        refine yt 1 74 hHeld ?_
        refine yp 2 75 ?_
        refine yt 5 78 hHeld ?_
        refine yp 6 79 ?_
        refine join_ (σ := Value × Value) 1 #[true, true, true, true, true, true, true, true, true, false] (fun s_ => [(76, s_.1), (80, s_.2), (15, s_.1)]) (fun s_ w' => (w'.cell? ⟨gb727, 0, none⟩ = some (.slice A0_0 l0_0.length c0_0) ∧ w'.cell? ⟨gb727, 1, none⟩ = some (.slice A0_1 l0_1.length c0_1)) ∧ (Kd.R (Kd.int .i64) 2 w' w.heap.size (fun k_ => some k_ ≠ (s_.2 : Value).ownBlock) s_.1 y743) ∧ (Kd.R (Kd.int .i64) 2 w' w.heap.size (fun k_ => some k_ ≠ (s_.1 : Value).ownBlock) s_.2 y746) ∧ (Kd.N k32 32 w' w.heap.size (fun k_ => some k_ ≠ (s_.1 : Value).ownBlock ∧ some k_ ≠ (s_.2 : Value).ownBlock ∧ k_ ≠ gb727) (.slice Ao18 t729.length co18) t729) ∧ (w'.heap[gb727]? = some (.cells #[.slice A0_0 l0_0.length c0_0, .slice A0_1 l0_1.length c0_1] 48 (0, 0))) ∧ (Below w.heap.size w w')) ?_ ?_
        rotate_left
        ·intro hCont
         refine two_ (i := 3) (j := 7) (Ni := some 76) (Nj := some 80) #[true, true, true, true, true, true, true, false, false, false] #[true, true, true, false, true, true, true, true, false, false] rfl rfl rfl rfl (two_of HT_.out (by kernel_rfl)) (by decide) (by decide) (fun K hK => ?_) (fun K hK => ?_)
         ·skip
          refine Kd.R_make_step (Kd.int .i64) _ 2 (by rfl) (N := 76) rfl 91 _ _ rfl (l0_1.length : Int) rfl rfl Try.underlying91 (.int .i64 0) 8 info2 rfl (by decide) (by omega) 0 (ok := fun _ => True) (okp := fun _ => True) rfl (fun _ hk => hk) trivial (yD) (Nat.le_trans (Nat.mul_le_mul_right _ (yD : (l0_1.length : Int).toNat ≤ 35184372088832)) (by omega)) (Below.refl _ _) (Nat.le_refl _) ?_
          intro v744 w35 ho36 hb hg_ hnew_
          clear hg_ hnew_
          (first | rw [← Ny743.out] at ho36 | (simp only [Int.reduceToNat] at ho36; rw [← Ny743.out] at ho36))
          replace HO_4 := Aside0.mk (Kd.N_elder' (yN HO_4.out) (Kd.R_base ho36) hb)
          have HO745 := Aside0.mk (Kd.R_lower ho36 (below_size yB))
          replace BK727 := Aside0.mk (blk_below (g := gb727) yK hb)
          replace HB := Aside0.mk (below_step yB hb)
          clear hb ho36
          refine hK.out _ _ ⟨(blk_cell BK727.out 0).trans rfl, (blk_cell BK727.out 1).trans rfl⟩ (fun hHeld => ?_)
          clear hK K
          refine yn 76 ?_
          refine yp 8 15 ?_
          refine yo 7 (some 80) (fun K hK => ?_)
          refine Kd.R_make_step (Kd.int .i64) _ 2 (by rfl) (N := 80) rfl 91 _ _ rfl (l0_1.length : Int) rfl rfl Try.underlying91 (.int .i64 0) 8 info2 rfl (by decide) (by omega) 0 (ok := fun _ => True) (okp := fun _ => True) rfl (fun _ hk => hk) trivial (yD) (Nat.le_trans (Nat.mul_le_mul_right _ (yD : (l0_1.length : Int).toNat ≤ 35184372088832)) (by omega)) (Below.refl _ _) (Nat.le_refl _) ?_
          intro v747 w37 ho38 hb hg_ hnew_
          clear hg_ hnew_
          (first | rw [← Ny746.out] at ho38 | (simp only [Int.reduceToNat] at ho38; rw [← Ny746.out] at ho38))
          replace HO_4 := Aside0.mk (Kd.N_elder' (yN HO_4.out) (Kd.R_base ho38) hb)
          have HO748 := Aside0.mk (Kd.R_lower (Kd.R_new' ho38 (Kd.R_lt (yR HO745.out))) (below_size yB))
          replace HO745 := Aside0.mk (Kd.R_elder' (yR HO745.out) (Kd.R_base ho38) hb)
          replace BK727 := Aside0.mk (blk_below (g := gb727) yK hb)
          replace HB := Aside0.mk (below_step yB hb)
          clear hb ho38
          refine hK.out _ _ ⟨(blk_cell BK727.out 0).trans rfl, (blk_cell BK727.out 1).trans rfl⟩ (fun hHeld => ?_)
          clear hK K
          refine yn 80 ?_
          exact norm_ (by simp only [putAll, Act.put, List.setIfInBounds_toArray, List.set_cons_zero, List.set_cons_succ]) (hCont (v744, v747) _ ⟨hHeld, (yR (Kd.R_mono HO745.out (fun _ hk => hk.2))), (yR (Kd.R_mono HO748.out (fun _ hk => hk.2))), (yN (Kd.N_mono HO_4.out (fun _ hk => ⟨hk.1.2, ⟨hk.2, hk.1.1⟩⟩))), yK, yB⟩)
         skip
         refine Kd.R_make_step (Kd.int .i64) _ 2 (by rfl) (N := 80) rfl 91 _ _ rfl (l0_1.length : Int) rfl rfl Try.underlying91 (.int .i64 0) 8 info2 rfl (by decide) (by omega) 0 (ok := fun _ => True) (okp := fun _ => True) rfl (fun _ hk => hk) trivial (yD) (Nat.le_trans (Nat.mul_le_mul_right _ (yD : (l0_1.length : Int).toNat ≤ 35184372088832)) (by omega)) (Below.refl _ _) (Nat.le_refl _) ?_
         intro v747 w35 ho36 hb hg_ hnew_
         clear hg_ hnew_
         (first | rw [← Ny746.out] at ho36 | (simp only [Int.reduceToNat] at ho36; rw [← Ny746.out] at ho36))
         replace HO_4 := Aside0.mk (Kd.N_elder' (yN HO_4.out) (Kd.R_base ho36) hb)
         have HO748 := Aside0.mk (Kd.R_lower ho36 (below_size yB))
         replace BK727 := Aside0.mk (blk_below (g := gb727) yK hb)
         replace HB := Aside0.mk (below_step yB hb)
         clear hb ho36
         refine hK.out _ _ ⟨(blk_cell BK727.out 0).trans rfl, (blk_cell BK727.out 1).trans rfl⟩ (fun hHeld => ?_)
         clear hK K
         refine yn 80 ?_
         refine yo 3 (some 76) (fun K hK => ?_)
         refine Kd.R_make_step (Kd.int .i64) _ 2 (by rfl) (N := 76) rfl 91 _ _ rfl (l0_1.length : Int) rfl rfl Try.underlying91 (.int .i64 0) 8 info2 rfl (by decide) (by omega) 0 (ok := fun _ => True) (okp := fun _ => True) rfl (fun _ hk => hk) trivial (yD) (Nat.le_trans (Nat.mul_le_mul_right _ (yD : (l0_1.length : Int).toNat ≤ 35184372088832)) (by omega)) (Below.refl _ _) (Nat.le_refl _) ?_
         intro v744 w37 ho38 hb hg_ hnew_
         clear hg_ hnew_
         (first | rw [← Ny743.out] at ho38 | (simp only [Int.reduceToNat] at ho38; rw [← Ny743.out] at ho38))
         replace HO_4 := Aside0.mk (Kd.N_elder' (yN HO_4.out) (Kd.R_base ho38) hb)
         have HO745 := Aside0.mk (Kd.R_lower (Kd.R_new' ho38 (Kd.R_lt (yR HO748.out))) (below_size yB))
         replace HO748 := Aside0.mk (Kd.R_elder' (yR HO748.out) (Kd.R_base ho38) hb)
         replace BK727 := Aside0.mk (blk_below (g := gb727) yK hb)
         replace HB := Aside0.mk (below_step yB hb)
         clear hb ho38
         refine hK.out _ _ ⟨(blk_cell BK727.out 0).trans rfl, (blk_cell BK727.out 1).trans rfl⟩ (fun hHeld => ?_)
         clear hK K
         refine yn 76 ?_
         refine yp 8 15 ?_
         exact norm_ (by simp only [putAll, Act.put, List.setIfInBounds_toArray, List.set_cons_zero, List.set_cons_succ]) (hCont (v744, v747) _ ⟨hHeld, (yR (Kd.R_mono HO745.out (fun _ hk => hk.2))), (yR (Kd.R_mono HO748.out (fun _ hk => hk.2))), (yN (Kd.N_mono HO_4.out (fun _ hk => ⟨hk.2, ⟨hk.1.2, hk.1.1⟩⟩))), yK, yB⟩)
        rintro ⟨v744, v747⟩ w39 ⟨hS_, h0_, h1_, h2_, h3_, h4_⟩
        have n0_ : Aside0 (Kd.R (Kd.int .i64) 2 w39 w.heap.size (fun k_ => some k_ ≠ (v747 : Value).ownBlock) v744 y743) := ⟨h0_⟩
        have n1_ : Aside0 (Kd.R (Kd.int .i64) 2 w39 w.heap.size (fun k_ => some k_ ≠ (v744 : Value).ownBlock) v747 y746) := ⟨h1_⟩
        have n2_ : Aside0 (Kd.N k32 32 w39 w.heap.size (fun k_ => some k_ ≠ (v744 : Value).ownBlock ∧ some k_ ≠ (v747 : Value).ownBlock ∧ k_ ≠ gb727) (.slice Ao18 t729.length co18) t729) := ⟨h2_⟩
        have n3_ : Aside0 (w39.heap[gb727]? = some (.cells #[.slice A0_0 l0_0.length c0_0, .slice A0_1 l0_1.length c0_1] 48 (0, 0))) := ⟨h3_⟩
        have n4_ : Aside0 (Below w.heap.size w w39) := ⟨h4_⟩
        clear HO_4
        clear BK727
        clear HB
        clear h0_ h1_ h2_ h3_ h4_
        have HO745 := n0_
        have HO748 := n1_
        have HO_4 := n2_
        have BK727 := n3_
        have HB := n4_
        clear n0_ n1_ n2_ n3_ n4_
        have hHeld : w39.cell? ⟨gb727, 0, none⟩ = some (.slice A0_0 l0_0.length c0_0) ∧ w39.cell? ⟨gb727, 1, none⟩ = some (.slice A0_1 l0_1.length c0_1) := hS_
        refine norm_ (a' := ?_) ?_ ?_
        rotate_left
        ·simp only [putAll, Act.put, List.setIfInBounds_toArray, List.set_cons_zero, List.set_cons_succ]
         rfl
        refine yp 9 16 ?_
        refine done_ (done_of HT_.out (by kernel_rfl)) ?_
        try go_wp2
        go_loopg [17] k2 (fun kq v17 w' => ∃ (x15_3 : List Int) (x17_3 : Int), v17 = .int .i64 x17_3 ∧ Aside0 (swarfref43_Check.l2 kq x15_3 y746 x17_3 l0_0 l0_1 = some (r1, r2)) ∧ Aside0 (kq ≤ k2) ∧ Aside0 (Kd.R (Kd.int .i64) 2 w' w.heap.size (fun k_ => some k_ ≠ (v747 : Value).ownBlock) v744 x15_3) ∧ Aside0 (Kd.R (Kd.int .i64) 2 w' w.heap.size (fun k_ => some k_ ≠ (v744 : Value).ownBlock) v747 y746) ∧ Aside0 (w'.heap[gb727]? = some (.cells #[(.slice A0_0 l0_0.length c0_0), (.slice A0_1 l0_1.length c0_1)] 48 (0, 0))) ∧ Aside0 (Below w.heap.size w w'))
        case atStart => exact ⟨(y743), (0), yS, H', ⟨Nat.le_refl _⟩, ⟨by refine yR ?_; exact HO745.out⟩, ⟨by refine yR ?_; exact HO748.out⟩, ⟨by refine yH ?_; exact BK727.out⟩, ⟨yB⟩⟩
        case round =>
         clear H'
         try clear c1
         try clear c2
         try clear p2
         try clear c3
         try clear p6
         try clear c7
         try clear p7
         try clear q7
         try clear hx7
         try clear c10
         try clear c10b0
         try clear c11
         try clear c11b0
         try clear c13
         try clear c13b0
         try clear c13b1
         try clear c19
         try clear c19b0
         try clear c20
         try clear c20b0
         try clear c22
         try clear c24
         try clear c24b0
         try clear c26
         try clear c32
         try clear c32b0
         try clear c32b1
         try clear c33
         try clear c33b0
         try clear c33b1
         try clear c37
         try clear hcz26_0
         try clear hcz26_1
         try clear hcz29_0
         try clear hcz29_1
         try clear hcz6_0
         try clear hcz6_1
         try clear hcz8_0
         try clear hcz8_1
         try clear hfz26_0
         try clear hfz26_1
         try clear hfz29_0
         try clear hfz29_1
         try clear hfz6_0
         try clear hfz6_1
         try clear hfz8_0
         try clear hfz8_1
         try clear hx732_0
         try clear hx732_1
         try clear hx732_2
         try clear hx737_0
         try clear hx737_1
         try clear hx737_2
         try clear p2
         try clear p6
         try clear p7
         try clear p732
         try clear p737
         try clear q7
         try clear q732
         try clear q737
         obtain ⟨x15_3, x17_3, rfl, HA, HK3, HO_15, HO_16, BK727, HB⟩ := hrel
         cases gk with
         | zero => exact absurd HA.out (by simp [swarfref43_Check.l2])
         | succ k3 =>
          have H := HA.out
          clear HA
          simp only [swarfref43_Check.l2] at H
          by_cases c40 : x17_3 < (x15_3.length : Int)
          ·rw [if_pos c40] at H
           have c40b0 := decide_eq_true c40
           clear c40
           by_cases c41 : 0 ≤ x17_3
           ·rw [if_pos c41] at H
            have c41b0 := decide_eq_true c41
            clear c41
            obtain ⟨y749, hy749⟩ : ∃ y_ : List Int, y_ = (x15_3.set (x17_3 : Int).toNat (-1)) := ⟨_, rfl⟩
            replace H : (swarfref43_Check.l2 k3 y749 y746 (wrap64 (x17_3 + 1)) l0_0 l0_1) = some (r1, r2) := by first | (rw [hy749]; with_reducible exact H) | (have H2_ := (Option.bind_some _ _).symm.trans H; rw [hy749]; with_reducible exact H2_) | (have H2_ := (Option.bind_some _ _).symm.trans H; with_reducible exact H2_) | with_reducible exact H | (rw [hy749]; exact H) | exact H
            have Ny749 := Aside0.mk hy749
            clear hy749
            have H' := Aside0.mk H
            clear H
            obtain ⟨Ao43, co43, eo43⟩ := Kd.R_slice HO_15.out
            subst eo43
            have p42 : 0 ≤ (x17_3 : Int) := yD
            have q42 : (x17_3 : Int) < ((x15_3.length : Int) : Int) := yD
            obtain ⟨go42, co42, eo42, gb42, gl42, cl42, HG42⟩ := Kd.R_form HO_15.out (by omega)
            (first | cases eo42 | (injection eo42 with ea_ en_ ec_; (first | subst ea_ | (injection ea_ with ea_; subst ea_)); subst ec_; clear en_))
            have GB42 := Aside0.mk gb42
            have GG42 := Aside0.mk HG42
            clear gb42 gl42 HG42
            obtain ⟨hx42_0, hf42_0⟩ := Kd.R_celln 0 HO_15.out (x17_3 : Int) p42 q42
            replace p42 := eq_true p42
            replace q42 := eq_true q42
            have HP44 := Kd.R_putg HO_15.out (x17_3 : Int) (-1)
            go_wp2_with (first | ((with_reducible refine gate_store (t := 2) (p := 89) rfl ?_); refine store_event (t := 2) (p := 89) (v := ?vo_w45) (w1 := (wr.setCell ⟨go42, (x17_3 : Int).toNat, none⟩ (.int .i64 (-1)))) ?hg ?ho ?hn ?hr ?_; (case ho => rfl); (case hg => rfl); (case hn => rfl); (case hr => first | (go_simp; done) | (go_simp; rfl)); intro w45 hw; have hg : wr.grownBy w45 (some go42) := (by rw [hw]; exact HP44.2); have hp_ : Kd.R (Kd.int .i64) 2 w45 w.heap.size (fun k_ => some k_ ≠ (v747 : Value).ownBlock) (.slice (some ⟨go42, 0, none⟩) x15_3.length co43) y749 := (by rw [hw, Ny749.out]; exact HP44.1); clear HP44; replace HO_16 := Aside0.mk (Kd.R_after (v := (.slice (some ⟨go42, 0, none⟩) x15_3.length co43)) (v1 := (.slice (some ⟨go42, 0, none⟩) x15_3.length co43)) (ok := (fun _ => True)) (yR (Kd.R_mono HO_16.out (fun _ hk => ⟨trivial, hk⟩))) hg (.inl rfl)); replace BK727 := Aside0.mk (blk_grown (g := gb727) yK hg (Kd.R_ne HO_15.out BK727.out (by decide))); replace HO_15 := Aside0.mk (hp_); replace HB := Aside0.mk ((by rw [hw]; exact below_set (HB.out) GB42.out : Below w.heap.size w w45)); clear hg hw hp_))
            go_roundg k3
            case measure => have := HK1.out; have := HK2.out; have := HK3.out; omega
            case rel => exact ⟨(y749), (wrap64 (x17_3 + 1)), yS, H', ⟨by have := HK1.out; have := HK2.out; have := HK3.out; omega⟩, ⟨by refine yR ?_; exact HO_15.out⟩, ⟨by refine yR ?_; exact Kd.R_mono HO_16.out (fun _ hk => hk.2)⟩, ⟨by refine yH ?_; exact BK727.out⟩, ⟨yB⟩⟩
           rw [if_neg c41] at H
           exact absurd H (by simp)
          rw [if_neg c40] at H
          have c40b0 := decide_eq_false c40
          clear c40
          have H' := Aside0.mk H
          clear H
          obtain ⟨Ao46, co46, eo46⟩ := Kd.R_slice HO_15.out
          subst eo46
          go_wp2
          go_loopg [18] k3 (fun kq v18 w' => ∃ (x15_4 : List Int) (x16_4 : List Int) (x18_4 : Int), v18 = .int .i64 x18_4 ∧ Aside0 (swarfref43_Check.l3 kq x15_4 x16_4 x18_4 l0_0 l0_1 = some (r1, r2)) ∧ Aside0 (kq ≤ k3) ∧ Aside0 (Kd.R (Kd.int .i64) 2 w' w.heap.size (fun k_ => some k_ ≠ (v747 : Value).ownBlock) (.slice Ao46 x15_3.length co46) x15_4) ∧ Aside0 (Kd.R (Kd.int .i64) 2 w' w.heap.size (fun k_ => some k_ ≠ ((.slice Ao46 x15_3.length co46) : Value).ownBlock) v747 x16_4) ∧ Aside0 (w'.heap[gb727]? = some (.cells #[(.slice A0_0 l0_0.length c0_0), (.slice A0_1 l0_1.length c0_1)] 48 (0, 0))) ∧ Aside0 (Below w.heap.size w w'))
          case atStart => exact ⟨(x15_3), (y746), (0), yS, H', ⟨Nat.le_refl _⟩, ⟨by refine yR ?_; exact HO_15.out⟩, ⟨by refine yR ?_; exact HO_16.out⟩, ⟨by refine yH ?_; exact BK727.out⟩, ⟨yB⟩⟩
          case round =>
           clear H'
           try clear c1
           try clear c2
           try clear p2
           try clear c3
           try clear c4
           try clear p4
           try clear q4
           try clear hx4
           try clear hf4
           try clear p6
           try clear c7
           try clear p7
           try clear q7
           try clear hx7
           try clear c10
           try clear c10b0
           try clear c11
           try clear c11b0
           try clear c13
           try clear c13b0
           try clear c13b1
           try clear c19
           try clear c19b0
           try clear c20
           try clear c20b0
           try clear c22
           try clear c24
           try clear c24b0
           try clear c26
           try clear c32
           try clear c32b0
           try clear c32b1
           try clear c33
           try clear c33b0
           try clear c33b1
           try clear c37
           try clear c40
           try clear c40b0
           try clear c41
           try clear c41b0
           try clear p42
           try clear q42
           try clear hx42
           try clear hf42
           try clear hcz26_0
           try clear hcz26_1
           try clear hcz29_0
           try clear hcz29_1
           try clear hcz6_0
           try clear hcz6_1
           try clear hcz8_0
           try clear hcz8_1
           try clear hfz26_0
           try clear hfz26_1
           try clear hfz29_0
           try clear hfz29_1
           try clear hfz6_0
           try clear hfz6_1
           try clear hfz8_0
           try clear hfz8_1
           try clear hx42_0
           try clear hx732_0
           try clear hx732_1
           try clear hx732_2
           try clear hx737_0
           try clear hx737_1
           try clear hx737_2
           try clear p2
           try clear p42
           try clear p6
           try clear p7
           try clear p732
           try clear p737
           try clear q42
           try clear q7
           try clear q732
           try clear q737
           obtain ⟨x15_4, x16_4, x18_4, rfl, HA, HK4, HO_15, HO_16, BK727, HB⟩ := hrel
           have hl15_4 := (Kd.R_reads' HO_15.out).1
           rw [hl15_4] at HO_15
           (try simp only [hl15_4])
           (try simp only [hl15_4] at BK727)
           (try simp only [hl15_4] at HO_16)
           cases gk with
           | zero => exact absurd HA.out (by simp [swarfref43_Check.l3])
           | succ k4 =>
            have H := HA.out
            clear HA
            simp only [swarfref43_Check.l3] at H
            by_cases c47 : x18_4 < (l0_1.length : Int)
            ·rw [if_pos c47] at H
             have c47b0 := decide_eq_true c47
             clear c47
             have H' := Aside0.mk H
             clear H
             have hcz48_0 := yZ0 BK727.out
             have hcz48_1 := yZ1 BK727.out
             have hfz48_0 := blk_frozen BK727.out 0
             have hfz48_1 := blk_frozen BK727.out 1
             go_wp2
             go_loopg [19] k4 (fun kq v19 w' => ∃ (x15_5 : List Int) (x16_5 : List Int) (x19_5 : Int), v19 = .int .i64 x19_5 ∧ Aside0 (swarfref43_Check.l4 kq x15_5 x16_5 x18_4 x19_5 l0_0 l0_1 = some (r1, r2)) ∧ Aside0 (kq ≤ k4) ∧ Aside0 (Kd.R (Kd.int .i64) 2 w' w.heap.size (fun k_ => some k_ ≠ (v747 : Value).ownBlock) (.slice Ao46 x15_4.length co46) x15_5) ∧ Aside0 (Kd.R (Kd.int .i64) 2 w' w.heap.size (fun k_ => some k_ ≠ ((.slice Ao46 x15_4.length co46) : Value).ownBlock) v747 x16_5) ∧ Aside0 (w'.heap[gb727]? = some (.cells #[(.slice A0_0 l0_0.length c0_0), (.slice A0_1 l0_1.length c0_1)] 48 (0, 0))) ∧ Aside0 (Below w.heap.size w w'))
             case atStart => exact ⟨(x15_4), (x16_4), (0), yS, H', ⟨Nat.le_refl _⟩, ⟨by (try simp only [hl15_4]); refine yR ?_; exact HO_15.out⟩, ⟨by (try simp only [hl15_4]); refine yR ?_; exact HO_16.out⟩, ⟨by (try simp only [hl15_4]); refine yH ?_; exact BK727.out⟩, ⟨yB⟩⟩
             case round =>
              clear H'
              try clear c1
              try clear c2
              try clear p2
              try clear c3
              try clear c4
              try clear p4
              try clear q4
              try clear hx4
              try clear hf4
              try clear p6
              try clear c7
              try clear p7
              try clear q7
              try clear hx7
              try clear c10
              try clear c10b0
              try clear c11
              try clear c11b0
              try clear c13
              try clear c13b0
              try clear c13b1
              try clear c19
              try clear c19b0
              try clear c20
              try clear c20b0
              try clear c22
              try clear c24
              try clear c24b0
              try clear c26
              try clear c32
              try clear c32b0
              try clear c32b1
              try clear c33
              try clear c33b0
              try clear c33b1
              try clear c37
              try clear c40
              try clear c40b0
              try clear c41
              try clear c41b0
              try clear p42
              try clear q42
              try clear hx42
              try clear hf42
              try clear c47
              try clear c47b0
              try clear hcz26_0
              try clear hcz26_1
              try clear hcz29_0
              try clear hcz29_1
              try clear hcz48_0
              try clear hcz48_1
              try clear hcz6_0
              try clear hcz6_1
              try clear hcz8_0
              try clear hcz8_1
              try clear hfz26_0
              try clear hfz26_1
              try clear hfz29_0
              try clear hfz29_1
              try clear hfz48_0
              try clear hfz48_1
              try clear hfz6_0
              try clear hfz6_1
              try clear hfz8_0
              try clear hfz8_1
              try clear hx42_0
              try clear hx732_0
              try clear hx732_1
              try clear hx732_2
              try clear hx737_0
              try clear hx737_1
              try clear hx737_2
              try clear p2
              try clear p4
              try clear p42
              try clear p6
              try clear p7
              try clear p732
              try clear p737
              try clear q4
              try clear q42
              try clear q7
              try clear q732
              try clear q737
              obtain ⟨x15_5, x16_5, x19_5, rfl, HA, HK5, HO_15, HO_16, BK727, HB⟩ := hrel
              have hl15_5 := (Kd.R_reads' HO_15.out).1
              rw [hl15_5] at HO_15
              (try simp only [hl15_5])
              (try simp only [hl15_5] at BK727)
              (try simp only [hl15_5] at HO_16)
              cases gk with
              | zero => exact absurd HA.out (by simp [swarfref43_Check.l4])
              | succ k5 =>
               have H := HA.out
               clear HA
               simp only [swarfref43_Check.l4] at H
               by_cases c49 : x19_5 < (l0_1.length : Int)
               ·rw [if_pos c49] at H
                have c49b0 := decide_eq_true c49
                clear c49
                by_cases c50 : 0 ≤ x19_5
                ·rw [if_pos c50] at H
                 have c50b0 := decide_eq_true c50
                 clear c50
                 replace H := Option.bind_eq_some_iff.mp H
                 obtain ⟨⟨t751, t752, t753⟩, A510, H⟩ := H
                 have A51 := Aside0.mk A510
                 clear A510
                 by_cases c52 : t753 = true
                 ·subst c52
                  rw [if_pos rfl] at H
                  by_cases c53 : x19_5 < (x15_5.length : Int)
                  ·rw [if_pos c53] at H
                   have c53b0 := decide_eq_true c53
                   clear c53
                   obtain ⟨y754, hy754⟩ : ∃ y_ : List Int, y_ = (x15_5.set (x19_5 : Int).toNat t751) := ⟨_, rfl⟩
                   replace H : (if x19_5 < (x16_5.length : Int) then (swarfref43_Check.l4 k5 y754 (x16_5.set (x19_5 : Int).toNat t752) x18_4 (wrap64 (x19_5 + 1)) l0_0 l0_1) else (none)) = some (r1, r2) := by first | (rw [hy754]; with_reducible exact H) | (have H2_ := (Option.bind_some _ _).symm.trans H; rw [hy754]; with_reducible exact H2_) | (have H2_ := (Option.bind_some _ _).symm.trans H; with_reducible exact H2_) | with_reducible exact H | (rw [hy754]; exact H) | exact H
                   have Ny754 := Aside0.mk hy754
                   clear hy754
                   by_cases c55 : x19_5 < (x16_5.length : Int)
                   ·rw [if_pos c55] at H
                    have c55b0 := decide_eq_true c55
                    clear c55
                    obtain ⟨y755, hy755⟩ : ∃ y_ : List Int, y_ = (x16_5.set (x19_5 : Int).toNat t752) := ⟨_, rfl⟩
                    replace H : (swarfref43_Check.l4 k5 y754 y755 x18_4 (wrap64 (x19_5 + 1)) l0_0 l0_1) = some (r1, r2) := by first | (rw [hy755]; with_reducible exact H) | (have H2_ := (Option.bind_some _ _).symm.trans H; rw [hy755]; with_reducible exact H2_) | (have H2_ := (Option.bind_some _ _).symm.trans H; with_reducible exact H2_) | with_reducible exact H | (rw [hy755]; exact H) | exact H
                    have Ny755 := Aside0.mk hy755
                    clear hy755
                    have H' := Aside0.mk H
                    clear H
                    have hcz57_0 := yZ0 BK727.out
                    have hcz57_1 := yZ1 BK727.out
                    have hfz57_0 := blk_frozen BK727.out 0
                    have hfz57_1 := blk_frozen BK727.out 1
                    try go_wp2
                    replace HO_15 := Aside0.mk (Kd.R_drew HO_15.out)
                    replace HO_16 := Aside0.mk (Kd.R_drew HO_16.out)
                    replace BK727 := Aside0.mk (blk_drew BK727.out)
                    replace HB := Aside0.mk (below_drew1 HB.out)
                    have p750 : 0 ≤ (x19_5 : Int) := yD
                    have q750 : x19_5 < (l0_1.length : Int) := yD
                    obtain ⟨ad750, A750_1, c750_1, e750, hx750_0, hx750_1, hl750_1, hi750_1⟩ := at_T58 HR0_1.out x19_5 p750 q750
                    have hw750_1 := hx750_1
                    have hw750_0 := hx750_0
                    cases e750
                    replace hx750_0 := yM HB.out hx750_0
                    replace hx750_1 := yM HB.out hx750_1
                    have HR750_1 := Aside0.mk hi750_1
                    have HC750_1 := Aside0.mk hl750_1
                    clear hi750_1 hl750_1
                    replace p750 := eq_true p750
                    replace q750 := eq_true q750
                    obtain ⟨Ao59, co59, eo59⟩ := Kd.R_slice HO_16.out
                    (first | subst eo59 | (injection eo59 with f1_ f2_ f3_; have f4_ := f1_.symm; have f5_ := f3_.symm; clear f1_ f2_ f3_; subst f4_; subst f5_))
                    refine start_ (n := 17) (S := fun w' => w'.cell? ⟨gb727, 0, none⟩ = some (.slice A0_0 l0_0.length c0_0) ∧ w'.cell? ⟨gb727, 1, none⟩ = some (.slice (some ad750) l0_1.length c0_1) ∧ w'.cell? (ad750.add ((x19_5).toNat * 2)) = some (.int .i64 ((rd_T58 l0_1 x19_5).f0)) ∧ w'.cell? ⟨(ad750.add ((x19_5).toNat * 2)).block, (ad750.add ((x19_5).toNat * 2)).off + 1, none⟩ = some (.slice A750_1 ((rd_T58 l0_1 x19_5).f1).length c750_1)) (ds := []) #[false, false, false, false, false, false, false, false, false, false, false, false, false, false, false, false, false] (by kernel_rfl) rfl rfl ⟨(blk_cell BK727.out 0).trans rfl, (blk_cell BK727.out 1).trans rfl, (yM HB.out hw750_0), (yM HB.out hw750_1)⟩ (fun hHeld => ?_); refine with_tabW swarfref43_Check.tab27 swarfref43_Check.bits27 (fun HT_ HW_ => ?_)
                    generalize wr.drew = w58 at HO_15 HO_16 BK727 HB HR750_1 hx750_0 hx750_1 hHeld ⊢
                    refine yp 1 106 ?_
                    refine yp 3 108 ?_
                    refine yp 7 112 ?_
                    refine yp 8 113 ?_
                    refine yt 0 105 hHeld ?_
                    refine yt 2 107 hHeld ?_
                    refine yp 4 109 ?_
                    refine yp 5 110 ?_
                    refine yt 6 111 hHeld ?_
                    refine yo 9 (some 114) (fun K hK => ?_)
                    refine goes_ Try.func72 (by kernel_rfl) rfl #[.agg #[.slice A0_0 l0_0.length c0_0, .slice (some ad750) l0_1.length c0_1], .slice A750_1 ((rd_T58 l0_1 x19_5).f1).length c750_1, .slice Ao46 x15_5.length co46, .slice Ao59 x16_5.length co59] (by rfl) rfl rfl yQ ?_
                    with_reducible refine (swarfref43_measure.calls k5 _ _ l0_0 _ _ l0_1 _ _ ((rd_T58 l0_1 x19_5).f1) _ _ x15_5 _ _ x16_5 t751 t752 true _ ?side1 ?side2 ?side3 ?side4 ?side5 ?side6 ?side7 ?side8 ?side9 ?side10 A51.out).mono ?_
                    (case side1 => exact yC HR0_0.out)
                    (case side2 => exact HC0_0.out)
                    (case side3 => exact yC HR0_1.out)
                    (case side4 => exact HC0_1.out)
                    (case side5 => exact yC HR750_1.out)
                    (case side6 => exact HC750_1.out)
                    (case side7 => repeat (first | exact (Kd.R_reads' HO_15.out).2.2 | (with_reducible refine Kd.C_alloc ?_ _) | (with_reducible refine Kd.C_drewN ?_ _) | (with_reducible refine Kd.C_drew ?_)))
                    (case side8 => exact (Kd.R_reads' HO_15.out).2.1)
                    (case side9 => repeat (first | exact (Kd.R_reads' HO_16.out).2.2 | (with_reducible refine Kd.C_alloc ?_ _) | (with_reducible refine Kd.C_drewN ?_ _) | (with_reducible refine Kd.C_drew ?_)))
                    (case side10 => exact (Kd.R_reads' HO_16.out).2.1)
                    rintro e w60 ⟨rfl, hb⟩
                    refine ⟨_, rfl, ?_⟩
                    replace HO_15 := Aside0.mk (Kd.R_below (yR HO_15.out) hb)
                    replace HO_16 := Aside0.mk (Kd.R_below (yR HO_16.out) hb)
                    replace BK727 := Aside0.mk (blk_below (g := gb727) yK hb)
                    replace HB := Aside0.mk (below_step yB hb)
                    (try clear hb)
                    refine hK.out _ _ ⟨(blk_cell BK727.out 0).trans rfl, (blk_cell BK727.out 1).trans rfl, (yM HB.out hw750_0), (yM HB.out hw750_1)⟩ (fun hHeld => ?_)
                    clear hK K
                    refine yn 114 ?_
                    refine yp 10 104 ?_
                    refine yp 11 115 ?_
                    refine yp 12 116 ?_
                    refine yp 13 117 ?_
                    refine yp 14 20 ?_
                    refine yp 15 21 ?_
                    refine yp 16 22 ?_
                    refine done_ (done_of HT_.out (by kernel_rfl)) ?_
                    have p54 : 0 ≤ (x19_5 : Int) := yD
                    have q54 : (x19_5 : Int) < ((x15_5.length : Int) : Int) := yD
                    obtain ⟨go54, co54, eo54, gb54, gl54, cl54, HG54⟩ := Kd.R_form HO_15.out (by omega)
                    (first | cases eo54 | (injection eo54 with ea_ en_ ec_; (first | subst ea_ | (injection ea_ with ea_; subst ea_)); subst ec_; clear en_))
                    have GB54 := Aside0.mk gb54
                    have GG54 := Aside0.mk HG54
                    clear gb54 gl54 HG54
                    obtain ⟨hx54_0, hf54_0⟩ := Kd.R_celln 0 HO_15.out (x19_5 : Int) p54 q54
                    replace p54 := eq_true p54
                    replace q54 := eq_true q54
                    obtain ⟨hy61_, hz61_⟩ := Kd.R_celln 0 HO_15.out (x19_5 : Int) (yD) (yD)
                    have HP61 := Kd.R_putg HO_15.out (x19_5 : Int) t751
                    try go_wp2_with (first | ((with_reducible refine gate_store (t := 2) (p := 125) rfl ?_); refine store_event (t := 2) (p := 125) (v := ?vo_w62) (w1 := (w60.setCell ⟨go54, (x19_5 : Int).toNat, none⟩ (.int .i64 t751))) ?hg ?ho ?hn ?hr ?_; (case ho => rfl); (case hg => rfl); (case hn => rfl); (case hr => first | (go_simp; done) | (go_simp; rfl)); intro w62 hw; have hg : w60.grownBy w62 (some go54) := (by rw [hw]; exact HP61.2); have hp_ : Kd.R (Kd.int .i64) 2 w62 w.heap.size (fun k_ => some k_ ≠ (.slice Ao59 x16_5.length co59 : Value).ownBlock) (.slice (some ⟨go54, 0, none⟩) x15_5.length co46) y754 := (by rw [hw, Ny754.out]; exact HP61.1); clear HP61; replace HO_16 := Aside0.mk (Kd.R_after (v := (.slice (some ⟨go54, 0, none⟩) x15_5.length co46)) (v1 := (.slice (some ⟨go54, 0, none⟩) x15_5.length co46)) (ok := (fun _ => True)) (yR (Kd.R_mono HO_16.out (fun _ hk => ⟨trivial, hk⟩))) hg (.inl rfl)); replace BK727 := Aside0.mk (blk_grown (g := gb727) yK hg (Kd.R_ne HO_15.out BK727.out (by decide))); replace HO_15 := Aside0.mk (hp_); replace HB := Aside0.mk ((by rw [hw]; exact below_set (HB.out) GB54.out : Below w.heap.size w w62)); clear hg hw hp_; have p56 : 0 ≤ (x19_5 : Int) := yD; have q56 : (x19_5 : Int) < ((x16_5.length : Int) : Int) := yD; obtain ⟨go56, co56, eo56, gb56, gl56, cl56, HG56⟩ := Kd.R_form HO_16.out (by omega); (first | cases eo56 | (injection eo56 with ea_ en_ ec_; (first | subst ea_ | (injection ea_ with ea_; subst ea_)); subst ec_; clear en_)); have GB56 := Aside0.mk gb56; have GG56 := Aside0.mk HG56; clear gb56 gl56 HG56; obtain ⟨hx56_0, hf56_0⟩ := Kd.R_celln 0 HO_16.out (x19_5 : Int) p56 q56; replace p56 := eq_true p56; replace q56 := eq_true q56; have n_ := Aside0.mk (Kd.R_mono (ok' := (fun k_ => some k_ ≠ (.slice (some ⟨go54, 0, none⟩) x15_5.length co46 : Value).ownBlock)) HO_16.out (fun k_ hk => hk.2)); clear HO_16; have HO_16 := n_; clear n_; obtain ⟨hy63_, hz63_⟩ := Kd.R_celln 0 HO_16.out (x19_5 : Int) (yD) (yD); have HP63 := Kd.R_putg HO_16.out (x19_5 : Int) t752) | ((with_reducible refine gate_store (t := 2) (p := 126) rfl ?_); refine store_event (t := 2) (p := 126) (v := ?vo_w64) (w1 := (w62.setCell ⟨go56, (x19_5 : Int).toNat, none⟩ (.int .i64 t752))) ?hg ?ho ?hn ?hr ?_; (case ho => rfl); (case hg => rfl); (case hn => rfl); (case hr => first | (go_simp; done) | (go_simp; rfl)); intro w64 hw; have hg : w62.grownBy w64 (some go56) := (by rw [hw]; exact HP63.2); have hp_ : Kd.R (Kd.int .i64) 2 w64 w.heap.size (fun k_ => some k_ ≠ (.slice (some ⟨go54, 0, none⟩) x15_5.length co46 : Value).ownBlock) (.slice (some ⟨go56, 0, none⟩) x16_5.length co59) y755 := (by rw [hw, Ny755.out]; exact HP63.1); clear HP63; replace HO_15 := Aside0.mk (Kd.R_after (v := (.slice (some ⟨go56, 0, none⟩) x16_5.length co59)) (v1 := (.slice (some ⟨go56, 0, none⟩) x16_5.length co59)) (ok := (fun _ => True)) (yR (Kd.R_mono HO_15.out (fun _ hk => ⟨trivial, hk⟩))) hg (.inl rfl)); replace BK727 := Aside0.mk (blk_grown (g := gb727) yK hg (Kd.R_ne HO_16.out BK727.out (by decide))); replace HO_16 := Aside0.mk (hp_); replace HB := Aside0.mk ((by rw [hw]; exact below_set (HB.out) GB56.out : Below w.heap.size w w64)); clear hg hw hp_))
                    (try simp only [← hl15_5])
                    go_roundg k5
                    case measure => have := HK1.out; have := HK2.out; have := HK3.out; have := HK4.out; have := HK5.out; omega
                    case rel => exact ⟨(y754), (y755), (wrap64 (x19_5 + 1)), yS, H', ⟨by have := HK1.out; have := HK2.out; have := HK3.out; have := HK4.out; have := HK5.out; omega⟩, ⟨by (try simp only [hl15_4]); (try simp only [hl15_5]); refine yR ?_; exact Kd.R_mono HO_15.out (fun _ hk => hk.2)⟩, ⟨by (try simp only [hl15_4]); (try simp only [hl15_5]); refine yR ?_; exact HO_16.out⟩, ⟨by (try simp only [hl15_4]); (try simp only [hl15_5]); refine yH ?_; exact BK727.out⟩, ⟨yB⟩⟩
                   rw [if_neg c55] at H
                   exact absurd H (by simp)
                  rw [if_neg c53] at H
                  exact absurd H (by simp)
                 replace c52 := Bool.eq_false_iff.mpr c52
                 subst c52
                 replace H : (swarfref43_Check.l4 k5 x15_5 x16_5 x18_4 (wrap64 (x19_5 + 1)) l0_0 l0_1) = some (r1, r2) := by rw [if_neg (show ¬ (false = true) by decide)] at H; exact H
                 have H' := Aside0.mk H
                 clear H
                 have hcz65_0 := yZ0 BK727.out
                 have hcz65_1 := yZ1 BK727.out
                 have hfz65_0 := blk_frozen BK727.out 0
                 have hfz65_1 := blk_frozen BK727.out 1
                 try go_wp2
                 replace HO_15 := Aside0.mk (Kd.R_drew HO_15.out)
                 replace HO_16 := Aside0.mk (Kd.R_drew HO_16.out)
                 replace BK727 := Aside0.mk (blk_drew BK727.out)
                 replace HB := Aside0.mk (below_drew1 HB.out)
                 have p750 : 0 ≤ (x19_5 : Int) := yD
                 have q750 : x19_5 < (l0_1.length : Int) := yD
                 obtain ⟨ad750, A750_1, c750_1, e750, hx750_0, hx750_1, hl750_1, hi750_1⟩ := at_T58 HR0_1.out x19_5 p750 q750
                 have hw750_1 := hx750_1
                 have hw750_0 := hx750_0
                 cases e750
                 replace hx750_0 := yM HB.out hx750_0
                 replace hx750_1 := yM HB.out hx750_1
                 have HR750_1 := Aside0.mk hi750_1
                 have HC750_1 := Aside0.mk hl750_1
                 clear hi750_1 hl750_1
                 replace p750 := eq_true p750
                 replace q750 := eq_true q750
                 obtain ⟨Ao67, co67, eo67⟩ := Kd.R_slice HO_16.out
                 (first | subst eo67 | (injection eo67 with f1_ f2_ f3_; have f4_ := f1_.symm; have f5_ := f3_.symm; clear f1_ f2_ f3_; subst f4_; subst f5_))
                 refine start_ (n := 17) (S := fun w' => w'.cell? ⟨gb727, 0, none⟩ = some (.slice A0_0 l0_0.length c0_0) ∧ w'.cell? ⟨gb727, 1, none⟩ = some (.slice (some ad750) l0_1.length c0_1) ∧ w'.cell? (ad750.add ((x19_5).toNat * 2)) = some (.int .i64 ((rd_T58 l0_1 x19_5).f0)) ∧ w'.cell? ⟨(ad750.add ((x19_5).toNat * 2)).block, (ad750.add ((x19_5).toNat * 2)).off + 1, none⟩ = some (.slice A750_1 ((rd_T58 l0_1 x19_5).f1).length c750_1)) (ds := []) #[false, false, false, false, false, false, false, false, false, false, false, false, false, false, false, false, false] (by kernel_rfl) rfl rfl ⟨(blk_cell BK727.out 0).trans rfl, (blk_cell BK727.out 1).trans rfl, (yM HB.out hw750_0), (yM HB.out hw750_1)⟩ (fun hHeld => ?_); refine with_tabW swarfref43_Check.tab27 swarfref43_Check.bits27 (fun HT_ HW_ => ?_)
                 generalize wr.drew = w66 at HO_15 HO_16 BK727 HB HR750_1 hx750_0 hx750_1 hHeld ⊢
                 refine yp 1 106 ?_
                 refine yp 3 108 ?_
                 refine yp 7 112 ?_
                 refine yp 8 113 ?_
                 refine yt 0 105 hHeld ?_
                 refine yt 2 107 hHeld ?_
                 refine yp 4 109 ?_
                 refine yp 5 110 ?_
                 refine yt 6 111 hHeld ?_
                 refine yo 9 (some 114) (fun K hK => ?_)
                 refine goes_ Try.func72 (by kernel_rfl) rfl #[.agg #[.slice A0_0 l0_0.length c0_0, .slice (some ad750) l0_1.length c0_1], .slice A750_1 ((rd_T58 l0_1 x19_5).f1).length c750_1, .slice Ao46 x15_5.length co46, .slice Ao67 x16_5.length co67] (by rfl) rfl rfl yQ ?_
                 with_reducible refine (swarfref43_measure.calls k5 _ _ l0_0 _ _ l0_1 _ _ ((rd_T58 l0_1 x19_5).f1) _ _ x15_5 _ _ x16_5 t751 t752 false _ ?side1 ?side2 ?side3 ?side4 ?side5 ?side6 ?side7 ?side8 ?side9 ?side10 A51.out).mono ?_
                 (case side1 => exact yC HR0_0.out)
                 (case side2 => exact HC0_0.out)
                 (case side3 => exact yC HR0_1.out)
                 (case side4 => exact HC0_1.out)
                 (case side5 => exact yC HR750_1.out)
                 (case side6 => exact HC750_1.out)
                 (case side7 => repeat (first | exact (Kd.R_reads' HO_15.out).2.2 | (with_reducible refine Kd.C_alloc ?_ _) | (with_reducible refine Kd.C_drewN ?_ _) | (with_reducible refine Kd.C_drew ?_)))
                 (case side8 => exact (Kd.R_reads' HO_15.out).2.1)
                 (case side9 => repeat (first | exact (Kd.R_reads' HO_16.out).2.2 | (with_reducible refine Kd.C_alloc ?_ _) | (with_reducible refine Kd.C_drewN ?_ _) | (with_reducible refine Kd.C_drew ?_)))
                 (case side10 => exact (Kd.R_reads' HO_16.out).2.1)
                 rintro e w68 ⟨rfl, hb⟩
                 refine ⟨_, rfl, ?_⟩
                 replace HO_15 := Aside0.mk (Kd.R_below (yR HO_15.out) hb)
                 replace HO_16 := Aside0.mk (Kd.R_below (yR HO_16.out) hb)
                 replace BK727 := Aside0.mk (blk_below (g := gb727) yK hb)
                 replace HB := Aside0.mk (below_step yB hb)
                 (try clear hb)
                 refine hK.out _ _ ⟨(blk_cell BK727.out 0).trans rfl, (blk_cell BK727.out 1).trans rfl, (yM HB.out hw750_0), (yM HB.out hw750_1)⟩ (fun hHeld => ?_)
                 clear hK K
                 refine yn 114 ?_
                 refine yp 10 104 ?_
                 refine yp 11 115 ?_
                 refine yp 12 116 ?_
                 refine yp 13 117 ?_
                 refine yp 14 20 ?_
                 refine yp 15 21 ?_
                 refine yp 16 22 ?_
                 refine done_ (done_of HT_.out (by kernel_rfl)) ?_
                 try go_wp2
                 (try simp only [← hl15_5])
                 go_roundg k5
                 case measure => have := HK1.out; have := HK2.out; have := HK3.out; have := HK4.out; have := HK5.out; omega
                 case rel => exact ⟨(x15_5), (x16_5), (wrap64 (x19_5 + 1)), yS, H', ⟨by have := HK1.out; have := HK2.out; have := HK3.out; have := HK4.out; have := HK5.out; omega⟩, ⟨by (try simp only [hl15_4]); (try simp only [hl15_5]); refine yR ?_; exact HO_15.out⟩, ⟨by (try simp only [hl15_4]); (try simp only [hl15_5]); refine yR ?_; exact HO_16.out⟩, ⟨by (try simp only [hl15_4]); (try simp only [hl15_5]); refine yH ?_; exact BK727.out⟩, ⟨yB⟩⟩
                rw [if_neg c50] at H
                exact absurd H (by simp)
               rw [if_neg c49] at H
               have c49b0 := decide_eq_false c49
               clear c49
               have H' := Aside0.mk H
               clear H
               have hcz69_0 := yZ0 BK727.out
               have hcz69_1 := yZ1 BK727.out
               have hfz69_0 := blk_frozen BK727.out 0
               have hfz69_1 := blk_frozen BK727.out 1
               go_wp2
               (try simp only [← hl15_4, ← hl15_5])
               go_roundg k5
               case measure => have := HK1.out; have := HK2.out; have := HK3.out; have := HK4.out; have := HK5.out; omega
               case rel => exact ⟨(x15_5), (x16_5), (wrap64 (x18_4 + 1)), yS, H', ⟨by have := HK1.out; have := HK2.out; have := HK3.out; have := HK4.out; have := HK5.out; omega⟩, ⟨by (try simp only [hl15_4]); (try simp only [hl15_5]); refine yR ?_; exact HO_15.out⟩, ⟨by (try simp only [hl15_4]); (try simp only [hl15_5]); refine yR ?_; exact HO_16.out⟩, ⟨by (try simp only [hl15_4]); (try simp only [hl15_5]); refine yH ?_; exact BK727.out⟩, ⟨yB⟩⟩
            rw [if_neg c47] at H
            have c47b0 := decide_eq_false c47
            clear c47
            have H' := Aside0.mk H
            clear H
            have hcz70_0 := yZ0 BK727.out
            have hcz70_1 := yZ1 BK727.out
            have hfz70_0 := blk_frozen BK727.out 0
            have hfz70_1 := blk_frozen BK727.out 1
            go_wp2
            go_loopg [23] k4 (fun kq v23 w' => ∃ (x23_5 : Int), v23 = .int .i64 x23_5 ∧ Aside0 (swarfref43_Check.l5 kq x15_4 x16_4 x23_5 l0_0 l0_1 = some (r1, r2)) ∧ Aside0 (kq ≤ k4) ∧ Aside0 (Kd.R (Kd.int .i64) 2 w' w.heap.size (fun k_ => some k_ ≠ (v747 : Value).ownBlock) (.slice Ao46 x15_4.length co46) x15_4) ∧ Aside0 (Kd.R (Kd.int .i64) 2 w' w.heap.size (fun k_ => some k_ ≠ ((.slice Ao46 x15_4.length co46) : Value).ownBlock) v747 x16_4) ∧ Aside0 (w'.heap[gb727]? = some (.cells #[(.slice A0_0 l0_0.length c0_0), (.slice A0_1 l0_1.length c0_1)] 48 (0, 0))) ∧ Aside0 (Below w.heap.size w w'))
            case atStart => exact ⟨(0), yS, H', ⟨Nat.le_refl _⟩, ⟨by (try simp only [hl15_4]); refine yR ?_; exact HO_15.out⟩, ⟨by (try simp only [hl15_4]); refine yR ?_; exact HO_16.out⟩, ⟨by (try simp only [hl15_4]); refine yH ?_; exact BK727.out⟩, ⟨yB⟩⟩
            case round =>
             clear H'
             try clear c1
             try clear c2
             try clear p2
             try clear c3
             try clear c4
             try clear p4
             try clear q4
             try clear hx4
             try clear hf4
             try clear c5
             try clear p5
             try clear q5
             try clear hx5
             try clear hf5
             try clear p6
             try clear c7
             try clear p7
             try clear q7
             try clear hx7
             try clear c10
             try clear c10b0
             try clear c11
             try clear c11b0
             try clear c13
             try clear c13b0
             try clear c13b1
             try clear c19
             try clear c19b0
             try clear c20
             try clear c20b0
             try clear c22
             try clear c24
             try clear c24b0
             try clear c26
             try clear c32
             try clear c32b0
             try clear c32b1
             try clear c33
             try clear c33b0
             try clear c33b1
             try clear c37
             try clear c40
             try clear c40b0
             try clear c41
             try clear c41b0
             try clear p42
             try clear q42
             try clear hx42
             try clear hf42
             try clear c47
             try clear c47b0
             try clear c49
             try clear c49b0
             try clear c50
             try clear c50b0
             try clear c52
             try clear c53
             try clear c53b0
             try clear p54
             try clear q54
             try clear hx54
             try clear hf54
             try clear c55
             try clear c55b0
             try clear p56
             try clear q56
             try clear hx56
             try clear hf56
             try clear p64
             try clear hcz26_0
             try clear hcz26_1
             try clear hcz29_0
             try clear hcz29_1
             try clear hcz48_0
             try clear hcz48_1
             try clear hcz57_0
             try clear hcz57_1
             try clear hcz65_0
             try clear hcz65_1
             try clear hcz69_0
             try clear hcz69_1
             try clear hcz6_0
             try clear hcz6_1
             try clear hcz70_0
             try clear hcz70_1
             try clear hcz8_0
             try clear hcz8_1
             try clear hfz26_0
             try clear hfz26_1
             try clear hfz29_0
             try clear hfz29_1
             try clear hfz48_0
             try clear hfz48_1
             try clear hfz57_0
             try clear hfz57_1
             try clear hfz65_0
             try clear hfz65_1
             try clear hfz69_0
             try clear hfz69_1
             try clear hfz6_0
             try clear hfz6_1
             try clear hfz70_0
             try clear hfz70_1
             try clear hfz8_0
             try clear hfz8_1
             try clear hx42_0
             try clear hx54_0
             try clear hx56_0
             try clear hx732_0
             try clear hx732_1
             try clear hx732_2
             try clear hx737_0
             try clear hx737_1
             try clear hx737_2
             try clear hx750_0
             try clear hx750_1
             try clear p2
             try clear p4
             try clear p42
             try clear p54
             try clear p56
             try clear p6
             try clear p7
             try clear p732
             try clear p737
             try clear p750
             try clear q4
             try clear q42
             try clear q54
             try clear q56
             try clear q7
             try clear q732
             try clear q737
             try clear q750
             obtain ⟨x23_5, rfl, HA, HK5, HO_15, HO_16, BK727, HB⟩ := hrel
             cases gk with
             | zero => exact absurd HA.out (by simp [swarfref43_Check.l5])
             | succ k5 =>
              have H := HA.out
              clear HA
              simp only [swarfref43_Check.l5] at H
              by_cases c71 : x23_5 < (x15_4.length : Int)
              ·rw [if_pos c71] at H
               have c71b0 := decide_eq_true c71
               clear c71
               by_cases c72 : 0 ≤ x23_5
               ·rw [if_pos c72] at H
                have c72b0 := decide_eq_true c72
                clear c72
                by_cases c73 : (rd x15_4 x23_5) < 0
                ·rw [if_pos c73] at H
                 have c73b0 := decide_eq_true c73
                 clear c73
                 simp only [Option.some.injEq, Prod.mk.injEq] at H
                 obtain ⟨rfl, rfl⟩ := H
                 have p756 : 0 ≤ (x23_5 : Int) := yD
                 have q756 : x23_5 < (x15_4.length : Int) := yD
                 obtain ⟨ad756, e756, hx756_0⟩ := Kd.at_int (Kd.R_reads' HO_15.out).2.2 x23_5 p756 q756
                 cases e756
                 replace p756 := eq_true p756
                 replace q756 := eq_true q756
                 go_wp2
                 go_ret2
                 exact ⟨yE, yB⟩
                rw [if_neg c73] at H
                have c73b0 := decide_eq_false c73
                clear c73
                have H' := Aside0.mk H
                clear H
                have p756 : 0 ≤ (x23_5 : Int) := yD
                have q756 : x23_5 < (x15_4.length : Int) := yD
                obtain ⟨ad756, e756, hx756_0⟩ := Kd.at_int (Kd.R_reads' HO_15.out).2.2 x23_5 p756 q756
                cases e756
                replace p756 := eq_true p756
                replace q756 := eq_true q756
                go_wp2
                go_roundg k5
                case measure => have := HK1.out; have := HK2.out; have := HK3.out; have := HK4.out; have := HK5.out; omega
                case rel => exact ⟨(wrap64 (x23_5 + 1)), yS, H', ⟨by have := HK1.out; have := HK2.out; have := HK3.out; have := HK4.out; have := HK5.out; omega⟩, ⟨by (try simp only [hl15_4]); refine yR ?_; exact HO_15.out⟩, ⟨by (try simp only [hl15_4]); refine yR ?_; exact HO_16.out⟩, ⟨by (try simp only [hl15_4]); refine yH ?_; exact BK727.out⟩, ⟨yB⟩⟩
               rw [if_neg c72] at H
               exact absurd H (by simp)
              rw [if_neg c71] at H
              have c71b0 := decide_eq_false c71
              clear c71
              replace H := Option.bind_eq_some_iff.mp H
              obtain ⟨⟨t757, t758, t759⟩, A740, H⟩ := H
              have A74 := Aside0.mk A740
              clear A740
              by_cases c75 : t758 > 8
              ·rw [if_pos c75] at H
               have c75b0 := decide_eq_true c75
               clear c75
               simp only [Option.some.injEq, Prod.mk.injEq] at H
               obtain ⟨rfl, rfl⟩ := H
               have hcz76_0 := yZ0 BK727.out
               have hcz76_1 := yZ1 BK727.out
               have hfz76_0 := blk_frozen BK727.out 0
               have hfz76_1 := blk_frozen BK727.out 1
               obtain ⟨Ao77, co77, eo77⟩ := Kd.R_slice HO_16.out
               subst eo77
               go_wp2_with (first | ((with_reducible refine gate_callee (f := 72) rfl ?_); refine goesL_ (some 144) rfl rfl Try.func72 (by kernel_rfl) rfl #[.agg #[.slice A0_0 l0_0.length c0_0, .slice A0_1 l0_1.length c0_1], .slice A0_0 l0_0.length c0_0, .slice Ao46 x15_4.length co46, .slice Ao77 x16_4.length co77] rfl yQ ?_; (with_reducible refine (swarfref43_measure.calls k5 _ _ l0_0 _ _ l0_1 _ _ l0_0 _ _ x15_4 _ _ x16_4 t757 t758 t759 _ ?side1 ?side2 ?side3 ?side4 ?side5 ?side6 ?side7 ?side8 ?side9 ?side10 A74.out).mono ?_); (case side1 => exact yC HR0_0.out); (case side2 => exact HC0_0.out); (case side3 => exact yC HR0_1.out); (case side4 => exact HC0_1.out); (case side5 => exact yC HR0_0.out); (case side6 => exact HC0_0.out); (case side7 => repeat (first | exact (Kd.R_reads' HO_15.out).2.2 | (with_reducible refine Kd.C_alloc ?_ _) | (with_reducible refine Kd.C_drewN ?_ _) | (with_reducible refine Kd.C_drew ?_))); (case side8 => exact (Kd.R_reads' HO_15.out).2.1); (case side9 => repeat (first | exact (Kd.R_reads' HO_16.out).2.2 | (with_reducible refine Kd.C_alloc ?_ _) | (with_reducible refine Kd.C_drewN ?_ _) | (with_reducible refine Kd.C_drew ?_))); (case side10 => exact (Kd.R_reads' HO_16.out).2.1); rintro e w78 ⟨rfl, hb⟩; refine ⟨_, rfl, ?_⟩; replace HO_15 := Aside0.mk (Kd.R_below (yR HO_15.out) hb); replace HO_16 := Aside0.mk (Kd.R_below (yR HO_16.out) hb); replace BK727 := Aside0.mk (blk_below (g := gb727) yK hb); replace HB := Aside0.mk (below_step yB hb); (try clear hb)))
               go_ret2
               exact ⟨yE, yB⟩
              rw [if_neg c75] at H
              have c75b0 := decide_eq_false c75
              clear c75
              by_cases c79 : t757 > 20000
              ·rw [if_pos c79] at H
               have c79b0 := decide_eq_true c79
               clear c79
               simp only [Option.some.injEq, Prod.mk.injEq] at H
               obtain ⟨rfl, rfl⟩ := H
               have hcz80_0 := yZ0 BK727.out
               have hcz80_1 := yZ1 BK727.out
               have hfz80_0 := blk_frozen BK727.out 0
               have hfz80_1 := blk_frozen BK727.out 1
               obtain ⟨Ao81, co81, eo81⟩ := Kd.R_slice HO_16.out
               subst eo81
               go_wp2_with (first | ((with_reducible refine gate_callee (f := 72) rfl ?_); refine goesL_ (some 144) rfl rfl Try.func72 (by kernel_rfl) rfl #[.agg #[.slice A0_0 l0_0.length c0_0, .slice A0_1 l0_1.length c0_1], .slice A0_0 l0_0.length c0_0, .slice Ao46 x15_4.length co46, .slice Ao81 x16_4.length co81] rfl yQ ?_; (with_reducible refine (swarfref43_measure.calls k5 _ _ l0_0 _ _ l0_1 _ _ l0_0 _ _ x15_4 _ _ x16_4 t757 t758 t759 _ ?side1 ?side2 ?side3 ?side4 ?side5 ?side6 ?side7 ?side8 ?side9 ?side10 A74.out).mono ?_); (case side1 => exact yC HR0_0.out); (case side2 => exact HC0_0.out); (case side3 => exact yC HR0_1.out); (case side4 => exact HC0_1.out); (case side5 => exact yC HR0_0.out); (case side6 => exact HC0_0.out); (case side7 => repeat (first | exact (Kd.R_reads' HO_15.out).2.2 | (with_reducible refine Kd.C_alloc ?_ _) | (with_reducible refine Kd.C_drewN ?_ _) | (with_reducible refine Kd.C_drew ?_))); (case side8 => exact (Kd.R_reads' HO_15.out).2.1); (case side9 => repeat (first | exact (Kd.R_reads' HO_16.out).2.2 | (with_reducible refine Kd.C_alloc ?_ _) | (with_reducible refine Kd.C_drewN ?_ _) | (with_reducible refine Kd.C_drew ?_))); (case side10 => exact (Kd.R_reads' HO_16.out).2.1); rintro e w82 ⟨rfl, hb⟩; refine ⟨_, rfl, ?_⟩; replace HO_15 := Aside0.mk (Kd.R_below (yR HO_15.out) hb); replace HO_16 := Aside0.mk (Kd.R_below (yR HO_16.out) hb); replace BK727 := Aside0.mk (blk_below (g := gb727) yK hb); replace HB := Aside0.mk (below_step yB hb); (try clear hb)))
               go_ret2
               exact ⟨yE, yB⟩
              rw [if_neg c79] at H
              have c79b0 := decide_eq_false c79
              clear c79
              simp only [Option.some.injEq, Prod.mk.injEq] at H
              obtain ⟨rfl, rfl⟩ := H
              have hcz83_0 := yZ0 BK727.out
              have hcz83_1 := yZ1 BK727.out
              have hfz83_0 := blk_frozen BK727.out 0
              have hfz83_1 := blk_frozen BK727.out 1
              obtain ⟨Ao84, co84, eo84⟩ := Kd.R_slice HO_16.out
              subst eo84
              go_wp2_with (first | ((with_reducible refine gate_callee (f := 72) rfl ?_); refine goesL_ (some 144) rfl rfl Try.func72 (by kernel_rfl) rfl #[.agg #[.slice A0_0 l0_0.length c0_0, .slice A0_1 l0_1.length c0_1], .slice A0_0 l0_0.length c0_0, .slice Ao46 x15_4.length co46, .slice Ao84 x16_4.length co84] rfl yQ ?_; (with_reducible refine (swarfref43_measure.calls k5 _ _ l0_0 _ _ l0_1 _ _ l0_0 _ _ x15_4 _ _ x16_4 t757 t758 t759 _ ?side1 ?side2 ?side3 ?side4 ?side5 ?side6 ?side7 ?side8 ?side9 ?side10 A74.out).mono ?_); (case side1 => exact yC HR0_0.out); (case side2 => exact HC0_0.out); (case side3 => exact yC HR0_1.out); (case side4 => exact HC0_1.out); (case side5 => exact yC HR0_0.out); (case side6 => exact HC0_0.out); (case side7 => repeat (first | exact (Kd.R_reads' HO_15.out).2.2 | (with_reducible refine Kd.C_alloc ?_ _) | (with_reducible refine Kd.C_drewN ?_ _) | (with_reducible refine Kd.C_drew ?_))); (case side8 => exact (Kd.R_reads' HO_15.out).2.1); (case side9 => repeat (first | exact (Kd.R_reads' HO_16.out).2.2 | (with_reducible refine Kd.C_alloc ?_ _) | (with_reducible refine Kd.C_drewN ?_ _) | (with_reducible refine Kd.C_drew ?_))); (case side10 => exact (Kd.R_reads' HO_16.out).2.1); rintro e w85 ⟨rfl, hb⟩; refine ⟨_, rfl, ?_⟩; replace HO_15 := Aside0.mk (Kd.R_below (yR HO_15.out) hb); replace HO_16 := Aside0.mk (Kd.R_below (yR HO_16.out) hb); replace BK727 := Aside0.mk (blk_below (g := gb727) yK hb); replace HB := Aside0.mk (below_step yB hb); (try clear hb)))
              go_ret2
              exact ⟨yE, yB⟩
       rw [if_neg c33] at H
       exact absurd H (by simp)
      rw [if_neg c32] at H
      exact absurd H (by simp)
 replace c3 := Bool.eq_false_iff.mpr c3
 subst c3
 replace H : (some (0, 1)) = some (r1, r2) := by rw [if_neg (show ¬ (false = true) by decide)] at H; exact H
 simp only [Option.some.injEq, Prod.mk.injEq] at H
 obtain ⟨rfl, rfl⟩ := H
 go_enter Try.func37, Try.ntmps37
 go_wp2_with (first | ((with_reducible refine gate_dst (N := 1) rfl ?_); refine yX 1 #[.slice A0_0 l0_0.length c0_0, .slice A0_1 l0_1.length c0_1] 48 ?_; intro gb727 hg w86 hbox hb; have BK727 := Aside0.mk (hbox); have GW727 := Aside0.mk ((yG hg : w.heap.size ≤ gb727)); have GE727 := Aside0.mk ((yG hg : w.heap.size ≤ gb727)); replace HB := Aside0.mk (below_step yB hb); clear hb hbox hg; have hcz87_0 := yZ0 BK727.out; have hcz87_1 := yZ1 BK727.out; have hfz87_0 := blk_frozen BK727.out 0; have hfz87_1 := blk_frozen BK727.out 1) | ((with_reducible refine gate_callee (f := 70) rfl ?_); refine goesL_ (some 28) rfl rfl Try.func70 (by kernel_rfl) rfl #[.agg #[.slice A0_0 l0_0.length c0_0, .slice A0_1 l0_1.length c0_1]] rfl yQ ?_; (with_reducible refine (swarfref43_proper.calls k _ _ l0_0 _ _ l0_1 false _ ?side1 ?side2 ?side3 ?side4 A2.out).mono ?_); (case side1 => exact yC HR0_0.out); (case side2 => exact HC0_0.out); (case side3 => exact yC HR0_1.out); (case side4 => exact HC0_1.out); rintro e w88 ⟨rfl, hb⟩; refine ⟨_, rfl, ?_⟩; replace BK727 := Aside0.mk (blk_below (g := gb727) yK hb); replace HB := Aside0.mk (below_step yB hb); (try clear hb)))
 go_ret2
 exact ⟨yE, yB⟩
end Go.Proofs.Ytehkhbnhmehobaa.P
namespace Go.Proofs.Ytehkhbnhmehobaa.P
open Go.RowKit Go.Proofs.YtehkhbnhmehobaaW.PrintWords Go.Proofs.YtehkhbnhmehobaaW.PrintLast Go.Proofs.YtehkhbnhmehobaaW.PrintMore
set_option linter.unusedVariables false
set_option linter.unusedSimpArgs false
theorem idxS_le {α : Type} {q : α → Bool} : ∀ (l : List α) (i : Int) (j : Nat) (h : j < l.length), q l[j] = true → idxS q l i ≤ i + (j : Int)
  | [], i, j, h, _ => by simp at h
  | x :: l, i, j, h, hq => by
    rw [idxS]
    by_cases hx : q x = true
    · rw [if_pos hx]; omega
    rw [if_neg hx]
    cases j with
    | zero => exact absurd hq hx
    | succ j =>
      have := idxS_le l (i + 1) j (by simpa using h) (by simpa using hq)
      omega
theorem idxS_lt {α : Type} {q : α → Bool} : ∀ (l : List α) (i : Int), 0 ≤ i → -1 ≤ idxS q l i ∧ idxS q l i < i + (l.length : Int)
  | [], i, h => by simp only [idxS, List.length_nil]; omega
  | x :: l, i, h => by
    rw [idxS]
    split
    · simp only [List.length_cons]; omega
    have := idxS_lt (q := q) l (i + 1) (by omega)
    simp only [List.length_cons]; omega
def findS (s : List Rb) (n : Int) : Int := idxS (fun x : Rb => decide (x.f0 = n)) s 0
theorem find_l0 (m : List Bk) (s : List Rb) (v : Int) (hs : s.length ≤ 1000000) : ∀ (n j : Nat), j + n = s.length → Ev (fun k => swarfref43_Find.l0 k v (j : Int) m s) (idxS (fun x : Rb => decide (x.f0 = v)) (s.drop j) (j : Int)) := by
  intro n
  induction n with
  | zero =>
    intro j hj
    refine Ev.step (fun k => by rw [swarfref43_Find.l0]) ?_
    rw [List.drop_eq_nil_of_le (by omega)]
    exact Ev.neg (by omega) Ev.some
  | succ n ih =>
    intro j hj
    have h0 := ih (j + 1) (by omega)
    refine Ev.step (fun k => by rw [swarfref43_Find.l0]) (Ev.pos (by omega) (Ev.pos (by omega) ?_))
    rw [List.drop_eq_getElem_cons (show j < s.length by omega), idxS, rd_Rb (show j < s.length by omega), wrapI (by omega)]
    by_cases h : (s[j]'(by omega)).f0 = v
    · rw [if_pos (decide_eq_true h)]; exact Ev.pos h Ev.some
    rw [if_neg (by rw [decide_eq_false h]; decide)]; exact Ev.neg h h0
theorem find_ev (m : List Bk) (s : List Rb) (v : Int) (hs : s.length ≤ 1000000) : Ev (fun k => swarfref43_Find.f k m s v) (findS s v) := by
  unfold swarfref43_Find.f findS
  simpa using find_l0 m s v hs s.length 0 (by omega)
def subOk (s : List Rb) (j : Nat) : Prop := ∀ (h : j < s.length), 1 ≤ s[j].f0 ∧ s[j].f0 ≤ 9999 ∧ (∀ (i : Nat) (h2 : i < j), s[i].f0 ≠ s[j].f0) ∧ ∀ b ∈ s[j].f1, markS b.f1 = false
theorem proper_l2 (m : List Bk) (s : List Rb) (i : Nat) (hi : i < 1000000) (num : Int) (bl : List Bk) (hb : bl.length ≤ 1000000) (hbl : ∀ b ∈ bl, b.f1.length ≤ 1000000) (r0 : Bool) (h1 : Ev (fun k => swarfref43_proper.l1 k ((i + 1 : Nat) : Int) m s) r0) : ∀ (n j : Nat), j + n = bl.length →
    ∃ r, Ev (fun k => swarfref43_proper.l2 k (i : Int) (j : Int) m s num bl) r ∧ (r = true → r0 = true ∧ ∀ b ∈ bl.drop j, markS b.f1 = false) := by
  intro n
  induction n with
  | zero =>
    intro j hj
    refine ⟨r0, Ev.step (fun k => by rw [swarfref43_proper.l2]) ?_, fun h => ⟨h, by rw [List.drop_eq_nil_of_le (by omega)]; exact fun b hb => by cases hb⟩⟩
    rw [wrapI (j := i) (by omega)]
    exact Ev.neg (by omega) h1
  | succ n ih =>
    intro j hj
    obtain ⟨r, h0, h0'⟩ := ih (j + 1) (by omega)
    have hl := hbl _ (List.getElem_mem (l := bl) (n := j) (by omega))
    have bad : (∃ r, r = false ∧ Ev (fun k => swarfref43_proper.l2 k (i : Int) (j : Int) m s num bl) r) → ∃ r, Ev (fun k => swarfref43_proper.l2 k (i : Int) (j : Int) m s num bl) r ∧ (r = true → r0 = true ∧ ∀ b ∈ bl.drop j, markS b.f1 = false) := by
      rintro ⟨r, rfl, h⟩
      exact ⟨false, h, fun h => by cases h⟩
    cases hr : hasS (bl[j]'(by omega)).f1 77 99000 with
    | true =>
      refine bad ⟨false, rfl, Ev.step (fun k => by rw [swarfref43_proper.l2]) (Ev.pos (by omega) (Ev.pos (by omega) ?_))⟩
      rw [rd_T32_at (show j < bl.length by omega)]
      exact Ev.bind (Return_ev _ _ _ hl) (Ev.pos hr Ev.some)
    | false =>
      cases ho : anyS (bl[j]'(by omega)).f1 79 with
      | true =>
        refine bad ⟨false, rfl, Ev.step (fun k => by rw [swarfref43_proper.l2]) (Ev.pos (by omega) (Ev.pos (by omega) ?_))⟩
        rw [rd_T32_at (show j < bl.length by omega)]
        exact Ev.bind (Return_ev _ _ _ hl) (Ev.neg (by rw [hr]; decide) (Ev.bind (letter_ev _ _ _ 79 hl) (Ev.pos ho Ev.some)))
      | false =>
        cases he : hasS (bl[j]'(by omega)).f1 77 30000 with
        | true =>
          refine bad ⟨false, rfl, Ev.step (fun k => by rw [swarfref43_proper.l2]) (Ev.pos (by omega) (Ev.pos (by omega) ?_))⟩
          rw [rd_T32_at (show j < bl.length by omega)]
          exact Ev.bind (Return_ev _ _ _ hl) (Ev.neg (by rw [hr]; decide) (Ev.bind (letter_ev _ _ _ 79 hl) (Ev.neg (by rw [ho]; decide) (Ev.bind (End_ev _ _ _ hl) (Ev.pos he Ev.some)))))
        | false =>
          refine ⟨r, Ev.step (fun k => by rw [swarfref43_proper.l2]) (Ev.pos (by omega) (Ev.pos (by omega) ?_)), fun h => ⟨(h0' h).1, ?_⟩⟩
          · rw [rd_T32_at (show j < bl.length by omega), wrapI (by omega)]
            exact Ev.bind (Return_ev _ _ _ hl) (Ev.neg (by rw [hr]; decide) (Ev.bind (letter_ev _ _ _ 79 hl) (Ev.neg (by rw [ho]; decide) (Ev.bind (End_ev _ _ _ hl) (Ev.neg (by rw [he]; decide) h0)))))
          rw [List.drop_eq_getElem_cons (show j < bl.length by omega)]
          intro b hb
          rcases List.mem_cons.mp hb with rfl | hb
          · unfold markS; rw [hr, ho, he]; rfl
          exact (h0' h).2 b hb
theorem proper_l1 (m : List Bk) (s : List Rb) (hg : goodP m s) : ∀ (n i : Nat), i + n = s.length → ∃ r, Ev (fun k => swarfref43_proper.l1 k (i : Int) m s) r ∧ (r = true → ∀ j, i ≤ j → subOk s j) := by
  intro n
  induction n with
  | zero =>
    intro i hi
    exact ⟨true, Ev.step (fun k => by rw [swarfref43_proper.l1]) (Ev.neg (by omega) Ev.some), fun _ j hj h => by omega⟩
  | succ n ih =>
    intro i hi
    obtain ⟨r0, h0, h0'⟩ := ih (i + 1) (by omega)
    have hs12 := hg.2.1
    have hgi := hg.2.2 _ (List.getElem_mem (l := s) (n := i) (by omega))
    have hbad : Ev (fun k => swarfref43_proper.j2 k (i : Int) true m s (s[i]'(by omega)).f0 (s[i]'(by omega)).f1) false := Ev.step (fun k => by rw [swarfref43_proper.j2]) (Ev.pos rfl Ev.some)
    by_cases h1 : (s[i]'(by omega)).f0 < 1
    · refine ⟨false, Ev.step (fun k => by rw [swarfref43_proper.l1]) (Ev.pos (by omega) (Ev.pos (by omega) ?_)), fun h => by cases h⟩
      rw [rd_Rb (show i < s.length by omega)]
      exact Ev.pos h1 hbad
    by_cases h2 : (s[i]'(by omega)).f0 > 9999
    · refine ⟨false, Ev.step (fun k => by rw [swarfref43_proper.l1]) (Ev.pos (by omega) (Ev.pos (by omega) ?_)), fun h => by cases h⟩
      rw [rd_Rb (show i < s.length by omega)]
      exact Ev.neg h1 (Ev.pos h2 hbad)
    have hf := find_ev m s (s[i]'(by omega)).f0 (by omega)
    by_cases h3 : findS s (s[i]'(by omega)).f0 < (i : Int)
    · refine ⟨false, Ev.step (fun k => by rw [swarfref43_proper.l1]) (Ev.pos (by omega) (Ev.pos (by omega) ?_)), fun h => by cases h⟩
      rw [rd_Rb (show i < s.length by omega)]
      refine Ev.neg h1 (Ev.neg h2 (Ev.bind hf ?_))
      rw [decide_eq_true h3]
      exact hbad
    obtain ⟨r, e, e'⟩ := proper_l2 m s i (by omega) (s[i]'(by omega)).f0 (s[i]'(by omega)).f1 (by have := hgi.1; omega) (fun b hb => (hgi.2 b hb).len) r0 h0 (s[i]'(by omega)).f1.length 0 (by omega)
    refine ⟨r, Ev.step (fun k => by rw [swarfref43_proper.l1]) (Ev.pos (by omega) (Ev.pos (by omega) ?_)), fun h j hj => ?_⟩
    · rw [rd_Rb (show i < s.length by omega)]
      refine Ev.neg h1 (Ev.neg h2 (Ev.bind hf ?_))
      rw [decide_eq_false h3]
      refine Ev.step (fun k => by rw [swarfref43_proper.j2]) ?_
      exact Ev.neg (by decide) e
    by_cases hij : j = i
    · subst hij
      intro hlt
      refine ⟨by omega, by omega, fun a ha hae => h3 ?_, fun b hb => (e' h).2 b (by simpa using hb)⟩
      have := idxS_le (q := fun x : Rb => decide (x.f0 = s[j].f0)) s 0 a (by omega) (decide_eq_true hae)
      unfold findS
      omega
    exact h0' (e' h).1 j (by omega)
theorem proper_l0 (m : List Bk) (s : List Rb) (hg : goodP m s) (r1 : Bool) (h1 : Ev (fun k => swarfref43_proper.l1 k (0 : Int) m s) r1) : ∀ (n j : Nat), j + n = m.length → ∃ r, Ev (fun k => swarfref43_proper.l0 k (j : Int) m s) r ∧
    (r = true → r1 = true ∧ ∀ (i : Nat) (h : i < m.length), j ≤ i → hasS m[i].f1 77 99000 = false ∧ anyS m[i].f1 79 = false ∧ hasS m[i].f1 77 30000 = decide (i + 1 = m.length)) := by
  intro n
  induction n with
  | zero =>
    intro j hj
    refine ⟨r1, Ev.step (fun k => by rw [swarfref43_proper.l0]) (Ev.neg (by omega) h1), fun h => ⟨h, fun i h hi => by omega⟩⟩
  | succ n ih =>
    intro j hj
    obtain ⟨r, h0, h0'⟩ := ih (j + 1) (by omega)
    have hm := hg.1.1
    have hl := (hg.1.2 _ (List.getElem_mem (l := m) (n := j) (by omega))).len
    cases hr : hasS (m[j]'(by omega)).f1 77 99000 with
    | true =>
      refine ⟨false, Ev.step (fun k => by rw [swarfref43_proper.l0]) (Ev.pos (by omega) (Ev.pos (by omega) ?_)), fun h => by cases h⟩
      rw [rd_T32_at (show j < m.length by omega)]
      exact Ev.bind (Return_ev _ _ _ hl) (Ev.pos hr Ev.some)
    | false =>
      cases ho : anyS (m[j]'(by omega)).f1 79 with
      | true =>
        refine ⟨false, Ev.step (fun k => by rw [swarfref43_proper.l0]) (Ev.pos (by omega) (Ev.pos (by omega) ?_)), fun h => by cases h⟩
        rw [rd_T32_at (show j < m.length by omega)]
        exact Ev.bind (Return_ev _ _ _ hl) (Ev.neg (by rw [hr]; decide) (Ev.bind (letter_ev _ _ _ 79 hl) (Ev.pos ho Ev.some)))
      | false =>
        have ew : wrap64 ((m.length : Int) - 1) = ((m.length - 1 : Nat) : Int) := wsub (a := m.length) (b := 1) (by omega) (by omega)
        have ed : ((j : Int) == ((m.length - 1 : Nat) : Int)) = decide (j + 1 = m.length) := by
          rw [Bool.eq_iff_iff, beq_iff_eq, decide_eq_true_iff]
          omega
        by_cases he : hasS (m[j]'(by omega)).f1 77 30000 = decide (j + 1 = m.length)
        · refine ⟨r, Ev.step (fun k => by rw [swarfref43_proper.l0]) (Ev.pos (by omega) (Ev.pos (by omega) ?_)), fun h => ⟨(h0' h).1, fun i hi hij => ?_⟩⟩
          · rw [rd_T32_at (show j < m.length by omega), wrapI (by omega), ew, ed]
            exact Ev.bind (Return_ev _ _ _ hl) (Ev.neg (by rw [hr]; decide) (Ev.bind (letter_ev _ _ _ 79 hl) (Ev.neg (by rw [ho]; decide) (Ev.bind (End_ev _ _ _ hl) (Ev.neg (by rw [he]; simp) h0)))))
          by_cases e : i = j
          · subst e; exact ⟨hr, ho, he⟩
          exact (h0' h).2 i hi (by omega)
        refine ⟨false, Ev.step (fun k => by rw [swarfref43_proper.l0]) (Ev.pos (by omega) (Ev.pos (by omega) ?_)), fun h => by cases h⟩
        rw [rd_T32_at (show j < m.length by omega), ew, ed]
        exact Ev.bind (Return_ev _ _ _ hl) (Ev.neg (by rw [hr]; decide) (Ev.bind (letter_ev _ _ _ 79 hl) (Ev.neg (by rw [ho]; decide) (Ev.bind (End_ev _ _ _ hl) (Ev.pos (by simpa using he) Ev.some)))))
theorem proper_ev (m : List Bk) (s : List Rb) (hg : goodP m s) : ∃ r, Ev (fun k => swarfref43_proper.f k m s) r ∧ (r = true → ProperP m s) := by
  unfold swarfref43_proper.f
  by_cases h : (m.length : Int) = 0
  · exact ⟨false, Ev.pos h Ev.some, fun h => by cases h⟩
  obtain ⟨r1, h1, h1'⟩ := proper_l1 m s hg s.length 0 (by omega)
  obtain ⟨r, h2, h2'⟩ := proper_l0 m s hg r1 h1 m.length 0 (by omega)
  exact ⟨r, Ev.neg h h2, fun hr => ⟨by omega, fun j hj => (h2' hr).2 j hj (by omega), fun j hj => h1' (h2' hr).1 j (by omega) hj⟩⟩
def blocksT : List Rb → List Bk
  | [] => []
  | x :: s => x.f1 ++ blocksT s
theorem blocks_l0 (m : List Bk) (s : List Rb) (hs : s.length ≤ 1000000) (hk : ∀ x ∈ s, x.f1.length ≤ 40) : ∀ (n j : Nat) (acc : List Bk), j + n = s.length → acc.length ≤ 40 + 40 * j → Ev (fun k => swarfref43_blocks.l0 k acc (j : Int) m s) (acc ++ blocksT (s.drop j)) := by
  intro n
  induction n with
  | zero =>
    intro j acc hj ha
    refine Ev.step (fun k => by rw [swarfref43_blocks.l0]) (Ev.neg (by omega) ?_)
    rw [List.drop_eq_nil_of_le (by omega)]
    simpa [blocksT] using Ev.some
  | succ n ih =>
    intro j acc hj ha
    have hkj := hk _ (List.getElem_mem (l := s) (n := j) (by omega))
    have h0 := ih (j + 1) (acc ++ (s[j]'(by omega)).f1) (by omega) (by simp; omega)
    refine Ev.step (fun k => by rw [swarfref43_blocks.l0]) (Ev.pos (by omega) (Ev.pos (by omega) ?_))
    rw [rd_Rb (show j < s.length by omega), wrapI (by omega), List.drop_eq_getElem_cons (show j < s.length by omega), blocksT, ← List.append_assoc]
    exact Ev.pos (by omega) h0
theorem blocks_ev (m : List Bk) (s : List Rb) (hg : goodP m s) : Ev (fun k => swarfref43_blocks.f k m s) (m ++ blocksT s) := by
  unfold swarfref43_blocks.f
  have h := blocks_l0 m s (by have := hg.2.1; omega) (fun x hx => (hg.2.2 x hx).1) s.length 0 m (by omega) (by have := hg.1.1; omega)
  refine Ev.bind Ev.some (Ev.pos (by have := hg.1.1; simp; omega) ?_)
  simpa using h
theorem blocksT_mem : ∀ (s : List Rb) (b : Bk), b ∈ blocksT s ↔ ∃ x ∈ s, b ∈ x.f1
  | [], b => by simp [blocksT]
  | x :: s, b => by rw [blocksT, List.mem_append, blocksT_mem s b]; simp
theorem blocksT_size : ∀ (s : List Rb), (∀ x ∈ s, x.f1.length ≤ 40) → (blocksT s).length ≤ 40 * s.length
  | [], _ => by simp [blocksT]
  | x :: s, h => by
    have h1 := blocksT_size s (fun y hy => h y (List.mem_cons_of_mem _ hy))
    have h2 := h x List.mem_cons_self
    simp only [blocksT, List.length_cons, List.length_append]
    omega
def foundP (s : List Rb) (l : List Bk) : Prop := ∀ b ∈ l, (callS b.f1).2.2.1 = true → 0 ≤ findS s (callS b.f1).1
section
variable {m : List Bk} {s : List Rb} (hg : goodP m s)
include hg
theorem all_good : ∀ b ∈ m ++ blocksT s, goodB b := by
  intro b hb
  rcases List.mem_append.mp hb with hb | hb
  · exact hg.1.2 b hb
  obtain ⟨x, hx, hb⟩ := (blocksT_mem s b).mp hb
  exact (hg.2.2 x hx).2 b hb
theorem all_size : (m ++ blocksT s).length ≤ 600 := by
  have h1 := blocksT_size s (fun x hx => (hg.2.2 x hx).1)
  have h2 := hg.2.1
  have h3 := hg.1.1
  rw [List.length_append]
  omega
end
end Go.Proofs.Ytehkhbnhmehobaa.P
namespace Go.Proofs.Ytehkhbnhmehobaa.P
open Go.RowKit Go.Proofs.YtehkhbnhmehobaaW.PrintWords Go.Proofs.YtehkhbnhmehobaaW.PrintLast Go.Proofs.YtehkhbnhmehobaaW.PrintMore
attribute [local go_sem] max2_int min2_int max_two min_two max_three min_three max_four min_four
set_option linter.unusedVariables false
set_option linter.unusedSimpArgs false
end Go.Proofs.Ytehkhbnhmehobaa.P
namespace Go.Proofs.Ytehkhbnhmehobaa.P
open Go.RowKit Go.Proofs.YtehkhbnhmehobaaW.PrintWords Go.Proofs.YtehkhbnhmehobaaW.PrintLast Go.Proofs.YtehkhbnhmehobaaW.PrintMore
set_option linter.unusedVariables false
set_option linter.unusedSimpArgs false
theorem idxS_any {α : Type} {q : α → Bool} : ∀ (l : List α) (i : Int), 0 ≤ i → decide (idxS q l i ≥ 0) = l.any q
  | [], i, h => rfl
  | x :: l, i, h => by
    rw [idxS, List.any_cons]
    cases hq : q x with
    | true => rw [if_pos rfl, decide_eq_true h]; rfl
    | false => rw [if_neg (by decide), idxS_any l (i + 1) (by omega)]; rfl
section
variable {l : List Bk} (hl : l.length ≤ 1000) (hg : ∀ b ∈ l, goodB b)
include hl hg
omit hl hg in
theorem goodB.num {b : Bk} (h : goodB b) : ∀ a, b.f1.length = 1 → I64 (b.f1.getD 0 a).f1 := by
  intro a h1
  match hb : b.f1 with
  | [] => rw [hb] at h1; cases h1
  | x :: _ => exact h.i64 x (by rw [hb]; exact List.mem_cons_self)
omit hl hg in
end
def markL (l : List Bk) : Bool := l.any fun b => markS b.f1
def orderedS (m : List Bk) (s : List Sb) : Bool := decide (1 ≤ m.length) && (hasS (m.getD (m.length - 1) zB).f1 77 30000 && (!anyS (m.getD (m.length - 1) zB).f1 79 && (!hasS (m.getD (m.length - 1) zB).f1 77 99000 && (!markL (m.take (m.length - 1)) && !(s.any fun x => markL x.f1)))))
theorem markL_ev (l : List Bk) (h : ∀ b ∈ l, b.f1.length ≤ 1000000) : Ev (fun k => ContainsFunc_marked.f k l) (markL l) := by
  unfold ContainsFunc_marked.f
  have h1 := idx_ev (P := fun k (x : Bk) => subprogram_marked.f k x.f0 x.f1 x.f2) (q := fun x => markS x.f1) l 0 (fun x hx => marked_ev _ _ _ (h x hx))
  have h2 := Ev.map (fun i : Int => decide (i ≥ 0)) h1
  rw [idxS_any l 0 (by omega)] at h2
  exact h2
theorem orderedS_ev (m : List Bk) (s : List Sb) (hm : m.length ≤ 1000000) (hb : ∀ b ∈ m, b.f1.length ≤ 1000000) (hs : ∀ x ∈ s, ∀ b ∈ x.f1, b.f1.length ≤ 1000000) : Ev (fun k => subprogram_ordered.f k m s) (orderedS m s) := by
  unfold subprogram_ordered.f orderedS
  by_cases hn : 1 ≤ m.length
  · have hl := hb _ (getD_mem (l := m) (j := m.length - 1) (by omega))
    rw [show ((m.length : Int) - 1) = ((m.length : Int) - ((1 : Nat) : Int)) from rfl, wsub (a := m.length) (b := 1) hn (by omega), rdB, decide_eq_true hn, Bool.true_and]
    refine Ev.neg (by omega) (Ev.pos (by omega) (Ev.pos (by omega) (Ev.bind (has_ev _ _ _ _ _ hl) ?_)))
    cases h1 : hasS (m.getD (m.length - 1) zB).f1 77 30000 with
    | false => exact Ev.neg (by decide) Ev.some
    | true =>
      refine Ev.pos rfl (Ev.bind (Codes_ev _ _ _ _ hl) ?_)
      have hc := codesS_pos (m.getD (m.length - 1) zB).f1 79
      cases h2 : anyS (m.getD (m.length - 1) zB).f1 79 with
      | true => rw [h2] at hc; exact Ev.pos (of_decide_eq_true hc) Ev.some
      | false =>
        rw [h2] at hc
        refine Ev.neg (of_decide_eq_false hc) (Ev.bind (has_ev _ _ _ _ _ hl) ?_)
        cases h3 : hasS (m.getD (m.length - 1) zB).f1 77 99000 with
        | true => exact Ev.pos rfl Ev.some
        | false =>
          refine Ev.neg (by decide) (Ev.pos (by omega) ?_)
          rw [Int.toNat_natCast]
          refine Ev.bind (markL_ev _ (fun b hx => hb b (List.mem_of_mem_take hx))) ?_
          cases h4 : markL (m.take (m.length - 1)) with
          | true => exact Ev.pos rfl Ev.some
          | false =>
            refine Ev.neg (by decide) ?_
            have h5 := idx_ev (P := fun k (x : Sb) => subprogram_ordered_1.f k x.f0 x.f1) (q := fun x => markL x.f1) s 0 (fun x hx => by
              unfold subprogram_ordered_1.f
              exact Ev.bind (markL_ev _ (hs x hx)) Ev.some)
            have h6 := Ev.map (fun i : Int => decide (i ≥ 0)) h5
            rw [idxS_any s 0 (by omega)] at h6
            unfold ContainsFunc_ordered.f
            refine Ev.bind h6 ?_
            simpa using Ev.some
  have h0 : m.length = 0 := by omega
  rw [h0]
  exact Ev.pos (by unfold wrap64; omega) (by simpa using Ev.some)
def clS (b : Bk) : Option (Int × Int) := if (callS b.f1).2.2.1 = true then some ((callS b.f1).1, (callS b.f1).2.1) else none
def erS (b : Bk) : Int := (callS b.f1).2.2.2
theorem callT_in : ∀ (l : List Wd) (C : Int → Int) (n t : Int) (ok : Bool), (ok = true → (C 80 = 0 ∨ IN n) ∧ IN t) → (callT l C n t ok).2.2.2 = true → ((callT l C n t ok).1 80 = 0 ∨ IN (callT l C n t ok).2.1) ∧ IN (callT l C n t ok).2.2.1
  | [], C, n, t, ok, h, h2 => h h2
  | x :: l, C, n, t, ok, h, h2 => by
    rw [callT] at h2 ⊢
    refine callT_in l _ _ _ _ (fun h3 => ?_) h2
    by_cases c80 : x.f0 = 80
    · rw [if_pos (Or.inl c80), Bool.and_eq_true] at h3
      rw [if_pos c80, if_neg (show ¬ x.f0 = 76 by omega)]
      exact ⟨.inr (wholeT_pos h3.2), (h h3.1).2⟩
    rw [if_neg c80]
    by_cases c76 : x.f0 = 76
    · rw [if_pos (Or.inr c76), Bool.and_eq_true] at h3
      rw [if_pos c76]
      exact ⟨by simpa [c76] using (h h3.1).1, wholeT_pos h3.2⟩
    rw [if_neg (by omega)] at h3
    rw [if_neg c76]
    by_cases c : x.f0 = 77 ∨ x.f0 = 78
    · rw [if_pos c] at h3
      exact ⟨by rw [if_neg (by omega)]; exact (h h3).1, (h h3).2⟩
    rw [if_neg c] at h3; cases h3
theorem callS_cases (l : List Wd) : ((callS l).2.2.1 = true ∧ IN (callS l).1 ∧ IN (callS l).2.1 ∧ (callS l).2.2.2 = 0) ∨ callS l = (0, 0, false, 0) ∨ callS l = (0, 0, false, 1) := by
  unfold callS
  by_cases h : hasS l 77 98000 = true
  · rw [if_pos h]
    have hi := callT_in l (fun _ => 0) 0 1 true (fun _ => ⟨.inl rfl, by unfold IN; omega⟩)
    generalize callT l (fun _ => 0) 0 1 true = r at hi ⊢
    unfold callR
    by_cases h0 : r.2.2.2 = false
    · rw [if_pos h0]; exact .inr (.inr rfl)
    rw [if_neg h0]
    obtain ⟨i1, i2⟩ := hi (by simpa using h0)
    by_cases h1 : r.1 77 = 1
    · rw [if_neg (by omega)]
      by_cases h2 : r.1 80 = 1
      · rw [if_neg (by omega)]
        by_cases h3 : r.1 76 > 1
        · rw [if_pos h3]; exact .inr (.inr rfl)
        rw [if_neg h3]
        by_cases h4 : r.1 78 > 1
        · rw [if_pos h4]; exact .inr (.inr rfl)
        rw [if_neg h4]
        exact .inl ⟨rfl, by rcases i1 with i1 | i1; (· omega); exact i1, i2, rfl⟩
      rw [if_pos h2]; exact .inr (.inr rfl)
    rw [if_pos h1]; exact .inr (.inr rfl)
  rw [if_neg h]; exact .inr (.inl rfl)
theorem erS_01 (b : Bk) : erS b = 0 ∨ erS b = 1 := by
  unfold erS
  rcases callS_cases b.f1 with h | h | h
  · exact .inl h.2.2.2
  · rw [h]; exact .inl rfl
  rw [h]; exact .inr rfl
theorem clS_some {b : Bk} {n t : Int} (h : clS b = some (n, t)) : callS b.f1 = (n, t, true, 0) ∧ IN n ∧ IN t := by
  unfold clS at h
  rcases callS_cases b.f1 with h1 | h1 | h1
  · rw [if_pos h1.1] at h
    injection h with h
    injection h with e1 e2
    subst e1 e2
    refine ⟨?_, h1.2.1, h1.2.2.1⟩
    have a := h1.1
    have b' := h1.2.2.2
    generalize callS b.f1 = r at a b'
    obtain ⟨x, y, z, w⟩ := r
    simp at a b'
    subst a b'
    rfl
  · rw [h1] at h; simp at h
  rw [h1] at h; simp at h
theorem clS_none {b : Bk} (h : clS b = none) (he : erS b = 0) : callS b.f1 = (0, 0, false, 0) := by
  unfold clS at h
  unfold erS at he
  rcases callS_cases b.f1 with h1 | h1 | h1
  · rw [if_pos h1.1] at h; cases h
  · exact h1
  rw [h1] at he; simp at he
theorem Ok_of {kc : Nat} {b : Bk} (h : callF kc b = some (callS b.f1)) (he : erS b = 0) : Ok kc clS b :=
  ⟨fun hn => by rw [h, clS_none hn he], fun n t hc => by obtain ⟨h1, h2, h3⟩ := clS_some hc; exact ⟨by rw [h, h1], h2, h3⟩⟩
theorem callF_all : ∀ (l : List Bk), (∀ b ∈ l, goodB b) → ∃ k0, ∀ k, k0 ≤ k → ∀ b ∈ l, callF k b = some (callS b.f1)
  | [], _ => ⟨0, fun _ _ b hb => by cases hb⟩
  | b :: l, h => by
    obtain ⟨k1, h1⟩ := callF_all l (fun c hc => h c (List.mem_cons_of_mem _ hc))
    obtain ⟨k2, h2⟩ := (h b List.mem_cons_self).callO
    refine ⟨max k1 k2, fun k hk c hc => ?_⟩
    rcases List.mem_cons.mp hc with rfl | hc
    · exact h2 k (by omega)
    exact h1 k (by omega) c hc
theorem subsO_get : ∀ (s : List Sb) (M : Int → Option (List Bk)) (n : Int), (subsO s M n = M n ∧ ∀ x ∈ s, x.f0 ≠ n) ∨ ∃ x ∈ s, x.f0 = n ∧ subsO s M n = some x.f1
  | [], M, n => .inl ⟨rfl, fun x hx => by cases hx⟩
  | x :: s, M, n => by
    rw [subsO]
    rcases subsO_get s (fun y => if y = x.f0 then some x.f1 else M y) n with ⟨h1, h2⟩ | ⟨y, h1, h2, h3⟩
    · by_cases e : n = x.f0
      · refine .inr ⟨x, List.mem_cons_self, e.symm, ?_⟩
        rw [h1]; exact if_pos e
      refine .inl ⟨?_, fun y hy => ?_⟩
      · rw [h1]; exact if_neg e
      rcases List.mem_cons.mp hy with rfl | hy
      · exact fun h => e h.symm
      exact h2 y hy
    exact .inr ⟨y, List.mem_cons_of_mem _ h1, h2, h3⟩
def mapO (s : List Sb) : Int → Option (List Bk) := subsO s (fun _ => none)
def bodyO (s : List Sb) (n : Int) : List Bk := (mapO s n).getD []
theorem bodyO_mem {s : List Sb} {n : Int} {b : Bk} (h : b ∈ bodyO s n) : ∃ x ∈ s, x.f0 = n ∧ b ∈ x.f1 := by
  unfold bodyO mapO at h
  rcases subsO_get s (fun _ => none) n with ⟨h1, _⟩ | ⟨x, h1, h2, h3⟩
  · rw [h1] at h; cases h
  rw [h3] at h; exact ⟨x, h1, h2, h⟩
theorem mapO_some {s : List Sb} {n : Int} : (mapO s n).isSome = true ↔ n ∈ s.map (fun x => x.f0) := by
  unfold mapO
  rw [List.mem_map]
  rcases subsO_get s (fun _ => none) n with ⟨h1, h4⟩ | ⟨x, h1, h2, h3⟩
  · rw [h1]
    exact ⟨fun h => (by cases h), fun ⟨x, hx, he⟩ => absurd he (h4 x hx)⟩
  rw [h3]
  exact ⟨fun _ => ⟨x, h1, h2⟩, fun _ => rfl⟩
def foundS : List Bk → List Int → List Int × Int
  | [], acc => (acc, 0)
  | b :: l, acc => if erS b = 0 then (if (callS b.f1).2.2.1 = true then foundS l (acc ++ [(callS b.f1).1]) else foundS l acc) else (acc, erS b)
theorem found_ev : ∀ (l : List Bk) (acc : List Int), (∀ b ∈ l, goodB b) → acc.length + l.length ≤ 900000 → Ev (fun k => foundL k l acc) (foundS l acc)
  | [], acc, _, _ => Ev.some
  | b :: l, acc, h, hl => by
    have hb : Ev (fun k => callF k b) (callS b.f1) := (h b List.mem_cons_self).callO
    simp only [List.length_cons] at hl
    show Ev (fun k => (callF k b).bind fun r => if r.2.2.2 = 0 then (if r.2.2.1 = true then (if IN r.1 ∧ acc.length < 1000000 then foundL k l (acc ++ [r.1]) else none) else foundL k l acc) else some (acc, r.2.2.2)) _
    refine Ev.bind hb ?_
    rw [foundS]
    unfold erS
    by_cases h0 : (callS b.f1).2.2.2 = 0
    · rw [if_pos h0]
      refine Ev.pos h0 ?_
      cases h1 : (callS b.f1).2.2.1 with
      | true =>
        have hin : IN (callS b.f1).1 := by
          rcases callS_cases b.f1 with h2 | h2 | h2
          · exact h2.2.1
          · rw [h2] at h1; cases h1
          rw [h2] at h1; cases h1
        exact Ev.pos rfl (Ev.pos ⟨hin, by omega⟩ (found_ev l _ (fun c hc => h c (List.mem_cons_of_mem _ hc)) (by simp; omega)))
      | false => exact Ev.neg (by decide) (found_ev l _ (fun c hc => h c (List.mem_cons_of_mem _ hc)) (by omega))
    rw [if_neg h0]
    exact Ev.neg h0 Ev.some
theorem foundS_bad : ∀ (l : List Bk) (acc : List Int), (∃ b ∈ l, erS b ≠ 0) → (foundS l acc).2 = 1
  | [], _, ⟨_, h, _⟩ => by cases h
  | b :: l, acc, ⟨c, hc, he⟩ => by
    rw [foundS]
    by_cases h0 : erS b = 0
    · rw [if_pos h0]
      have hl : ∃ b ∈ l, erS b ≠ 0 := by
        rcases List.mem_cons.mp hc with rfl | hc
        · exact absurd h0 he
        exact ⟨c, hc, he⟩
      split
      · exact foundS_bad l _ hl
      exact foundS_bad l _ hl
    rw [if_neg h0]
    rcases erS_01 b with h | h
    · exact absurd h h0
    exact h
theorem foundS_ok : ∀ (l : List Bk) (acc : List Int), (∀ b ∈ l, erS b = 0) → (foundS l acc).2 = 0 ∧ ∀ n, n ∈ (foundS l acc).1 ↔ n ∈ acc ∨ ∃ b ∈ l, ∃ t, clS b = some (n, t)
  | [], acc, _ => ⟨rfl, fun n => ⟨.inl, fun h => h.elim id (fun ⟨_, h, _⟩ => by cases h)⟩⟩
  | b :: l, acc, h => by
    rw [foundS, if_pos (h b List.mem_cons_self)]
    have ih := fun acc => foundS_ok l acc (fun c hc => h c (List.mem_cons_of_mem _ hc))
    cases h1 : (callS b.f1).2.2.1 with
    | true =>
      rw [if_pos rfl]
      refine ⟨(ih _).1, fun n => ?_⟩
      rw [(ih _).2]
      have hc : clS b = some ((callS b.f1).1, (callS b.f1).2.1) := by unfold clS; rw [if_pos h1]
      constructor
      · rintro (hn | ⟨c, hc, t, hn⟩)
        · rcases List.mem_append.mp hn with hn | hn
          · exact .inl hn
          rw [List.mem_singleton] at hn
          exact .inr ⟨b, List.mem_cons_self, _, by rw [hc, hn]⟩
        exact .inr ⟨c, List.mem_cons_of_mem _ hc, t, hn⟩
      rintro (hn | ⟨c, hc', t, hn⟩)
      · exact .inl (List.mem_append_left _ hn)
      rcases List.mem_cons.mp hc' with rfl | hc'
      · rw [hc] at hn; injection hn with hn; injection hn with e1 e2
        exact .inl (List.mem_append_right _ (List.mem_singleton.mpr e1.symm))
      exact .inr ⟨c, hc', t, hn⟩
    | false =>
      rw [if_neg (by decide)]
      refine ⟨(ih _).1, fun n => ?_⟩
      rw [(ih _).2]
      have hc : clS b = none := by unfold clS; rw [if_neg (by rw [h1]; decide)]
      constructor
      · rintro (hn | ⟨c, hc, t, hn⟩)
        · exact .inl hn
        exact .inr ⟨c, List.mem_cons_of_mem _ hc, t, hn⟩
      rintro (hn | ⟨c, hc', t, hn⟩)
      · exact .inl hn
      rcases List.mem_cons.mp hc' with rfl | hc'
      · rw [hc] at hn; cases hn
      exact .inr ⟨c, hc', t, hn⟩
def Fine (A : List Bk) (nums : List Int) : Prop := (∀ b ∈ A, erS b = 0) ∧ ∀ b ∈ A, ∀ n t, clS b = some (n, t) → n ∈ nums
def Cls (pr : Bool) (A : List Bk) (nums : List Int) (body : Int → List Bk) (e : Int) : Prop :=
  (pr = false ∧ e = 1) ∨ (pr = true ∧ (∃ b ∈ A, erS b ≠ 0) ∧ e = 1) ∨ (pr = true ∧ (∀ b ∈ A, erS b = 0) ∧ (∃ b ∈ A, ∃ n t, clS b = some (n, t) ∧ n ∉ nums) ∧ e = 4) ∨ (pr = true ∧ Fine A nums ∧ (∃ n ∈ nums, ¬ Acc (Cal clS body) n) ∧ e = 12) ∨ (pr = true ∧ Fine A nums ∧ (∀ n ∈ nums, Acc (Cal clS body) n) ∧ e = 0)
theorem Cyc.not {nums : List Int} {body : Int → List Bk} (h : Cyc clS body nums) : ∃ n ∈ nums, ¬ Acc (Cal clS body) n := by
  obtain ⟨m, hm, hc⟩ := h
  exact ⟨m, hm, fun ha => no_cycle ha hc⟩
theorem Cls.zero {pr : Bool} {A : List Bk} {nums : List Int} {body : Int → List Bk} (h : Cls pr A nums body 0) : pr = true ∧ Fine A nums ∧ ∀ n ∈ nums, Acc (Cal clS body) n := by
  rcases h with h | h | h | h | h
  · exact absurd h.2 (by decide)
  · exact absurd h.2.2 (by decide)
  · exact absurd h.2.2.2 (by decide)
  · exact absurd h.2.2.2 (by decide)
  exact ⟨h.1, h.2.1, h.2.2.1⟩
theorem Cls.uniq {pr : Bool} {A : List Bk} {nums : List Int} {body : Int → List Bk} {e f : Int} (h : Cls pr A nums body e) (h' : Cls pr A nums body f) : e = f := by
  have bad : (∃ b ∈ A, erS b ≠ 0) → (∀ b ∈ A, erS b = 0) → False := fun ⟨b, h1, h2⟩ h3 => h2 (h3 b h1)
  have nof : (∃ b ∈ A, ∃ n t, clS b = some (n, t) ∧ n ∉ nums) → Fine A nums → False := fun ⟨b, h1, n, t, h2, h3⟩ h4 => h3 (h4.2 b h1 n t h2)
  rcases h with ⟨p, e1⟩ | ⟨p, q, e1⟩ | ⟨p, q, r, e1⟩ | ⟨p, q, r, e1⟩ | ⟨p, q, r, e1⟩ <;> rcases h' with ⟨p', e2⟩ | ⟨p', q', e2⟩ | ⟨p', q', r', e2⟩ | ⟨p', q', r', e2⟩ | ⟨p', q', r', e2⟩ <;> first
    | exact e1.trans e2.symm
    | (rw [p] at p'; exact absurd p' (by decide))
    | exact absurd q' (fun h => bad q h)
    | exact absurd q (fun h => bad q' h)
    | exact absurd q'.1 (fun h => bad q h)
    | exact absurd q.1 (fun h => bad q' h)
    | exact (nof r q').elim
    | exact (nof r' q).elim
    | (obtain ⟨n, h1, h2⟩ := r; exact absurd (r' n h1) h2)
    | (obtain ⟨n, h1, h2⟩ := r'; exact absurd (r n h1) h2)
section
variable {body : Int → List Bk} {S : St3}
theorem size_X (hI : Inv clS body S) {n : Int} (ha : Acc (Cal clS body) n) : S.1 n = 2 → S.2.2 n = mn ((X clS body n).length : Int) 20001 := by
  have h0 := ha
  induction h0 with
  | intro n _ ih =>
    intro h2
    have h := sum_exp (V := fun n => some (S.2.1 n, S.2.2 n)) (E := X clS body) (body n) 0 0 _ _ (fun b hb c t hc => ⟨(clS_some hc).2.2.1, fun q hq => by
      injection hq with hq
      subst hq
      have hcal : Cal clS body c n := ⟨b, hb, t, hc⟩
      exact ih c hcal (hI.acc c (hI.down n h2 c hcal)) (hI.down n h2 c hcal)⟩) (by omega) (by omega) (hI.eq n h2) (X_eq ha)
    simpa using h
theorem exp_mem {P : Bk → Prop} {E : Int → List Bk} : ∀ (l y : List Bk), (∀ b ∈ l, P b) → (∀ b ∈ l, ∀ n t, clS b = some (n, t) → ∀ c ∈ E n, P c) → expS clS (fun n => some (E n)) l = some y → ∀ b ∈ y, P b
  | [], y, _, _, h => by simp [expS] at h; subst h; simp
  | b :: l, y, h1, h2, h => by
    have ih := fun y => exp_mem (P := P) (E := E) l y (fun c hc => h1 c (List.mem_cons_of_mem _ hc)) (fun c hc => h2 c (List.mem_cons_of_mem _ hc))
    unfold expS at h
    cases hc : clS b with
    | none =>
      simp only [hc] at h
      obtain ⟨y', hy', rfl⟩ := Option.map_eq_some_iff.mp h
      intro c hc'
      rcases List.mem_cons.mp hc' with rfl | hc'
      · exact h1 _ List.mem_cons_self
      exact ih y' hy' c hc'
    | some p =>
      obtain ⟨n, t⟩ := p
      simp only [hc, Option.bind_some] at h
      obtain ⟨y', hy', rfl⟩ := Option.map_eq_some_iff.mp h
      intro c hc'
      rcases List.mem_append.mp hc' with hc' | hc'
      · unfold rep at hc'
        obtain ⟨x, hx, hc'⟩ := List.mem_flatten.mp hc'
        rw [List.mem_replicate] at hx
        rw [hx.2] at hc'
        exact h2 b List.mem_cons_self n t hc c hc'
      exact ih y' hy' c hc'
theorem X_mem {P : Bk → Prop} (hb : ∀ n, ∀ b ∈ body n, P b) {n : Int} (ha : Acc (Cal clS body) n) : ∀ c ∈ X clS body n, P c := by
  have h0 := ha
  induction h0 with
  | intro n hh ih => exact exp_mem (P := P) (body n) _ (hb n) (fun b hb' m t hm => ih m ⟨b, hb', t, hm⟩ (hh m ⟨b, hb', t, hm⟩)) (X_eq ha)
end
theorem expF_kc (kc : Nat) (subs : Int → List Bk) : ∀ (k : Nat) (l : List Bk) (D : Done), LeO (expF kc subs k l D) (expF (kc + 1) subs k l D)
  | 0, l, D => by unfold expF; exact LeO.none _
  | k + 1, l, D => by
    rw [expF, expF]
    exact expL_mono (expF_kc kc subs k) kc subs l [] D
theorem expF_kcs (kc : Nat) (subs : Int → List Bk) : ∀ (d k : Nat) (l : List Bk) (D : Done), LeO (expF kc subs k l D) (expF (kc + d) subs k l D)
  | 0, k, l, D => LeO.refl _
  | d + 1, k, l, D => fun v hv => expF_kc (kc + d) subs k l D v (expF_kcs kc subs d k l D v hv)
def allB (m : List Bk) (s : List Sb) : List Bk := m ++ (s.map (fun x => x.f1)).flatten
def properS (m : List Bk) (s : List Sb) : Bool := s.all (fun x => decide (IN x.f0)) && (orderedS m s && !repL [] s)
structure Sized (m : List Bk) (s : List Sb) : Prop where
  main : m.length ≤ 2000
  subs : s.length ≤ 100
  body : ∀ x ∈ s, x.f1.length ≤ 2000
  goodM : ∀ b ∈ m, goodB b
  goodS : ∀ x ∈ s, ∀ b ∈ x.f1, goodB b
theorem flat_len : ∀ (s : List Sb) (n : Nat), (∀ x ∈ s, x.f1.length ≤ n) → ((s.map (fun x => x.f1)).flatten).length ≤ n * s.length
  | [], n, _ => by simp
  | x :: s, n, h => by
    have h1 := flat_len s n (fun y hy => h y (List.mem_cons_of_mem _ hy))
    have h2 := h x List.mem_cons_self
    simp only [List.map_cons, List.flatten_cons, List.length_append, List.length_cons, Nat.mul_add, Nat.mul_one]
    omega
theorem allB_mem {m : List Bk} {s : List Sb} {b : Bk} : b ∈ allB m s ↔ b ∈ m ∨ ∃ x ∈ s, b ∈ x.f1 := by
  unfold allB
  rw [List.mem_append, List.mem_flatten]
  constructor
  · rintro (h | ⟨l, h1, h2⟩)
    · exact .inl h
    obtain ⟨x, hx, rfl⟩ := List.mem_map.mp h1
    exact .inr ⟨x, hx, h2⟩
  rintro (h | ⟨x, hx, h⟩)
  · exact .inl h
  exact .inr ⟨_, List.mem_map.mpr ⟨x, hx, rfl⟩, h⟩
theorem flat_take {LL : List (List Bk)} (j : Nat) : ((LL.take j).flatten).length ≤ LL.flatten.length := by
  have h := congrArg (fun x : List (List Bk) => x.flatten.length) (List.take_append_drop j LL)
  simp only [List.flatten_append, List.length_append] at h
  omega
theorem flat_snoc {LL : List (List Bk)} {j : Nat} (h : j < LL.length) : (LL.take (j + 1)).flatten = (LL.take j).flatten ++ LL[j] := by
  rw [List.take_succ_eq_append_getElem h, List.flatten_append]; simp
theorem rd_LL {LL : List (List Bk)} {j : Nat} (h : j < LL.length) : rd_L7 LL (j : Int) = LL[j] := by simp [rd_L7, h]
theorem concat_l1 {LL : List (List Bk)} (hT : LL.flatten.length ≤ 900000) (hL : LL.length ≤ 1000000) : ∀ (n j : Nat) (acc : List Bk), j + n = LL.length → acc = (LL.take j).flatten → Ev (fun k => Concat_Block.l1 k acc LL (LL.length : Int) (j : Int)) LL.flatten := by
  intro n
  induction n with
  | zero =>
    intro j acc hj ha
    refine Ev.step (fun k => by rw [Concat_Block.l1]) (Ev.neg (by omega) ?_)
    rw [ha, List.take_of_length_le (by omega)]
    exact Ev.some
  | succ n ih =>
    intro j acc hj ha
    have hs := flat_snoc (LL := LL) (j := j) (by omega)
    have ht := flat_take (LL := LL) (j + 1)
    have h0 := ih (j + 1) (acc ++ LL[j]'(by omega)) (by omega) (by rw [hs, ha])
    have hl : (acc ++ LL[j]'(by omega)).length ≤ 900000 := by rw [ha, ← hs]; omega
    rw [List.length_append] at hl
    refine Ev.step (fun k => by rw [Concat_Block.l1]) (Ev.pos (by omega) (Ev.pos (by omega) (Ev.pos (by omega) ?_)))
    rw [rd_LL (show j < LL.length by omega), wrapI (by omega)]
    exact Ev.pos (by omega) h0
theorem concat_l0 {LL : List (List Bk)} (hT : LL.flatten.length ≤ 900000) (hL : LL.length ≤ 1000000) : ∀ (n j : Nat) (sz : Int), j + n = LL.length → sz = (((LL.take j).flatten.length : Nat) : Int) → Ev (fun k => Concat_Block.l0 k LL sz LL (LL.length : Int) (j : Int)) LL.flatten := by
  intro n
  induction n with
  | zero =>
    intro j sz hj hsz
    have ht := flat_take (LL := LL) j
    have h := concat_l1 hT hL LL.length 0 [] (Nat.zero_add _) rfl
    refine Ev.step (fun k => by rw [Concat_Block.l0]) (Ev.neg (by omega) ?_)
    have hg : Grow_Block.f sz = some [] := by unfold Grow_Block.f; rw [if_pos (by omega)]
    rw [hg]
    exact Ev.bind Ev.some h
  | succ n ih =>
    intro j sz hj hsz
    have hs := flat_snoc (LL := LL) (j := j) (by omega)
    have ht := flat_take (LL := LL) (j + 1)
    have hln : (LL.take (j + 1)).flatten.length = (LL.take j).flatten.length + (LL[j]'(by omega)).length := by rw [hs, List.length_append]
    have ew : wrap64 (sz + ((LL[j]'(by omega)).length : Int)) = (((LL.take (j + 1)).flatten.length : Nat) : Int) := by rw [hln]; unfold wrap64; omega
    have h0 := ih (j + 1) _ (by omega) ew
    refine Ev.step (fun k => by rw [Concat_Block.l0]) (Ev.pos (by omega) (Ev.pos (by omega) (Ev.pos (by omega) ?_)))
    rw [rd_LL (show j < LL.length by omega), wrapI (by omega)]
    exact Ev.neg (by rw [ew]; omega) h0
theorem bodyG_mem {m : List Bk} {s : List Sb} (n : Int) : ∀ b ∈ bodyO s n, b ∈ allB m s := by
  intro b hb
  obtain ⟨x, hx, _, h⟩ := bodyO_mem hb
  exact allB_mem.mpr (.inr ⟨x, hx, h⟩)
section
variable {m : List Bk} {s : List Sb} (hz : Sized m s)
include hz
theorem Sized.len : (allB m s).length ≤ 900000 := by
  have h1 := flat_len s 2000 hz.body
  have h2 := hz.subs
  have h3 := hz.main
  unfold allB
  rw [List.length_append]
  omega
theorem Sized.good : ∀ b ∈ allB m s, goodB b := by
  intro b hb
  rcases allB_mem.mp hb with h | ⟨x, hx, h⟩
  · exact hz.goodM b h
  exact hz.goodS x hx b h
theorem concat_ev : Ev (fun k => Concat_Block.f k (m :: s.map (fun x => x.f1))) (allB m s) := by
  have h := hz.len
  unfold Concat_Block.f
  have h2 := hz.subs
  exact concat_l0 (LL := m :: s.map (fun x => x.f1)) (by simpa [allB] using h) (by simp; omega) _ 0 0 (Nat.zero_add _) rfl
theorem properO_l0 : ∀ (n j : Nat), j + n = s.length → Ev (fun k => subprogram_proper.l0 k s (s.length : Int) (j : Int) m s) ((s.drop j).all (fun x => decide (IN x.f0)) && (orderedS m s && !repL [] s)) := by
  have hs := hz.subs
  intro n
  induction n with
  | zero =>
    intro j hj
    refine Ev.step (fun k => by rw [subprogram_proper.l0]) (Ev.neg (by omega) ?_)
    rw [List.drop_eq_nil_of_le (by omega)]
    refine Ev.bind (orderedS_ev m s (by have := hz.main; omega) (fun b hb => (hz.goodM b hb).len) (fun x hx b hb => (hz.goodS x hx b hb).len)) ?_
    cases orderedS m s with
    | false => exact Ev.neg (by decide) Ev.some
    | true =>
      refine Ev.pos rfl ?_
      simpa [subprogram_repeated.f] using Ev.some
  | succ n ih =>
    intro j hj
    have h0 := ih (j + 1) (by omega)
    refine Ev.step (fun k => by rw [subprogram_proper.l0]) (Ev.pos (by omega) (Ev.pos (by omega) (Ev.pos (by omega) ?_)))
    rw [rd_Sb (show j < s.length by omega), List.drop_eq_getElem_cons (show j < s.length by omega), List.all_cons, wrapI (by omega)]
    by_cases h1 : (s[j]'(by omega)).f0 < 1
    · rw [decide_eq_false (show ¬ IN (s[j]'(by omega)).f0 from fun h => by unfold IN at h; omega), Bool.false_and, Bool.false_and]
      exact Ev.pos h1 Ev.some
    by_cases h2 : (s[j]'(by omega)).f0 > 9999
    · rw [decide_eq_false (show ¬ IN (s[j]'(by omega)).f0 from fun h => by unfold IN at h; omega), Bool.false_and, Bool.false_and]
      exact Ev.neg h1 (Ev.pos h2 Ev.some)
    rw [decide_eq_true (show IN (s[j]'(by omega)).f0 from by unfold IN; omega), Bool.true_and]
    exact Ev.neg h1 (Ev.neg h2 h0)
theorem properO_ev : Ev (fun k => subprogram_proper.f k m s) (properS m s) := by
  unfold subprogram_proper.f properS
  simpa using properO_l0 hz s.length 0 (by omega)
theorem newO_ev : ∃ r, Ev (fun k => newF k m s) r ∧ Cls (properS m s) (allB m s) (s.map (fun x => x.f0)) (bodyO s) r.1 ∧ (r.1 = 0 → r.2.1 = mapO s ∧ Inv clS (bodyO s) r.2.2 ∧ ∀ n ∈ s.map (fun x => x.f0), r.2.2.1 n = 2) := by
  have hp := properO_ev hz
  unfold newF
  cases hpr : properS m s with
  | false =>
    rw [hpr] at hp
    exact ⟨_, Ev.bind hp (Ev.neg (by decide) Ev.some), .inl ⟨rfl, rfl⟩, fun h => absurd h (by decide)⟩
  | true =>
    rw [hpr] at hp
    have hin : (s.all (fun x => decide (IN x.f0)) && decide (s.length < 1000000)) = true := by
      unfold properS at hpr
      rw [Bool.and_eq_true] at hpr
      rw [Bool.and_eq_true]
      exact ⟨hpr.1, decide_eq_true (by have := hz.subs; omega)⟩
    have hfo := found_ev (allB m s) [] hz.good (by have := hz.len; simpa using this)
    by_cases hbad : ∃ b ∈ allB m s, erS b ≠ 0
    · have hb := foundS_bad (allB m s) [] hbad
      refine ⟨_, Ev.bind hp (Ev.pos rfl (Ev.pos hin (Ev.bind (concat_ev hz) (Ev.bind hfo (Ev.neg (by omega) Ev.some))))), .inr (.inl ⟨rfl, hbad, hb⟩), fun h => ?_⟩
      rw [hb] at h; cases h
    have hok : ∀ b ∈ allB m s, erS b = 0 := fun b hb => by
      by_cases h : erS b = 0
      · exact h
      exact absurd ⟨b, hb, h⟩ hbad
    obtain ⟨f1, f2⟩ := foundS_ok (allB m s) [] hok
    by_cases hnf : ∃ b ∈ allB m s, ∃ n t, clS b = some (n, t) ∧ n ∉ s.map (fun x => x.f0)
    · have hh : ¬ haveL (subsO s (fun _ => none)) (foundS (allB m s) []).1 = true := by
        obtain ⟨b, hb, n, t, hc, hn⟩ := hnf
        intro h
        unfold haveL at h
        rw [List.all_eq_true] at h
        exact hn (mapO_some.mp (h n ((f2 n).mpr (.inr ⟨b, hb, t, hc⟩))))
      exact ⟨_, Ev.bind hp (Ev.pos rfl (Ev.pos hin (Ev.bind (concat_ev hz) (Ev.bind hfo (Ev.pos f1 (Ev.neg hh Ev.some)))))), .inr (.inr (.inl ⟨rfl, hok, hnf, rfl⟩)), fun h => absurd h (by decide)⟩
    have hfine : Fine (allB m s) (s.map (fun x => x.f0)) := ⟨hok, fun b hb n t hc => by
      by_cases h : n ∈ s.map (fun x => x.f0)
      · exact h
      exact absurd ⟨b, hb, n, t, hc, h⟩ hnf⟩
    have hh : haveL (subsO s (fun _ => none)) (foundS (allB m s) []).1 = true := by
      unfold haveL
      rw [List.all_eq_true]
      intro n hn
      rcases (f2 n).mp hn with h | ⟨b, hb, t, hc⟩
      · cases h
      exact mapO_some.mpr (hfine.2 b hb n t hc)
    obtain ⟨k0, hk0⟩ := callF_all (allB m s) hz.good
    have hms : ∃ b S', Ev (fun k => measAll (bodyO s) k s (fun _ => 0, fun _ => 0, fun _ => 0)) (b, S') ∧ (b = true → Inv clS (bodyO s) S' ∧ ∀ x ∈ s, S'.1 x.f0 = 2) ∧ (b = false → Cyc clS (bodyO s) (s.map (fun x => x.f0))) := by
      obtain ⟨b, S', h1, h2, h3⟩ := measAll_ok (k := k0 + s.length + 1) (cl := clS) (body := bodyO s) (nums := s.map (fun x => x.f0)) (fun n _ b hb => Ok_of (hk0 _ (by omega) b (bodyG_mem n b hb)) (hok b (bodyG_mem n b hb))) (fun n _ b hb c t hc => hfine.2 b (bodyG_mem n b hb) c t hc) (by rw [List.length_map]; omega) s (fun _ => 0, fun _ => 0, fun _ => 0) (fun x hx => ⟨List.mem_map.mpr ⟨x, hx, rfl⟩, by
        rw [Bool.and_eq_true, List.all_eq_true] at hin
        exact of_decide_eq_true (hin.1 x hx)⟩) Inv.start (fun a h => absurd (show (0 : Int) = 1 from h) (by decide))
      exact ⟨b, S', Ev.mono (fun k => measAll_mono _ k _ _) h1, fun hb => ⟨(h2 hb).1, (h2 hb).2.2⟩, h3⟩
    obtain ⟨b, S', h1, h2, h3⟩ := hms
    cases b with
    | false =>
      exact ⟨_, Ev.bind hp (Ev.pos rfl (Ev.pos hin (Ev.bind (concat_ev hz) (Ev.bind hfo (Ev.pos f1 (Ev.pos hh (Ev.bind h1 (Ev.neg (show ¬ (false = true) from by decide) Ev.some)))))))), .inr (.inr (.inr (.inl ⟨rfl, hfine, (h3 rfl).not, rfl⟩))), fun h => absurd h (show ¬ ((12 : Int) = 0) from by decide)⟩
    | true =>
      obtain ⟨i1, i2⟩ := h2 rfl
      have i3 : ∀ n ∈ s.map (fun x => x.f0), S'.1 n = 2 := fun n hn => by
        obtain ⟨x, hx, rfl⟩ := List.mem_map.mp hn
        exact i2 x hx
      exact ⟨_, Ev.bind hp (Ev.pos rfl (Ev.pos hin (Ev.bind (concat_ev hz) (Ev.bind hfo (Ev.pos f1 (Ev.pos hh (Ev.bind h1 (Ev.pos rfl Ev.some)))))))), .inr (.inr (.inr (.inr ⟨rfl, hfine, fun n hn => i1.acc n (i3 n hn), rfl⟩))), fun _ => ⟨rfl, i1, i3⟩⟩
def OutO (m : List Bk) (body : Int → List Bk) (e : Int) (z : Int × Int) (x : List Bk × Int) : Prop :=
  (e ≠ 0 ∧ z = (0, e) ∧ x = ([], e)) ∨ (e = 0 ∧ ∃ d y, sumS clS (fun n => some (TT clS body n)) m 0 0 = some (d, mn (y.length : Int) 20001) ∧ expS clS (fun c => some (X clS body c)) m = some y ∧
    (((d > 8 ∨ y.length > 20000) ∧ z = (0, 3) ∧ x = ([], 3)) ∨ (¬ d > 8 ∧ y.length ≤ 20000 ∧ z = ((y.length : Int), 0) ∧ x = (y, 0))))
theorem expandO_ev : ∃ e z x, Cls (properS m s) (allB m s) (s.map (fun x => x.f0)) (bodyO s) e ∧ OutO m (bodyO s) e z x ∧ Ev (fun k => subprogram_Size.f k m s) z ∧ Ev (fun k => subprogram_Expand.f k m s) x := by
  obtain ⟨r, hr, hc, h0⟩ := newO_ev hz
  by_cases he : r.1 = 0
  · obtain ⟨h1, hI, h2⟩ := h0 he
    rw [he] at hc
    obtain ⟨hpr, hfine, hacc⟩ := hc.zero
    have hsz : ∀ b ∈ m, ∀ n t, clS b = some (n, t) → 0 ≤ r.2.2.2.2 n ∧ r.2.2.2.2 n ≤ 20001 := fun b hb n t hn => hI.sz n (h2 n (hfine.2 b (allB_mem.mpr (.inl hb)) n t hn))
    have hsome : (sumS clS (fun n => some (r.2.2.2.1 n, r.2.2.2.2 n)) m 0 0).isSome = true := (sumS_some _ _ _).mpr (fun _ _ _ _ _ => rfl)
    obtain ⟨q, hq⟩ := Option.isSome_iff_exists.mp hsome
    have hes : (expS clS (fun c => some (X clS (bodyO s) c)) m).isSome = true := (expS_some _).mpr (fun _ _ _ _ _ => rfl)
    obtain ⟨y, hy⟩ := Option.isSome_iff_exists.mp hes
    have hq2 : q.2 = mn (y.length : Int) 20001 := by
      have := sum_exp (V := fun n => some (r.2.2.2.1 n, r.2.2.2.2 n)) (E := X clS (bodyO s)) m 0 0 q y (fun b hb c t hc => ⟨(clS_some hc).2.2.1, fun w hw => by
        injection hw with hw
        subst hw
        have hn := hfine.2 b (allB_mem.mpr (.inl hb)) c t hc
        exact size_X hI (hacc c hn) (h2 c hn)⟩) (by omega) (by omega) hq hy
      simpa using this
    obtain ⟨k0, hk0⟩ := callF_all (allB m s) hz.good
    have hokM : ∀ k, k0 ≤ k → ∀ b ∈ m, Ok k clS b := fun k hk b hb => Ok_of (hk0 k hk b (allB_mem.mpr (.inl hb))) (hfine.1 b (allB_mem.mpr (.inl hb)))
    have hokB : ∀ k, k0 ≤ k → ∀ n ∈ s.map (fun x => x.f0), ∀ b ∈ bodyO s n, Ok k clS b := fun k hk n _ b hb => Ok_of (hk0 k hk b (bodyG_mem n b hb)) (hfine.1 b (bodyG_mem n b hb))
    have hsum : Ev (fun k => sumL k r.2.2.2.1 r.2.2.2.2 m 0 0) q := ⟨k0, fun k hk => by show sumL k _ _ m 0 0 = some q; rw [sumL_eq m 0 0 (by omega) (by omega) (hokM k hk) hsz, hq]⟩
    have hV : ∀ n ∈ s.map (fun x => x.f0), some (r.2.2.2.1 n, r.2.2.2.2 n) = some (TT clS (bodyO s) n) := fun n hn => table_unique (V := fun n => some (r.2.2.2.1 n, r.2.2.2.2 n)) (V' := fun n => some (TT clS (bodyO s) n)) (hacc n hn) (fun n => n ∈ s.map (fun x => x.f0)) (fun n c hn hc => by
      obtain ⟨b, hb, t, ht⟩ := hc
      exact hfine.2 b (bodyG_mem n b hb) c t ht) (fun n hn => (hI.eq n (h2 n hn)).symm) (fun n hn => (TT_eq (hacc n hn)).symm) hn
    have hq' : sumS clS (fun n => some (TT clS (bodyO s) n)) m 0 0 = some (q.1, mn (y.length : Int) 20001) := by
      rw [← hq2, ← sumS_congr m 0 0 (fun b hb n t hc => hV n (hfine.2 b (allB_mem.mpr (.inl hb)) n t hc)), hq]
    have hmb : mn (y.length : Int) 20001 > 20000 ↔ y.length > 20000 := by unfold mn; split <;> omega
    by_cases hbig : q.1 > 8 ∨ y.length > 20000
    · have hck : Ev (fun k => checkedF k m s) (3, r.2.1, r.2.2, 0) := by
        unfold checkedF
        refine Ev.bind hr (Ev.pos he (Ev.bind hsum ?_))
        by_cases hd : q.1 > 8
        · exact Ev.pos hd Ev.some
        refine Ev.neg hd (Ev.pos ?_ Ev.some)
        rw [hq2]
        exact hmb.mpr (hbig.resolve_left hd)
      refine ⟨0, (0, 3), ([], 3), hc, .inr ⟨rfl, _, y, hq', hy, .inl ⟨hbig, rfl, rfl⟩⟩, ?_, ?_⟩
      · unfold subprogram_Size.f
        exact Ev.bind hck Ev.some
      unfold subprogram_Expand.f
      exact Ev.bind hck (Ev.neg (show ¬ ((3 : Int) = 0) from by decide) Ev.some)
    have hd : ¬ q.1 > 8 := fun h => hbig (.inl h)
    have hy2 : ¬ mn (y.length : Int) 20001 > 20000 := fun h => hbig (.inr (hmb.mp h))
    have hylen : y.length ≤ 20000 := by have := fun h => hbig (.inr h); omega
    have hmn : mn (y.length : Int) 20001 = (y.length : Int) := by unfold mn; rw [if_neg (by omega)]
    have hck : Ev (fun k => checkedF k m s) (0, r.2.1, r.2.2, (y.length : Int)) := by
      unfold checkedF
      refine Ev.bind hr (Ev.pos he (Ev.bind hsum (Ev.neg hd (Ev.neg (by rw [hq2]; exact hy2) ?_))))
      rw [hq2, hmn]
      exact Ev.some
    refine ⟨0, ((y.length : Int), 0), (y, 0), hc, .inr ⟨rfl, _, y, hq', hy, .inr ⟨hd, hylen, rfl, rfl⟩⟩, ?_, ?_⟩
    · unfold subprogram_Size.f
      exact Ev.bind hck Ev.some
    unfold subprogram_Expand.f
    refine Ev.bind hck (Ev.pos rfl ?_)
    have hex : ∃ D', Ev (fun k => expF k (fun y => (r.2.1 y).getD []) k m (fun _ => none)) (y, D') := by
      rw [h1]
      obtain ⟨k1, hk1⟩ := expand_ok (kc := k0) (cl := clS) (body := bodyO s) (nums := s.map (fun x => x.f0)) (hokB k0 (by omega)) (fun n hn c hc => by
        obtain ⟨b, hb, t, ht⟩ := hc
        exact hfine.2 b (bodyG_mem n b hb) c t ht) hacc m (hokM k0 (by omega)) (fun b hb n t hn => hfine.2 b (allB_mem.mpr (.inl hb)) n t hn) y hy hylen
      obtain ⟨D', hD⟩ := hk1 (k0 + k1) (by omega)
      have hD2 := expF_kcs k0 (bodyO s) k1 (k0 + k1) m (fun _ => none) _ hD
      exact ⟨D', Ev.mono (fun k => expF_mono k _ k m _) hD2⟩
    obtain ⟨D', hex⟩ := hex
    refine Ev.bind hex (Ev.pos ?_ Ev.some)
    have hmem := exp_mem (P := fun b => b ∈ allB m s) m y (fun b hb => allB_mem.mpr (.inl hb)) (fun b hb n t hn c hc => X_mem (P := fun b => b ∈ allB m s) bodyG_mem (hacc n (hfine.2 b (allB_mem.mpr (.inl hb)) n t hn)) c hc) hy
    rw [Bool.and_eq_true, List.all_eq_true]
    exact ⟨decide_eq_true (show y.length < 1000000 by omega), fun b hb => decide_eq_true (by have := (hz.good b (hmem b hb)).1; omega)⟩
  have hck : Ev (fun k => checkedF k m s) (r.1, r.2.1, r.2.2, 0) := by
    unfold checkedF
    exact Ev.bind hr (Ev.neg he Ev.some)
  refine ⟨r.1, (0, r.1), ([], r.1), hc, .inl ⟨he, rfl, rfl⟩, ?_, ?_⟩
  · unfold subprogram_Size.f
    exact Ev.bind hck Ev.some
  unfold subprogram_Expand.f
  exact Ev.bind hck (Ev.neg he Ev.some)
end
theorem idxS_split {α : Type} {q : α → Bool} : ∀ (l : List α) (i : Int), 0 ≤ i → ¬ idxS q l i < 0 → ∃ y e r, l = y ++ e :: r ∧ idxS q l i = i + (y.length : Int) ∧ (∀ x ∈ y, q x = false) ∧ q e = true
  | [], i, h0, h => absurd (by decide : (-1 : Int) < 0) h
  | x :: l, i, h0, h => by
    rw [idxS] at h ⊢
    by_cases hx : q x = true
    · rw [if_pos hx]
      exact ⟨[], x, l, rfl, by simp, fun _ hb => (by cases hb), hx⟩
    rw [if_neg hx] at h ⊢
    obtain ⟨y, e, r, h1, h2, h3, h4⟩ := idxS_split l (i + 1) (by omega) h
    refine ⟨x :: y, e, r, by rw [h1]; rfl, by rw [h2]; simp only [List.length_cons]; omega, fun z hz => ?_, h4⟩
    rcases List.mem_cons.mp hz with rfl | hz
    · simpa using hx
    exact h3 z hz
theorem orderedS_app (a : List Bk) (e : Bk) (s : List Sb) : orderedS (a ++ [e]) s = (hasS e.f1 77 30000 && (!anyS e.f1 79 && (!hasS e.f1 77 99000 && (!markL a && !(s.any fun x => markL x.f1))))) := by
  unfold orderedS
  have h1 : (a ++ [e]).length - 1 = a.length := by simp
  have h2 : (a ++ [e]).getD a.length zB = e := by simp
  rw [h1, h2, List.take_left' rfl, decide_eq_true (by simp)]
  rfl
theorem expS_plain {V : Int → Option (List Bk)} : ∀ (l : List Bk), (∀ b ∈ l, clS b = none) → expS clS V l = some l
  | [], _ => rfl
  | b :: l, h => by
    unfold expS
    simp only [h b List.mem_cons_self, expS_plain l (fun c hc => h c (List.mem_cons_of_mem _ hc)), Option.map_some]
theorem expS_app {V : Int → Option (List Bk)} : ∀ (l r x y : List Bk), expS clS V l = some x → expS clS V r = some y → expS clS V (l ++ r) = some (x ++ y)
  | [], r, x, y, h, h2 => by simp [expS] at h; subst h; simpa using h2
  | b :: l, r, x, y, h, h2 => by
    rw [List.cons_append]
    unfold expS at h ⊢
    cases hc : clS b with
    | none =>
      simp only [hc] at h ⊢
      obtain ⟨x', hx', rfl⟩ := Option.map_eq_some_iff.mp h
      rw [expS_app l r x' y hx' h2]
      rfl
    | some p =>
      obtain ⟨n, t⟩ := p
      simp only [hc] at h ⊢
      cases hv : V n with
      | none => rw [hv] at h; cases h
      | some z =>
        rw [hv] at h
        simp only [Option.bind_some] at h ⊢
        obtain ⟨x', hx', rfl⟩ := Option.map_eq_some_iff.mp h
        rw [expS_app l r x' y hx' h2, List.append_assoc]
        rfl
theorem sumS_deep {V : Int → Option (Int × Int)} {D : Int} : ∀ (l : List Bk) (d s : Int) (r : Int × Int), (∀ b ∈ l, ∀ n t, clS b = some (n, t) → ∀ q, V n = some q → wrap64 (1 + q.1) ≤ D) → d ≤ D → sumS clS V l d s = some r → d ≤ r.1 ∧ r.1 ≤ D
  | [], d, s, r, _, hd, h => by simp [sumS] at h; subst h; exact ⟨Int.le_refl _, hd⟩
  | b :: l, d, s, r, hl, hd, h => by
    have ih := fun d s => sumS_deep (V := V) (D := D) l d s r (fun b hb => hl b (List.mem_cons_of_mem _ hb))
    unfold sumS at h
    cases hc : clS b with
    | none => rw [hc] at h; exact ih d _ hd h
    | some p =>
      obtain ⟨n, t⟩ := p
      simp only [hc] at h
      cases hv : V n with
      | none => rw [hv] at h; cases h
      | some q =>
        simp only [hv] at h
        have h1 := hl b List.mem_cons_self n t hc q hv
        have := ih _ _ (by unfold mx; split <;> omega) h
        unfold mx at this
        split at this <;> omega
theorem callB_cl {num : Int} (h : IN num) : clS (callB num) = some (num, 1) ∧ erS (callB num) = 0 := by
  have h1 : wholeT (wrap64 (1000 * num)) = (num, true) := whole_num h.1 h.2
  have e : callS (callB num).f1 = (num, 1, true, 0) := by
    have w1 : wrap64 (0 + 1) = 1 := by unfold wrap64; omega
    have w2 : wrap64 1 = 1 := by unfold wrap64; omega
    simp [callS, callB, hasS, callT, callR, h1, w1, w2]
  unfold clS erS
  rw [e]
  exact ⟨rfl, rfl⟩
theorem runB_at {l : List Bk} {i j : Nat} : ∀ (c q : Nat), runB l i j c q = true → ∀ k, q ≤ k → k < q + c → foldS (l.getD (i + k) zB).f1 = true ∧ l.getD (i + k) zB = l.getD (j + k) zB
  | 0, q, _, k, h1, h2 => by omega
  | c + 1, q, h, k, h1, h2 => by
    rw [runB] at h
    simp only [Bool.and_eq_true, decide_eq_true_eq] at h
    by_cases e : k = q
    · subst e; exact h.1
    exact runB_at c (q + 1) h.2 k (by omega) (by omega)
theorem foundB_run {l : List Bk} {n i : Nat} : ∀ (c j : Nat), foundB l n i c j = true → ∃ j', runB l i j' n 0 = true
  | 0, j, h => by cases h
  | c + 1, j, h => by
    rw [foundB] at h
    by_cases hr : runB l i j n 0 = true
    · exact ⟨j, hr⟩
    rw [if_neg hr] at h; exact foundB_run c (j + 1) h
theorem foldS_mark {l : List Wd} (h : foldS l = true) : markS l = false := by
  unfold foldS at h
  simp only [Bool.and_eq_true, Bool.not_eq_true'] at h
  exact h.1
theorem take_run {l : List Bk} {a i n : Nat} (ha : a + n ≤ l.length) (hi : i + n ≤ l.length) (h : runB l a i n 0 = true) : (l.take (a + n)).drop a = (l.drop i).take n := by
  apply List.ext_getElem
  · simp; omega
  intro k h1 h2
  have hk : k < n := by simp at h1; omega
  have := (runB_at n 0 h k (by omega) (by omega)).2
  rw [List.getD_eq_getElem?_getD, List.getD_eq_getElem?_getD, List.getElem?_eq_getElem (show a + k < l.length by omega), List.getElem?_eq_getElem (show i + k < l.length by omega)] at this
  simpa using this
section
variable {l : List Bk} {num : Int} {a n : Nat}
theorem mainB_exp {V : Int → Option (List Bk)} (hn : 1 ≤ n) (ha : a + n ≤ l.length) (hp : ∀ b ∈ l, clS b = none) (hc : clS (callB num) = some (num, 1)) (hV : V num = some ((l.take (a + n)).drop a)) : ∀ (f i : Nat) (acc y : List Bk), l.length < i + f → i ≤ l.length → expS clS V acc = some y → expS clS V (mainB l num a n f i acc) = some (y ++ l.drop i)
  | 0, i, acc, y, hf, hi, h => by omega
  | f + 1, i, acc, y, hf, hi, h => by
    rw [mainB]
    by_cases h1 : i < l.length
    · rw [if_pos h1]
      by_cases h2 : i + n ≤ l.length ∧ runB l a i n 0 = true
      · rw [if_pos h2]
        have e1 : expS clS V [callB num] = some ((l.drop i).take n) := by
          rw [← take_run ha h2.1 h2.2]
          simp [expS, hc, hV, rep]
        have := mainB_exp hn ha hp hc hV f (i + n) (acc ++ [callB num]) _ (by omega) h2.1 (expS_app _ _ _ _ h e1)
        rw [this, List.append_assoc, ← List.drop_drop, List.take_append_drop]
      rw [if_neg h2]
      have e1 : expS clS V [l.getD i zB] = some [l.getD i zB] := expS_plain _ (fun b hb => by rw [List.mem_singleton] at hb; rw [hb]; exact hp _ (getD_mem h1))
      have := mainB_exp hn ha hp hc hV f (i + 1) (acc ++ [l.getD i zB]) _ (by omega) (by omega) (expS_app _ _ _ _ h e1)
      rw [this, List.append_assoc, List.drop_eq_getElem_cons h1, List.getD_eq_getElem?_getD, List.getElem?_eq_getElem h1]
      rfl
    rw [if_neg h1, List.drop_eq_nil_of_le (by omega), List.append_nil]; exact h
theorem mainB_end {l0 : List Bk} {e : Bk} (he : l = l0 ++ [e]) (hend : hasS e.f1 77 30000 = true) (hn : 1 ≤ n) (ha : a + n ≤ l.length) : ∀ (f i : Nat) (acc : List Bk), l.length < i + f → i < l.length → ∃ x, mainB l num a n f i acc = acc ++ x ++ [e] ∧ ∀ b ∈ x, b = callB num ∨ b ∈ l0
  | 0, i, acc, hf, hi => by omega
  | f + 1, i, acc, hf, h1 => by
    have hll : l.length = l0.length + 1 := by rw [he]; simp
    rw [mainB, if_pos h1]
    by_cases h2 : i + n ≤ l.length ∧ runB l a i n 0 = true
    · rw [if_pos h2]
      have h3 : i + n < l.length := by
        apply Decidable.byContradiction
        intro hx
        have h4 := runB_at n 0 h2.2 (n - 1) (by omega) (by omega)
        have h5 : l.getD (i + (n - 1)) zB = e := by
          rw [show i + (n - 1) = l0.length by omega, he]
          simp
        rw [h4.2, h5] at h4
        have h6 := foldS_mark h4.1
        unfold markS at h6
        rw [hend] at h6
        simp at h6
      obtain ⟨x, hx1, hx2⟩ := mainB_end he hend hn ha f (i + n) (acc ++ [callB num]) (by omega) h3
      exact ⟨callB num :: x, by rw [hx1]; simp, fun b hb => by
        rcases List.mem_cons.mp hb with rfl | hb
        · exact .inl rfl
        exact hx2 b hb⟩
    rw [if_neg h2]
    by_cases h3 : i + 1 < l.length
    · obtain ⟨x, hx1, hx2⟩ := mainB_end he hend hn ha f (i + 1) (acc ++ [l.getD i zB]) (by omega) h3
      refine ⟨l.getD i zB :: x, by rw [hx1]; simp, fun b hb => ?_⟩
      rcases List.mem_cons.mp hb with rfl | hb
      · right
        rw [he, List.getD_eq_getElem?_getD, List.getElem?_append_left (by omega), List.getElem?_eq_getElem (show i < l0.length by omega)]
        exact List.getElem_mem _
      exact hx2 b hb
    have h5 : l.getD i zB = e := by
      rw [show i = l0.length by omega, he]
      simp
    refine ⟨[], ?_, fun b hb => by cases hb⟩
    rw [h5]
    cases f with
    | zero => simp [mainB]
    | succ f => rw [mainB, if_neg h3]; simp
end
theorem markL_false {l : List Bk} : markL l = false ↔ ∀ b ∈ l, markS b.f1 = false := by
  unfold markL
  rw [List.any_eq_false]
  exact ⟨fun h b hb => by simpa using h b hb, fun h b hb => by simpa using h b hb⟩
theorem fold_expand {l l0 : List Bk} {e : Bk} (he : l = l0 ++ [e]) (hend : hasS e.f1 77 30000 = true) (h79 : anyS e.f1 79 = false) (h99 : hasS e.f1 77 99000 = false) (hm : ∀ b ∈ l0, markS b.f1 = false) (hl : l.length ≤ 1000) (hg : ∀ b ∈ l, goodB b) (hcall : ∀ b ∈ l, callS b.f1 = (0, 0, false, 0))
    {num n : Int} (hnum : IN num) (hn : 1 ≤ n) : Ev (fun k => subprogram_Expand.f k (foldSpec l num n).1 (toO (foldSpec l num n).2.1)) (l, 0) := by
  have hcl : ∀ b ∈ l, clS b = none := fun b hb => by unfold clS; rw [hcall b hb]; rfl
  have her : ∀ b ∈ l, erS b = 0 := fun b hb => by unfold erS; rw [hcall b hb]
  unfold foldSpec
  rw [if_neg (by have := hnum.1; have := hnum.2; omega)]
  cases hf : firstB l n.toNat (l.length + 1 - n.toNat - n.toNat) 0 with
  | none =>
    have hz : Sized l [] := ⟨by omega, by simp, fun x hx => (by cases hx), hg, fun x hx => (by cases hx)⟩
    obtain ⟨e1, z, x, hc, ho, _, hx⟩ := expandO_ev hz
    have hpr : properS l [] = true := by
      unfold properS
      rw [he, orderedS_app, hend, h79, h99, markL_false.mpr hm]
      rfl
    have hc0 : Cls (properS l []) (allB l []) [] (bodyO []) 0 := .inr (.inr (.inr (.inr ⟨hpr, ⟨fun b hb => her b (by simpa [allB] using hb), fun b hb n t hn => (by rw [hcl b (by simpa [allB] using hb)] at hn; cases hn)⟩, fun n hn => (by cases hn), rfl⟩)))
    have h0 : e1 = 0 := hc.uniq hc0
    rcases ho with ⟨h1, _⟩ | ⟨_, d, y, hs, hy, h3⟩
    · exact absurd h0 h1
    rw [expS_plain l hcl] at hy
    injection hy with hy
    subst hy
    have hd := sumS_deep (D := 0) l 0 0 _ (fun b hb n t hn => by rw [hcl b hb] at hn; cases hn) (by omega) hs
    rcases h3 with ⟨h3, _⟩ | ⟨_, _, _, h4⟩
    · simp only at hd; omega
    rw [h4] at hx; exact hx
  | some a =>
    have hfi := firstB_lt hf
    have ha := foundI_le hfi
    have hn1 : 1 ≤ n.toNat := by omega
    show Ev (fun k => subprogram_Expand.f k (mainB l num a n.toNat (l.length + 1) 0 []) [⟨num, (l.take (a + n.toNat)).drop a⟩]) (l, 0)
    generalize hnn : n.toNat = c at *
    obtain ⟨j', hj'⟩ := foundB_run _ _ hfi
    have hrun : ∀ b ∈ (l.take (a + c)).drop a, b ∈ l ∧ markS b.f1 = false := fun b hb => by
      refine ⟨List.mem_of_mem_take (List.mem_of_mem_drop hb), ?_⟩
      obtain ⟨k, hk, rfl⟩ := List.getElem_of_mem hb
      have hk' : k < c := by simp at hk; omega
      have h1 := (runB_at c 0 hj' k (by omega) (by omega)).1
      rw [List.getD_eq_getElem?_getD, List.getElem?_eq_getElem (show a + k < l.length by omega)] at h1
      simpa using foldS_mark h1
    have hrl : ((l.take (a + c)).drop a).length ≤ 1000 := by simp; omega
    generalize hR : (l.take (a + c)).drop a = R at *
    have hml := mainB_len l num a c hn1 (l.length + 1) 0 [] (by omega)
    have hmem := mainB_mem l num a c (l.length + 1) 0 []
    have hllen : 0 < l.length := by rw [he]; simp
    obtain ⟨x0, hx0, hx1⟩ := mainB_end (num := num) he hend hn1 (show a + c ≤ l.length by omega) (l.length + 1) 0 [] (by omega) hllen
    have hexp := fun (V : Int → Option (List Bk)) (hV : V num = some R) => mainB_exp (V := V) hn1 (show a + c ≤ l.length by omega) hcl (callB_cl hnum).1 (by rw [hR]; exact hV) (l.length + 1) 0 [] [] (by omega) (by omega) rfl
    generalize mainB l num a c (l.length + 1) 0 [] = M at *
    have hMm : ∀ b ∈ M, b = callB num ∨ b ∈ l := fun b hb => (hmem b hb).resolve_left (fun h => by cases h)
    have hgc : goodB (callB num) := by
      have h1 := hnum.1
      have h2 := hnum.2
      have e : wrap64 (1000 * num) = 1000 * num := by unfold wrap64; omega
      refine ⟨by simp [callB], fun w hw => ?_⟩
      simp only [callB, List.mem_cons, List.not_mem_nil, or_false] at hw
      rcases hw with rfl | rfl
      · simp
      simp [e]; omega
    have hz : Sized M [⟨num, R⟩] := ⟨by simp at hml; omega, by simp, fun x hx => by rw [List.mem_singleton] at hx; subst hx; show R.length ≤ _; omega, fun b hb => by
      rcases hMm b hb with rfl | h
      · exact hgc
      exact hg b h, fun x hx b hb => by rw [List.mem_singleton] at hx; subst hx; exact hg b (hrun b hb).1⟩
    obtain ⟨e1, z, x, hc, ho, _, hx⟩ := expandO_ev hz
    have hmc : markS (callB num).f1 = false := by simp [markS, callB, anyS, hasS]
    have hpr : properS M [⟨num, R⟩] = true := by
      unfold properS
      rw [hx0, List.nil_append, orderedS_app, hend, h79, h99, markL_false.mpr (fun b hb => by
        rcases hx1 b hb with rfl | h
        · exact hmc
        exact hm b h)]
      simp [markL_false.mpr (fun b hb => (hrun b hb).2), repL, hnum]
    have hbody : bodyO [⟨num, R⟩] num = R := by simp [bodyO, mapO, subsO]
    have hall : ∀ b ∈ allB M [⟨num, R⟩], b = callB num ∨ b ∈ l := fun b hb => by
      rcases allB_mem.mp hb with h | ⟨x, hx, h⟩
      · exact hMm b h
      rw [List.mem_singleton] at hx; subst hx; exact .inr (hrun b h).1
    have hacc : Acc (Cal clS (bodyO [⟨num, R⟩])) num := ⟨_, fun m hm => by
      obtain ⟨b, hb, t, ht⟩ := hm
      rw [hbody] at hb
      rw [hcl b (hrun b hb).1] at ht
      cases ht⟩
    have hc0 : Cls (properS M [⟨num, R⟩]) (allB M [⟨num, R⟩]) (([⟨num, R⟩] : List Sb).map (fun x => x.f0)) (bodyO [⟨num, R⟩]) 0 := .inr (.inr (.inr (.inr ⟨hpr, ⟨fun b hb => by
      rcases hall b hb with rfl | h
      · exact (callB_cl hnum).2
      · exact her b h, fun b hb n t hn => by
      rcases hall b hb with rfl | h
      · rw [(callB_cl hnum).1] at hn; injection hn with hn; injection hn with e1 e2; subst e1; simp
      rw [hcl b h] at hn; cases hn⟩, fun n hn => by simp at hn; subst hn; exact hacc, rfl⟩)))
    have h0 : e1 = 0 := hc.uniq hc0
    have hX : X clS (bodyO [⟨num, R⟩]) num = R := by
      have h1 := X_eq hacc
      rw [hbody, expS_plain R (fun b hb => hcl b (hrun b hb).1)] at h1
      injection h1 with h1
      exact h1.symm
    have hT : 0 ≤ (TT clS (bodyO [⟨num, R⟩]) num).1 ∧ (TT clS (bodyO [⟨num, R⟩]) num).1 ≤ 0 := by
      have h1 := TT_eq hacc
      rw [hbody] at h1
      exact sumS_deep (D := 0) R 0 0 _ (fun b hb n t hn => by rw [hcl b (hrun b hb).1] at hn; cases hn) (by omega) h1
    rcases ho with ⟨h1, _⟩ | ⟨_, d, y, hs, hy, h3⟩
    · exact absurd h0 h1
    rw [hexp _ (by rw [hX])] at hy
    injection hy with hy
    have hy' : y = l := by rw [← hy]; simp
    subst hy'
    have hd := sumS_deep (D := 1) M 0 0 _ (fun b hb n t hn q hq => by
      rcases hMm b hb with rfl | h
      · rw [(callB_cl hnum).1] at hn
        injection hn with hn
        injection hn with e1 e2
        subst e1
        injection hq with hq
        subst hq
        unfold wrap64
        omega
      rw [hcl b h] at hn; cases hn) (by omega) hs
    rcases h3 with ⟨h3, _⟩ | ⟨_, _, _, h4⟩
    · simp only at hd; omega
    rw [h4] at hx; exact hx
theorem Ev.uniq {α : Type} {g : Nat → Option α} {u v : α} (h : Ev g u) (h' : Ev g v) : u = v := by
  obtain ⟨k1, h1⟩ := h
  obtain ⟨k2, h2⟩ := h'
  have e1 := h1 (max k1 k2) (by omega)
  have e2 := h2 (max k1 k2) (by omega)
  rw [e1] at e2
  injection e2
section
variable {m : List Bk} {s : List Rb} (hg : goodP m s) (hp : ProperP m s)
include hg hp
theorem properT_l2 (i : Nat) (hi : i < s.length) (h1 : Ev (fun k => swarfref43_proper.l1 k ((i + 1 : Nat) : Int) m s) true) : ∀ (n j : Nat), j + n = s[i].f1.length → Ev (fun k => swarfref43_proper.l2 k (i : Int) (j : Int) m s s[i].f0 s[i].f1) true := by
  have hs12 := hg.2.1
  have hgi := hg.2.2 _ (List.getElem_mem hi)
  have hpi := hp.sub i hi
  intro n
  induction n with
  | zero =>
    intro j hj
    refine Ev.step (fun k => by rw [swarfref43_proper.l2]) ?_
    rw [wrapI (j := i) (by omega)]
    exact Ev.neg (by omega) h1
  | succ n ih =>
    intro j hj
    have h0 := ih (j + 1) (by omega)
    have hb := List.getElem_mem (l := s[i].f1) (n := j) (by omega)
    have hl := (hgi.2 _ hb).len
    have hl40 := hgi.1
    have hm := hpi.2.2.2 _ hb
    unfold markS at hm
    simp only [Bool.or_eq_false_iff] at hm
    refine Ev.step (fun k => by rw [swarfref43_proper.l2]) (Ev.pos (by omega) (Ev.pos (by omega) ?_))
    rw [rd_T32_at (show j < s[i].f1.length by omega), wrapI (by omega)]
    exact Ev.bind (Return_ev _ _ _ hl) (Ev.neg (by rw [hm.2.2]; decide) (Ev.bind (letter_ev _ _ _ 79 hl) (Ev.neg (by rw [hm.1]; decide) (Ev.bind (End_ev _ _ _ hl) (Ev.neg (by rw [hm.2.1]; decide) h0)))))
omit hg in
theorem find_at (i : Nat) (hi : i < s.length) : findS s s[i].f0 = (i : Int) := by
  have h := List.take_append_drop i s
  rw [List.drop_eq_getElem_cons hi] at h
  unfold findS
  have h2 := idxS_at (q := fun x : Rb => decide (x.f0 = s[i].f0)) (b := s[i]) (s.drop (i + 1)) (decide_eq_true rfl) (s.take i) 0 (fun x hx => by
    obtain ⟨j, hj, rfl⟩ := List.getElem_of_mem hx
    rw [List.length_take] at hj
    rw [List.getElem_take]
    exact decide_eq_false ((hp.sub i hi).2.2.1 j (by omega)))
  rw [h, List.length_take] at h2
  rw [h2]
  omega
theorem properT_l1 : ∀ (n i : Nat), i + n = s.length → Ev (fun k => swarfref43_proper.l1 k (i : Int) m s) true := by
  have hs12 := hg.2.1
  intro n
  induction n with
  | zero =>
    intro i hi
    exact Ev.step (fun k => by rw [swarfref43_proper.l1]) (Ev.neg (by omega) Ev.some)
  | succ n ih =>
    intro i hi
    have h0 := ih (i + 1) (by omega)
    have hpi := hp.sub i (by omega)
    have hf := find_ev m s (s[i]'(by omega)).f0 (by omega)
    rw [find_at hp i (by omega)] at hf
    refine Ev.step (fun k => by rw [swarfref43_proper.l1]) (Ev.pos (by omega) (Ev.pos (by omega) ?_))
    rw [rd_Rb (show i < s.length by omega)]
    refine Ev.neg (by omega) (Ev.neg (by omega) (Ev.bind hf ?_))
    rw [decide_eq_false (show ¬ (i : Int) < (i : Int) by omega)]
    refine Ev.step (fun k => by rw [swarfref43_proper.j2]) ?_
    exact Ev.neg (by decide) (properT_l2 hg hp i (by omega) h0 (s[i]'(by omega)).f1.length 0 (by omega))
theorem properT_l0 : ∀ (n j : Nat), j + n = m.length → Ev (fun k => swarfref43_proper.l0 k (j : Int) m s) true := by
  intro n
  induction n with
  | zero =>
    intro j hj
    have h1 : Ev (fun k => swarfref43_proper.l1 k 0 m s) true := properT_l1 hg hp s.length 0 (by omega)
    exact Ev.step (fun k => by rw [swarfref43_proper.l0]) (Ev.neg (by omega) h1)
  | succ n ih =>
    intro j hj
    have h0 := ih (j + 1) (by omega)
    have hm := hg.1.1
    have hl := (hg.1.2 _ (List.getElem_mem (l := m) (n := j) (by omega))).len
    have hpj := hp.main j (by omega)
    have ew : wrap64 ((m.length : Int) - 1) = ((m.length - 1 : Nat) : Int) := wsub (a := m.length) (b := 1) (by omega) (by omega)
    have ed : ((j : Int) == ((m.length - 1 : Nat) : Int)) = decide (j + 1 = m.length) := by
      rw [Bool.eq_iff_iff, beq_iff_eq, decide_eq_true_iff]
      omega
    refine Ev.step (fun k => by rw [swarfref43_proper.l0]) (Ev.pos (by omega) (Ev.pos (by omega) ?_))
    rw [rd_T32_at (show j < m.length by omega), wrapI (by omega), ew, ed]
    exact Ev.bind (Return_ev _ _ _ hl) (Ev.neg (by rw [hpj.1]; decide) (Ev.bind (letter_ev _ _ _ 79 hl) (Ev.neg (by rw [hpj.2.1]; decide) (Ev.bind (End_ev _ _ _ hl) (Ev.neg (by rw [hpj.2.2]; simp) h0)))))
theorem properT : Ev (fun k => swarfref43_proper.f k m s) true := by
  unfold swarfref43_proper.f
  exact Ev.neg (by have := hp.ne; omega) (properT_l0 hg hp m.length 0 (by omega))
end
open Classical in
theorem properR_ev {m : List Bk} {s : List Rb} (hg : goodP m s) : Ev (fun k => swarfref43_proper.f k m s) (decide (ProperP m s)) := by
  obtain ⟨r, h1, h2⟩ := proper_ev m s hg
  cases r with
  | true => rw [decide_eq_true (h2 rfl)]; exact h1
  | false =>
    have hn : ¬ ProperP m s := fun h => by have := h1.uniq (properT hg h); cases this
    rw [decide_eq_false hn]; exact h1
def tabV (s : List Rb) (X Y : List Int) (n : Int) : Option (Int × Int) := if rd X (findS s n) < 0 then none else some (rd Y (findS s n), rd X (findS s n))
def resM : Option (Int × Int) → Int × Int × Bool
  | none => (0, 0, false)
  | some q => (q.2, q.1, true)
theorem measX (m : List Bk) (s : List Rb) (hs : s.length ≤ 1000000) (bl : List Bk) (hb : bl.length ≤ 1000000) (hbl : ∀ b ∈ bl, goodB b) (hf : foundP s bl) (X Y : List Int) (hX : X.length = s.length) (hY : Y.length = s.length) (hXb : ∀ n, 0 ≤ findS s n → rd X (findS s n) ≤ 20001) :
    ∀ (n j : Nat) (a d : Int), j + n = bl.length → 0 ≤ a → a ≤ 20001 → Ev (fun k => swarfref43_measure.l0 k bl X Y a d (j : Int) m s) (resM (sumS clS (tabV s X Y) (bl.drop j) d a)) := by
  intro n
  induction n with
  | zero =>
    intro j a d hj h0 h1
    refine Ev.step (fun k => by rw [swarfref43_measure.l0]) ?_
    rw [List.drop_eq_nil_of_le (by omega)]
    exact Ev.neg (by omega) Ev.some
  | succ n ih =>
    intro j a d hj a0 a1
    have hbm := List.getElem_mem (l := bl) (n := j) (by omega)
    have hg := hbl _ hbm
    have hff := hf _ hbm
    rw [List.drop_eq_getElem_cons (show j < bl.length by omega), sumS]
    generalize hbe : bl[j]'(by omega) = b at hg hff
    have hrd : rd_T32 bl (j : Int) = b := by rw [rd_T32_at (show j < bl.length by omega), hbe]
    cases hc : clS b with
    | none =>
      have hc' : (callS b.f1).2.2.1 = false := by
        unfold clS at hc
        cases h : (callS b.f1).2.2.1 with
        | false => rfl
        | true => rw [if_pos h] at hc; cases hc
      have e : mn 20001 (wrap64 (a + 1)) = mn (a + 1) 20001 := by
        rw [wrap_id (by omega) (by omega)]; unfold mn; split <;> split <;> omega
      have h := ih (j + 1) (mn (a + 1) 20001) d (by omega) (by unfold mn; split <;> omega) (by unfold mn; split <;> omega)
      refine Ev.step (fun k => by rw [swarfref43_measure.l0]) (Ev.pos (by omega) (Ev.pos (by omega) ?_))
      rw [hrd, wrapI (by omega)]
      refine Ev.bind hg.callRef (Ev.neg (by rw [hc']; decide) (Ev.bind Ev.some ?_))
      show Ev (fun k => swarfref43_measure.l0 k bl X Y (mn 20001 (wrap64 (a + 1))) d ((j + 1 : Nat) : Int) m s) _
      rw [e]
      exact h
    | some p =>
      obtain ⟨n, t⟩ := p
      obtain ⟨hcs, hn, ht⟩ := clS_some hc
      have h0 : 0 ≤ findS s n := by have := hff (by rw [hcs]); rw [hcs] at this; exact this
      have hlt := (idxS_lt (q := fun x : Rb => decide (x.f0 = n)) s 0 (by omega)).2
      have hlt' : findS s n < (s.length : Int) := by unfold findS; omega
      have hcall : Ev (fun k => swarfref43_Call.f k b.f0 b.f1 b.f2) (n, t, true, 0) := by rw [← hcs]; exact hg.callRef
      have hXn := hXb n h0
      simp only [tabV]
      by_cases hz : rd X (findS s n) < 0
      · rw [if_pos hz]
        refine Ev.step (fun k => by rw [swarfref43_measure.l0]) (Ev.pos (by omega) (Ev.pos (by omega) ?_))
        rw [hrd]
        exact Ev.bind hcall (Ev.pos rfl (Ev.bind (find_ev m s n hs) (Ev.pos h0 (Ev.pos (show findS s n < (X.length : Int) by omega) (Ev.pos hz Ev.some)))))
      rw [if_neg hz]
      have t1 : 1 ≤ t ∧ t ≤ 9999 := ht
      have p0 : 0 ≤ t * rd X (findS s n) := Int.mul_nonneg (by omega) (by omega)
      have p1 : t * rd X (findS s n) ≤ 9999 * 20001 := Int.mul_le_mul (by omega) (by omega) (by omega) (by omega)
      have e : mn 20001 (wrap64 (a + mn 20001 (wrap64 (rd X (findS s n) * t)))) = mn (a + mn (t * rd X (findS s n)) 20001) 20001 := by
        rw [Int.mul_comm (rd X (findS s n)) t]
        generalize t * rd X (findS s n) = z at p0 p1
        rw [wrap_id (x := z) (by omega) (by omega)]
        have e1 : mn 20001 z = mn z 20001 := by unfold mn; split <;> split <;> omega
        have e2 : 0 ≤ mn z 20001 ∧ mn z 20001 ≤ 20001 := by unfold mn; split <;> omega
        rw [e1, wrap_id (by omega) (by omega)]
        unfold mn; repeat (first | omega | split)
      have hb2 : 0 ≤ mn (a + mn (t * rd X (findS s n)) 20001) 20001 ∧ mn (a + mn (t * rd X (findS s n)) 20001) 20001 ≤ 20001 := by
        generalize t * rd X (findS s n) = z at p0 p1
        unfold mn; repeat (first | omega | split)
      have h := ih (j + 1) (mn (a + mn (t * rd X (findS s n)) 20001) 20001) (mx d (wrap64 (1 + rd Y (findS s n)))) (by omega) hb2.1 hb2.2
      refine Ev.step (fun k => by rw [swarfref43_measure.l0]) (Ev.pos (by omega) (Ev.pos (by omega) ?_))
      rw [hrd, wrapI (j := j) (by omega)]
      refine Ev.bind hcall (Ev.pos rfl (Ev.bind (find_ev m s n hs) (Ev.pos h0 (Ev.pos (show findS s n < (X.length : Int) by omega) (Ev.neg hz (Ev.bind Ev.some (Ev.pos (show findS s n < (Y.length : Int) by omega) ?_)))))))
      show Ev (fun k => swarfref43_measure.l0 k bl X Y (mn 20001 (wrap64 (a + mn 20001 (wrap64 (rd X (findS s n) * t))))) (mx d (wrap64 (rd Y (findS s n) + 1))) ((j + 1 : Nat) : Int) m s) _
      rw [e, Int.add_comm (rd Y (findS s n)) 1]
      exact h
def numsR (s : List Rb) : List Int := (s.map sOf).map (fun x => x.f0)
noncomputable def bodyR (s : List Rb) : Int → List Bk := bodyO (s.map sOf)
theorem numsR_mem {s : List Rb} {n : Int} : n ∈ numsR s ↔ ∃ (i : Nat) (h : i < s.length), s[i].f0 = n := by
  unfold numsR
  rw [List.map_map, List.mem_map]
  constructor
  · rintro ⟨x, hx, rfl⟩
    obtain ⟨i, hi, rfl⟩ := List.getElem_of_mem hx
    exact ⟨i, hi, rfl⟩
  rintro ⟨i, hi, rfl⟩
  exact ⟨s[i], List.getElem_mem _, rfl⟩
theorem findS_nums {s : List Rb} {n : Int} (h : 0 ≤ findS s n) : n ∈ numsR s := by
  obtain ⟨y, e, r, h1, h2, h3, h4⟩ := idxS_split (q := fun x : Rb => decide (x.f0 = n)) s 0 (by omega) (by unfold findS at h; omega)
  rw [numsR_mem]
  refine ⟨y.length, by rw [h1]; simp, ?_⟩
  simp only [h1]
  simpa using h4
section
variable {m : List Bk} {s : List Rb} (hg : goodP m s) (hp : ProperP m s)
include hg hp
omit hg in
theorem bodyR_at (i : Nat) (hi : i < s.length) : bodyR s s[i].f0 = s[i].f1 := by
  unfold bodyR bodyO mapO
  rcases subsO_get (s.map sOf) (fun _ => none) s[i].f0 with ⟨_, h2⟩ | ⟨x, h1, h2, h3⟩
  · exact absurd rfl (h2 (sOf s[i]) (List.mem_map.mpr ⟨s[i], List.getElem_mem _, rfl⟩))
  rw [h3]
  obtain ⟨y, hy, rfl⟩ := List.mem_map.mp h1
  obtain ⟨j, hj, rfl⟩ := List.getElem_of_mem hy
  have h4 : s[j].f0 = s[i].f0 := h2
  have e : j = i := by
    have a := find_at hp j hj
    have b := find_at hp i hi
    rw [h4] at a
    omega
  subst e
  rfl
structure Tab (s : List Rb) (X Y : List Int) : Prop where
  lx : X.length = s.length
  ly : Y.length = s.length
  val : ∀ (i : Nat) (h : i < s.length), rd X (i : Int) < 0 ∨ (Acc (Cal clS (bodyR s)) s[i].f0 ∧ (rd Y (i : Int), rd X (i : Int)) = TT clS (bodyR s) s[i].f0)
omit hg hp in
theorem TT_bound {n : Int} (h : Acc (Cal clS (bodyR s)) n) : 0 ≤ (TT clS (bodyR s) n).2 ∧ (TT clS (bodyR s) n).2 ≤ 20001 := by
  induction h with
  | intro n hh ih => exact sumS_bound _ _ _ _ (fun b hb c t hc => ⟨by have := (clS_some hc).2.2.1; omega, fun r hr => by injection hr with hr; subst hr; exact (ih c ⟨b, hb, t, hc⟩).1⟩) (by omega) (by omega) (TT_eq ⟨_, hh⟩)
omit hg hp in
theorem Tab.bound {X Y : List Int} (h : Tab s X Y) (n : Int) (hn : 0 ≤ findS s n) : rd X (findS s n) ≤ 20001 := by
  have hlt := (idxS_lt (q := fun x : Rb => decide (x.f0 = n)) s 0 (by omega)).2
  obtain ⟨i, hi⟩ := Int.eq_ofNat_of_zero_le hn
  have hlt' : i < s.length := by unfold findS at hi; omega
  rw [hi]
  rcases h.val i hlt' with h1 | ⟨h1, h2⟩
  · omega
  have := TT_bound h1
  have e : rd X (i : Int) = (TT clS (bodyR s) s[i].f0).2 := by rw [← h2]
  omega
omit hg in
theorem tab_some {X Y : List Int} (h : Tab s X Y) {n : Int} (hn : n ∈ numsR s) {q : Int × Int} (hq : tabV s X Y n = some q) : Acc (Cal clS (bodyR s)) n ∧ q = TT clS (bodyR s) n := by
  obtain ⟨i, hi, rfl⟩ := numsR_mem.mp hn
  unfold tabV at hq
  rw [find_at hp i hi] at hq
  by_cases hz : rd X (i : Int) < 0
  · rw [if_pos hz] at hq; cases hq
  rw [if_neg hz] at hq
  injection hq with hq
  subst hq
  exact (h.val i hi).resolve_left hz
omit hg in
theorem tab_none {X Y : List Int} (i : Nat) (hi : i < s.length) : tabV s X Y s[i].f0 = none ↔ rd X (i : Int) < 0 := by
  unfold tabV
  rw [find_at hp i hi]
  by_cases hz : rd X (i : Int) < 0
  · rw [if_pos hz]; exact ⟨fun _ => hz, fun _ => rfl⟩
  rw [if_neg hz]; exact ⟨fun h => (by cases h), fun h => absurd h hz⟩
omit hg in
theorem fine_found (hf : Fine (m ++ blocksT s) (numsR s)) : foundP s (m ++ blocksT s) := by
  intro b hb hc
  have hcl : clS b = some ((callS b.f1).1, (callS b.f1).2.1) := by unfold clS; rw [if_pos hc]
  obtain ⟨i, hi, e⟩ := numsR_mem.mp (hf.2 b hb _ _ hcl)
  rw [← e, find_at hp i hi]
  omega
theorem meas_at (hf : Fine (m ++ blocksT s) (numsR s)) {X Y : List Int} (h : Tab s X Y) (bl : List Bk) (hl : bl.length ≤ 1000000) (hbl : ∀ b ∈ bl, b ∈ m ++ blocksT s) : Ev (fun k => swarfref43_measure.f k m s bl X Y) (resM (sumS clS (tabV s X Y) bl 0 0)) := by
  unfold swarfref43_measure.f
  have hfo := fine_found hp hf
  simpa using measX m s (by have := hg.2.1; omega) bl hl (fun b hb => all_good hg b (hbl b hb)) (fun b hb => hfo b (hbl b hb)) X Y h.lx h.ly h.bound bl.length 0 0 0 (by omega) (by omega) (by omega)
omit hg hp in
theorem body_all (i : Nat) (hi : i < s.length) : ∀ b ∈ s[i].f1, b ∈ m ++ blocksT s := fun b hb => List.mem_append_right _ ((blocksT_mem s b).mpr ⟨_, List.getElem_mem _, hb⟩)
omit hg in
theorem hin_R (hf : Fine (m ++ blocksT s) (numsR s)) : ∀ n ∈ numsR s, ∀ c, Cal clS (bodyR s) c n → c ∈ numsR s := by
  intro n hn c hc
  obtain ⟨i, hi, rfl⟩ := numsR_mem.mp hn
  obtain ⟨b, hb, t, ht⟩ := hc
  rw [bodyR_at hp i hi] at hb
  exact hf.2 b (body_all i hi b hb) c t ht
omit hg hp in
theorem rd_set {X : List Int} {i : Nat} (hi : i < X.length) (v : Int) (j : Nat) : rd (X.set i v) (j : Int) = if j = i then v else rd X (j : Int) := by
  by_cases e : j = i
  · subst e; simp [rd, hi]
  rw [if_neg e]; simp [rd, List.getD, List.getElem?_set, Ne.symm e]
omit hg in
theorem Tab.put (hf : Fine (m ++ blocksT s) (numsR s)) {X Y : List Int} (h : Tab s X Y) (i : Nat) (hi : i < s.length) {q : Int × Int} (hq : sumS clS (tabV s X Y) s[i].f1 0 0 = some q) :
    Tab s (X.set i q.2) (Y.set i q.1) ∧ 0 ≤ q.2 := by
  have hcal : ∀ c, Cal clS (bodyR s) c s[i].f0 → Acc (Cal clS (bodyR s)) c := fun c hc => by
    have hn := hin_R hp hf _ (numsR_mem.mpr ⟨i, hi, rfl⟩) c hc
    obtain ⟨b, hb, t, ht⟩ := hc
    rw [bodyR_at hp i hi] at hb
    have hs := (sumS_some (V := tabV s X Y) s[i].f1 0 0).mp (by rw [hq]; rfl) b hb c t ht
    obtain ⟨w, hw⟩ := Option.isSome_iff_exists.mp hs
    exact (tab_some hp h hn hw).1
  have hacc : Acc (Cal clS (bodyR s)) s[i].f0 := ⟨_, hcal⟩
  have hqe : q = TT clS (bodyR s) s[i].f0 := by
    have e := TT_eq hacc
    rw [bodyR_at hp i hi] at e
    rw [← sumS_congr (V := tabV s X Y) s[i].f1 0 0 (fun b hb c t ht => by
      have hn := hf.2 b (body_all i hi b hb) c t ht
      have hs := (sumS_some (V := tabV s X Y) s[i].f1 0 0).mp (by rw [hq]; rfl) b hb c t ht
      obtain ⟨w, hw⟩ := Option.isSome_iff_exists.mp hs
      rw [hw, (tab_some hp h hn hw).2]), hq] at e
    injection e
  have hb := TT_bound hacc
  rw [← hqe] at hb
  refine ⟨⟨by rw [List.length_set]; exact h.lx, by rw [List.length_set]; exact h.ly, fun j hj => ?_⟩, hb.1⟩
  rw [rd_set (by rw [h.lx]; exact hi), rd_set (by rw [h.ly]; exact hi)]
  by_cases e : j = i
  · subst e
    rw [if_pos rfl, if_pos rfl]
    exact .inr ⟨hacc, hqe⟩
  rw [if_neg e, if_neg e]
  exact h.val j hj
open Classical in
noncomputable def resC (m : List Bk) (s : List Rb) : Int × Int := if ∀ n ∈ numsR s, Acc (Cal clS (bodyR s)) n then (match sumS clS (fun n => some (TT clS (bodyR s) n)) m 0 0 with | none => (0, 0) | some q => if q.1 > 8 then (0, 3) else if q.2 > 20000 then (0, 3) else (q.2, 0)) else (0, 12)
theorem chk_l5 (hf : Fine (m ++ blocksT s) (numsR s)) {X Y : List Int} (h : Tab s X Y) (hJ : ∀ n ∈ numsR s, Acc (Cal clS (bodyR s)) n → (tabV s X Y n).isSome = true) : ∀ (n j : Nat), j + n = X.length → (∀ i, i < j → ¬ rd X (i : Int) < 0) → Ev (fun k => swarfref43_Check.l5 k X Y (j : Int) m s) (resC m s) := by
  have hs := hg.2.1
  have hm40 := hg.1.1
  intro n
  induction n with
  | zero =>
    intro j hj hpos
    have hall : ∀ n ∈ numsR s, Acc (Cal clS (bodyR s)) n ∧ tabV s X Y n = some (TT clS (bodyR s) n) := fun n hn => by
      obtain ⟨i, hi, e⟩ := numsR_mem.mp hn
      cases ht : tabV s X Y n with
      | none => rw [← e] at ht; exact absurd ((tab_none hp i hi).mp ht) (hpos i (by rw [← h.lx] at hi; omega))
      | some q => obtain ⟨h1, h2⟩ := tab_some hp h hn ht; exact ⟨h1, by rw [h2]⟩
    have hme := meas_at hg hp hf h m (by omega) (fun b hb => List.mem_append_left _ hb)
    rw [sumS_congr (V := tabV s X Y) (V' := fun n => some (TT clS (bodyR s) n)) m 0 0 (fun b hb c t ht => (hall c (hf.2 b (List.mem_append_left _ hb) c t ht)).2)] at hme
    have hsome : (sumS clS (fun n => some (TT clS (bodyR s) n)) m 0 0).isSome = true := (sumS_some _ _ _).mpr (fun _ _ _ _ _ => rfl)
    obtain ⟨q, hq⟩ := Option.isSome_iff_exists.mp hsome
    unfold resC
    rw [if_pos (fun n hn => (hall n hn).1), hq]
    rw [hq] at hme
    refine Ev.step (fun k => by rw [swarfref43_Check.l5]) (Ev.neg (by omega) (Ev.bind hme ?_))
    simp only [resM]
    by_cases h1 : q.1 > 8
    · rw [if_pos h1]; exact Ev.pos h1 Ev.some
    rw [if_neg h1]
    by_cases h2 : q.2 > 20000
    · rw [if_pos h2]; exact Ev.neg h1 (Ev.pos h2 Ev.some)
    rw [if_neg h2]; exact Ev.neg h1 (Ev.neg h2 Ev.some)
  | succ n ih =>
    intro j hj hpos
    have hlx := h.lx
    by_cases h1 : rd X (j : Int) < 0
    · have hna : ¬ ∀ n ∈ numsR s, Acc (Cal clS (bodyR s)) n := fun ha => by
        have hn : (s[j]'(by omega)).f0 ∈ numsR s := numsR_mem.mpr ⟨j, by omega, rfl⟩
        have := hJ _ hn (ha _ hn)
        rw [(tab_none hp j (by omega)).mpr h1] at this
        cases this
      unfold resC
      rw [if_neg hna]
      exact Ev.step (fun k => by rw [swarfref43_Check.l5]) (Ev.pos (by omega) (Ev.pos (by omega) (Ev.pos h1 Ev.some)))
    have h0 := ih (j + 1) (by omega) (fun i hi => by
      by_cases e : i = j
      · subst e; exact h1
      exact hpos i (by omega))
    refine Ev.step (fun k => by rw [swarfref43_Check.l5]) (Ev.pos (by omega) (Ev.pos (by omega) (Ev.neg h1 ?_)))
    rw [wrapI (by omega)]
    exact h0
theorem chk_l3 (hf : Fine (m ++ blocksT s) (numsR s)) : ∀ (n i : Nat), i + n = s.length → ∀ X Y : List Int, Tab s X Y → ((∀ n ∈ numsR s, Acc (Cal clS (bodyR s)) n → (tabV s X Y n).isSome = true) ∨ (numsR s).countP (fun n => (tabV s X Y n).isNone) + i ≤ s.length) → Ev (fun k => swarfref43_Check.l3 k X Y (i : Int) m s) (resC m s) := by
  intro n
  have hs := hg.2.1
  induction n with
  | zero =>
    intro i hi X Y hT hJ
    have e : i = s.length := by omega
    rw [e] at hJ
    refine Ev.step (fun k => by rw [swarfref43_Check.l3]) ?_
    exact Ev.neg (by omega) (chk_l5 hg hp hf hT (round_last hJ) X.length 0 (by omega) (fun i hi => by omega))
  | succ n ih =>
    intro i hi X0 Y0 hT0 hJ
    have inner : ∀ (d j : Nat), j + d = s.length → ∀ X Y : List Int, Tab s X Y → (∀ n ∈ numsR s, (tabV s X0 Y0 n).isSome = true → (tabV s X Y n).isSome = true) → (∀ (a : Nat) (ha : a < s.length), a < j → (∀ c, Cal clS (bodyR s) c s[a].f0 → (tabV s X0 Y0 c).isSome = true) → (tabV s X Y s[a].f0).isSome = true) →
        Ev (fun k => swarfref43_Check.l4 k X Y (i : Int) (j : Int) m s) (resC m s) := by
      intro d
      induction d with
      | zero =>
        intro j hj X Y hT hmono hprog
        have hr : Round clS (bodyR s) (numsR s) (tabV s X0 Y0) (tabV s X Y) := ⟨hmono, fun n hn hc => by
            obtain ⟨a, ha, rfl⟩ := numsR_mem.mp hn
            exact hprog a ha (by omega) hc⟩
        have h := ih (i + 1) (by omega) X Y hT (round_step (hin_R hp hf) hr hJ)
        refine Ev.step (fun k => by rw [swarfref43_Check.l4]) (Ev.neg (by omega) ?_)
        rw [wrapI (j := i) (by omega)]
        exact h
      | succ d ihd =>
        intro j hj X Y hT hmono hprog
        have hj' : j < s.length := by omega
        have hgj := hg.2.2 _ (List.getElem_mem (l := s) (n := j) hj')
        have hme := meas_at hg hp hf hT s[j].f1 (by have := hgj.1; omega) (body_all j hj')
        have keep : ∀ X' Y', (∀ n ∈ numsR s, (tabV s X Y n).isSome = true → (tabV s X' Y' n).isSome = true) → ((∀ c, Cal clS (bodyR s) c s[j].f0 → (tabV s X0 Y0 c).isSome = true) → (tabV s X' Y' s[j].f0).isSome = true) → (∀ n ∈ numsR s, (tabV s X0 Y0 n).isSome = true → (tabV s X' Y' n).isSome = true) ∧ (∀ (a : Nat) (ha : a < s.length), a < j + 1 → (∀ c, Cal clS (bodyR s) c s[a].f0 → (tabV s X0 Y0 c).isSome = true) → (tabV s X' Y' s[a].f0).isSome = true) := by
          intro X' Y' k1 k2
          refine ⟨fun n hn h => k1 n hn (hmono n hn h), fun a ha haj hc => ?_⟩
          by_cases e : a = j
          · subst e; exact k2 hc
          exact k1 _ (numsR_mem.mpr ⟨a, ha, rfl⟩) (hprog a ha (by omega) hc)
        cases hq : sumS clS (tabV s X Y) s[j].f1 0 0 with
        | some q =>
          obtain ⟨hT', q0⟩ := Tab.put hp hf hT j hj' hq
          have hself : (tabV s (X.set j q.2) (Y.set j q.1) s[j].f0).isSome = true := by
            cases hv : tabV s (X.set j q.2) (Y.set j q.1) s[j].f0 with
            | some _ => rfl
            | none =>
              have := (tab_none hp j hj').mp hv
              rw [rd_set (by rw [hT.lx]; exact hj'), if_pos rfl] at this
              omega
          obtain ⟨m1, m2⟩ := keep (X.set j q.2) (Y.set j q.1) (fun n hn h => by
            obtain ⟨a, ha, rfl⟩ := numsR_mem.mp hn
            by_cases e : a = j
            · subst e; exact hself
            cases hv : tabV s (X.set j q.2) (Y.set j q.1) s[a].f0 with
            | some _ => rfl
            | none =>
              have := (tab_none hp a ha).mp hv
              rw [rd_set (by rw [hT.lx]; exact hj'), if_neg e] at this
              rw [(tab_none hp a ha).mpr this] at h
              cases h) (fun _ => hself)
          have h := ihd (j + 1) (by omega) _ _ hT' m1 m2
          rw [hq] at hme
          have hxl := hT.lx
          have hyl := hT.ly
          refine Ev.step (fun k => by rw [swarfref43_Check.l4]) (Ev.pos (by omega) (Ev.pos (by omega) ?_))
          rw [rd_Rb hj', wrapI (j := j) (by omega), Int.toNat_natCast]
          exact Ev.bind hme (Ev.pos rfl (Ev.pos (by omega) (Ev.pos (by omega) h)))
        | none =>
          obtain ⟨m1, m2⟩ := keep X Y (fun _ _ h => h) (fun hc => by
            have hnone : ¬ (sumS clS (tabV s X Y) s[j].f1 0 0).isSome = true := by rw [hq]; decide
            exact absurd ((sumS_some _ _ _).mpr (fun b hb c t ht => hmono c (hf.2 b (body_all j hj' b hb) c t ht) (hc c ⟨b, by rw [bodyR_at hp j hj']; exact hb, t, ht⟩))) hnone)
          have h := ihd (j + 1) (by omega) X Y hT m1 m2
          rw [hq] at hme
          refine Ev.step (fun k => by rw [swarfref43_Check.l4]) (Ev.pos (by omega) (Ev.pos (by omega) ?_))
          rw [rd_Rb hj', wrapI (j := j) (by omega)]
          exact Ev.bind hme (Ev.neg (by decide) h)
    have h := inner s.length 0 (by omega) X0 Y0 hT0 (fun _ _ h => h) (fun a ha h => by omega)
    refine Ev.step (fun k => by rw [swarfref43_Check.l3]) ?_
    exact Ev.pos (by omega) h
theorem chk_l2 (hf : Fine (m ++ blocksT s) (numsR s)) : ∀ (n j : Nat), j + n = s.length → ∀ X Y : List Int, X.length = s.length → Y.length = s.length → (∀ i, i < j → rd X (i : Int) = -1) → Ev (fun k => swarfref43_Check.l2 k X Y (j : Int) m s) (resC m s) := by
  intro n
  have hs := hg.2.1
  induction n with
  | zero =>
    intro j hj X Y hX hY h1
    have hT : Tab s X Y := ⟨hX, hY, fun i hi => .inl (by rw [h1 i (by omega)]; decide)⟩
    have h := chk_l3 hg hp hf s.length 0 (by omega) X Y hT (.inr (by
      have := List.countP_le_length (p := fun n => (tabV s X Y n).isNone) (l := numsR s)
      unfold numsR at this ⊢
      simp only [List.length_map] at this
      omega))
    refine Ev.step (fun k => by rw [swarfref43_Check.l2]) ?_
    exact Ev.neg (by omega) h
  | succ n ih =>
    intro j hj X Y hX hY h1
    have h := ih (j + 1) (by omega) (X.set j (-1)) Y (by rw [List.length_set]; exact hX) hY (fun i hi => by
      rw [rd_set (by omega)]
      by_cases e : i = j
      · rw [if_pos e]
      rw [if_neg e]; exact h1 i (by omega))
    refine Ev.step (fun k => by rw [swarfref43_Check.l2]) (Ev.pos (by omega) (Ev.pos (by omega) ?_))
    rw [wrapI (by omega), Int.toNat_natCast]
    exact h
omit hp in
theorem chk_l1 (hp : ProperP m s) (R : Int × Int) : ∀ (n j : Nat), j + n = (m ++ blocksT s).length → (∀ (i : Nat) (h : i < (m ++ blocksT s).length), i < j → ∀ n t, clS (m ++ blocksT s)[i] = some (n, t) → n ∈ numsR s) → (∀ b ∈ m ++ blocksT s, erS b = 0) →
    ((Fine (m ++ blocksT s) (numsR s) → R = resC m s) ∧ (¬ Fine (m ++ blocksT s) (numsR s) → R = (0, 4))) → Ev (fun k => swarfref43_Check.l1 k (m ++ blocksT s) (j : Int) m s) R := by
  have hA := all_good hg
  have hz := all_size hg
  have hl2 := fun hf => chk_l2 hg hp hf s.length 0 (by omega) (List.replicate s.length 0) (List.replicate s.length 0) (by simp) (by simp) (fun i hi => by omega)
  generalize hL : m ++ blocksT s = L at hA hz hl2 ⊢
  intro n
  have hs := hg.2.1
  induction n with
  | zero =>
    intro j hj hpre he hR
    have hf : Fine L (numsR s) := ⟨he, fun b hb n t hc => by
      obtain ⟨i, hi, rfl⟩ := List.getElem_of_mem hb
      exact hpre i hi (by omega) n t hc⟩
    rw [hR.1 hf]
    refine Ev.step (fun k => by rw [swarfref43_Check.l1]) (Ev.neg (by omega) (Ev.pos (by omega) (Ev.pos (by omega) ?_)))
    rw [Int.toNat_natCast]
    exact hl2 hf
  | succ n ih =>
    intro j hj hpre he hR
    have hgj := hA _ (List.getElem_mem (l := L) (n := j) (by omega))
    cases hc : clS (L[j]'(by omega)) with
    | none =>
      have hc' : (callS (L[j]'(by omega)).f1).2.2.1 = false := by
        unfold clS at hc
        cases h : (callS (L[j]'(by omega)).f1).2.2.1 with
        | false => rfl
        | true => rw [if_pos h] at hc; cases hc
      have h := ih (j + 1) (by omega) (fun i hi hij n t hci => by
        by_cases e : i = j
        · subst e; rw [hc] at hci; cases hci
        exact hpre i hi (by omega) n t hci) he hR
      refine Ev.step (fun k => by rw [swarfref43_Check.l1]) (Ev.pos (by omega) (Ev.pos (by omega) ?_))
      rw [rd_T32_at (show j < L.length by omega), wrapI (by omega)]
      exact Ev.bind hgj.callRef (Ev.neg (by rw [hc']; decide) h)
    | some p =>
      obtain ⟨n1, t1⟩ := p
      obtain ⟨hcs, _, _⟩ := clS_some hc
      have hcall : Ev (fun k => swarfref43_Call.f k (L[j]'(by omega)).f0 (L[j]'(by omega)).f1 (L[j]'(by omega)).f2) (n1, t1, true, 0) := by rw [← hcs]; exact hgj.callRef
      by_cases hfd : findS s n1 < 0
      · have hnf : ¬ Fine L (numsR s) := fun h => by
          obtain ⟨i, hi, e⟩ := numsR_mem.mp (h.2 _ (List.getElem_mem _) n1 t1 hc)
          rw [← e, find_at hp i hi] at hfd
          omega
        rw [hR.2 hnf]
        refine Ev.step (fun k => by rw [swarfref43_Check.l1]) (Ev.pos (by omega) (Ev.pos (by omega) ?_))
        rw [rd_T32_at (show j < L.length by omega)]
        exact Ev.bind hcall (Ev.pos rfl (Ev.bind (find_ev m s _ (by omega)) (Ev.pos hfd Ev.some)))
      have h := ih (j + 1) (by omega) (fun i hi hij n t hci => by
        by_cases e : i = j
        · subst e; rw [hc] at hci; injection hci with hci; injection hci with e1 e2; subst e1; exact findS_nums (by omega)
        exact hpre i hi (by omega) n t hci) he hR
      refine Ev.step (fun k => by rw [swarfref43_Check.l1]) (Ev.pos (by omega) (Ev.pos (by omega) ?_))
      rw [rd_T32_at (show j < L.length by omega), wrapI (by omega)]
      exact Ev.bind hcall (Ev.pos rfl (Ev.bind (find_ev m s _ (by omega)) (Ev.neg hfd h)))
omit hp in
theorem chk_l0 (R : Int × Int) (h1 : (∀ b ∈ m ++ blocksT s, erS b = 0) → Ev (fun k => swarfref43_Check.l1 k (m ++ blocksT s) (0 : Int) m s) R) (h2 : (¬ ∀ b ∈ m ++ blocksT s, erS b = 0) → R = (0, 1)) : ∀ (n j : Nat), j + n = (m ++ blocksT s).length → (∀ (i : Nat) (h : i < (m ++ blocksT s).length), i < j → erS (m ++ blocksT s)[i] = 0) → Ev (fun k => swarfref43_Check.l0 k (m ++ blocksT s) (j : Int) m s) R := by
  have hA := all_good hg
  have hz := all_size hg
  generalize hL : m ++ blocksT s = L at hA hz h1 h2 ⊢
  intro n
  induction n with
  | zero =>
    intro j hj hpre
    refine Ev.step (fun k => by rw [swarfref43_Check.l0]) ?_
    exact Ev.neg (by omega) (h1 (fun b hb => by
      obtain ⟨i, hi, rfl⟩ := List.getElem_of_mem hb
      exact hpre i hi (by omega)))
  | succ n ih =>
    intro j hj hpre
    have hgj := hA _ (List.getElem_mem (l := L) (n := j) (by omega))
    by_cases hc : erS (L[j]'(by omega)) = 0
    · have h := ih (j + 1) (by omega) (fun i hi hij => by
        by_cases e : i = j
        · subst e; exact hc
        exact hpre i hi (by omega))
      refine Ev.step (fun k => by rw [swarfref43_Check.l0]) (Ev.pos (by omega) (Ev.pos (by omega) ?_))
      rw [rd_T32_at (show j < L.length by omega), wrapI (by omega)]
      exact Ev.bind hgj.callRef (Ev.pos hc h)
    rw [h2 (fun h => hc (h _ (List.getElem_mem _)))]
    refine Ev.step (fun k => by rw [swarfref43_Check.l0]) (Ev.pos (by omega) (Ev.pos (by omega) ?_))
    rw [rd_T32_at (show j < L.length by omega)]
    exact Ev.bind hgj.callRef (Ev.neg hc Ev.some)
end
def OutR (m : List Bk) (body : Int → List Bk) (e : Int) (r : Int × Int) : Prop :=
  (e ≠ 0 ∧ r = (0, e)) ∨ (e = 0 ∧ ∃ d z, sumS clS (fun n => some (TT clS body n)) m 0 0 = some (d, z) ∧ (((d > 8 ∨ z > 20000) ∧ r = (0, 3)) ∨ (¬ d > 8 ∧ ¬ z > 20000 ∧ r = (z, 0))))
open Classical in
theorem checkR_ev {m : List Bk} {s : List Rb} (hg : goodP m s) : ∃ e r, Ev (fun k => swarfref43_Check.f k m s) r ∧ Cls (decide (ProperP m s)) (m ++ blocksT s) (numsR s) (bodyR s) e ∧ OutR m (bodyR s) e r := by
  unfold swarfref43_Check.f
  have hpr := properR_ev hg
  by_cases hp : ProperP m s
  · rw [decide_eq_true hp] at hpr ⊢
    by_cases he : ∀ b ∈ m ++ blocksT s, erS b = 0
    · by_cases hf : Fine (m ++ blocksT s) (numsR s)
      · have h := chk_l0 hg (resC m s) (fun he => by
          simpa using chk_l1 hg hp (resC m s) (m ++ blocksT s).length 0 (by omega) (fun i h hi => by omega) he ⟨fun _ => rfl, fun h => absurd hf h⟩) (fun h => absurd he h) (m ++ blocksT s).length 0 (by omega) (fun i h hi => by omega)
        by_cases ha : ∀ n ∈ numsR s, Acc (Cal clS (bodyR s)) n
        · have hsome : (sumS clS (fun n => some (TT clS (bodyR s) n)) m 0 0).isSome = true := (sumS_some _ _ _).mpr (fun _ _ _ _ _ => rfl)
          obtain ⟨q, hq⟩ := Option.isSome_iff_exists.mp hsome
          refine ⟨0, resC m s, Ev.bind hpr (Ev.pos rfl (Ev.bind (blocks_ev m s hg) h)), .inr (.inr (.inr (.inr ⟨rfl, hf, ha, rfl⟩))), .inr ⟨rfl, q.1, q.2, hq, ?_⟩⟩
          unfold resC
          rw [if_pos ha, hq]
          by_cases h1 : q.1 > 8
          · exact .inl ⟨.inl h1, by simp [h1]⟩
          by_cases h2 : q.2 > 20000
          · exact .inl ⟨.inr h2, by simp [h1, h2]⟩
          exact .inr ⟨h1, h2, by simp [h1, h2]⟩
        have hr : resC m s = (0, 12) := by unfold resC; rw [if_neg ha]
        have ha' : ∃ n ∈ numsR s, ¬ Acc (Cal clS (bodyR s)) n := by
          apply Classical.byContradiction
          intro hx
          exact ha (fun n hn => Classical.byContradiction (fun h => hx ⟨n, hn, h⟩))
        exact ⟨12, resC m s, Ev.bind hpr (Ev.pos rfl (Ev.bind (blocks_ev m s hg) h)), .inr (.inr (.inr (.inl ⟨rfl, hf, ha', rfl⟩))), .inl ⟨by decide, hr⟩⟩
      have h := chk_l0 hg (0, 4) (fun he => by
        simpa using chk_l1 hg hp (0, 4) (m ++ blocksT s).length 0 (by omega) (fun i h hi => by omega) he ⟨fun h => absurd h hf, fun _ => rfl⟩) (fun h => absurd he h) (m ++ blocksT s).length 0 (by omega) (fun i h hi => by omega)
      have hnf : ∃ b ∈ m ++ blocksT s, ∃ n t, clS b = some (n, t) ∧ n ∉ numsR s := by
        apply Classical.byContradiction
        intro hx
        exact hf ⟨he, fun b hb n t hc => Classical.byContradiction (fun h => hx ⟨b, hb, n, t, hc, h⟩)⟩
      exact ⟨4, (0, 4), Ev.bind hpr (Ev.pos rfl (Ev.bind (blocks_ev m s hg) h)), .inr (.inr (.inl ⟨rfl, he, hnf, rfl⟩)), .inl ⟨by decide, rfl⟩⟩
    have h := chk_l0 hg (0, 1) (fun h => absurd h he) (fun _ => rfl) (m ++ blocksT s).length 0 (by omega) (fun i h hi => by omega)
    have hb : ∃ b ∈ m ++ blocksT s, erS b ≠ 0 := by
      apply Classical.byContradiction
      intro hx
      exact he (fun b hb => Classical.byContradiction (fun h => hx ⟨b, hb, h⟩))
    exact ⟨1, (0, 1), Ev.bind hpr (Ev.pos rfl (Ev.bind (blocks_ev m s hg) h)), .inr (.inl ⟨rfl, hb, rfl⟩), .inl ⟨by decide, rfl⟩⟩
  rw [decide_eq_false hp] at hpr ⊢
  exact ⟨1, (0, 1), Ev.bind hpr (Ev.neg (by decide) Ev.some), .inl ⟨rfl, rfl⟩, .inl ⟨by decide, rfl⟩⟩
end Go.Proofs.Ytehkhbnhmehobaa.P
namespace Go.Proofs.Ytehkhbnhmehobaa.P
open Go.RowKit Go.Proofs.YtehkhbnhmehobaaW.PrintWords Go.Proofs.YtehkhbnhmehobaaW.PrintLast Go.Proofs.YtehkhbnhmehobaaW.PrintMore
attribute [local go_sem] max2_int min2_int max_two min_two max_three min_three max_four min_four
set_option linter.unusedVariables false
set_option linter.unusedSimpArgs false
def swarflaw43_word.f (a0 : Int) (a1 : Int) : Option (Int × Int) := some (a0, wrap64 (1000 * a1))
set_option maxHeartbeats 8000000 in
set_option maxRecDepth 100000 in
theorem swarflaw43_word.calls (a0 : Int) (a1 : Int) (r1 : Int) (r2 : Int) (w : World) (h : swarflaw43_word.f a0 a1 = some (r1, r2)) :
  Calls Try.prog 44 #[.int .u8 a0, .int .i64 a1] w fun e w' => e = .returned (.agg #[.int .u8 r1, .int .i64 r2]) ∧ Below w.heap.size w w' := by
 have hu78 := Try.underlying78
 have HB := Aside0.mk (Below.refl w.heap.size w)
 have H : (some (a0, wrap64 (1000 * a1))) = some (r1, r2) := h
 clear h
 simp only [Option.some.injEq, Prod.mk.injEq] at H
 obtain ⟨rfl, rfl⟩ := H
 go_enter Try.func44, Try.ntmps44
 go_wp2_with (first | ((with_reducible refine gate_dst (N := 4) rfl ?_); refine yX 4 #[.int .u8 0, .int .i64 0] 78 ?_; intro gb447 hg w3 hbox hb; have BK447 := Aside0.mk (hbox); have GE447 := Aside0.mk ((yG hg : w.heap.size ≤ gb447)); replace HB := Aside0.mk (below_step yB hb); clear hb hbox hg; have hcz4_0 := yZ0 BK447.out; have hcz4_1 := yZ1 BK447.out; have hfz4_0 := blk_frozen BK447.out 0; have hfz4_1 := blk_frozen BK447.out 1))
 refine bodyPost_ret (results_cell_row rfl _ _ gb447 78 #[.int .u8 a0, .int .i64 (wrap64 (1000 * a1))] (0, 0) _ rfl (by refine yH ?_; refine blk_put (cs := #[.int .u8 a0, .int .i64 0]) ?_ 1 _ rfl; refine yH ?_; refine blk_put (cs := #[.int .u8 0, .int .i64 0]) ?_ 0 _ rfl; refine yH ?_; exact BK447.out) Try.underlying78 rfl (by kernel_rfl)) rfl ?_
 exact ⟨yE, yB⟩
end Go.Proofs.Ytehkhbnhmehobaa.P
namespace Go.Proofs.Ytehkhbnhmehobaa.P
open Go.RowKit Go.Proofs.YtehkhbnhmehobaaW.PrintWords Go.Proofs.YtehkhbnhmehobaaW.PrintLast Go.Proofs.YtehkhbnhmehobaaW.PrintMore
set_option linter.unusedVariables false
set_option linter.unusedSimpArgs false
def Blks (W : World) (L : List (Nat × Obj)) : Prop := ∀ p ∈ L, W.heap[p.1]? = some p.2
theorem Blks.below {W W' : World} {L : List (Nat × Obj)} (h : Blks W L) (hb : Below W.heap.size W W') : Blks W' L := fun p hp => by
  have := h p hp
  exact (hb.block p.1 (Array.getElem?_eq_some_iff.1 this).1).trans this
theorem Blks.nil (W : World) : Blks W [] := fun p hp => by cases hp
theorem Blks.cons {W : World} {L : List (Nat × Obj)} (h : Blks W L) {g : Nat} {o : Obj} (hg : W.heap[g]? = some o) : Blks W ((g, o) :: L) := fun p hp => by
  rcases List.mem_cons.mp hp with rfl | hp
  · exact hg
  exact h p hp
theorem size_alloc (W : World) (o : Obj) : (W.alloc o).heap.size = W.heap.size + 1 := by
  show (W.heap.push o).size = _
  simp
theorem Blks.alloc1 {W : World} {L : List (Nat × Obj)} (h : Blks W L) (o : Obj) : Blks (W.alloc o) ((W.heap.size, o) :: L) := (h.below (below_alloc (Below.refl _ _) o)).cons (alloc_at W o)
theorem Blks.alloc3 {W : World} {L : List (Nat × Obj)} (h : Blks W L) (o1 o2 o3 : Obj) : Blks (((W.alloc o1).alloc o2).alloc o3) ((W.heap.size + 1 + 1, o3) :: (W.heap.size + 1, o2) :: (W.heap.size, o1) :: L) := by
  have := ((h.alloc1 o1).alloc1 o2).alloc1 o3
  rw [size_alloc, size_alloc] at this
  exact this
theorem Blks.drew {W : World} {L : List (Nat × Obj)} (h : Blks W L) : Blks W.drew L := h
theorem Blks.at {W : World} {L : List (Nat × Obj)} (h : Blks W L) {g : Nat} {o : Obj} (hm : (g, o) ∈ L) : W.heap[g]? = some o := h _ hm
section
variable {P : Program} {ops : Array Oper} {Q : Exit → Act → World → Prop}
theorem lit_step {oi : Oper} {N : Option Tmp} {a : Act} {w w' : World} {K : Act → World → Prop} {v : Value} (hw : Region.wanted oi (yielded ops a.tmps) = true) (hN : oi.dst = N) (hrun : (execOp a.eval oi).run P w = .ok (.value v) w') (h : K (a.put N v) w') : if Region.wanted oi (yielded ops a.tmps) = true then Oper.wp P oi a w K Q else K (a.put N undef) w := by
  rw [if_pos hw]
  subst hN
  unfold Oper.wp
  rw [hrun]
  exact h
end
def encW : List S78 → List Value
  | [] => []
  | x :: l => .int .u8 x.f0 :: .int .i64 x.f1 :: encW l
theorem encW_at : ∀ (xs : List S78) (j : Nat) (x : S78), xs[j]? = some x → (encW xs)[j * 2]? = some (.int .u8 x.f0) ∧ (encW xs)[j * 2 + 1]? = some (.int .i64 x.f1)
  | [], j, x, h => by simp at h
  | y :: l, 0, x, h => by simp at h; subst h; exact ⟨rfl, rfl⟩
  | y :: l, j + 1, x, h => by
    have := encW_at l j x (by simpa using h)
    rw [show (j + 1) * 2 = j * 2 + 1 + 1 by omega]
    exact this
theorem C_words {W : World} {g : Nat} (xs : List S78) (h : W.heap[g]? = some (.cells (encW xs).toArray 78 (0, 0))) (hm : xs.length ≤ 9223372036854775807) : Kd.C k78 W (some ⟨g, 0, none⟩) xs.length xs := by
  refine ⟨rfl, hm, fun _ => ⟨⟨g, 0, none⟩, rfl, fun j x hj => ⟨[.int .u8 x.f0, .int .i64 x.f1], rfl, k78_mk W x, fun i u hu => ?_⟩⟩⟩
  obtain ⟨h1, h2⟩ := encW_at xs j x hj
  rw [show ((⟨g, 0, none⟩ : Addr).add (j * (k78).sz + i)) = ⟨g, j * 2 + i, none⟩ from by rw [show (k78).sz = 2 from rfl]; simp [Addr.add] <;> (intros; omega)]
  rcases i with _ | _ | i
  · simp at hu; subst hu
    refine (blk_cell h _).trans ?_
    simpa using h1
  · simp at hu; subst hu
    refine (blk_cell h _).trans ?_
    simpa using h2
  simp at hu
theorem C_sub1 {W : World} {g : Nat} {n : Int} {l : List S32} {A : Option Addr} {c : Nat} (h0 : W.cell? ⟨g, 0, none⟩ = some (.int .i64 n)) (h1 : W.cell? ⟨g, 1, none⟩ = some (.slice A l.length c)) (hl : l.length ≤ c) (hC : Kd.C k32 W A l.length l) : Kd.C k81 W (some ⟨g, 0, none⟩) 1 [⟨n, l⟩] := by
  refine ⟨rfl, by decide, fun _ => ⟨⟨g, 0, none⟩, rfl, fun j x hj => ?_⟩⟩
  rcases j with _ | j
  · simp at hj
    subst hj
    refine ⟨[.int .i64 n, .slice A l.length c], rfl, k81_mk W ⟨n, l⟩ hl hC, fun i u hu => ?_⟩
    rw [show ((⟨g, 0, none⟩ : Addr).add (0 * (k81).sz + i)) = ⟨g, i, none⟩ from by simp [Addr.add] <;> (intros; omega)]
    rcases i with _ | _ | i
    · simp at hu; subst hu; exact h0
    · simp at hu; subst hu; exact h1
    simp at hu
  simp at hj
theorem Blks.hd {W : World} {L : List (Nat × Obj)} {g : Nat} {o : Obj} (h : Blks W ((g, o) :: L)) : W.heap[g]? = some o := h _ List.mem_cons_self
theorem Blks.tl {W : World} {L : List (Nat × Obj)} {q : Nat × Obj} (h : Blks W (q :: L)) : Blks W L := fun p hp => h p (List.mem_cons_of_mem _ hp)
section
variable {P : Program} {ops : Array Oper} {Q : Exit → Act → World → Prop}
theorem store_step_ {oi : Oper} {a : Act} {w w' : World} {K : Act → World → Prop} (hw : Region.wanted oi (yielded ops a.tmps) = true) (hN : oi.dst = none) (hrun : (execOp a.eval oi).run P w = .ok .skip w') (h : K (a.put none undef) w') : if Region.wanted oi (yielded ops a.tmps) = true then Oper.wp P oi a w K Q else K (a.put none undef) w := by
  rw [if_pos hw]
  unfold Oper.wp
  rw [hrun]
  show K (a.put oi.dst undef) w'
  rw [hN]
  exact h
end
def encB : List (S32 × Option Addr × Nat) → List Value
  | [] => []
  | q :: l => .bool q.1.f0 :: .slice q.2.1 q.1.f1.length q.2.2 :: .string q.1.f2 :: encB l
theorem encB_at : ∀ (xs : List (S32 × Option Addr × Nat)) (j : Nat) (x : S32 × Option Addr × Nat), xs[j]? = some x → (encB xs)[j * 3]? = some (.bool x.1.f0) ∧ (encB xs)[j * 3 + 1]? = some (.slice x.2.1 x.1.f1.length x.2.2) ∧ (encB xs)[j * 3 + 2]? = some (.string x.1.f2)
  | [], j, x, h => by simp at h
  | y :: l, 0, x, h => by simp at h; subst h; exact ⟨rfl, rfl, rfl⟩
  | y :: l, j + 1, x, h => by
    have := encB_at l j x (by simpa using h)
    rw [show (j + 1) * 3 = j * 3 + 1 + 1 + 1 by omega]
    exact this
theorem C_blocks {W : World} {g : Nat} (xs : List (S32 × Option Addr × Nat)) (h : W.heap[g]? = some (.cells (encB xs).toArray 32 (0, 0))) (hm : xs.length ≤ 9223372036854775807) (hw : ∀ x ∈ xs, x.1.f1.length ≤ x.2.2 ∧ Kd.C k78 W x.2.1 x.1.f1.length x.1.f1) : Kd.C k32 W (some ⟨g, 0, none⟩) (xs.map (·.1)).length (xs.map (·.1)) := by
  refine ⟨rfl, by simpa using hm, fun _ => ⟨⟨g, 0, none⟩, rfl, fun j y hj => ?_⟩⟩
  rw [List.getElem?_map] at hj
  obtain ⟨x, hx, rfl⟩ := Option.map_eq_some_iff.mp hj
  obtain ⟨hl, hC⟩ := hw x (List.mem_of_getElem? hx)
  refine ⟨[.bool x.1.f0, .slice x.2.1 x.1.f1.length x.2.2, .string x.1.f2], rfl, k32_mk W x.1 hl hC, fun i u hu => ?_⟩
  obtain ⟨h1, h2, h3⟩ := encB_at xs j x hx
  rw [show ((⟨g, 0, none⟩ : Addr).add (j * (k32).sz + i)) = ⟨g, j * 3 + i, none⟩ from by rw [show (k32).sz = 3 from rfl]; simp [Addr.add] <;> (intros; omega)]
  rcases i with _ | _ | _ | i
  · simp at hu; subst hu
    refine (blk_cell h _).trans ?_
    simpa using h1
  · simp at hu; subst hu
    refine (blk_cell h _).trans ?_
    simpa using h2
  · simp at hu; subst hu
    refine (blk_cell h _).trans ?_
    simpa using h3
  simp at hu
theorem word_any (a0 a1 r : Int) (h : wrap64 (1000 * a1) = r) (w : World) : Calls Try.prog 44 #[.int .u8 a0, .int .i64 a1] w fun e w' => e = .returned (.agg #[.int .u8 a0, .int .i64 r]) ∧ Below w.heap.size w w' :=
  swarflaw43_word.calls a0 a1 a0 r w (by unfold swarflaw43_word.f; rw [h])
set_option maxHeartbeats 1000000 in
theorem words_any (A : Option Addr) (n c : Nat) (w : World) : Calls Try.prog 43 #[.slice A n c] w fun e w' => e = .returned (.agg #[.bool false, .slice A n c, .string (⟨#[]⟩ : ByteArray)]) ∧ Below w.heap.size w w' := by
  have hu32 := Try.underlying32
  have HB := Aside0.mk (Below.refl w.heap.size w)
  go_enter Try.func43, Try.ntmps43
  go_wp2_with ((with_reducible refine gate_dst (N := 2) rfl ?_); refine yX 2 #[.bool false, .slice none 0 0, .string (⟨#[]⟩ : ByteArray)] 32 ?_; intro gb hg w2 hbox hb; have BK := Aside0.mk hbox; have GE := Aside0.mk (show w.heap.size ≤ gb from by rw [hg]; exact Nat.le_refl _); have HB2 := Aside0.mk (below_step HB.out hb); clear hbox hg hb; have hz0 : w2.cell? ⟨gb, 0, none⟩ = some (.bool false) := (blk_cell BK.out 0).trans rfl; have hz1 : w2.cell? ⟨gb, 1, none⟩ = some (.slice none 0 0) := (blk_cell BK.out 1).trans rfl; have hz2 : w2.cell? ⟨gb, 2, none⟩ = some (.string (⟨#[]⟩ : ByteArray)) := (blk_cell BK.out 2).trans rfl; have hf0 := blk_frozen BK.out 0; have hf1 := blk_frozen BK.out 1; have hf2 := blk_frozen BK.out 2)
  refine bodyPost_ret (results_cell_row rfl _ _ gb 32 #[.bool false, .slice A n c, .string (⟨#[]⟩ : ByteArray)] (0, 0) _ rfl (by refine blk_put (cs := #[.bool false, .slice A n c, .string (⟨#[]⟩ : ByteArray)]) ?_ 2 _ rfl; refine blk_put (cs := #[.bool false, .slice none 0 0, .string (⟨#[]⟩ : ByteArray)]) ?_ 1 _ rfl; refine blk_put (cs := #[.bool false, .slice none 0 0, .string (⟨#[]⟩ : ByteArray)]) ?_ 0 _ rfl; exact BK.out) Try.underlying32 rfl (by kernel_rfl)) rfl ?_
  exact ⟨rfl, by repeat (with_reducible first | exact HB2.out | refine below_set ?_ GE.out)⟩
def BX (a n : Nat) : Obj := .cells #[.bool false, .slice (some ⟨a, 0, none⟩) n n, .string ⟨#[]⟩] 32 (0, 0)
def aw (a b : Int) : S78 := ⟨a, b⟩
def ab (l : List S78) : S32 := ⟨false, l, ⟨#[]⟩⟩
def rapid_ := ab [aw 71 0, aw 88 1000]
def feed_ := ab [aw 71 1000, aw 88 2000]
def end_ := ab [aw 77 30000]
def call_ := ab [aw 77 98000, aw 80 5000, aw 76 2000]
def o5_ := ab [aw 79 5000]
def ret_ := ab [aw 77 99000]
def call5_ := ab [aw 77 98000, aw 80 5000]
def again_ := ab [aw 77 98000, aw 80 7000]
theorem split_ex : subprogram_Split.f 60 [rapid_, call_, end_, o5_, feed_, ret_] = some ([rapid_, call_, end_], [⟨5, [feed_]⟩], 0) := by kernel_rfl
theorem expand_ex : subprogram_Expand.f 60 [rapid_, call_, end_] [⟨5, [feed_]⟩] = some ([rapid_, feed_, feed_, end_], 0) := by kernel_rfl
theorem expand_ex2 : subprogram_Expand.f 60 [rapid_, call_, end_] [⟨5, [call5_]⟩] = some ([], 12) := by kernel_rfl
theorem fold_ex : subprogram_Fold.f 60 [rapid_, feed_, call_, rapid_, feed_, end_] 7 2 = some ([again_, call_, again_, end_], [⟨7, [rapid_, feed_]⟩], 0) := by kernel_rfl
theorem same_ex : swarfref41_Same.f 60 [rapid_, feed_, feed_, end_] [rapid_, feed_, feed_, end_] = some true := by kernel_rfl
theorem same_ex2 : swarfref41_Same.f 60 [again_, call_, again_, end_] [again_, call_, again_, end_] = some true := by kernel_rfl
end Go.Proofs.Ytehkhbnhmehobaa.P
