/- The law swarflaw43.SubprogramSplit of the given program returns true for every input, and its arguments read behind the call as they read before.
   Conditions: none beyond the given statement Rows.SubprogramSplitSaid. -/
import Derived.Test.YtehkhbnhmehobaaRows
import Derived.WalkKit
import Derived.ProofKit
import Derived.OpenShut
import Derived.ShutString
import Derived.ChangeOld
import Derived.Below
import Derived.SizedLaws
import Derived.Carry
import Derived.Test.YtehkhbnhmehobaaCSubprogramSplit1
import Derived.Test.YtehkhbnhmehobaaCSubprogramSplit2
import Derived.Test.YtehkhbnhmehobaaCSubprogramSplit3
import Derived.Test.YtehkhbnhmehobaaCSubprogramSplit4
import Derived.Test.YtehkhbnhmehobaaCSubprogramSplit5
namespace Go.Proofs.Ytehkhbnhmehobaa.P
open Go.RowKit Go.Proofs.YtehkhbnhmehobaaW.PrintWords Go.Proofs.YtehkhbnhmehobaaW.PrintLast Go.Proofs.YtehkhbnhmehobaaW.PrintMore
attribute [local go_sem] max2_int min2_int max_two min_two max_three min_three max_four min_four
set_option linter.unusedVariables false
set_option linter.unusedSimpArgs false
mutual
def swarflaw43_SubprogramSplit.j0 : Nat → List (S32) → Bool → Option (Bool)
 | 0, _, _ => none
 | k + 1, x0, x13 => if x13 = true then ((swarflaw43_awake.f).bind fun t900 => (some t900)) else ((Clone_Block.f x0).bind fun t901 => ((subprogram_Split.f k t901).bind fun bt904 => ((swarfref43_Split.f k x0).bind fun bt912 => (if bt904.2.2 = bt912.2.2 then ((swarflaw43_back.f k bt904.1 bt904.2.1).bind fun bt920 => ((swarfref43_Same.f k bt920.1 bt920.2 bt912.1 bt912.2.1).bind fun t926 => (swarflaw43_SubprogramSplit.j1 k x0 bt904.2.2 (!t926) bt904.1 bt904.2.1))) else (swarflaw43_SubprogramSplit.j1 k x0 bt904.2.2 true bt904.1 bt904.2.1)))))
def swarflaw43_SubprogramSplit.j1 : Nat → List (S32) → Int → Bool → List (S32) → List (S81) → Option (Bool)
 | 0, _, _, _, _, _ => none
 | k + 1, x0, x4, x35, x912000, x912001 => if x35 = true then (none) else (if x4 = 0 then ((subprogram_Join.f k x912000 x912001).bind fun t927 => ((swarfref41_Same.f k t927 x0).bind fun t930 => (some t930))) else (some true))
end
def swarflaw43_SubprogramSplit.f (k : Nat) (l0 : List (S32)) : Option (Bool) := (swarflaw43_awake.f).bind fun t898 => (if t898 = true then ((swarflaw43_valid.f k l0 60).bind fun t899 => (swarflaw43_SubprogramSplit.j0 k l0 (!t899))) else (swarflaw43_SubprogramSplit.j0 k l0 true))
def swarflaw43_SubprogramSplit.T5 : Bool × List (List Nat × List Nat) := (true, [([], []), ([], []), ([0, 1], [0, 1]), ([2], [2]), ([3], [3]), ([4, 3, 3], [3, 4]), ([3], [3]), ([5, 6, 5, 3], [3, 5, 6]), ([7, 3], [3, 7]), ([3, 8], [3, 8])])
def swarflaw43_SubprogramSplit.B5 : List Nat := [0, 0, 3, 7, 15, 31, 15, 127, 255, 511]
theorem swarflaw43_SubprogramSplit.tab5 : rtab .any (opsOf Try.f11 5) = swarflaw43_SubprogramSplit.T5 := by kernel_rfl
theorem swarflaw43_SubprogramSplit.bits5 : waitsOk swarflaw43_SubprogramSplit.T5.2 swarflaw43_SubprogramSplit.B5 = true := by kernel_rfl
set_option maxHeartbeats 8000000 in
set_option maxRecDepth 100000 in
theorem swarflaw43_SubprogramSplit.calls (k : Nat) (A0 : Option Addr) (c0 : Nat) (l0 : List (S32)) (r : Bool) (w : World) (hr0 : Kd.C k32 w A0 l0.length l0) (hc0 : l0.length ≤ c0) (h : swarflaw43_SubprogramSplit.f k l0 = some r) :
  Calls Try.prog 11 #[.slice A0 l0.length c0] w fun e w' => e = .returned (.bool r) ∧ Below w.heap.size w w' := by
 have hu54 := Try.underlying54
 have hu48 := Try.underlying48
 have HR0 := Aside0.mk hr0
 have HC0 := Aside0.mk hc0
 clear hr0 hc0
 have HB := Aside0.mk (Below.refl w.heap.size w)
 have H : ((swarflaw43_awake.f).bind fun t898 => (if t898 = true then ((swarflaw43_valid.f k l0 60).bind fun t899 => (swarflaw43_SubprogramSplit.j0 k l0 (!t899))) else (swarflaw43_SubprogramSplit.j0 k l0 true))) = some r := h
 clear h
 have HC2 := Aside0.mk H
 clear H
 go_enter Try.func11, Try.ntmps11
 go_upto_region 1 with (fail)
 go_cut [13] (fun v13 wc => ∃ (kq : Nat) (x13_1 : Bool), v13 = .bool x13_1 ∧ Aside0 (swarflaw43_SubprogramSplit.j0 kq l0 x13_1 = some r) ∧ Aside0 (kq ≤ k) ∧ Aside0 (Below w.heap.size w wc))
 case first =>
  have H := HC2.out
  clear HC2
  replace H := Option.bind_eq_some_iff.mp H
  obtain ⟨t898, A30, H⟩ := H
  have A3 := Aside0.mk A30
  clear A30
  by_cases c4 : t898 = true
  ·subst c4
   rw [if_pos rfl] at H
   replace H := Option.bind_eq_some_iff.mp H
   obtain ⟨t899, A50, H⟩ := H
   have A5 := Aside0.mk A50
   clear A50
   have H' := Aside0.mk H
   clear H
   go_wp2_with (first | ((with_reducible refine gate_callee (f := 23) rfl ?_); refine goesL_ (some 7) rfl rfl Try.func23 (by kernel_rfl) rfl #[] rfl yQ ?_; (with_reducible refine (swarflaw43_awake.calls  true _ A3.out).mono ?_); rintro e w6 ⟨rfl, hb⟩; refine ⟨_, rfl, ?_⟩; replace HB := Aside0.mk (below_step yB hb); (try clear hb)) | (go_at_call 24; (with_reducible refine (swarflaw43_valid.calls k _ _ l0 60 t899 _ ?side1 ?side2 A5.out).mono ?_); (case side1 => exact yC HR0.out); (case side2 => exact HC0.out); rintro e w7 ⟨rfl, hb⟩; replace HB := Aside0.mk (below_step yB hb); (try clear hb)))
   go_meet
   case rel => exact ⟨_, (!t899), yS, H', ⟨by first | omega | exact Nat.le_refl _⟩, ⟨yB⟩⟩
  replace c4 := Bool.eq_false_iff.mpr c4
  subst c4
  replace H : (swarflaw43_SubprogramSplit.j0 k l0 true) = some r := by rw [if_neg (show ¬ (false = true) by decide)] at H; exact H
  have H' := Aside0.mk H
  clear H
  go_wp2_with (first | ((with_reducible refine gate_callee (f := 23) rfl ?_); refine goesL_ (some 7) rfl rfl Try.func23 (by kernel_rfl) rfl #[] rfl yQ ?_; (with_reducible refine (swarflaw43_awake.calls  false _ A3.out).mono ?_); rintro e w8 ⟨rfl, hb⟩; refine ⟨_, rfl, ?_⟩; replace HB := Aside0.mk (below_step yB hb); (try clear hb)))
  go_meet
  case rel => exact ⟨_, (true), yS, H', ⟨by first | omega | exact Nat.le_refl _⟩, ⟨yB⟩⟩
 case rest =>
  clear HC2
  try clear c1
  try clear c2
  try clear p2
  try clear c4
  obtain ⟨kq, x13_1, rfl, HA, HJ1, HB⟩ := hcut
  cases kq with
  | zero => exact absurd HA.out (by simp [swarflaw43_SubprogramSplit.j0])
  | succ kj1 =>
   have H := HA.out
   clear HA
   simp only [swarflaw43_SubprogramSplit.j0] at H
   by_cases c9 : x13_1 = true
   ·subst c9
    rw [if_pos rfl] at H
    replace H := Option.bind_eq_some_iff.mp H
    obtain ⟨t900, A100, H⟩ := H
    have A10 := Aside0.mk A100
    clear A100
    obtain rfl := Option.some.inj H
    go_wp2_with (first | ((with_reducible refine gate_callee (f := 23) rfl ?_); refine goesL_ (some 14) rfl rfl Try.func23 (by kernel_rfl) rfl #[] rfl yQ ?_; (with_reducible refine (swarflaw43_awake.calls  t900 _ A10.out).mono ?_); rintro e w11 ⟨rfl, hb⟩; refine ⟨_, rfl, ?_⟩; replace HB := Aside0.mk (below_step yB hb); (try clear hb)))
    go_ret
    exact ⟨yE, yB⟩
   replace c9 := Bool.eq_false_iff.mpr c9
   subst c9
   replace H : ((Clone_Block.f l0).bind fun t901 => ((subprogram_Split.f kj1 t901).bind fun bt904 => ((swarfref43_Split.f kj1 l0).bind fun bt912 => (if bt904.2.2 = bt912.2.2 then ((swarflaw43_back.f kj1 bt904.1 bt904.2.1).bind fun bt920 => ((swarfref43_Same.f kj1 bt920.1 bt920.2 bt912.1 bt912.2.1).bind fun t926 => (swarflaw43_SubprogramSplit.j1 kj1 l0 bt904.2.2 (!t926) bt904.1 bt904.2.1))) else (swarflaw43_SubprogramSplit.j1 kj1 l0 bt904.2.2 true bt904.1 bt904.2.1))))) = some r := by rw [if_neg (show ¬ (false = true) by decide)] at H; exact H
   replace H := Option.bind_eq_some_iff.mp H
   obtain ⟨t901, A120, H⟩ := H
   have A12 := Aside0.mk A120
   clear A120
   replace H := Option.bind_eq_some_iff.mp H
   obtain ⟨⟨t904, t907, t910⟩, A130, H⟩ := H
   have A13 := Aside0.mk A130
   clear A130
   replace H := Option.bind_eq_some_iff.mp H
   obtain ⟨⟨t912, t915, t918⟩, A140, H⟩ := H
   have A14 := Aside0.mk A140
   clear A140
   have HC15 := Aside0.mk H
   clear H
   go_upto_region 5 with (first | ((with_reducible refine gate_callee (f := 33) rfl ?_); refine goesL_ (some 17) rfl rfl Try.func33 (by kernel_rfl) rfl #[.slice A0 l0.length c0] rfl yQ ?_; (with_reducible refine (Clone_Block.calls (fun k_ => k_ < w.heap.size) _ _ l0 t901 _ ?side1 A12.out).mono ?_); (case side1 => exact Kd.V_mk HC0.out (Kd.F_below (Kd.C_F k32_heap HR0.out) yB)); rintro e w16 ⟨v902, rfl, ho0, hb⟩; refine ⟨_, rfl, ?_⟩; have HO903 := Aside0.mk (Kd.N_lower (Kd.N_mono (ok' := fun k_ => True) ho0 (fun k_ hk_ => trivial)) (below_size yB)); replace HB := Aside0.mk (below_step yB hb); (try clear hb); (try clear ho0); obtain ⟨Ao17, co17, eo17⟩ := Kd.N_slice HO903.out; subst eo17) | ((with_reducible refine gate_callee (f := 45) rfl ?_); refine goesL_ (some 18) rfl rfl Try.func45 (by kernel_rfl) rfl #[.slice Ao17 t901.length co17] rfl yQ ?_; (with_reducible refine (subprogram_Split.calls kj1 (fun k_ => True) _ _ t901 t904 t907 t910 _ ?side1 A13.out).mono ?_); (case side1 => exact Kd.N_V (HO903.out)); rintro e w18 ⟨v905, v908, rfl, ho0, ho1, hb⟩; refine ⟨_, rfl, ?_⟩; replace HO903 := Aside0.mk (Kd.N_mono (Kd.N_told (Kd.N_told (Kd.N_old (yN HO903.out) hb) (by first | exact Kd.N_base ho0 | exact Kd.S_base ho0)) (Kd.N_base ho1)) (fun _ h_ => h_.1)); have HO906 := Aside0.mk (Kd.N_lower (Kd.N_mono (ok' := fun k_ => some k_ ≠ (v908 : Value).ownBlock) ho0 (fun k_ hk_ => hk_.2)) (below_size yB)); have HO909 := Aside0.mk (Kd.N_lower (Kd.N_mono (ok' := fun k_ => some k_ ≠ (v905 : Value).ownBlock) ho1 (fun k_ hk_ => hk_.2)) (below_size yB)); replace HB := Aside0.mk (below_step yB hb); (try clear hb); (try clear ho0); (try clear ho1)) | ((with_reducible refine gate_dst (N := 3) rfl ?_); refine yX 3 #[.slice none 0 0, .slice none 0 0] 54 ?_; intro gb911 hg w19 hbox hb; replace HO903 := Aside0.mk (Kd.N_below (Kd.N_elderB (yN HO903.out) gb911 (Nat.le_of_eq hg.symm)) hb); replace HO906 := Aside0.mk (Kd.N_below (Kd.N_elderB (yN HO906.out) gb911 (Nat.le_of_eq hg.symm)) hb); replace HO909 := Aside0.mk (Kd.N_below (Kd.N_elderB (yN HO909.out) gb911 (Nat.le_of_eq hg.symm)) hb); have BK911 := Aside0.mk (hbox); have GW911 := Aside0.mk ((yG hg : w.heap.size ≤ gb911)); have GE911 := Aside0.mk ((yG hg : w.heap.size ≤ gb911)); replace HB := Aside0.mk (below_step yB hb); clear hb hbox hg; obtain ⟨Ao20, co20, eo20⟩ := Kd.N_slice HO906.out; subst eo20; have hcz21_0 := yZ0 BK911.out; have hcz21_1 := yZ1 BK911.out; have hfz21_0 := blk_frozen BK911.out 0; have hfz21_1 := blk_frozen BK911.out 1; obtain ⟨Ao22, co22, eo22⟩ := Kd.N_slice HO909.out; subst eo22) | ((with_reducible refine gate_store (t := 54) (p := 3) rfl ?_); refine store_event (t := 54) (p := 3) (v := ?vo_w23) (w1 := ((w19.setCell ⟨gb911, 0, none⟩ (.slice Ao20 t904.length co20)).setCell ⟨gb911, 1, none⟩ (.slice Ao22 t907.length co22))) ?hg ?ho ?hn ?hr ?_; (case ho => rfl); (case hg => rfl); (case hn => rfl); (case hr => first | (go_simp; done) | (go_simp; rfl)); intro w23 hw; have n0_ : Aside0 (Kd.N k32 32 w23 w.heap.size (fun k_ => some k_ ≠ (.slice Ao20 t904.length co20 : Value).ownBlock ∧ some k_ ≠ (.slice Ao22 t907.length co22 : Value).ownBlock ∧ k_ ≠ gb911) (.slice Ao17 t901.length co17) t901) := ⟨(by rw [hw]; exact (yN (Kd.N_mono (Kd.N_far (p := ⟨gb911, 1, none⟩) (Kd.N_far (p := ⟨gb911, 0, none⟩) (Kd.N_mono HO903.out (fun k_ hk => (⟨hk, hk.2⟩ : _ ∧ k_ ≠ gb911))) (fun _ hk => hk.2) (.slice Ao20 t904.length co20)) (fun _ hk => hk.2) (.slice Ao22 t907.length co22)) (fun _ hk => ⟨hk.1.1.1.2, ⟨hk.1.1.2, hk.1.2⟩⟩))))⟩; have n1_ : Aside0 (Kd.N k32 32 w23 w.heap.size (fun k_ => some k_ ≠ (.slice Ao22 t907.length co22 : Value).ownBlock ∧ k_ ≠ gb911) (.slice Ao20 t904.length co20) t904) := ⟨(by rw [hw]; exact (yN (Kd.N_mono (Kd.N_far (p := ⟨gb911, 1, none⟩) (Kd.N_far (p := ⟨gb911, 0, none⟩) (Kd.N_mono HO906.out (fun k_ hk => (⟨hk, hk.2⟩ : _ ∧ k_ ≠ gb911))) (fun _ hk => hk.2) (.slice Ao20 t904.length co20)) (fun _ hk => hk.2) (.slice Ao22 t907.length co22)) (fun _ hk => ⟨hk.1.1, hk.1.2⟩))))⟩; have n2_ : Aside0 (Kd.N k81 81 w23 w.heap.size (fun k_ => some k_ ≠ (.slice Ao20 t904.length co20 : Value).ownBlock ∧ k_ ≠ gb911) (.slice Ao22 t907.length co22) t907) := ⟨(by rw [hw]; exact (yN (Kd.N_mono (Kd.N_far (p := ⟨gb911, 1, none⟩) (Kd.N_far (p := ⟨gb911, 0, none⟩) (Kd.N_mono HO909.out (fun k_ hk => (⟨hk, hk.2⟩ : _ ∧ k_ ≠ gb911))) (fun _ hk => hk.2) (.slice Ao20 t904.length co20)) (fun _ hk => hk.2) (.slice Ao22 t907.length co22)) (fun _ hk => ⟨hk.1.1, hk.1.2⟩))))⟩; have n3_ : Aside0 (w23.heap[gb911]? = some (.cells #[.slice Ao20 t904.length co20, .slice Ao22 t907.length co22] 54 (0, 0))) := ⟨(by rw [hw]; exact (by refine yH ?_; refine blk_put (cs := #[.slice Ao20 t904.length co20, .slice none 0 0]) ?_ 1 _ rfl; refine yH ?_; refine blk_put (cs := #[.slice none 0 0, .slice none 0 0]) ?_ 0 _ rfl; refine yH ?_; exact BK911.out))⟩; have n4_ : Aside0 (Below w.heap.size w w23) := ⟨(by rw [hw]; exact yB)⟩; clear hw; clear HO903; clear HO906; clear HO909; clear BK911; clear HB; have HO903 := n0_; have HO906 := n1_; have HO909 := n2_; have BK911 := n3_; have HB := n4_; clear n0_ n1_ n2_ n3_ n4_) | ((with_reducible refine gate_callee (f := 46) rfl ?_); refine goesL_ (some 23) rfl rfl Try.func46 (by kernel_rfl) rfl #[.slice A0 l0.length c0] rfl yQ ?_; (with_reducible refine (swarfref43_Split.calls kj1 (fun k_ => k_ < w.heap.size) _ _ l0 t912 t915 t918 _ ?side1 A14.out).mono ?_); (case side1 => exact Kd.V_mk HC0.out (Kd.F_below (Kd.C_F k32_heap HR0.out) yB)); rintro e w24 ⟨v913, v916, rfl, ho0, ho1, hb⟩; refine ⟨_, rfl, ?_⟩; have HO914 := Aside0.mk (Kd.N_lower (Kd.N_mono (ok' := fun k_ => some k_ ≠ (v916 : Value).ownBlock ∧ some k_ ≠ (.slice Ao17 t901.length co17 : Value).ownBlock ∧ some k_ ≠ (.slice Ao20 t904.length co20 : Value).ownBlock ∧ some k_ ≠ (.slice Ao22 t907.length co22 : Value).ownBlock ∧ k_ ≠ gb911) ho0 (fun k_ hk_ => ⟨hk_.2, Or.elim hk_.1 (fun hs_ => fun e_ => Nat.not_le.2 hs_ (Kd.N_base HO903.out k_ e_.symm)) (fun hn_ => (Kd.fresh' (Kd.N_lt (yN HO903.out)) k_ hn_)), Or.elim hk_.1 (fun hs_ => fun e_ => Nat.not_le.2 hs_ (Kd.N_base HO906.out k_ e_.symm)) (fun hn_ => (Kd.fresh' (Kd.N_lt (yN HO906.out)) k_ hn_)), Or.elim hk_.1 (fun hs_ => fun e_ => Nat.not_le.2 hs_ (Kd.N_base HO909.out k_ e_.symm)) (fun hn_ => (Kd.fresh' (Kd.N_lt (yN HO909.out)) k_ hn_)), Or.elim hk_.1 (fun hs_ => fun e_ => Nat.not_le.2 hs_ (by rw [e_]; exact GW911.out)) (fun hn_ => (Kd.freshB (g := gb911) yK k_ hn_))⟩)) (below_size yB)); have HO917 := Aside0.mk (Kd.N_lower (Kd.N_mono (ok' := fun k_ => some k_ ≠ (v913 : Value).ownBlock ∧ some k_ ≠ (.slice Ao17 t901.length co17 : Value).ownBlock ∧ some k_ ≠ (.slice Ao20 t904.length co20 : Value).ownBlock ∧ some k_ ≠ (.slice Ao22 t907.length co22 : Value).ownBlock ∧ k_ ≠ gb911) ho1 (fun k_ hk_ => ⟨hk_.2, Or.elim hk_.1 (fun hs_ => fun e_ => Nat.not_le.2 hs_ (Kd.N_base HO903.out k_ e_.symm)) (fun hn_ => (Kd.fresh' (Kd.N_lt (yN HO903.out)) k_ hn_)), Or.elim hk_.1 (fun hs_ => fun e_ => Nat.not_le.2 hs_ (Kd.N_base HO906.out k_ e_.symm)) (fun hn_ => (Kd.fresh' (Kd.N_lt (yN HO906.out)) k_ hn_)), Or.elim hk_.1 (fun hs_ => fun e_ => Nat.not_le.2 hs_ (Kd.N_base HO909.out k_ e_.symm)) (fun hn_ => (Kd.fresh' (Kd.N_lt (yN HO909.out)) k_ hn_)), Or.elim hk_.1 (fun hs_ => fun e_ => Nat.not_le.2 hs_ (by rw [e_]; exact GW911.out)) (fun hn_ => (Kd.freshB (g := gb911) yK k_ hn_))⟩)) (below_size yB)); replace HO903 := Aside0.mk (Kd.N_mono (Kd.N_told (Kd.N_told (Kd.N_old (yN HO903.out) hb) (by first | exact Kd.N_base ho0 | exact Kd.S_base ho0)) (Kd.N_base ho1)) (fun _ h_ => h_.1)); replace HO906 := Aside0.mk (Kd.N_mono (Kd.N_told (Kd.N_told (Kd.N_old (yN HO906.out) hb) (by first | exact Kd.N_base ho0 | exact Kd.S_base ho0)) (Kd.N_base ho1)) (fun _ h_ => h_.1)); replace HO909 := Aside0.mk (Kd.N_mono (Kd.N_told (Kd.N_told (Kd.N_old (yN HO909.out) hb) (by first | exact Kd.N_base ho0 | exact Kd.S_base ho0)) (Kd.N_base ho1)) (fun _ h_ => h_.1)); replace BK911 := Aside0.mk (blk_below (g := gb911) yK hb); replace HB := Aside0.mk (below_step yB hb); (try clear hb); (try clear ho0); (try clear ho1)) | ((with_reducible refine gate_dst (N := 5) rfl ?_); refine yX 5 #[.slice none 0 0, .slice none 0 0] 48 ?_; intro gb919 hg w25 hbox hb; replace HO903 := Aside0.mk (Kd.N_below (Kd.N_elderB (yN HO903.out) gb919 (Nat.le_of_eq hg.symm)) hb); replace HO906 := Aside0.mk (Kd.N_below (Kd.N_elderB (yN HO906.out) gb919 (Nat.le_of_eq hg.symm)) hb); replace HO909 := Aside0.mk (Kd.N_below (Kd.N_elderB (yN HO909.out) gb919 (Nat.le_of_eq hg.symm)) hb); replace HO914 := Aside0.mk (Kd.N_below (Kd.N_elderB (yN HO914.out) gb919 (Nat.le_of_eq hg.symm)) hb); replace HO917 := Aside0.mk (Kd.N_below (Kd.N_elderB (yN HO917.out) gb919 (Nat.le_of_eq hg.symm)) hb); have BK919 := Aside0.mk (hbox); have GE919 := Aside0.mk ((yG hg : w.heap.size ≤ gb919)); replace HB := Aside0.mk (below_step yB hb); have NB911_919 := Aside0.mk ((yJ hg yK : gb911 ≠ gb919)); have NB919_911 := Aside0.mk ((yI hg yK : gb919 ≠ gb911)); replace BK911 := Aside0.mk (blk_below (g := gb911) yK hb); clear hb hbox hg; obtain ⟨Ao26, co26, eo26⟩ := Kd.N_slice HO914.out; subst eo26; have hnb27 := NB919_911.out; have hnc27 := NB911_919.out; have hcz28_0 := yZ0 BK919.out; have hcz28_1 := yZ1 BK919.out; have hfz28_0 := blk_frozen BK919.out 0; have hfz28_1 := blk_frozen BK919.out 1; obtain ⟨Ao29, co29, eo29⟩ := Kd.N_slice HO917.out; subst eo29))
   (try simp only [Act.put, List.setIfInBounds_toArray, List.set_cons_zero, List.set_cons_succ])
   go_cut [35] (fun v35 wc => ∃ (kq : Nat) (x35_14 : Bool), v35 = .bool x35_14 ∧ Aside0 (swarflaw43_SubprogramSplit.j1 kq l0 t910 x35_14 t904 t907 = some r) ∧ Aside0 (kq ≤ kj1) ∧ Aside0 (Kd.N k32 32 wc w.heap.size (fun k_ => some k_ ≠ ((.slice Ao22 t907.length co22) : Value).ownBlock ∧ some k_ ≠ ((.slice Ao26 t912.length co26) : Value).ownBlock ∧ some k_ ≠ ((.slice Ao29 t915.length co29) : Value).ownBlock ∧ k_ ≠ gb911 ∧ k_ ≠ gb919) (.slice Ao20 t904.length co20) t904) ∧ Aside0 (Kd.N k81 81 wc w.heap.size (fun k_ => some k_ ≠ ((.slice Ao20 t904.length co20) : Value).ownBlock ∧ some k_ ≠ ((.slice Ao26 t912.length co26) : Value).ownBlock ∧ some k_ ≠ ((.slice Ao29 t915.length co29) : Value).ownBlock ∧ k_ ≠ gb911 ∧ k_ ≠ gb919) (.slice Ao22 t907.length co22) t907) ∧ Aside0 (Kd.N k32 32 wc w.heap.size (fun k_ => some k_ ≠ ((.slice Ao20 t904.length co20) : Value).ownBlock ∧ some k_ ≠ ((.slice Ao22 t907.length co22) : Value).ownBlock ∧ some k_ ≠ ((.slice Ao29 t915.length co29) : Value).ownBlock ∧ k_ ≠ gb911 ∧ k_ ≠ gb919) (.slice Ao26 t912.length co26) t912) ∧ Aside0 (Kd.N k58 58 wc w.heap.size (fun k_ => some k_ ≠ ((.slice Ao20 t904.length co20) : Value).ownBlock ∧ some k_ ≠ ((.slice Ao22 t907.length co22) : Value).ownBlock ∧ some k_ ≠ ((.slice Ao26 t912.length co26) : Value).ownBlock ∧ k_ ≠ gb911 ∧ k_ ≠ gb919) (.slice Ao29 t915.length co29) t915) ∧ Aside0 (wc.heap[gb911]? = some (.cells #[(.slice Ao20 t904.length co20), (.slice Ao22 t907.length co22)] 54 (0, 0))) ∧ Aside0 (wc.heap[gb919]? = some (.cells #[(.slice Ao26 t912.length co26), (.slice Ao29 t915.length co29)] 48 (0, 0))) ∧ Aside0 (Below w.heap.size w wc))
   case first =>
    have H := HC15.out
    clear HC15
    by_cases c30 : t910 = t918
    ·rw [if_pos c30] at H
     have c30b0 : (t910 == t918) = true := beq_iff_eq.mpr c30
     have c30b1 : (t910 != t918) = false := bne_eq_false_iff_eq.mpr c30
     clear c30
     (first | rw [c30b0] | (simp only [i64_w, i32_w]; rw [c30b0]) | skip)
     replace H := Option.bind_eq_some_iff.mp H
     obtain ⟨⟨t920, t923⟩, A310, H⟩ := H
     have A31 := Aside0.mk A310
     clear A310
     replace H := Option.bind_eq_some_iff.mp H
     obtain ⟨t926, A320, H⟩ := H
     have A32 := Aside0.mk A320
     clear A320
     have H' := Aside0.mk H
     clear H
     try go_wp2
     have n0_ : Aside0 (Kd.N k32 32 ((w25.setCell ⟨gb919, 0, none⟩ (.slice Ao26 t912.length co26)).setCell ⟨gb919, 1, none⟩ (.slice Ao29 t915.length co29)) w.heap.size (fun k_ => some k_ ≠ (.slice Ao20 t904.length co20 : Value).ownBlock ∧ some k_ ≠ (.slice Ao22 t907.length co22 : Value).ownBlock ∧ some k_ ≠ (.slice Ao26 t912.length co26 : Value).ownBlock ∧ some k_ ≠ (.slice Ao29 t915.length co29 : Value).ownBlock ∧ k_ ≠ gb911 ∧ k_ ≠ gb919) (.slice Ao17 t901.length co17) t901) := ⟨by refine yN ?_; exact Kd.N_mono (Kd.N_far (p := ⟨gb919, 1, none⟩) (Kd.N_far (p := ⟨gb919, 0, none⟩) (Kd.N_mono HO903.out (fun k_ hk => (⟨hk, hk.2⟩ : _ ∧ k_ ≠ gb919))) (fun _ hk => hk.2) (.slice Ao26 t912.length co26)) (fun _ hk => hk.2) (.slice Ao29 t915.length co29)) (fun _ hk => ⟨hk.1.1.1.1.1, ⟨hk.1.1.1.1.2.1, ⟨hk.1.1.1.2, ⟨hk.1.1.2, ⟨hk.1.1.1.1.2.2, hk.1.2⟩⟩⟩⟩⟩)⟩
     have n1_ : Aside0 (Kd.N k32 32 ((w25.setCell ⟨gb919, 0, none⟩ (.slice Ao26 t912.length co26)).setCell ⟨gb919, 1, none⟩ (.slice Ao29 t915.length co29)) w.heap.size (fun k_ => some k_ ≠ (.slice Ao22 t907.length co22 : Value).ownBlock ∧ some k_ ≠ (.slice Ao26 t912.length co26 : Value).ownBlock ∧ some k_ ≠ (.slice Ao29 t915.length co29 : Value).ownBlock ∧ k_ ≠ gb911 ∧ k_ ≠ gb919) (.slice Ao20 t904.length co20) t904) := ⟨by refine yN ?_; exact Kd.N_mono (Kd.N_far (p := ⟨gb919, 1, none⟩) (Kd.N_far (p := ⟨gb919, 0, none⟩) (Kd.N_mono HO906.out (fun k_ hk => (⟨hk, hk.2⟩ : _ ∧ k_ ≠ gb919))) (fun _ hk => hk.2) (.slice Ao26 t912.length co26)) (fun _ hk => hk.2) (.slice Ao29 t915.length co29)) (fun _ hk => ⟨hk.1.1.1.1.1, ⟨hk.1.1.1.2, ⟨hk.1.1.2, ⟨hk.1.1.1.1.2, hk.1.2⟩⟩⟩⟩)⟩
     have n2_ : Aside0 (Kd.N k81 81 ((w25.setCell ⟨gb919, 0, none⟩ (.slice Ao26 t912.length co26)).setCell ⟨gb919, 1, none⟩ (.slice Ao29 t915.length co29)) w.heap.size (fun k_ => some k_ ≠ (.slice Ao20 t904.length co20 : Value).ownBlock ∧ some k_ ≠ (.slice Ao26 t912.length co26 : Value).ownBlock ∧ some k_ ≠ (.slice Ao29 t915.length co29 : Value).ownBlock ∧ k_ ≠ gb911 ∧ k_ ≠ gb919) (.slice Ao22 t907.length co22) t907) := ⟨by refine yN ?_; exact Kd.N_mono (Kd.N_far (p := ⟨gb919, 1, none⟩) (Kd.N_far (p := ⟨gb919, 0, none⟩) (Kd.N_mono HO909.out (fun k_ hk => (⟨hk, hk.2⟩ : _ ∧ k_ ≠ gb919))) (fun _ hk => hk.2) (.slice Ao26 t912.length co26)) (fun _ hk => hk.2) (.slice Ao29 t915.length co29)) (fun _ hk => ⟨hk.1.1.1.1.1, ⟨hk.1.1.1.2, ⟨hk.1.1.2, ⟨hk.1.1.1.1.2, hk.1.2⟩⟩⟩⟩)⟩
     have n3_ : Aside0 (Kd.N k32 32 ((w25.setCell ⟨gb919, 0, none⟩ (.slice Ao26 t912.length co26)).setCell ⟨gb919, 1, none⟩ (.slice Ao29 t915.length co29)) w.heap.size (fun k_ => some k_ ≠ (.slice Ao17 t901.length co17 : Value).ownBlock ∧ some k_ ≠ (.slice Ao20 t904.length co20 : Value).ownBlock ∧ some k_ ≠ (.slice Ao22 t907.length co22 : Value).ownBlock ∧ some k_ ≠ (.slice Ao29 t915.length co29 : Value).ownBlock ∧ k_ ≠ gb911 ∧ k_ ≠ gb919) (.slice Ao26 t912.length co26) t912) := ⟨by refine yN ?_; exact Kd.N_mono (Kd.N_far (p := ⟨gb919, 1, none⟩) (Kd.N_far (p := ⟨gb919, 0, none⟩) (Kd.N_mono HO914.out (fun k_ hk => (⟨hk, hk.2⟩ : _ ∧ k_ ≠ gb919))) (fun _ hk => hk.2) (.slice Ao26 t912.length co26)) (fun _ hk => hk.2) (.slice Ao29 t915.length co29)) (fun _ hk => ⟨hk.1.1.2.1, ⟨hk.1.1.2.2.1, ⟨hk.1.1.2.2.2.1, ⟨hk.1.1.1, ⟨hk.1.1.2.2.2.2, hk.1.2⟩⟩⟩⟩⟩)⟩
     have n4_ : Aside0 (Kd.N k58 58 ((w25.setCell ⟨gb919, 0, none⟩ (.slice Ao26 t912.length co26)).setCell ⟨gb919, 1, none⟩ (.slice Ao29 t915.length co29)) w.heap.size (fun k_ => some k_ ≠ (.slice Ao17 t901.length co17 : Value).ownBlock ∧ some k_ ≠ (.slice Ao20 t904.length co20 : Value).ownBlock ∧ some k_ ≠ (.slice Ao22 t907.length co22 : Value).ownBlock ∧ some k_ ≠ (.slice Ao26 t912.length co26 : Value).ownBlock ∧ k_ ≠ gb911 ∧ k_ ≠ gb919) (.slice Ao29 t915.length co29) t915) := ⟨by refine yN ?_; exact Kd.N_mono (Kd.N_far (p := ⟨gb919, 1, none⟩) (Kd.N_far (p := ⟨gb919, 0, none⟩) (Kd.N_mono HO917.out (fun k_ hk => (⟨hk, hk.2⟩ : _ ∧ k_ ≠ gb919))) (fun _ hk => hk.2) (.slice Ao26 t912.length co26)) (fun _ hk => hk.2) (.slice Ao29 t915.length co29)) (fun _ hk => ⟨hk.1.1.2.1, ⟨hk.1.1.2.2.1, ⟨hk.1.1.2.2.2.1, ⟨hk.1.1.1, ⟨hk.1.1.2.2.2.2, hk.1.2⟩⟩⟩⟩⟩)⟩
     have n5_ : Aside0 (((w25.setCell ⟨gb919, 0, none⟩ (.slice Ao26 t912.length co26)).setCell ⟨gb919, 1, none⟩ (.slice Ao29 t915.length co29)).heap[gb911]? = some (.cells #[.slice Ao20 t904.length co20, .slice Ao22 t907.length co22] 54 (0, 0))) := ⟨by refine yH ?_; refine blk_far ?_ NB911_919.out _; refine yH ?_; refine blk_far ?_ NB911_919.out _; refine yH ?_; exact BK911.out⟩
     have n6_ : Aside0 (((w25.setCell ⟨gb919, 0, none⟩ (.slice Ao26 t912.length co26)).setCell ⟨gb919, 1, none⟩ (.slice Ao29 t915.length co29)).heap[gb919]? = some (.cells #[.slice Ao26 t912.length co26, .slice Ao29 t915.length co29] 48 (0, 0))) := ⟨by refine yH ?_; refine blk_put (cs := #[.slice Ao26 t912.length co26, .slice none 0 0]) ?_ 1 _ rfl; refine yH ?_; refine blk_put (cs := #[.slice none 0 0, .slice none 0 0]) ?_ 0 _ rfl; refine yH ?_; exact BK919.out⟩
     have n7_ : Aside0 (Below w.heap.size w ((w25.setCell ⟨gb919, 0, none⟩ (.slice Ao26 t912.length co26)).setCell ⟨gb919, 1, none⟩ (.slice Ao29 t915.length co29))) := ⟨yB⟩
     (try clear HO903)
     (try clear HO906)
     (try clear HO909)
     (try clear HO914)
     (try clear HO917)
     (try clear BK911)
     (try clear BK919)
     (try clear HB)
     generalize ((w25.setCell ⟨gb919, 0, none⟩ (.slice Ao26 t912.length co26)).setCell ⟨gb919, 1, none⟩ (.slice Ao29 t915.length co29)) = w33 at n0_ n1_ n2_ n3_ n4_ n5_ n6_ n7_ ⊢
     have HO903 := n0_
     have HO906 := n1_
     have HO909 := n2_
     have HO914 := n3_
     have HO917 := n4_
     have BK911 := n5_
     have BK919 := n6_
     have HB := n7_
     clear n0_ n1_ n2_ n3_ n4_ n5_ n6_ n7_
     replace HO903 := Aside0.mk (Kd.N_drew HO903.out)
     replace HO906 := Aside0.mk (Kd.N_drew HO906.out)
     replace HO909 := Aside0.mk (Kd.N_drew HO909.out)
     replace HO914 := Aside0.mk (Kd.N_drew HO914.out)
     replace HO917 := Aside0.mk (Kd.N_drew HO917.out)
     replace BK911 := Aside0.mk (blk_drew BK911.out)
     replace BK919 := Aside0.mk (blk_drew BK919.out)
     replace HB := Aside0.mk (below_drew1 HB.out)
     refine start_ (n := 10) (S := fun w' => w'.cell? ⟨gb911, 0, none⟩ = some (.slice Ao20 t904.length co20) ∧ w'.cell? ⟨gb911, 1, none⟩ = some (.slice Ao22 t907.length co22) ∧ w'.cell? ⟨gb919, 0, none⟩ = some (.slice Ao26 t912.length co26) ∧ w'.cell? ⟨gb919, 1, none⟩ = some (.slice Ao29 t915.length co29)) (ds := []) #[false, false, false, false, false, false, false, false, false, false] (by kernel_rfl) rfl rfl ⟨(blk_cell BK911.out 0).trans rfl, (blk_cell BK911.out 1).trans rfl, (blk_cell BK919.out 0).trans rfl, (blk_cell BK919.out 1).trans rfl⟩ (fun hHeld => ?_); refine with_tabW swarflaw43_SubprogramSplit.tab5 swarflaw43_SubprogramSplit.bits5 (fun HT_ HW_ => ?_)
     generalize w33.drew = w34 at HO903 HO906 HO909 HO914 HO917 BK911 BK919 HB hHeld ⊢
     refine yp 0 26 ?_
     refine yp 1 27 ?_
     refine yp 2 28 ?_
     refine yp 3 29 ?_
     refine yt 4 30 hHeld ?_
     refine yt 6 32 hHeld ?_
     refine yo 5 (some 31) (fun K hK => ?_)
     refine goes_ Try.func36 (by kernel_rfl) rfl #[.agg #[.slice Ao20 t904.length co20, .slice Ao22 t907.length co22]] (by rfl) rfl rfl yQ ?_
     with_reducible refine (swarflaw43_back.calls kj1 (fun k_ => (some k_ ≠ (.slice Ao22 t907.length co22 : Value).ownBlock ∧ (some k_ ≠ (.slice Ao26 t912.length co26 : Value).ownBlock ∧ (some k_ ≠ (.slice Ao29 t915.length co29 : Value).ownBlock ∧ (k_ ≠ gb911 ∧ k_ ≠ gb919))))) _ _ t904 (fun k_ => (some k_ ≠ (.slice Ao20 t904.length co20 : Value).ownBlock ∧ (some k_ ≠ (.slice Ao26 t912.length co26 : Value).ownBlock ∧ (some k_ ≠ (.slice Ao29 t915.length co29 : Value).ownBlock ∧ (k_ ≠ gb911 ∧ k_ ≠ gb919))))) _ _ t907 t920 t923 _ ?side1 ?side2 A31.out).mono ?_
     (case side1 => exact Kd.N_V (HO906.out))
     (case side2 => exact Kd.N_V (HO909.out))
     rintro e w35 ⟨v921, v924, rfl, ho0, ho1, hb⟩
     refine ⟨_, rfl, ?_⟩
     replace HO903 := Aside0.mk (Kd.N_elder' (yN HO903.out) (Kd.N_base ho1) hb)
     replace HO906 := Aside0.mk (Kd.N_elder' (yN HO906.out) (Kd.N_base ho1) hb)
     replace HO909 := Aside0.mk (Kd.N_elder' (yN HO909.out) (Kd.N_base ho1) hb)
     have HO922 := Aside0.mk (Kd.V_lower (Kd.V_mono (ok' := fun k_ => some k_ ≠ (v924 : Value).ownBlock ∧ some k_ ≠ (.slice Ao26 t912.length co26 : Value).ownBlock ∧ some k_ ≠ (.slice Ao29 t915.length co29 : Value).ownBlock ∧ k_ ≠ gb911 ∧ k_ ≠ gb919) ho0 (fun k_ hk_ => ⟨hk_.2, Or.elim hk_.1 (fun hs_ => Or.elim hs_ (fun hs_ => hs_.2.1) (fun hs_ => hs_.2.1)) (fun hn_ => (Kd.fresh' (Kd.N_lt (yN HO914.out)) k_ hn_)), Or.elim hk_.1 (fun hs_ => Or.elim hs_ (fun hs_ => hs_.2.2.1) (fun hs_ => hs_.2.2.1)) (fun hn_ => (Kd.fresh' (Kd.N_lt (yN HO917.out)) k_ hn_)), Or.elim hk_.1 (fun hs_ => Or.elim hs_ (fun hs_ => hs_.2.2.2.1) (fun hs_ => hs_.2.2.2.1)) (fun hn_ => (Kd.freshB (g := gb911) yK k_ hn_)), Or.elim hk_.1 (fun hs_ => Or.elim hs_ (fun hs_ => hs_.2.2.2.2) (fun hs_ => hs_.2.2.2.2)) (fun hn_ => (Kd.freshB (g := gb919) yK k_ hn_))⟩)) (below_size yB))
     have HO925 := Aside0.mk (Kd.N_lower (Kd.N_mono (ok' := fun k_ => some k_ ≠ (.slice Ao26 t912.length co26 : Value).ownBlock ∧ some k_ ≠ (.slice Ao29 t915.length co29 : Value).ownBlock ∧ k_ ≠ gb911 ∧ k_ ≠ gb919) ho1 (fun k_ hk_ => ⟨Or.elim hk_ (fun hs_ => Or.elim hs_ (fun hs_ => hs_.2.1) (fun hs_ => hs_.2.1)) (fun hn_ => (Kd.fresh' (Kd.N_lt (yN HO914.out)) k_ hn_)), Or.elim hk_ (fun hs_ => Or.elim hs_ (fun hs_ => hs_.2.2.1) (fun hs_ => hs_.2.2.1)) (fun hn_ => (Kd.fresh' (Kd.N_lt (yN HO917.out)) k_ hn_)), Or.elim hk_ (fun hs_ => Or.elim hs_ (fun hs_ => hs_.2.2.2.1) (fun hs_ => hs_.2.2.2.1)) (fun hn_ => (Kd.freshB (g := gb911) yK k_ hn_)), Or.elim hk_ (fun hs_ => Or.elim hs_ (fun hs_ => hs_.2.2.2.2) (fun hs_ => hs_.2.2.2.2)) (fun hn_ => (Kd.freshB (g := gb919) yK k_ hn_))⟩)) (below_size yB))
     replace HO914 := Aside0.mk (Kd.N_elder' (yN HO914.out) (Kd.N_base ho1) hb)
     replace HO917 := Aside0.mk (Kd.N_elder' (yN HO917.out) (Kd.N_base ho1) hb)
     replace BK911 := Aside0.mk (blk_below (g := gb911) yK hb)
     replace BK919 := Aside0.mk (blk_below (g := gb919) yK hb)
     replace HB := Aside0.mk (below_step yB hb)
     (try clear hb)
     (try clear ho0)
     (try clear ho1)
     obtain ⟨Ao36, co36, eo36⟩ := Kd.V_slice HO922.out
     (first | subst eo36 | (injection eo36 with f1_ f2_ f3_; have f4_ := f1_.symm; have f5_ := f3_.symm; clear f1_ f2_ f3_; subst f4_; subst f5_))
     obtain ⟨Ao37, co37, eo37⟩ := Kd.N_slice HO925.out
     (first | subst eo37 | (injection eo37 with f1_ f2_ f3_; have f4_ := f1_.symm; have f5_ := f3_.symm; clear f1_ f2_ f3_; subst f4_; subst f5_))
     refine hK.out _ _ ⟨(blk_cell BK911.out 0).trans rfl, (blk_cell BK911.out 1).trans rfl, (blk_cell BK919.out 0).trans rfl, (blk_cell BK919.out 1).trans rfl⟩ (fun hHeld => ?_)
     clear hK K
     refine yn 31 ?_
     refine yo 7 (some 33) (fun K hK => ?_)
     refine goes_ Try.func35 (by kernel_rfl) rfl #[.agg #[.slice Ao36 t920.length co36, .slice Ao37 t923.length co37], .agg #[.slice Ao26 t912.length co26, .slice Ao29 t915.length co29]] (by rfl) rfl rfl yQ ?_
     with_reducible refine (swarfref43_Same.calls kj1 _ _ t920 _ _ t923 _ _ t912 _ _ t915 t926 _ ?side1 ?side2 ?side3 ?side4 ?side5 ?side6 ?side7 ?side8 A32.out).mono ?_
     (case side1 => repeat (first | exact (Kd.V_reads' HO922.out).2.2 | (with_reducible refine Kd.C_alloc ?_ _) | (with_reducible refine Kd.C_drewN ?_ _) | (with_reducible refine Kd.C_drew ?_)))
     (case side2 => exact (Kd.V_reads' HO922.out).2.1)
     (case side3 => repeat (first | exact (Kd.N_reads' HO925.out).2.2 | (with_reducible refine Kd.C_alloc ?_ _) | (with_reducible refine Kd.C_drewN ?_ _) | (with_reducible refine Kd.C_drew ?_)))
     (case side4 => exact (Kd.N_reads' HO925.out).2.1)
     (case side5 => repeat (first | exact (Kd.N_reads' HO914.out).2.2 | (with_reducible refine Kd.C_alloc ?_ _) | (with_reducible refine Kd.C_drewN ?_ _) | (with_reducible refine Kd.C_drew ?_)))
     (case side6 => exact (Kd.N_reads' HO914.out).2.1)
     (case side7 => repeat (first | exact (Kd.N_reads' HO917.out).2.2 | (with_reducible refine Kd.C_alloc ?_ _) | (with_reducible refine Kd.C_drewN ?_ _) | (with_reducible refine Kd.C_drew ?_)))
     (case side8 => exact (Kd.N_reads' HO917.out).2.1)
     rintro e w38 ⟨rfl, hb⟩
     refine ⟨_, rfl, ?_⟩
     replace HO903 := Aside0.mk (Kd.N_below (yN HO903.out) hb)
     replace HO906 := Aside0.mk (Kd.N_below (yN HO906.out) hb)
     replace HO909 := Aside0.mk (Kd.N_below (yN HO909.out) hb)
     replace HO914 := Aside0.mk (Kd.N_below (yN HO914.out) hb)
     replace HO917 := Aside0.mk (Kd.N_below (yN HO917.out) hb)
     replace HO922 := Aside0.mk (Kd.V_below (yV HO922.out) hb)
     replace HO925 := Aside0.mk (Kd.N_below (yN HO925.out) hb)
     replace BK911 := Aside0.mk (blk_below (g := gb911) yK hb)
     replace BK919 := Aside0.mk (blk_below (g := gb919) yK hb)
     replace HB := Aside0.mk (below_step yB hb)
     (try clear hb)
     refine hK.out _ _ ⟨(blk_cell BK911.out 0).trans rfl, (blk_cell BK911.out 1).trans rfl, (blk_cell BK919.out 0).trans rfl, (blk_cell BK919.out 1).trans rfl⟩ (fun hHeld => ?_)
     clear hK K
     refine yn 33 ?_
     refine yp 8 34 ?_
     refine yp 9 35 ?_
     refine done_ (done_of HT_.out (by kernel_rfl)) ?_
     try go_wp2
     go_meet
     case rel => exact ⟨_, (!t926), yS, H', ⟨by have := HJ1.out; first | omega | exact Nat.le_refl _⟩, ⟨by refine yN ?_; exact Kd.N_mono HO906.out (fun _ hk => ⟨hk.1.1, ⟨hk.1.2.1, ⟨hk.1.2.2.1, ⟨hk.1.2.2.2.1, hk.1.2.2.2.2⟩⟩⟩⟩)⟩, ⟨by refine yN ?_; exact Kd.N_mono HO909.out (fun _ hk => ⟨hk.1.1, ⟨hk.1.2.1, ⟨hk.1.2.2.1, ⟨hk.1.2.2.2.1, hk.1.2.2.2.2⟩⟩⟩⟩)⟩, ⟨by refine yN ?_; exact Kd.N_mono HO914.out (fun _ hk => ⟨hk.1.2.1, ⟨hk.1.2.2.1, ⟨hk.1.2.2.2.1, ⟨hk.1.2.2.2.2.1, hk.1.2.2.2.2.2⟩⟩⟩⟩)⟩, ⟨by refine yN ?_; exact Kd.N_mono HO917.out (fun _ hk => ⟨hk.1.2.1, ⟨hk.1.2.2.1, ⟨hk.1.2.2.2.1, ⟨hk.1.2.2.2.2.1, hk.1.2.2.2.2.2⟩⟩⟩⟩)⟩, ⟨by refine yH ?_; exact BK911.out⟩, ⟨by refine yH ?_; exact BK919.out⟩, ⟨yB⟩⟩
    rw [if_neg c30] at H
    have c30b0 : (t910 == t918) = false := beq_eq_false_iff_ne.mpr c30
    have c30b1 : (t910 != t918) = true := bne_iff_ne.mpr c30
    (first | rw [c30b0] | (simp only [i64_w, i32_w]; rw [c30b0]) | skip)
    have H' := Aside0.mk H
    clear H
    try go_wp2
    have n0_ : Aside0 (Kd.N k32 32 ((w25.setCell ⟨gb919, 0, none⟩ (.slice Ao26 t912.length co26)).setCell ⟨gb919, 1, none⟩ (.slice Ao29 t915.length co29)) w.heap.size (fun k_ => some k_ ≠ (.slice Ao20 t904.length co20 : Value).ownBlock ∧ some k_ ≠ (.slice Ao22 t907.length co22 : Value).ownBlock ∧ some k_ ≠ (.slice Ao26 t912.length co26 : Value).ownBlock ∧ some k_ ≠ (.slice Ao29 t915.length co29 : Value).ownBlock ∧ k_ ≠ gb911 ∧ k_ ≠ gb919) (.slice Ao17 t901.length co17) t901) := ⟨by refine yN ?_; exact Kd.N_mono (Kd.N_far (p := ⟨gb919, 1, none⟩) (Kd.N_far (p := ⟨gb919, 0, none⟩) (Kd.N_mono HO903.out (fun k_ hk => (⟨hk, hk.2⟩ : _ ∧ k_ ≠ gb919))) (fun _ hk => hk.2) (.slice Ao26 t912.length co26)) (fun _ hk => hk.2) (.slice Ao29 t915.length co29)) (fun _ hk => ⟨hk.1.1.1.1.1, ⟨hk.1.1.1.1.2.1, ⟨hk.1.1.1.2, ⟨hk.1.1.2, ⟨hk.1.1.1.1.2.2, hk.1.2⟩⟩⟩⟩⟩)⟩
    have n1_ : Aside0 (Kd.N k32 32 ((w25.setCell ⟨gb919, 0, none⟩ (.slice Ao26 t912.length co26)).setCell ⟨gb919, 1, none⟩ (.slice Ao29 t915.length co29)) w.heap.size (fun k_ => some k_ ≠ (.slice Ao22 t907.length co22 : Value).ownBlock ∧ some k_ ≠ (.slice Ao26 t912.length co26 : Value).ownBlock ∧ some k_ ≠ (.slice Ao29 t915.length co29 : Value).ownBlock ∧ k_ ≠ gb911 ∧ k_ ≠ gb919) (.slice Ao20 t904.length co20) t904) := ⟨by refine yN ?_; exact Kd.N_mono (Kd.N_far (p := ⟨gb919, 1, none⟩) (Kd.N_far (p := ⟨gb919, 0, none⟩) (Kd.N_mono HO906.out (fun k_ hk => (⟨hk, hk.2⟩ : _ ∧ k_ ≠ gb919))) (fun _ hk => hk.2) (.slice Ao26 t912.length co26)) (fun _ hk => hk.2) (.slice Ao29 t915.length co29)) (fun _ hk => ⟨hk.1.1.1.1.1, ⟨hk.1.1.1.2, ⟨hk.1.1.2, ⟨hk.1.1.1.1.2, hk.1.2⟩⟩⟩⟩)⟩
    have n2_ : Aside0 (Kd.N k81 81 ((w25.setCell ⟨gb919, 0, none⟩ (.slice Ao26 t912.length co26)).setCell ⟨gb919, 1, none⟩ (.slice Ao29 t915.length co29)) w.heap.size (fun k_ => some k_ ≠ (.slice Ao20 t904.length co20 : Value).ownBlock ∧ some k_ ≠ (.slice Ao26 t912.length co26 : Value).ownBlock ∧ some k_ ≠ (.slice Ao29 t915.length co29 : Value).ownBlock ∧ k_ ≠ gb911 ∧ k_ ≠ gb919) (.slice Ao22 t907.length co22) t907) := ⟨by refine yN ?_; exact Kd.N_mono (Kd.N_far (p := ⟨gb919, 1, none⟩) (Kd.N_far (p := ⟨gb919, 0, none⟩) (Kd.N_mono HO909.out (fun k_ hk => (⟨hk, hk.2⟩ : _ ∧ k_ ≠ gb919))) (fun _ hk => hk.2) (.slice Ao26 t912.length co26)) (fun _ hk => hk.2) (.slice Ao29 t915.length co29)) (fun _ hk => ⟨hk.1.1.1.1.1, ⟨hk.1.1.1.2, ⟨hk.1.1.2, ⟨hk.1.1.1.1.2, hk.1.2⟩⟩⟩⟩)⟩
    have n3_ : Aside0 (Kd.N k32 32 ((w25.setCell ⟨gb919, 0, none⟩ (.slice Ao26 t912.length co26)).setCell ⟨gb919, 1, none⟩ (.slice Ao29 t915.length co29)) w.heap.size (fun k_ => some k_ ≠ (.slice Ao17 t901.length co17 : Value).ownBlock ∧ some k_ ≠ (.slice Ao20 t904.length co20 : Value).ownBlock ∧ some k_ ≠ (.slice Ao22 t907.length co22 : Value).ownBlock ∧ some k_ ≠ (.slice Ao29 t915.length co29 : Value).ownBlock ∧ k_ ≠ gb911 ∧ k_ ≠ gb919) (.slice Ao26 t912.length co26) t912) := ⟨by refine yN ?_; exact Kd.N_mono (Kd.N_far (p := ⟨gb919, 1, none⟩) (Kd.N_far (p := ⟨gb919, 0, none⟩) (Kd.N_mono HO914.out (fun k_ hk => (⟨hk, hk.2⟩ : _ ∧ k_ ≠ gb919))) (fun _ hk => hk.2) (.slice Ao26 t912.length co26)) (fun _ hk => hk.2) (.slice Ao29 t915.length co29)) (fun _ hk => ⟨hk.1.1.2.1, ⟨hk.1.1.2.2.1, ⟨hk.1.1.2.2.2.1, ⟨hk.1.1.1, ⟨hk.1.1.2.2.2.2, hk.1.2⟩⟩⟩⟩⟩)⟩
    have n4_ : Aside0 (Kd.N k58 58 ((w25.setCell ⟨gb919, 0, none⟩ (.slice Ao26 t912.length co26)).setCell ⟨gb919, 1, none⟩ (.slice Ao29 t915.length co29)) w.heap.size (fun k_ => some k_ ≠ (.slice Ao17 t901.length co17 : Value).ownBlock ∧ some k_ ≠ (.slice Ao20 t904.length co20 : Value).ownBlock ∧ some k_ ≠ (.slice Ao22 t907.length co22 : Value).ownBlock ∧ some k_ ≠ (.slice Ao26 t912.length co26 : Value).ownBlock ∧ k_ ≠ gb911 ∧ k_ ≠ gb919) (.slice Ao29 t915.length co29) t915) := ⟨by refine yN ?_; exact Kd.N_mono (Kd.N_far (p := ⟨gb919, 1, none⟩) (Kd.N_far (p := ⟨gb919, 0, none⟩) (Kd.N_mono HO917.out (fun k_ hk => (⟨hk, hk.2⟩ : _ ∧ k_ ≠ gb919))) (fun _ hk => hk.2) (.slice Ao26 t912.length co26)) (fun _ hk => hk.2) (.slice Ao29 t915.length co29)) (fun _ hk => ⟨hk.1.1.2.1, ⟨hk.1.1.2.2.1, ⟨hk.1.1.2.2.2.1, ⟨hk.1.1.1, ⟨hk.1.1.2.2.2.2, hk.1.2⟩⟩⟩⟩⟩)⟩
    have n5_ : Aside0 (((w25.setCell ⟨gb919, 0, none⟩ (.slice Ao26 t912.length co26)).setCell ⟨gb919, 1, none⟩ (.slice Ao29 t915.length co29)).heap[gb911]? = some (.cells #[.slice Ao20 t904.length co20, .slice Ao22 t907.length co22] 54 (0, 0))) := ⟨by refine yH ?_; refine blk_far ?_ NB911_919.out _; refine yH ?_; refine blk_far ?_ NB911_919.out _; refine yH ?_; exact BK911.out⟩
    have n6_ : Aside0 (((w25.setCell ⟨gb919, 0, none⟩ (.slice Ao26 t912.length co26)).setCell ⟨gb919, 1, none⟩ (.slice Ao29 t915.length co29)).heap[gb919]? = some (.cells #[.slice Ao26 t912.length co26, .slice Ao29 t915.length co29] 48 (0, 0))) := ⟨by refine yH ?_; refine blk_put (cs := #[.slice Ao26 t912.length co26, .slice none 0 0]) ?_ 1 _ rfl; refine yH ?_; refine blk_put (cs := #[.slice none 0 0, .slice none 0 0]) ?_ 0 _ rfl; refine yH ?_; exact BK919.out⟩
    have n7_ : Aside0 (Below w.heap.size w ((w25.setCell ⟨gb919, 0, none⟩ (.slice Ao26 t912.length co26)).setCell ⟨gb919, 1, none⟩ (.slice Ao29 t915.length co29))) := ⟨yB⟩
    (try clear HO903)
    (try clear HO906)
    (try clear HO909)
    (try clear HO914)
    (try clear HO917)
    (try clear BK911)
    (try clear BK919)
    (try clear HB)
    generalize ((w25.setCell ⟨gb919, 0, none⟩ (.slice Ao26 t912.length co26)).setCell ⟨gb919, 1, none⟩ (.slice Ao29 t915.length co29)) = w39 at n0_ n1_ n2_ n3_ n4_ n5_ n6_ n7_ ⊢
    have HO903 := n0_
    have HO906 := n1_
    have HO909 := n2_
    have HO914 := n3_
    have HO917 := n4_
    have BK911 := n5_
    have BK919 := n6_
    have HB := n7_
    clear n0_ n1_ n2_ n3_ n4_ n5_ n6_ n7_
    replace HO903 := Aside0.mk (Kd.N_drew HO903.out)
    replace HO906 := Aside0.mk (Kd.N_drew HO906.out)
    replace HO909 := Aside0.mk (Kd.N_drew HO909.out)
    replace HO914 := Aside0.mk (Kd.N_drew HO914.out)
    replace HO917 := Aside0.mk (Kd.N_drew HO917.out)
    replace BK911 := Aside0.mk (blk_drew BK911.out)
    replace BK919 := Aside0.mk (blk_drew BK919.out)
    replace HB := Aside0.mk (below_drew1 HB.out)
    refine start_ (n := 10) (S := fun w' => True) (ds := []) #[false, false, false, false, false, false, false, false, false, false] (by kernel_rfl) rfl rfl trivial (fun hHeld => ?_); refine with_tabW swarflaw43_SubprogramSplit.tab5 swarflaw43_SubprogramSplit.bits5 (fun HT_ HW_ => ?_)
    generalize w39.drew = w40 at HO903 HO906 HO909 HO914 HO917 BK911 BK919 HB hHeld ⊢
    refine yp 0 26 ?_
    refine yp 1 27 ?_
    refine yp 2 28 ?_
    refine yp 3 29 ?_
    refine yu 4 30 ?_
    refine yu 5 31 ?_
    refine yu 6 32 ?_
    refine yu 7 33 ?_
    refine yu 8 34 ?_
    refine yp 9 35 ?_
    refine done_ (done_of HT_.out (by kernel_rfl)) ?_
    try go_wp2
    go_meet
    case rel => exact ⟨_, (true), yS, H', ⟨by have := HJ1.out; first | omega | exact Nat.le_refl _⟩, ⟨by refine yN ?_; exact HO906.out⟩, ⟨by refine yN ?_; exact HO909.out⟩, ⟨by refine yN ?_; exact Kd.N_mono HO914.out (fun _ hk => ⟨hk.2.1, ⟨hk.2.2.1, ⟨hk.2.2.2.1, ⟨hk.2.2.2.2.1, hk.2.2.2.2.2⟩⟩⟩⟩)⟩, ⟨by refine yN ?_; exact Kd.N_mono HO917.out (fun _ hk => ⟨hk.2.1, ⟨hk.2.2.1, ⟨hk.2.2.2.1, ⟨hk.2.2.2.2.1, hk.2.2.2.2.2⟩⟩⟩⟩)⟩, ⟨by refine yH ?_; exact BK911.out⟩, ⟨by refine yH ?_; exact BK919.out⟩, ⟨yB⟩⟩
   case rest =>
    clear HC15
    try clear c1
    try clear c2
    try clear p2
    try clear c3
    try clear c4
    try clear c9
    try clear c11
    try clear c23
    try clear c27
    try clear c30
    try clear c30b0
    try clear c30b1
    try clear c33
    try clear c35
    try clear c36
    try clear hcz21_0
    try clear hcz21_1
    try clear hcz28_0
    try clear hcz28_1
    try clear hfz21_0
    try clear hfz21_1
    try clear hfz28_0
    try clear hfz28_1
    try clear p2
    obtain ⟨kq, x35_14, rfl, HA, HJ14, HO_912000, HO_912001, HO_920000, HO_920001, BK911, BK919, HB⟩ := hcut
    cases kq with
    | zero => exact absurd HA.out (by simp [swarflaw43_SubprogramSplit.j1])
    | succ kj14 =>
     have H := HA.out
     clear HA
     simp only [swarflaw43_SubprogramSplit.j1] at H
     by_cases c41 : x35_14 = true
     ·subst c41
      rw [if_pos rfl] at H
      exact absurd H (by simp)
     replace c41 := Bool.eq_false_iff.mpr c41
     subst c41
     replace H : (if t910 = 0 then ((subprogram_Join.f kj14 t904 t907).bind fun t927 => ((swarfref41_Same.f kj14 t927 l0).bind fun t930 => (some t930))) else (some true)) = some r := by rw [if_neg (show ¬ (false = true) by decide)] at H; exact H
     by_cases c42 : t910 = 0
     ·rw [if_pos c42] at H
      have c42b0 : (t910 == 0) = true := beq_iff_eq.mpr c42
      have c42b1 : (t910 != 0) = false := bne_eq_false_iff_eq.mpr c42
      clear c42
      replace H := Option.bind_eq_some_iff.mp H
      obtain ⟨t927, A430, H⟩ := H
      have A43 := Aside0.mk A430
      clear A430
      replace H := Option.bind_eq_some_iff.mp H
      obtain ⟨t930, A440, H⟩ := H
      have A44 := Aside0.mk A440
      clear A440
      obtain rfl := Option.some.inj H
      have hnb45 := NB911_919.out
      have hnc45 := NB919_911.out
      have hcz46_0 := yZ0 BK911.out
      have hcz46_1 := yZ1 BK911.out
      have hfz46_0 := blk_frozen BK911.out 0
      have hfz46_1 := blk_frozen BK911.out 1
      go_wp2_with (first | (go_at_call 47; (with_reducible refine (subprogram_Join.calls kj14 (fun k_ => (some k_ ≠ (.slice Ao22 t907.length co22 : Value).ownBlock ∧ (some k_ ≠ (.slice Ao26 t912.length co26 : Value).ownBlock ∧ (some k_ ≠ (.slice Ao29 t915.length co29 : Value).ownBlock ∧ (k_ ≠ gb911 ∧ k_ ≠ gb919))))) _ _ t904 (fun k_ => (some k_ ≠ (.slice Ao20 t904.length co20 : Value).ownBlock ∧ (some k_ ≠ (.slice Ao26 t912.length co26 : Value).ownBlock ∧ (some k_ ≠ (.slice Ao29 t915.length co29 : Value).ownBlock ∧ (k_ ≠ gb911 ∧ k_ ≠ gb919))))) _ _ t907 t927 _ ?side1 ?side2 A43.out).mono ?_); (case side1 => exact Kd.N_V (HO_912000.out)); (case side2 => exact Kd.N_V (HO_912001.out)); rintro e w47 ⟨v928, rfl, ho0, hb⟩; replace HO_912000 := Aside0.mk (Kd.N_elder' (yN HO_912000.out) (by first | exact Kd.N_base ho0 | exact Kd.S_base ho0) hb); replace HO_912001 := Aside0.mk (Kd.N_elder' (yN HO_912001.out) (by first | exact Kd.N_base ho0 | exact Kd.S_base ho0) hb); have HO929 := Aside0.mk (Kd.N_lower (Kd.N_mono (ok' := fun k_ => some k_ ≠ (.slice Ao26 t912.length co26 : Value).ownBlock ∧ some k_ ≠ (.slice Ao29 t915.length co29 : Value).ownBlock ∧ k_ ≠ gb911 ∧ k_ ≠ gb919) ho0 (fun k_ hk_ => ⟨Or.elim hk_ (fun hs_ => Or.elim hs_ (fun hs_ => hs_.2.1) (fun hs_ => hs_.2.1)) (fun hn_ => (Kd.fresh' (Kd.N_lt (yN HO_920000.out)) k_ hn_)), Or.elim hk_ (fun hs_ => Or.elim hs_ (fun hs_ => hs_.2.2.1) (fun hs_ => hs_.2.2.1)) (fun hn_ => (Kd.fresh' (Kd.N_lt (yN HO_920001.out)) k_ hn_)), Or.elim hk_ (fun hs_ => Or.elim hs_ (fun hs_ => hs_.2.2.2.1) (fun hs_ => hs_.2.2.2.1)) (fun hn_ => (Kd.freshB (g := gb911) yK k_ hn_)), Or.elim hk_ (fun hs_ => Or.elim hs_ (fun hs_ => hs_.2.2.2.2) (fun hs_ => hs_.2.2.2.2)) (fun hn_ => (Kd.freshB (g := gb919) yK k_ hn_))⟩)) (below_size yB)); replace HO_920000 := Aside0.mk (Kd.N_elder' (yN HO_920000.out) (by first | exact Kd.N_base ho0 | exact Kd.S_base ho0) hb); replace HO_920001 := Aside0.mk (Kd.N_elder' (yN HO_920001.out) (by first | exact Kd.N_base ho0 | exact Kd.S_base ho0) hb); replace BK911 := Aside0.mk (blk_below (g := gb911) yK hb); replace BK919 := Aside0.mk (blk_below (g := gb919) yK hb); replace HB := Aside0.mk (below_step yB hb); (try clear hb); (try clear ho0); obtain ⟨Ao48, co48, eo48⟩ := Kd.N_slice HO929.out; subst eo48) | (go_at_call 19; (with_reducible refine (swarfref41_Same.calls kj14 _ _ t927 _ _ l0 t930 _ ?side1 ?side2 ?side3 ?side4 A44.out).mono ?_); (case side1 => repeat (first | exact (Kd.N_reads' HO929.out).2.2 | (with_reducible refine Kd.C_alloc ?_ _) | (with_reducible refine Kd.C_drewN ?_ _) | (with_reducible refine Kd.C_drew ?_))); (case side2 => exact (Kd.N_reads' HO929.out).2.1); (case side3 => exact yC HR0.out); (case side4 => exact HC0.out); rintro e w49 ⟨rfl, hb⟩; replace HO_912000 := Aside0.mk (Kd.N_below (yN HO_912000.out) hb); replace HO_912001 := Aside0.mk (Kd.N_below (yN HO_912001.out) hb); replace HO_920000 := Aside0.mk (Kd.N_below (yN HO_920000.out) hb); replace HO_920001 := Aside0.mk (Kd.N_below (yN HO_920001.out) hb); replace HO929 := Aside0.mk (Kd.N_below (yN HO929.out) hb); replace BK911 := Aside0.mk (blk_below (g := gb911) yK hb); replace BK919 := Aside0.mk (blk_below (g := gb919) yK hb); replace HB := Aside0.mk (below_step yB hb); (try clear hb)))
      go_ret
      exact ⟨yE, yB⟩
     rw [if_neg c42] at H
     have c42b0 : (t910 == 0) = false := beq_eq_false_iff_ne.mpr c42
     have c42b1 : (t910 != 0) = true := bne_iff_ne.mpr c42
     obtain rfl := Option.some.inj H
     go_wp2
     go_ret
     exact ⟨yE, yB⟩
end Go.Proofs.Ytehkhbnhmehobaa.P
namespace Go.Proofs.Ytehkhbnhmehobaa.P
open Go.RowKit Go.Proofs.YtehkhbnhmehobaaW.PrintWords Go.Proofs.YtehkhbnhmehobaaW.PrintLast Go.Proofs.YtehkhbnhmehobaaW.PrintMore
set_option linter.unusedVariables false
set_option linter.unusedSimpArgs false
theorem empty_of {b : ByteArray} (h : b.toList = []) : b = ⟨#[]⟩ := data_eq.mp (h.trans (by simp))
theorem only_parts {b : Bk} {a : Int} (h : onlyB b a = true) : ∃ v, b = ⟨false, [⟨a, v⟩], ⟨#[]⟩⟩ ∧ (b.f1.getD 0 ⟨0, 0⟩).f1 = v := by
  obtain ⟨s, f, c⟩ := b
  unfold onlyB at h
  simp only [Bool.and_eq_true, decide_eq_true_eq, Bool.not_eq_true'] at h
  obtain ⟨h1, h2, h3, h4⟩ := h
  match f, h1, h2 with
  | [x], _, h2 =>
    refine ⟨x.f1, ?_, rfl⟩
    have e : x = ⟨a, x.f1⟩ := by
      obtain ⟨x0, x1⟩ := x
      have : x0 = a := h2
      rw [this]
    rw [h3, empty_of h4, ← e]
theorem numB_oB {b : Bk} (hg : goodB b) (h : numB b ≠ 0) : b = oB (numB b) := by
  cases h1 : onlyB b 79 with
  | false => unfold numB at h; rw [h1] at h; exact absurd rfl h
  | true =>
    obtain ⟨v, e, hv⟩ := only_parts h1
    have hn : numB b = wholeR v := by unfold numB; rw [h1, if_pos rfl, hv]
    have hv2 : I64 v := by
      have := hg.i64 ⟨79, v⟩ (by rw [e]; exact List.mem_cons_self)
      exact this
    rw [hn] at h ⊢
    unfold wholeR at h ⊢
    cases h2 : (wholeT v).2 with
    | false => rw [h2] at h; exact absurd rfl h
    | true =>
      rw [if_pos rfl]
      have h3 := tdiv_parts v hv2
      have h4 : Int.tmod v 1000 = 0 ∧ 1 ≤ wrap64 (Int.tdiv v 1000) ∧ wrap64 (Int.tdiv v 1000) ≤ 9999 := by
        unfold wholeT at h2
        exact of_decide_eq_true h2
      have h5 : (wholeT v).1 = Int.tdiv v 1000 := h3.1
      have h6 := Int.mul_tdiv_add_tmod v 1000
      rw [h5]
      rw [h3.1] at h4
      have h7 : wrap64 (1000 * Int.tdiv v 1000) = v := by
        have : 1000 * Int.tdiv v 1000 = v := by omega
        rw [this]
        unfold I64 at hv2
        unfold wrap64
        omega
      unfold oB
      rw [h7]
      exact e
theorem backQ_mB {b : Bk} (h : backQ b = true) : b = mB := by
  unfold backQ at h
  rw [Bool.and_eq_true] at h
  obtain ⟨v, e, hv⟩ := only_parts h.1
  have h2 := h.2
  rw [e] at h2
  simp only [hasS, List.any_cons, List.any_nil, Bool.or_false, Bool.and_eq_true, decide_eq_true_eq] at h2
  rw [e, h2.2]
  rfl
theorem subs_join : ∀ (f : Nat) (rest : List Bk) (s : List Rb), (∀ b ∈ rest, goodB b) → subsS f rest = some s → joinT s = rest
  | 0, [], s, hg, h => by cases h; rfl
  | f + 1, [], s, hg, h => by cases h; rfl
  | 0, b :: l, s, hg, h => by cases h
  | f + 1, b :: l, s, hg, h => by
    rw [subsS] at h
    by_cases h0 : numB b = 0
    · rw [if_pos h0] at h; cases h
    rw [if_neg h0] at h
    obtain ⟨⟨x, r⟩, h1, h2⟩ := Option.bind_eq_some_iff.mp h
    obtain ⟨s1, h3, h4⟩ := Option.map_eq_some_iff.mp h2
    subst h4
    obtain ⟨_, e, he, hl⟩ := body_some l x r h1
    have hr := subs_join f r s1 (fun y hy => hg y (by rw [hl]; simp [hy])) h3
    show oB (numB b) :: (x ++ mB :: joinT s1) = b :: l
    rw [← numB_oB (hg b List.mem_cons_self) h0, ← backQ_mB he, hr, ← hl]
theorem joinT_ge : ∀ (s : List Rb), s.length ≤ (joinT s).length ∧ ∀ x ∈ s, x.f1.length ≤ (joinT s).length ∧ ∀ b ∈ x.f1, b ∈ joinT s
  | [] => ⟨by simp, fun _ h => by cases h⟩
  | x :: s => by
    obtain ⟨h1, h2⟩ := joinT_ge s
    have e : (joinT (x :: s)).length = x.f1.length + (joinT s).length + 2 := by simp [joinT]; omega
    refine ⟨by rw [e]; simp only [List.length_cons]; omega, fun y hy => ?_⟩
    rcases List.mem_cons.mp hy with rfl | hy
    · exact ⟨by rw [e]; omega, fun b hb => by simp [joinT, hb]⟩
    exact ⟨by rw [e]; have := (h2 y hy).1; omega, fun b hb => by have := (h2 y hy).2 b hb; simp [joinT, this]⟩
theorem parse_cases {l : List Bk} (hg : ∀ b ∈ l, goodB b) : ((mainR [] (mainS l)).2.2 ≠ 0 ∧ (mainR [] (mainS l)).1 = [] ∧ (mainR [] (mainS l)).2.1 = []) ∨ ((mainR [] (mainS l)).2.2 = 0 ∧ (mainR [] (mainS l)).1 ++ joinT (mainR [] (mainS l)).2.1 = l) := by
  cases hm : mainS l with
  | none => exact Or.inl ⟨by decide, rfl, rfl⟩
  | some p =>
    obtain ⟨m, r⟩ := p
    obtain ⟨a, e, h1, h2, _⟩ := main_some l m r hm
    have hl : l = m ++ r := by rw [h1, h2]; simp
    show (doneS false ([] ++ m) [] (subsS r.length r)).2.2 ≠ 0 ∧ _ ∨ _
    rw [List.nil_append]
    show ((doneS false m [] (subsS r.length r)).2.2 ≠ 0 ∧ (doneS false m [] (subsS r.length r)).1 = [] ∧ (doneS false m [] (subsS r.length r)).2.1 = []) ∨ ((doneS false m [] (subsS r.length r)).2.2 = 0 ∧ (doneS false m [] (subsS r.length r)).1 ++ joinT (doneS false m [] (subsS r.length r)).2.1 = l)
    cases hs : subsS r.length r with
    | none => exact Or.inl ⟨show (1 : Int) ≠ 0 by decide, rfl, rfl⟩
    | some s =>
      have hj := subs_join r.length r s (fun b hb => hg b (by rw [hl]; exact List.mem_append_right _ hb)) hs
      unfold doneS
      simp only [Bool.false_or, List.nil_append]
      by_cases ht : twiceS [] s = true
      · simp [ht]
      simp only [ht]
      exact Or.inr ⟨rfl, by simp only [Bool.false_eq_true, if_false]; rw [hj, ← hl]⟩
theorem pure_SubprogramSplit (l : List Bk) (hm : l.length ≤ maxLen) (hb : ∀ b ∈ l, okBlock b) : ∃ k, swarflaw43_SubprogramSplit.f k l = some true := by
  refine Ev.get (g := fun k => swarflaw43_SubprogramSplit.f k l) ?_
  unfold swarflaw43_SubprogramSplit.f
  obtain ⟨r, h1, h2⟩ := valid_ev l 60 (by unfold maxLen at hm; omega) hb
  have aw : swarflaw43_awake.f = some true := rfl
  rw [aw]
  refine Ev.bind Ev.some (Ev.pos rfl (Ev.bind h1 (Ev.step (fun k => by rw [swarflaw43_SubprogramSplit.j0]) ?_)))
  cases r with
  | false =>
    refine Ev.pos rfl ?_
    rw [aw]
    exact Ev.bind Ev.some Ev.some
  | true =>
    obtain ⟨hl, hg⟩ := h2 rfl
    refine Ev.neg (by decide) ?_
    have clone : Clone_Block.f l = some l := by unfold Clone_Block.f; rw [if_pos (by omega)]
    rw [clone]
    have hP := parse_cases hg
    have hO := splitO_ev (l := l) (by omega) hg
    have hR := splitR_ev (l := l) (by omega) hg
    generalize mainR [] (mainS l) = P at hP hO hR
    obtain ⟨m, s, e⟩ := P
    have hsz : m.length ≤ 60 ∧ s.length ≤ 60 ∧ (∀ b ∈ m, b ∈ l) ∧ ∀ x ∈ s, x.f1.length ≤ 60 ∧ ∀ b ∈ x.f1, b ∈ l := by
      rcases hP with ⟨_, h3, h4⟩ | ⟨_, h3⟩
      · replace h3 : m = [] := h3
        replace h4 : s = [] := h4
        subst h3 h4
        simp
      replace h3 : m ++ joinT s = l := h3
      have hlen := congrArg List.length h3
      rw [List.length_append] at hlen
      obtain ⟨i1, i2⟩ := joinT_ge s
      exact ⟨by omega, by omega, fun b hb => by rw [← h3]; exact List.mem_append_left _ hb, fun x hx => ⟨by have := (i2 x hx).1; omega, fun b hb => by rw [← h3]; exact List.mem_append_right _ ((i2 x hx).2 b hb)⟩⟩
    refine Ev.bind Ev.some (Ev.bind hO (Ev.bind hR (Ev.pos rfl ?_)))
    refine Ev.bind (back_ev m (s.map sOf) (by rw [List.length_map]; omega)) ?_
    rw [sOf_back]
    refine Ev.bind (SameR_refl m s ⟨by omega, fun b hb => by have := (hg b (hsz.2.2.1 b hb)).len; omega⟩ (by omega) (fun x hx => ⟨by have := (hsz.2.2.2 x hx).1; omega, fun b hb => by have := (hg b ((hsz.2.2.2 x hx).2 b hb)).len; omega⟩)) ?_
    refine Ev.step (fun k => by rw [swarflaw43_SubprogramSplit.j1]) (Ev.neg (by decide) ?_)
    rcases hP with ⟨h3, _⟩ | ⟨h3, h4⟩
    · exact Ev.neg h3 Ev.some
    refine Ev.pos h3 (Ev.bind (joinO_ev m s (by omega) (by omega) (fun x hx => by have := (hsz.2.2.2 x hx).1; omega)) ?_)
    have hsame := Same_f l l (by omega) (fun b hb => by have := (hg b hb).len; omega)
    rw [decide_eq_true rfl] at hsame
    replace h4 : m ++ joinT s = l := h4
    rw [h4]
    exact Ev.bind hsame Ev.some
end Go.Proofs.Ytehkhbnhmehobaa.P
namespace Go.Proofs.Ytehkhbnhmehobaa.subprogramSplit
open Go.ChangeShapes Go.WideShapes Go.ChangeAt Go.RowKit
open Go.ChangeMaps (open_string shut_string)
set_option linter.unusedVariables false
theorem own : ownKnob Try.prog.godebug = none := by kernel_rfl
theorem laidOut : laidOutB Try.prog = true := by kernel_rfl
set_option maxRecDepth 100000 in
theorem lifted (os : Os) (started : os.Started) (H : Type) (enc : TypeId × Value → H) :
    ReturnsInHanded {} Try.checked os 11 .any (Rows.subprogramSplitSpec.pre6 enc Try.prog Try.f11 Rows.subprogramSplitRow.domain false) (Rows.subprogramSplitSpec.post enc Try.prog Try.f11 false true false false) := by
  refine returnsInHanded_of_change_sized (C := Try.checked) own started (by kernel_rfl) Try.func11
    (ChangeSpec.witness6 (enc := enc) (C := Try.checked) false ⟨#[], #[.slice none 0 0], []⟩ 8 (by kernel_rfl) (by kernel_rfl) (by kernel_rfl) (by kernel_rfl)) ?_
  intro W base args ds gs before hval0 hW hcnd hsz0 _
  have hsz : (DataW.weightsEach Try.prog (Try.f11.params.toList ++ Rows.subprogramSplitSpec.plain.varTypes Try.prog) (ds ++ gs)).all (· ≤ reachBytes) = true := hsz0
  have hval : ∀ (j : Nat) t v, Try.f11.params[j]? = some t → args[j]? = some v → Value.okWide Try.prog W .any base t v := hval0
  have hW' := hW
  obtain ⟨p, q, hA0, hV, rfl, hfz, hnd⟩ := hW
  have hA : DataW.TrodAll enc Try.prog W 0 (fun _ => true) true Try.f11.params.toList args.toList ds p := hA0
  rw [Try.params11] at hA hval hsz
  obtain ⟨v0, vs0, d0, ds0, p0, q0, hargs, rfl, rfl, h0, r0⟩ := trodAll_cons hA
  obtain ⟨rfl, rfl, rfl⟩ := trodAll_nil r0
  obtain rfl : args = #[v0] := by cases args; simp_all
  obtain ⟨rfl, rfl⟩ := trodVars_none hV
  have k0 := h0
  have lt0 : ∀ x ∈ p0, x.block < W.heap.size := by obtain ⟨m, hm⟩ := k0; exact DataW.trod_lt m _ _ _ hm
  obtain ⟨b0, A0, c0, rfl, l0, r0_, m0, w0⟩ := P.arg_Blocks (hval 0 35 v0 rfl rfl) h0
  clear hA0 hval0 hsz0 hsz
  obtain ⟨k_, pure_⟩ := P.pure_SubprogramSplit b0 m0 w0
  refine (P.swarflaw43_SubprogramSplit.calls k_ A0 c0 b0 true W r0_ l0 pure_).mono fun e W' ⟨he, bel⟩ => ?_
  subst he
  exact ⟨_, rfl, _, _, _, [], _, [], hW', trodAll_mk1 (shut_bool Try.underlying4 _), (trodAll_cons_mk (Below.trod laidOut (by kernel_rfl) (of_decide_eq_true (by kernel_rfl)) k0 bel lt0) trodAll_mk0), rfl, bel.frame _, fun h => by cases h⟩
theorem over : Rows.subprogramSplitRow.holds Try.pinned (OpenSpec.ofChange Rows.subprogramSplitSpec) :=
  OpenClaim.holds_of_wide 11 Try.f11 rfl rfl rfl rfl rfl rfl rfl ⟨rfl, rfl, rfl, rfl, rfl⟩ rfl rfl rfl rfl rfl (by kernel_rfl) Try.func11 (by kernel_rfl)
    (of_decide_eq_true (by kernel_rfl)) (by unfold Func.isWrapper; first | (rw [if_pos (by decide +kernel)]; kernel_rfl) | (rw [if_neg (by decide +kernel)]; exact ⟨rfl, rfl⟩))
    (fun os started H enc _ => lifted os started H enc)
theorem proved : Rows.SubprogramSplitSaid := over
#print axioms proved
end Go.Proofs.Ytehkhbnhmehobaa.subprogramSplit
namespace Go.Proofs.Ytehkhbnhmehobaa
theorem subprogramSplit_holds : Rows.SubprogramSplitSaid := subprogramSplit.proved
end Go.Proofs.Ytehkhbnhmehobaa
