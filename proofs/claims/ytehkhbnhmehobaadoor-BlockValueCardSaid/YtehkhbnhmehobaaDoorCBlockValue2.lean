/- A part of the proof of BlockValue. -/
import Derived.Deep.QuietTactic
import Derived.BigQuiet
import Derived.WalkKit
import Derived.Lib.QuietBelow
import Derived.Handy
import Derived.BigRegion
import Derived.MapKept
import Derived.KernelRfl
import Derived.Lib.IndexLaws
import Derived.Test.YtehkhbnhmehobaaDoorCBlockValue1
namespace Go.Proofs.YtehkhbnhmehobaaDoor.P
open Go.RowKit Go.Proofs.YtehkhbnhmehobaaDoorW.PrintWords Go.Proofs.YtehkhbnhmehobaaDoorW.PrintLast Go.Proofs.YtehkhbnhmehobaaDoorW.PrintMore
attribute [local go_sem] max2_int min2_int max_two min_two max_three min_three max_four min_four
set_option linter.unusedVariables false
set_option linter.unusedSimpArgs false
def swarflaw41_example.f  : Option (Bool × (List (S65)) × ByteArray) := some (true, (([(⟨78, 10000⟩ : S65), (⟨71, 1000⟩ : S65), (⟨88, 12500⟩ : S65), (⟨89, (-250)⟩ : S65)] : List (S65))), (⟨#[108, 97, 115, 116, 32, 112, 97, 115, 115]⟩ : ByteArray))
set_option maxHeartbeats 8000000 in
set_option maxRecDepth 100000 in
theorem swarflaw41_example.calls  (r1 : Bool) (r2 : List (S65)) (r3 : ByteArray) (w : World) (h : swarflaw41_example.f  = some (r1, r2, r3)) :
  Calls Tryd.prog 30 #[] w fun e w' => ∃ v1_ : Value, e = .returned (.agg #[.bool r1, v1_, .string r3]) ∧ Kd.R k65 65 w' w.heap.size (fun _ => True) v1_ r2 ∧ Below w.heap.size w w' := by
 have hu31 := Tryd.underlying31
 have hu65 := Tryd.underlying65
 have HB := Aside0.mk (Below.refl w.heap.size w)
 have H : (some (true, (([(⟨78, 10000⟩ : S65), (⟨71, 1000⟩ : S65), (⟨88, 12500⟩ : S65), (⟨89, (-250)⟩ : S65)] : List (S65))), (⟨#[108, 97, 115, 116, 32, 112, 97, 115, 115]⟩ : ByteArray))) = some (r1, r2, r3) := h
 clear h
 obtain ⟨y191, hy191⟩ : ∃ y_ : List (S65), y_ = (([(⟨78, 10000⟩ : S65), (⟨71, 1000⟩ : S65), (⟨88, 12500⟩ : S65), (⟨89, (-250)⟩ : S65)] : List (S65))) := ⟨_, rfl⟩
 replace H : (some (true, y191, (⟨#[108, 97, 115, 116, 32, 112, 97, 115, 115]⟩ : ByteArray))) = some (r1, r2, r3) := by first | (rw [hy191]; with_reducible exact H) | (have H2_ := (Option.bind_some _ _).symm.trans H; rw [hy191]; with_reducible exact H2_) | (have H2_ := (Option.bind_some _ _).symm.trans H; with_reducible exact H2_) | with_reducible exact H | (rw [hy191]; exact H) | exact H
 have Ny191 := Aside0.mk hy191
 clear hy191
 simp only [Option.some.injEq, Prod.mk.injEq] at H
 obtain ⟨rfl, rfl, rfl⟩ := H
 go_enter Tryd.func30, Tryd.ntmps30
 go_wp2_with (first | ((with_reducible refine gate_dst (N := 0) rfl ?_); refine yX 0 #[.bool false, .slice none 0 0, .string (⟨#[]⟩ : ByteArray)] 31 ?_; intro gb190 hg w1 hbox hb; have BK190 := Aside0.mk (hbox); have GE190 := Aside0.mk ((yG hg : w.heap.size ≤ gb190)); replace HB := Aside0.mk (below_step yB hb); clear hb hbox hg) | ((with_reducible refine gate_dst (N := 5) rfl ?_); refine Kd.R_lit k65 _ 65 ?hg (N := 5) ?hd (xs := ([(⟨78, 10000⟩ : S65), (⟨71, 1000⟩ : S65), (⟨88, 12500⟩ : S65), (⟨89, (-250)⟩ : S65)] : List (S65))) (inner := [.int .u8 78, .int .i64 10000, .int .u8 71, .int .i64 1000, .int .u8 88, .int .i64 12500, .int .u8 89, .int .i64 (-250)]) (ok := fun _ => True) (okp := fun _ => True) ?hr ?hp (fun _ hk => hk) trivial (Below.refl _ _) (Nat.le_refl _) (by simp) ?_; (case hd => rfl); (case hg => rfl); (case hr => first | (go_simp; done) | (go_simp; rfl)); (case hp => exact (Reps.c2 (show Kd.M k65 _ _ _ (⟨78, 10000⟩ : S65) [.int .u8 78, .int .i64 10000] from (k65_mkM _ _ _ (⟨78, 10000⟩ : S65) )) (Reps.c2 (show Kd.M k65 _ _ _ (⟨71, 1000⟩ : S65) [.int .u8 71, .int .i64 1000] from (k65_mkM _ _ _ (⟨71, 1000⟩ : S65) )) (Reps.c2 (show Kd.M k65 _ _ _ (⟨88, 12500⟩ : S65) [.int .u8 88, .int .i64 12500] from (k65_mkM _ _ _ (⟨88, 12500⟩ : S65) )) (Reps.c2 (show Kd.M k65 _ _ _ (⟨89, (-250)⟩ : S65) [.int .u8 89, .int .i64 (-250)] from (k65_mkM _ _ _ (⟨89, (-250)⟩ : S65) )) (Reps.none _ _)))))); intro v192 w2 ho3 hb hg_ hnew_; clear hg_ hnew_; (first | rw [← Ny191.out] at ho3 | (simp only [Int.reduceToNat] at ho3; rw [← Ny191.out] at ho3)); have HO193 := Aside0.mk (Kd.R_lower ho3 (below_size yB)); replace BK190 := Aside0.mk (blk_below (g := gb190) yK hb); replace HB := Aside0.mk (below_step yB hb); clear hb ho3; obtain ⟨Ao4, co4, eo4⟩ := Kd.R_slice HO193.out; subst eo4; have hcz5_0 := yZ0 BK190.out; have hcz5_1 := yZ1 BK190.out; have hcz5_2 := yZ2 BK190.out; have hfz5_0 := blk_frozen BK190.out 0; have hfz5_1 := blk_frozen BK190.out 1; have hfz5_2 := blk_frozen BK190.out 2))
 refine bodyPost_ret (results_cell_row rfl _ _ gb190 31 #[.bool true, .slice Ao4 y191.length co4, .string (⟨#[108, 97, 115, 116, 32, 112, 97, 115, 115]⟩ : ByteArray)] (0, 0) _ rfl (by refine yH ?_; refine blk_put (cs := #[.bool true, .slice Ao4 y191.length co4, .string (⟨#[]⟩ : ByteArray)]) ?_ 2 _ rfl; refine yH ?_; refine blk_put (cs := #[.bool true, .slice none 0 0, .string (⟨#[]⟩ : ByteArray)]) ?_ 1 _ rfl; refine yH ?_; refine blk_put (cs := #[.bool false, .slice none 0 0, .string (⟨#[]⟩ : ByteArray)]) ?_ 0 _ rfl; refine yH ?_; exact BK190.out) Tryd.underlying31 rfl (by kernel_rfl)) rfl ?_
 exact ⟨_, yE, by refine yR ?_; exact Kd.R_mono (Kd.R_far (p := ⟨gb190, 2, none⟩) (Kd.R_far (p := ⟨gb190, 1, none⟩) (Kd.R_far (p := ⟨gb190, 0, none⟩) (Kd.R_types HO193.out BK190.out (by decide)) (fun _ hk => hk.2) (.bool true)) (fun _ hk => hk.2) (.slice Ao4 y191.length co4)) (fun _ hk => hk.2) (.string (⟨#[108, 97, 115, 116, 32, 112, 97, 115, 115]⟩ : ByteArray))) (fun _ hk => trivial), yB⟩
end Go.Proofs.YtehkhbnhmehobaaDoor.P
namespace Go.Proofs.YtehkhbnhmehobaaDoor.P
open Go.RowKit Go.Proofs.YtehkhbnhmehobaaDoorW.PrintWords Go.Proofs.YtehkhbnhmehobaaDoorW.PrintLast Go.Proofs.YtehkhbnhmehobaaDoorW.PrintMore
set_option linter.unusedVariables false
section
variable {P : Program} {ops : Array Oper} {Q : Exit → Act → World → Prop}
end
end Go.Proofs.YtehkhbnhmehobaaDoor.P
namespace Go.Proofs.YtehkhbnhmehobaaDoor.P
open Go.RowKit Go.Proofs.YtehkhbnhmehobaaDoorW.PrintWords Go.Proofs.YtehkhbnhmehobaaDoorW.PrintLast Go.Proofs.YtehkhbnhmehobaaDoorW.PrintMore
attribute [local go_sem] max2_int min2_int max_two min_two max_three min_three max_four min_four
set_option linter.unusedVariables false
set_option linter.unusedSimpArgs false
def stringslite_HasPrefix.f (a0 : ByteArray) (a1 : ByteArray) : Option (Bool) := if (a0.size : Int) ≥ (a1.size : Int) then (if 0 ≤ (a1.size : Int) then (if (a1.size : Int) ≤ (a0.size : Int) then (some ((a0.extract 0 ((a1.size : Int) : Int).toNat).toList == a1.toList)) else (none)) else (none)) else (some false)
set_option maxHeartbeats 8000000 in
set_option maxRecDepth 100000 in
theorem stringslite_HasPrefix.calls (a0 : ByteArray) (a1 : ByteArray) (r : Bool) (w : World) (h : stringslite_HasPrefix.f a0 a1 = some r) :
  Calls Tryd.prog 71 #[.string a0, .string a1] w fun e w' => e = .returned (.bool r) ∧ Drawn0 w w' := by
 have H : (if (a0.size : Int) ≥ (a1.size : Int) then (if 0 ≤ (a1.size : Int) then (if (a1.size : Int) ≤ (a0.size : Int) then (some ((a0.extract 0 ((a1.size : Int) : Int).toNat).toList == a1.toList)) else (none)) else (none)) else (some false)) = some r := h
 clear h
 by_cases c3 : (a0.size : Int) ≥ (a1.size : Int)
 ·rw [if_pos c3] at H
  have c3b0 := decide_eq_true c3
  have c3b1 : decide (a1.size ≤ a0.size) = true := decide_eq_true (Int.ofNat_le.mp c3)
  clear c3
  by_cases c4 : 0 ≤ (a1.size : Int)
  ·rw [if_pos c4] at H
   have c4b0 := eq_true c4
   have c4b1 := decide_eq_true c4
   clear c4
   by_cases c5 : (a1.size : Int) ≤ (a0.size : Int)
   ·rw [if_pos c5] at H
    have c5b0 := eq_true c5
    have c5b1 := decide_eq_true c5
    clear c5
    obtain rfl := Option.some.inj H
    go_enter Tryd.func71, Tryd.ntmps71
    go_wp2
    go_ret
    exact ⟨by first | rfl | (simp; done) | (simp [*]; done), by repeat (first | exact Drawn0.refl _ | apply Drawn0.step)⟩
   rw [if_neg c5] at H
   exact absurd H (by simp)
  rw [if_neg c4] at H
  exact absurd H (by simp)
 rw [if_neg c3] at H
 have c3b0 := decide_eq_false c3
 have c3b1 : decide (a1.size ≤ a0.size) = false := decide_eq_false (fun h => c3 (Int.ofNat_le.mpr h))
 clear c3
 obtain rfl := Option.some.inj H
 go_enter Tryd.func71, Tryd.ntmps71
 go_wp2
 go_ret
 exact ⟨by first | rfl | (simp; done) | (simp [*]; done), by repeat (first | exact Drawn0.refl _ | apply Drawn0.step)⟩
def stringslite_CutPrefix.f (a0 : ByteArray) (a1 : ByteArray) : Option (ByteArray × Bool) := (stringslite_HasPrefix.f a0 a1).bind fun t148 => (if t148 = true then (if 0 ≤ (a1.size : Int) then (if (a1.size : Int) ≤ (a0.size : Int) then (some (a0.extract ((a1.size : Int) : Int).toNat a0.size, true)) else (none)) else (none)) else (some (a0, false)))
set_option maxHeartbeats 8000000 in
set_option maxRecDepth 100000 in
theorem stringslite_CutPrefix.calls (a0 : ByteArray) (a1 : ByteArray) (r1 : ByteArray) (r2 : Bool) (w : World) (h : stringslite_CutPrefix.f a0 a1 = some (r1, r2)) :
  Calls Tryd.prog 52 #[.string a0, .string a1] w fun e w' => e = .returned (.tuple #[.string r1, .bool r2]) ∧ Drawn0 w w' := by
 have H : ((stringslite_HasPrefix.f a0 a1).bind fun t148 => (if t148 = true then (if 0 ≤ (a1.size : Int) then (if (a1.size : Int) ≤ (a0.size : Int) then (some (a0.extract ((a1.size : Int) : Int).toNat a0.size, true)) else (none)) else (none)) else (some (a0, false)))) = some (r1, r2) := h
 clear h
 replace H := Option.bind_eq_some_iff.mp H
 obtain ⟨t148, A30, H⟩ := H
 have A3 := Aside0.mk A30
 clear A30
 by_cases c4 : t148 = true
 ·subst c4
  rw [if_pos rfl] at H
  by_cases c5 : 0 ≤ (a1.size : Int)
  ·rw [if_pos c5] at H
   have c5b0 := eq_true c5
   have c5b1 := decide_eq_true c5
   clear c5
   by_cases c6 : (a1.size : Int) ≤ (a0.size : Int)
   ·rw [if_pos c6] at H
    have c6b0 := eq_true c6
    have c6b1 := decide_eq_true c6
    clear c6
    simp only [Option.some.injEq, Prod.mk.injEq] at H
    obtain ⟨rfl, rfl⟩ := H
    go_enter Tryd.func52, Tryd.ntmps52
    go_wp2_with (first | ((with_reducible refine gate_callee (f := 71) rfl ?_); refine goesL_ (some 8) rfl rfl Tryd.func71 (by kernel_rfl) rfl #[.string a0, .string a1] rfl yQ ?_; (with_reducible refine (stringslite_HasPrefix.calls a0 a1 true _ A3.out).mono ?_); rintro e w' ⟨rfl, ⟨nd, rfl⟩⟩; refine ⟨_, rfl, ?_⟩))
    go_ret2
    exact ⟨by first | rfl | (simp; done) | (simp [*]; done), by repeat (first | exact Drawn0.refl _ | apply Drawn0.step)⟩
   rw [if_neg c6] at H
   exact absurd H (by simp)
  rw [if_neg c5] at H
  exact absurd H (by simp)
 replace c4 := Bool.eq_false_iff.mpr c4
 subst c4
 replace H : (some (a0, false)) = some (r1, r2) := by rw [if_neg (show ¬ (false = true) by decide)] at H; exact H
 simp only [Option.some.injEq, Prod.mk.injEq] at H
 obtain ⟨rfl, rfl⟩ := H
 go_enter Tryd.func52, Tryd.ntmps52
 go_wp2_with (first | ((with_reducible refine gate_callee (f := 71) rfl ?_); refine goesL_ (some 8) rfl rfl Tryd.func71 (by kernel_rfl) rfl #[.string a0, .string a1] rfl yQ ?_; (with_reducible refine (stringslite_HasPrefix.calls a0 a1 false _ A3.out).mono ?_); rintro e w' ⟨rfl, ⟨nd, rfl⟩⟩; refine ⟨_, rfl, ?_⟩))
 go_ret2
 exact ⟨by first | rfl | (simp; done) | (simp [*]; done), by repeat (first | exact Drawn0.refl _ | apply Drawn0.step)⟩
def strings_CutPrefix.f (a0 : ByteArray) (a1 : ByteArray) : Option (ByteArray × Bool) := (stringslite_CutPrefix.f a0 a1).bind fun bt149 => (some (bt149.1, bt149.2))
set_option maxHeartbeats 8000000 in
set_option maxRecDepth 100000 in
theorem strings_CutPrefix.calls (a0 : ByteArray) (a1 : ByteArray) (r1 : ByteArray) (r2 : Bool) (w : World) (h : strings_CutPrefix.f a0 a1 = some (r1, r2)) :
  Calls Tryd.prog 33 #[.string a0, .string a1] w fun e w' => e = .returned (.tuple #[.string r1, .bool r2]) ∧ Drawn0 w w' := by
 have H : ((stringslite_CutPrefix.f a0 a1).bind fun bt149 => (some (bt149.1, bt149.2))) = some (r1, r2) := h
 clear h
 replace H := Option.bind_eq_some_iff.mp H
 obtain ⟨⟨t149, t150⟩, A30, H⟩ := H
 have A3 := Aside0.mk A30
 clear A30
 simp only [Option.some.injEq, Prod.mk.injEq] at H
 obtain ⟨rfl, rfl⟩ := H
 go_enter Tryd.func33, Tryd.ntmps33
 go_wp2_with (first | ((with_reducible refine gate_callee (f := 52) rfl ?_); refine goesL_ (some 8) rfl rfl Tryd.func52 (by kernel_rfl) rfl #[.string a0, .string a1] rfl yQ ?_; (with_reducible refine (stringslite_CutPrefix.calls a0 a1 t149 t150 _ A3.out).mono ?_); rintro e w' ⟨rfl, ⟨nd, rfl⟩⟩; refine ⟨_, rfl, ?_⟩))
 go_ret2
 exact ⟨by first | rfl | (simp; done) | (simp [*]; done), by repeat (first | exact Drawn0.refl _ | apply Drawn0.step)⟩
def stringslite_Cut.f (a0 : ByteArray) (a1 : ByteArray) : Option (ByteArray × ByteArray × Bool) := (stringslite_Index.f a0 a1).bind fun t153 => (if t153 ≥ 0 then (if 0 ≤ t153 then (if t153 ≤ (a0.size : Int) then (if 0 ≤ (wrap64 (t153 + (a1.size : Int))) then (if (wrap64 (t153 + (a1.size : Int))) ≤ (a0.size : Int) then (some (a0.extract 0 (t153 : Int).toNat, a0.extract ((wrap64 (t153 + (a1.size : Int))) : Int).toNat a0.size, true)) else (none)) else (none)) else (none)) else (none)) else (some (a0, (⟨#[]⟩ : ByteArray), false)))
set_option maxHeartbeats 8000000 in
set_option maxRecDepth 100000 in
theorem stringslite_Cut.calls (a0 : ByteArray) (a1 : ByteArray) (r1 : ByteArray) (r2 : ByteArray) (r3 : Bool) (w : World) (h : stringslite_Cut.f a0 a1 = some (r1, r2, r3)) :
  Calls Tryd.prog 53 #[.string a0, .string a1] w fun e w' => e = .returned (.tuple #[.string r1, .string r2, .bool r3]) ∧ Below w.heap.size w w' := by
 have HB := Aside0.mk (Below.refl w.heap.size w)
 have H : ((stringslite_Index.f a0 a1).bind fun t153 => (if t153 ≥ 0 then (if 0 ≤ t153 then (if t153 ≤ (a0.size : Int) then (if 0 ≤ (wrap64 (t153 + (a1.size : Int))) then (if (wrap64 (t153 + (a1.size : Int))) ≤ (a0.size : Int) then (some (a0.extract 0 (t153 : Int).toNat, a0.extract ((wrap64 (t153 + (a1.size : Int))) : Int).toNat a0.size, true)) else (none)) else (none)) else (none)) else (none)) else (some (a0, (⟨#[]⟩ : ByteArray), false)))) = some (r1, r2, r3) := h
 clear h
 replace H := Option.bind_eq_some_iff.mp H
 obtain ⟨t153, A30, H⟩ := H
 have A3 := Aside0.mk A30
 clear A30
 by_cases c4 : t153 ≥ 0
 ·rw [if_pos c4] at H
  have c4b0 := decide_eq_true c4
  clear c4
  by_cases c5 : 0 ≤ t153
  ·rw [if_pos c5] at H
   have c5b0 := eq_true c5
   have c5b1 := decide_eq_true c5
   clear c5
   by_cases c6 : t153 ≤ (a0.size : Int)
   ·rw [if_pos c6] at H
    have c6b0 := eq_true c6
    have c6b1 := decide_eq_true c6
    clear c6
    obtain ⟨ji7, hji7⟩ : ∃ j_ : Int, (wrap64 (t153 + (a1.size : Int))) = j_ := ⟨_, rfl⟩
    replace H : (if 0 ≤ (ji7) then (if (ji7) ≤ (a0.size : Int) then (some (a0.extract 0 (t153 : Int).toNat, a0.extract ((ji7) : Int).toNat a0.size, true)) else (none)) else (none)) = some (r1, r2, r3) := by first | (rw [hji7] at H; exact H) | (simp only [hji7] at H ⊢; exact H)
    (try rw [hji7] at A3)
    have hji7w : (IntKind.i64.wrap (t153 + (a1.size : Int))) = ji7 := (i64_w _).trans hji7
    by_cases c8 : 0 ≤ (ji7)
    ·rw [if_pos c8] at H
     have c8b0 := eq_true c8
     have c8b1 := decide_eq_true c8
     clear c8
     by_cases c9 : (ji7) ≤ (a0.size : Int)
     ·rw [if_pos c9] at H
      have c9b0 := eq_true c9
      have c9b1 := decide_eq_true c9
      clear c9
      simp only [Option.some.injEq, Prod.mk.injEq] at H
      obtain ⟨rfl, rfl, rfl⟩ := H
      go_enter Tryd.func53, Tryd.ntmps53
      go_wp2_with (first | (go_at_call 72; (with_reducible refine (stringslite_Index.calls a0 a1 t153 _ A3.out).mono ?_); rintro e w10 ⟨rfl, hb⟩; replace HB := Aside0.mk (below_step yB hb); (try clear hb)))
      repeat (go_quiet (first | (go_at_call 72; (with_reducible refine (stringslite_Index.calls a0 a1 t153 _ A3.out).mono ?_); rintro e w10 ⟨rfl, hb⟩; replace HB := Aside0.mk (below_step yB hb); (try clear hb))); try go_wp2_with (first | (go_at_call 72; (with_reducible refine (stringslite_Index.calls a0 a1 t153 _ A3.out).mono ?_); rintro e w10 ⟨rfl, hb⟩; replace HB := Aside0.mk (below_step yB hb); (try clear hb))))
      go_ret3
      exact ⟨by first | rfl | (simp [errW_none, errW_some] <;> rfl) | (simp only [← hji7]; first | rfl | (simp [errW_none, errW_some] <;> rfl)) | (simp [*, errW_none, errW_some] <;> rfl), yB⟩
     rw [if_neg c9] at H
     exact absurd H (by simp)
    rw [if_neg c8] at H
    exact absurd H (by simp)
   rw [if_neg c6] at H
   exact absurd H (by simp)
  rw [if_neg c5] at H
  exact absurd H (by simp)
 rw [if_neg c4] at H
 have c4b0 := decide_eq_false c4
 clear c4
 simp only [Option.some.injEq, Prod.mk.injEq] at H
 obtain ⟨rfl, rfl, rfl⟩ := H
 go_enter Tryd.func53, Tryd.ntmps53
 go_wp2_with (first | (go_at_call 72; (with_reducible refine (stringslite_Index.calls a0 a1 t153 _ A3.out).mono ?_); rintro e w11 ⟨rfl, hb⟩; replace HB := Aside0.mk (below_step yB hb); (try clear hb)))
 repeat (go_quiet (first | (go_at_call 72; (with_reducible refine (stringslite_Index.calls a0 a1 t153 _ A3.out).mono ?_); rintro e w11 ⟨rfl, hb⟩; replace HB := Aside0.mk (below_step yB hb); (try clear hb))); try go_wp2_with (first | (go_at_call 72; (with_reducible refine (stringslite_Index.calls a0 a1 t153 _ A3.out).mono ?_); rintro e w11 ⟨rfl, hb⟩; replace HB := Aside0.mk (below_step yB hb); (try clear hb))))
 go_ret3
 exact ⟨yE, yB⟩
def strings_Cut.f (a0 : ByteArray) (a1 : ByteArray) : Option (ByteArray × ByteArray × Bool) := (stringslite_Cut.f a0 a1).bind fun bt154 => (some (bt154.1, bt154.2.1, bt154.2.2))
set_option maxHeartbeats 8000000 in
set_option maxRecDepth 100000 in
theorem strings_Cut.calls (a0 : ByteArray) (a1 : ByteArray) (r1 : ByteArray) (r2 : ByteArray) (r3 : Bool) (w : World) (h : strings_Cut.f a0 a1 = some (r1, r2, r3)) :
  Calls Tryd.prog 34 #[.string a0, .string a1] w fun e w' => e = .returned (.tuple #[.string r1, .string r2, .bool r3]) ∧ Below w.heap.size w w' := by
 have HB := Aside0.mk (Below.refl w.heap.size w)
 have H : ((stringslite_Cut.f a0 a1).bind fun bt154 => (some (bt154.1, bt154.2.1, bt154.2.2))) = some (r1, r2, r3) := h
 clear h
 replace H := Option.bind_eq_some_iff.mp H
 obtain ⟨⟨t154, t155, t156⟩, A30, H⟩ := H
 have A3 := Aside0.mk A30
 clear A30
 simp only [Option.some.injEq, Prod.mk.injEq] at H
 obtain ⟨rfl, rfl, rfl⟩ := H
 go_enter Tryd.func34, Tryd.ntmps34
 go_wp2_with (first | ((with_reducible refine gate_callee (f := 53) rfl ?_); refine goesL_ (some 9) rfl rfl Tryd.func53 (by kernel_rfl) rfl #[.string a0, .string a1] rfl yQ ?_; (with_reducible refine (stringslite_Cut.calls a0 a1 t154 t155 t156 _ A3.out).mono ?_); rintro e w4 ⟨rfl, hb⟩; refine ⟨_, rfl, ?_⟩; replace HB := Aside0.mk (below_step yB hb); (try clear hb)))
 go_ret3
 exact ⟨yE, yB⟩
def block_digits.f (a0 : ByteArray) : Option (Bool) := if a0.toList = ([] : List UInt8) then (some false) else ((strings_Trim.f a0 (⟨#[48, 49, 50, 51, 52, 53, 54, 55, 56, 57]⟩ : ByteArray)).bind fun t157 => (some (t157.toList == ([] : List UInt8))))
set_option maxHeartbeats 8000000 in
set_option maxRecDepth 100000 in
theorem block_digits.calls (a0 : ByteArray) (r : Bool) (w : World) (h : block_digits.f a0 = some r) :
  Calls Tryd.prog 35 #[.string a0] w fun e w' => e = .returned (.bool r) ∧ Below w.heap.size w w' := by
 have HB := Aside0.mk (Below.refl w.heap.size w)
 have H : (if a0.toList = ([] : List UInt8) then (some false) else ((strings_Trim.f a0 (⟨#[48, 49, 50, 51, 52, 53, 54, 55, 56, 57]⟩ : ByteArray)).bind fun t157 => (some (t157.toList == ([] : List UInt8))))) = some r := h
 clear h
 by_cases c2 : a0.toList = ([] : List UInt8)
 ·rw [if_pos c2] at H
  have c2b0 : (a0.toList == ([] : List UInt8)) = true := beq_iff_eq.mpr c2
  have c2b1 : (a0.toList != ([] : List UInt8)) = false := bne_eq_false_iff_eq.mpr c2
  clear c2
  obtain rfl := Option.some.inj H
  go_enter Tryd.func35, Tryd.ntmps35
  go_wp2
  go_ret
  exact ⟨yE, yB⟩
 rw [if_neg c2] at H
 have c2b0 : (a0.toList == ([] : List UInt8)) = false := beq_eq_false_iff_ne.mpr c2
 have c2b1 : (a0.toList != ([] : List UInt8)) = true := bne_iff_ne.mpr c2
 replace H := Option.bind_eq_some_iff.mp H
 obtain ⟨t157, A30, H⟩ := H
 have A3 := Aside0.mk A30
 clear A30
 obtain rfl := Option.some.inj H
 go_enter Tryd.func35, Tryd.ntmps35
 go_wp2_with (first | (go_at_call 54; (with_reducible refine (strings_Trim.calls a0 (⟨#[48, 49, 50, 51, 52, 53, 54, 55, 56, 57]⟩ : ByteArray) t157 _ A3.out).mono ?_); rintro e w4 ⟨rfl, hb⟩; replace HB := Aside0.mk (below_step yB hb); (try clear hb)))
 go_ret
 exact ⟨yE, yB⟩
def block_Value.j0 : Nat → Bool → ByteArray → ByteArray → Bool → Option (Int × Int)
 | 0, _, _, _, _ => none
 | k + 1, x5, x6, x7, x62 => if x62 = true then (some (0, 2)) else (if (x6.size : Int) > 10 then (some (0, 11)) else (if x6.size + x7.size ≤ 9223372036854775807 then (if 0 ≤ (x7.size : Int) then (if (x7.size : Int) ≤ 3 then (if (x6 ++ x7).size + ((⟨#[48, 48, 48]⟩ : ByteArray).extract ((x7.size : Int) : Int).toNat (⟨#[48, 48, 48]⟩ : ByteArray).size).size ≤ 9223372036854775807 then ((strconv_ParseInt.f ((x6 ++ x7) ++ ((⟨#[48, 48, 48]⟩ : ByteArray).extract ((x7.size : Int) : Int).toNat (⟨#[48, 48, 48]⟩ : ByteArray).size)) 10 64).bind fun bt182 => (if bt182.1 > 1000000000000 then (some (0, 11)) else (if x5 = true then (some (wrap64 (-bt182.1), 0)) else (some (bt182.1, 0))))) else (none)) else (none)) else (none)) else (none)))
def block_Value.f (k : Nat) (a0 : ByteArray) : Option (Int × Int) := (strings_CutPrefix.f a0 (⟨#[45]⟩ : ByteArray)).bind fun bt174 => ((strings_Cut.f bt174.1 (⟨#[46]⟩ : ByteArray)).bind fun bt176 => ((block_digits.f bt176.1).bind fun t179 => (if t179 = true then (if (bt176.1.size : Int) > 1 then (if 0 < (bt176.1.size : Int) then (if (bt bt176.1 0) = 48 then (block_Value.j0 k bt174.2 bt176.1 bt176.2.1 true) else (if bt176.2.2 = true then ((block_digits.f bt176.2.1).bind fun t180 => (if t180 = true then (if (bt176.2.1.size : Int) > 3 then (block_Value.j0 k bt174.2 bt176.1 bt176.2.1 true) else (if 0 ≤ (wrap64 ((bt176.2.1.size : Int) - 1)) then (if (wrap64 ((bt176.2.1.size : Int) - 1)) < (bt176.2.1.size : Int) then (if (bt bt176.2.1 (wrap64 ((bt176.2.1.size : Int) - 1))) = 48 then (block_Value.j0 k bt174.2 bt176.1 bt176.2.1 true) else (if bt174.2 = true then (block_Value.j0 k bt174.2 bt176.1 bt176.2.1 (bt174.1.toList == ([48] : List UInt8))) else (block_Value.j0 k bt174.2 bt176.1 bt176.2.1 false))) else (none)) else (none))) else (block_Value.j0 k bt174.2 bt176.1 bt176.2.1 true))) else (if bt174.2 = true then (block_Value.j0 k bt174.2 bt176.1 bt176.2.1 (bt174.1.toList == ([48] : List UInt8))) else (block_Value.j0 k bt174.2 bt176.1 bt176.2.1 false)))) else (none)) else (if bt176.2.2 = true then ((block_digits.f bt176.2.1).bind fun t181 => (if t181 = true then (if (bt176.2.1.size : Int) > 3 then (block_Value.j0 k bt174.2 bt176.1 bt176.2.1 true) else (if 0 ≤ (wrap64 ((bt176.2.1.size : Int) - 1)) then (if (wrap64 ((bt176.2.1.size : Int) - 1)) < (bt176.2.1.size : Int) then (if (bt bt176.2.1 (wrap64 ((bt176.2.1.size : Int) - 1))) = 48 then (block_Value.j0 k bt174.2 bt176.1 bt176.2.1 true) else (if bt174.2 = true then (block_Value.j0 k bt174.2 bt176.1 bt176.2.1 (bt174.1.toList == ([48] : List UInt8))) else (block_Value.j0 k bt174.2 bt176.1 bt176.2.1 false))) else (none)) else (none))) else (block_Value.j0 k bt174.2 bt176.1 bt176.2.1 true))) else (if bt174.2 = true then (block_Value.j0 k bt174.2 bt176.1 bt176.2.1 (bt174.1.toList == ([48] : List UInt8))) else (block_Value.j0 k bt174.2 bt176.1 bt176.2.1 false)))) else (block_Value.j0 k bt174.2 bt176.1 bt176.2.1 true))))
set_option maxHeartbeats 8000000 in
set_option maxRecDepth 100000 in
theorem block_Value.calls (k : Nat) (a0 : ByteArray) (r1 : Int) (r2 : Int) (w : World) (h : block_Value.f k a0 = some (r1, r2)) :
  Calls Tryd.prog 11 #[.string a0] w fun e w' => e = .returned (.tuple #[.int .i64 r1, .int .i64 r2]) ∧ Below w.heap.size w w' := by
 have HB := Aside0.mk (Below.refl w.heap.size w)
 have H : ((strings_CutPrefix.f a0 (⟨#[45]⟩ : ByteArray)).bind fun bt174 => ((strings_Cut.f bt174.1 (⟨#[46]⟩ : ByteArray)).bind fun bt176 => ((block_digits.f bt176.1).bind fun t179 => (if t179 = true then (if (bt176.1.size : Int) > 1 then (if 0 < (bt176.1.size : Int) then (if (bt bt176.1 0) = 48 then (block_Value.j0 k bt174.2 bt176.1 bt176.2.1 true) else (if bt176.2.2 = true then ((block_digits.f bt176.2.1).bind fun t180 => (if t180 = true then (if (bt176.2.1.size : Int) > 3 then (block_Value.j0 k bt174.2 bt176.1 bt176.2.1 true) else (if 0 ≤ (wrap64 ((bt176.2.1.size : Int) - 1)) then (if (wrap64 ((bt176.2.1.size : Int) - 1)) < (bt176.2.1.size : Int) then (if (bt bt176.2.1 (wrap64 ((bt176.2.1.size : Int) - 1))) = 48 then (block_Value.j0 k bt174.2 bt176.1 bt176.2.1 true) else (if bt174.2 = true then (block_Value.j0 k bt174.2 bt176.1 bt176.2.1 (bt174.1.toList == ([48] : List UInt8))) else (block_Value.j0 k bt174.2 bt176.1 bt176.2.1 false))) else (none)) else (none))) else (block_Value.j0 k bt174.2 bt176.1 bt176.2.1 true))) else (if bt174.2 = true then (block_Value.j0 k bt174.2 bt176.1 bt176.2.1 (bt174.1.toList == ([48] : List UInt8))) else (block_Value.j0 k bt174.2 bt176.1 bt176.2.1 false)))) else (none)) else (if bt176.2.2 = true then ((block_digits.f bt176.2.1).bind fun t181 => (if t181 = true then (if (bt176.2.1.size : Int) > 3 then (block_Value.j0 k bt174.2 bt176.1 bt176.2.1 true) else (if 0 ≤ (wrap64 ((bt176.2.1.size : Int) - 1)) then (if (wrap64 ((bt176.2.1.size : Int) - 1)) < (bt176.2.1.size : Int) then (if (bt bt176.2.1 (wrap64 ((bt176.2.1.size : Int) - 1))) = 48 then (block_Value.j0 k bt174.2 bt176.1 bt176.2.1 true) else (if bt174.2 = true then (block_Value.j0 k bt174.2 bt176.1 bt176.2.1 (bt174.1.toList == ([48] : List UInt8))) else (block_Value.j0 k bt174.2 bt176.1 bt176.2.1 false))) else (none)) else (none))) else (block_Value.j0 k bt174.2 bt176.1 bt176.2.1 true))) else (if bt174.2 = true then (block_Value.j0 k bt174.2 bt176.1 bt176.2.1 (bt174.1.toList == ([48] : List UInt8))) else (block_Value.j0 k bt174.2 bt176.1 bt176.2.1 false)))) else (block_Value.j0 k bt174.2 bt176.1 bt176.2.1 true))))) = some (r1, r2) := h
 clear h
 replace H := Option.bind_eq_some_iff.mp H
 obtain ⟨⟨t174, t175⟩, A20, H⟩ := H
 have A2 := Aside0.mk A20
 clear A20
 replace H := Option.bind_eq_some_iff.mp H
 obtain ⟨⟨t176, t177, t178⟩, A30, H⟩ := H
 have A3 := Aside0.mk A30
 clear A30
 have HC4 := Aside0.mk H
 clear H
 go_enter Tryd.func11, Tryd.ntmps11
 go_upto_region 3 with (first | ((with_reducible refine gate_callee (f := 33) rfl ?_); refine goesL_ (some 13) rfl rfl Tryd.func33 (by kernel_rfl) rfl #[.string a0, .string (⟨#[45]⟩ : ByteArray)] rfl yQ ?_; (with_reducible refine (strings_CutPrefix.calls a0 (⟨#[45]⟩ : ByteArray) t174 t175 _ A2.out).mono ?_); rintro e w' ⟨rfl, ⟨nd, rfl⟩⟩; refine ⟨_, rfl, ?_⟩) | ((with_reducible refine gate_callee (f := 34) rfl ?_); refine goesL_ (some 18) rfl rfl Tryd.func34 (by kernel_rfl) rfl #[.string t174, .string (⟨#[46]⟩ : ByteArray)] rfl yQ ?_; (with_reducible refine (strings_Cut.calls t174 (⟨#[46]⟩ : ByteArray) t176 t177 t178 _ A3.out).mono ?_); rintro e w5 ⟨rfl, hb⟩; refine ⟨_, rfl, ?_⟩; replace HB := Aside0.mk (below_step yB hb); (try clear hb)))
 (try simp only [Act.put, List.setIfInBounds_toArray, List.set_cons_zero, List.set_cons_succ])
 go_cut [62] (fun v62 wc => ∃ (kq : Nat) (x62_3 : Bool), v62 = .bool x62_3 ∧ Aside0 (block_Value.j0 kq t175 t176 t177 x62_3 = some (r1, r2)) ∧ Aside0 (kq ≤ k) ∧ Aside0 (Below w.heap.size w wc))
 case first =>
  have H := HC4.out
  clear HC4
  replace H := Option.bind_eq_some_iff.mp H
  obtain ⟨t179, A60, H⟩ := H
  have A6 := Aside0.mk A60
  clear A60
  by_cases c7 : t179 = true
  ·subst c7
   rw [if_pos rfl] at H
   by_cases c8 : (t176.size : Int) > 1
   ·rw [if_pos c8] at H
    have c8b0 := decide_eq_true c8
    have c8b1 : decide (1 < t176.size) = true := decide_eq_true (by omega)
    clear c8
    (first | rw [c8b0] | (simp only [i64_w, i32_w]; rw [c8b0]) | skip)
    by_cases c9 : 0 < (t176.size : Int)
    ·rw [if_pos c9] at H
     have c9b0 := decide_eq_true c9
     have c9b1 : decide (0 < t176.size) = true := decide_eq_true (by omega)
     clear c9
     by_cases c11 : (bt t176 0) = 48
     ·rw [if_pos c11] at H
      have c11b0 : ((bt t176 0) == 48) = true := beq_iff_eq.mpr c11
      have c11b1 : ((bt t176 0) != 48) = false := bne_eq_false_iff_eq.mpr c11
      clear c11
      have H' := Aside0.mk H
      clear H
      go_wp2_with (first | ((with_reducible refine gate_callee (f := 35) rfl ?_); refine goesL_ (some 23) rfl rfl Tryd.func35 (by kernel_rfl) rfl #[.string t176] rfl yQ ?_; (with_reducible refine (block_digits.calls t176 true _ A6.out).mono ?_); rintro e w12 ⟨rfl, hb⟩; refine ⟨_, rfl, ?_⟩; replace HB := Aside0.mk (below_step yB hb); (try clear hb); have p10 : 0 ≤ (0 : Int) := (by omega); have q10 : 0 < t176.size := (by have : (0 : Int) < (t176.size : Int) := yD; omega); have hx10 : ∀ h : 0 < t176.size, ((t176[0]'h).toNat : Int) = bt t176 0 := bt_at t176 0; clear p10; have qi10 : (0 < (t176.size : Int)) = True := eq_true (yD); replace q10 := eq_true q10))
      go_meet
      case rel => exact ⟨_, (true), yS, H', ⟨by first | omega | exact Nat.le_refl _⟩, ⟨yB⟩⟩
     rw [if_neg c11] at H
     have c11b0 : ((bt t176 0) == 48) = false := beq_eq_false_iff_ne.mpr c11
     have c11b1 : ((bt t176 0) != 48) = true := bne_iff_ne.mpr c11
     by_cases c13 : t178 = true
     ·subst c13
      rw [if_pos rfl] at H
      replace H := Option.bind_eq_some_iff.mp H
      obtain ⟨t180, A140, H⟩ := H
      have A14 := Aside0.mk A140
      clear A140
      by_cases c15 : t180 = true
      ·subst c15
       rw [if_pos rfl] at H
       by_cases c16 : (t177.size : Int) > 3
       ·rw [if_pos c16] at H
        have c16b0 := decide_eq_true c16
        have c16b1 : decide (3 < t177.size) = true := decide_eq_true (by omega)
        clear c16
        have H' := Aside0.mk H
        clear H
        go_wp2_with (first | ((with_reducible refine gate_callee (f := 35) rfl ?_); refine goesL_ (some 23) rfl rfl Tryd.func35 (by kernel_rfl) rfl #[.string t176] rfl yQ ?_; (with_reducible refine (block_digits.calls t176 true _ A6.out).mono ?_); rintro e w17 ⟨rfl, hb⟩; refine ⟨_, rfl, ?_⟩; replace HB := Aside0.mk (below_step yB hb); (try clear hb); have p10 : 0 ≤ (0 : Int) := (by omega); have q10 : 0 < t176.size := (by have : (0 : Int) < (t176.size : Int) := yD; omega); have hx10 : ∀ h : 0 < t176.size, ((t176[0]'h).toNat : Int) = bt t176 0 := bt_at t176 0; clear p10; have qi10 : (0 < (t176.size : Int)) = True := eq_true (yD); replace q10 := eq_true q10) | (go_at_call 35; (with_reducible refine (block_digits.calls t177 true _ A14.out).mono ?_); rintro e w18 ⟨rfl, hb⟩; replace HB := Aside0.mk (below_step yB hb); (try clear hb)))
        go_meet
        case rel => exact ⟨_, (true), yS, H', ⟨by first | omega | exact Nat.le_refl _⟩, ⟨yB⟩⟩
       rw [if_neg c16] at H
       have c16b0 := decide_eq_false c16
       have c16b1 : decide (3 < t177.size) = false := decide_eq_false (by omega)
       clear c16
       obtain ⟨ji19, hji19⟩ : ∃ j_ : Int, (wrap64 ((t177.size : Int) - 1)) = j_ := ⟨_, rfl⟩
       replace H : (if 0 ≤ (ji19) then (if (ji19) < (t177.size : Int) then (if (bt t177 (ji19)) = 48 then (block_Value.j0 k t175 t176 t177 true) else (if t175 = true then (block_Value.j0 k t175 t176 t177 (t174.toList == ([48] : List UInt8))) else (block_Value.j0 k t175 t176 t177 false))) else (none)) else (none)) = some (r1, r2) := by first | (rw [hji19] at H; exact H) | (simp only [hji19] at H ⊢; exact H)
       (try rw [hji19] at A6)
       (try rw [hji19] at A14)
       have hji19w : (IntKind.i64.wrap ((t177.size : Int) - 1)) = ji19 := (i64_w _).trans hji19
       by_cases c20 : 0 ≤ (ji19)
       ·rw [if_pos c20] at H
        have c20b0 := decide_eq_true c20
        clear c20
        by_cases c21 : (ji19) < (t177.size : Int)
        ·rw [if_pos c21] at H
         have c21b0 := decide_eq_true c21
         clear c21
         by_cases c23 : (bt t177 (ji19)) = 48
         ·rw [if_pos c23] at H
          have c23b0 : ((bt t177 (ji19)) == 48) = true := beq_iff_eq.mpr c23
          have c23b1 : ((bt t177 (ji19)) != 48) = false := bne_eq_false_iff_eq.mpr c23
          clear c23
          have H' := Aside0.mk H
          clear H
          go_wp2_with (first | ((with_reducible refine gate_callee (f := 35) rfl ?_); refine goesL_ (some 23) rfl rfl Tryd.func35 (by kernel_rfl) rfl #[.string t176] rfl yQ ?_; (with_reducible refine (block_digits.calls t176 true _ A6.out).mono ?_); rintro e w24 ⟨rfl, hb⟩; refine ⟨_, rfl, ?_⟩; replace HB := Aside0.mk (below_step yB hb); (try clear hb); have p10 : 0 ≤ (0 : Int) := (by omega); have q10 : 0 < t176.size := (by have : (0 : Int) < (t176.size : Int) := yD; omega); have hx10 : ∀ h : 0 < t176.size, ((t176[0]'h).toNat : Int) = bt t176 0 := bt_at t176 0; clear p10; have qi10 : (0 < (t176.size : Int)) = True := eq_true (yD); replace q10 := eq_true q10) | (go_at_call 35; (with_reducible refine (block_digits.calls t177 true _ A14.out).mono ?_); rintro e w25 ⟨rfl, hb⟩; replace HB := Aside0.mk (below_step yB hb); (try clear hb); have p22 : 0 ≤ ((ji19) : Int) := yD; have q22 : (ji19) < (t177.size : Int) := yD; have hx22 := bt_at t177 (ji19); replace p22 := eq_true p22; replace q22 := eq_true q22))
          go_meet
          case rel => exact ⟨_, (true), yS, H', ⟨by first | omega | exact Nat.le_refl _⟩, ⟨yB⟩⟩
         rw [if_neg c23] at H
         have c23b0 : ((bt t177 (ji19)) == 48) = false := beq_eq_false_iff_ne.mpr c23
         have c23b1 : ((bt t177 (ji19)) != 48) = true := bne_iff_ne.mpr c23
         by_cases c26 : t175 = true
         ·subst c26
          rw [if_pos rfl] at H
          have H' := Aside0.mk H
          clear H
          go_wp2_with (first | ((with_reducible refine gate_callee (f := 35) rfl ?_); refine goesL_ (some 23) rfl rfl Tryd.func35 (by kernel_rfl) rfl #[.string t176] rfl yQ ?_; (with_reducible refine (block_digits.calls t176 true _ A6.out).mono ?_); rintro e w27 ⟨rfl, hb⟩; refine ⟨_, rfl, ?_⟩; replace HB := Aside0.mk (below_step yB hb); (try clear hb); have p10 : 0 ≤ (0 : Int) := (by omega); have q10 : 0 < t176.size := (by have : (0 : Int) < (t176.size : Int) := yD; omega); have hx10 : ∀ h : 0 < t176.size, ((t176[0]'h).toNat : Int) = bt t176 0 := bt_at t176 0; clear p10; have qi10 : (0 < (t176.size : Int)) = True := eq_true (yD); replace q10 := eq_true q10) | (go_at_call 35; (with_reducible refine (block_digits.calls t177 true _ A14.out).mono ?_); rintro e w28 ⟨rfl, hb⟩; replace HB := Aside0.mk (below_step yB hb); (try clear hb); have p22 : 0 ≤ ((ji19) : Int) := yD; have q22 : (ji19) < (t177.size : Int) := yD; have hx22 := bt_at t177 (ji19); replace p22 := eq_true p22; replace q22 := eq_true q22))
          go_meet
          case rel => exact ⟨_, ((t174.toList == ([48] : List UInt8))), yS, H', ⟨by first | omega | exact Nat.le_refl _⟩, ⟨yB⟩⟩
         replace c26 := Bool.eq_false_iff.mpr c26
         subst c26
         replace H : (block_Value.j0 k false t176 t177 false) = some (r1, r2) := by rw [if_neg (show ¬ (false = true) by decide)] at H; exact H
         have H' := Aside0.mk H
         clear H
         go_wp2_with (first | ((with_reducible refine gate_callee (f := 35) rfl ?_); refine goesL_ (some 23) rfl rfl Tryd.func35 (by kernel_rfl) rfl #[.string t176] rfl yQ ?_; (with_reducible refine (block_digits.calls t176 true _ A6.out).mono ?_); rintro e w29 ⟨rfl, hb⟩; refine ⟨_, rfl, ?_⟩; replace HB := Aside0.mk (below_step yB hb); (try clear hb); have p10 : 0 ≤ (0 : Int) := (by omega); have q10 : 0 < t176.size := (by have : (0 : Int) < (t176.size : Int) := yD; omega); have hx10 : ∀ h : 0 < t176.size, ((t176[0]'h).toNat : Int) = bt t176 0 := bt_at t176 0; clear p10; have qi10 : (0 < (t176.size : Int)) = True := eq_true (yD); replace q10 := eq_true q10) | (go_at_call 35; (with_reducible refine (block_digits.calls t177 true _ A14.out).mono ?_); rintro e w30 ⟨rfl, hb⟩; replace HB := Aside0.mk (below_step yB hb); (try clear hb); have p22 : 0 ≤ ((ji19) : Int) := yD; have q22 : (ji19) < (t177.size : Int) := yD; have hx22 := bt_at t177 (ji19); replace p22 := eq_true p22; replace q22 := eq_true q22))
         go_meet
         case rel => exact ⟨_, (false), yS, H', ⟨by first | omega | exact Nat.le_refl _⟩, ⟨yB⟩⟩
        rw [if_neg c21] at H
        exact absurd H (by simp)
       rw [if_neg c20] at H
       exact absurd H (by simp)
      replace c15 := Bool.eq_false_iff.mpr c15
      subst c15
      replace H : (block_Value.j0 k t175 t176 t177 true) = some (r1, r2) := by rw [if_neg (show ¬ (false = true) by decide)] at H; exact H
      have H' := Aside0.mk H
      clear H
      go_wp2_with (first | ((with_reducible refine gate_callee (f := 35) rfl ?_); refine goesL_ (some 23) rfl rfl Tryd.func35 (by kernel_rfl) rfl #[.string t176] rfl yQ ?_; (with_reducible refine (block_digits.calls t176 true _ A6.out).mono ?_); rintro e w31 ⟨rfl, hb⟩; refine ⟨_, rfl, ?_⟩; replace HB := Aside0.mk (below_step yB hb); (try clear hb); have p10 : 0 ≤ (0 : Int) := (by omega); have q10 : 0 < t176.size := (by have : (0 : Int) < (t176.size : Int) := yD; omega); have hx10 : ∀ h : 0 < t176.size, ((t176[0]'h).toNat : Int) = bt t176 0 := bt_at t176 0; clear p10; have qi10 : (0 < (t176.size : Int)) = True := eq_true (yD); replace q10 := eq_true q10) | (go_at_call 35; (with_reducible refine (block_digits.calls t177 false _ A14.out).mono ?_); rintro e w32 ⟨rfl, hb⟩; replace HB := Aside0.mk (below_step yB hb); (try clear hb)))
      go_meet
      case rel => exact ⟨_, (true), yS, H', ⟨by first | omega | exact Nat.le_refl _⟩, ⟨yB⟩⟩
     replace c13 := Bool.eq_false_iff.mpr c13
     subst c13
     replace H : (if t175 = true then (block_Value.j0 k t175 t176 t177 (t174.toList == ([48] : List UInt8))) else (block_Value.j0 k t175 t176 t177 false)) = some (r1, r2) := by rw [if_neg (show ¬ (false = true) by decide)] at H; exact H
     by_cases c33 : t175 = true
     ·subst c33
      rw [if_pos rfl] at H
      have H' := Aside0.mk H
      clear H
      go_wp2_with (first | ((with_reducible refine gate_callee (f := 35) rfl ?_); refine goesL_ (some 23) rfl rfl Tryd.func35 (by kernel_rfl) rfl #[.string t176] rfl yQ ?_; (with_reducible refine (block_digits.calls t176 true _ A6.out).mono ?_); rintro e w34 ⟨rfl, hb⟩; refine ⟨_, rfl, ?_⟩; replace HB := Aside0.mk (below_step yB hb); (try clear hb); have p10 : 0 ≤ (0 : Int) := (by omega); have q10 : 0 < t176.size := (by have : (0 : Int) < (t176.size : Int) := yD; omega); have hx10 : ∀ h : 0 < t176.size, ((t176[0]'h).toNat : Int) = bt t176 0 := bt_at t176 0; clear p10; have qi10 : (0 < (t176.size : Int)) = True := eq_true (yD); replace q10 := eq_true q10))
      go_meet
      case rel => exact ⟨_, ((t174.toList == ([48] : List UInt8))), yS, H', ⟨by first | omega | exact Nat.le_refl _⟩, ⟨yB⟩⟩
     replace c33 := Bool.eq_false_iff.mpr c33
     subst c33
     replace H : (block_Value.j0 k false t176 t177 false) = some (r1, r2) := by rw [if_neg (show ¬ (false = true) by decide)] at H; exact H
     have H' := Aside0.mk H
     clear H
     go_wp2_with (first | ((with_reducible refine gate_callee (f := 35) rfl ?_); refine goesL_ (some 23) rfl rfl Tryd.func35 (by kernel_rfl) rfl #[.string t176] rfl yQ ?_; (with_reducible refine (block_digits.calls t176 true _ A6.out).mono ?_); rintro e w35 ⟨rfl, hb⟩; refine ⟨_, rfl, ?_⟩; replace HB := Aside0.mk (below_step yB hb); (try clear hb); have p10 : 0 ≤ (0 : Int) := (by omega); have q10 : 0 < t176.size := (by have : (0 : Int) < (t176.size : Int) := yD; omega); have hx10 : ∀ h : 0 < t176.size, ((t176[0]'h).toNat : Int) = bt t176 0 := bt_at t176 0; clear p10; have qi10 : (0 < (t176.size : Int)) = True := eq_true (yD); replace q10 := eq_true q10))
     go_meet
     case rel => exact ⟨_, (false), yS, H', ⟨by first | omega | exact Nat.le_refl _⟩, ⟨yB⟩⟩
    rw [if_neg c9] at H
    exact absurd H (by simp)
   rw [if_neg c8] at H
   have c8b0 := decide_eq_false c8
   have c8b1 : decide (1 < t176.size) = false := decide_eq_false (by omega)
   clear c8
   (first | rw [c8b0] | (simp only [i64_w, i32_w]; rw [c8b0]) | skip)
   by_cases c36 : t178 = true
   ·subst c36
    rw [if_pos rfl] at H
    replace H := Option.bind_eq_some_iff.mp H
    obtain ⟨t181, A370, H⟩ := H
    have A37 := Aside0.mk A370
    clear A370
    by_cases c38 : t181 = true
    ·subst c38
     rw [if_pos rfl] at H
     by_cases c39 : (t177.size : Int) > 3
     ·rw [if_pos c39] at H
      have c39b0 := decide_eq_true c39
      have c39b1 : decide (3 < t177.size) = true := decide_eq_true (by omega)
      clear c39
      have H' := Aside0.mk H
      clear H
      go_wp2_with (first | ((with_reducible refine gate_callee (f := 35) rfl ?_); refine goesL_ (some 23) rfl rfl Tryd.func35 (by kernel_rfl) rfl #[.string t176] rfl yQ ?_; (with_reducible refine (block_digits.calls t176 true _ A6.out).mono ?_); rintro e w40 ⟨rfl, hb⟩; refine ⟨_, rfl, ?_⟩; replace HB := Aside0.mk (below_step yB hb); (try clear hb)) | (go_at_call 35; (with_reducible refine (block_digits.calls t177 true _ A37.out).mono ?_); rintro e w41 ⟨rfl, hb⟩; replace HB := Aside0.mk (below_step yB hb); (try clear hb)))
      go_meet
      case rel => exact ⟨_, (true), yS, H', ⟨by first | omega | exact Nat.le_refl _⟩, ⟨yB⟩⟩
     rw [if_neg c39] at H
     have c39b0 := decide_eq_false c39
     have c39b1 : decide (3 < t177.size) = false := decide_eq_false (by omega)
     clear c39
     obtain ⟨ji42, hji42⟩ : ∃ j_ : Int, (wrap64 ((t177.size : Int) - 1)) = j_ := ⟨_, rfl⟩
     replace H : (if 0 ≤ (ji42) then (if (ji42) < (t177.size : Int) then (if (bt t177 (ji42)) = 48 then (block_Value.j0 k t175 t176 t177 true) else (if t175 = true then (block_Value.j0 k t175 t176 t177 (t174.toList == ([48] : List UInt8))) else (block_Value.j0 k t175 t176 t177 false))) else (none)) else (none)) = some (r1, r2) := by first | (rw [hji42] at H; exact H) | (simp only [hji42] at H ⊢; exact H)
     (try rw [hji42] at A6)
     (try rw [hji42] at A37)
     have hji42w : (IntKind.i64.wrap ((t177.size : Int) - 1)) = ji42 := (i64_w _).trans hji42
     by_cases c43 : 0 ≤ (ji42)
     ·rw [if_pos c43] at H
      have c43b0 := decide_eq_true c43
      clear c43
      by_cases c44 : (ji42) < (t177.size : Int)
      ·rw [if_pos c44] at H
       have c44b0 := decide_eq_true c44
       clear c44
       by_cases c46 : (bt t177 (ji42)) = 48
       ·rw [if_pos c46] at H
        have c46b0 : ((bt t177 (ji42)) == 48) = true := beq_iff_eq.mpr c46
        have c46b1 : ((bt t177 (ji42)) != 48) = false := bne_eq_false_iff_eq.mpr c46
        clear c46
        have H' := Aside0.mk H
        clear H
        go_wp2_with (first | ((with_reducible refine gate_callee (f := 35) rfl ?_); refine goesL_ (some 23) rfl rfl Tryd.func35 (by kernel_rfl) rfl #[.string t176] rfl yQ ?_; (with_reducible refine (block_digits.calls t176 true _ A6.out).mono ?_); rintro e w47 ⟨rfl, hb⟩; refine ⟨_, rfl, ?_⟩; replace HB := Aside0.mk (below_step yB hb); (try clear hb)) | (go_at_call 35; (with_reducible refine (block_digits.calls t177 true _ A37.out).mono ?_); rintro e w48 ⟨rfl, hb⟩; replace HB := Aside0.mk (below_step yB hb); (try clear hb); have p45 : 0 ≤ ((ji42) : Int) := yD; have q45 : (ji42) < (t177.size : Int) := yD; have hx45 := bt_at t177 (ji42); replace p45 := eq_true p45; replace q45 := eq_true q45))
        go_meet
        case rel => exact ⟨_, (true), yS, H', ⟨by first | omega | exact Nat.le_refl _⟩, ⟨yB⟩⟩
       rw [if_neg c46] at H
       have c46b0 : ((bt t177 (ji42)) == 48) = false := beq_eq_false_iff_ne.mpr c46
       have c46b1 : ((bt t177 (ji42)) != 48) = true := bne_iff_ne.mpr c46
       by_cases c49 : t175 = true
       ·subst c49
        rw [if_pos rfl] at H
        have H' := Aside0.mk H
        clear H
        go_wp2_with (first | ((with_reducible refine gate_callee (f := 35) rfl ?_); refine goesL_ (some 23) rfl rfl Tryd.func35 (by kernel_rfl) rfl #[.string t176] rfl yQ ?_; (with_reducible refine (block_digits.calls t176 true _ A6.out).mono ?_); rintro e w50 ⟨rfl, hb⟩; refine ⟨_, rfl, ?_⟩; replace HB := Aside0.mk (below_step yB hb); (try clear hb)) | (go_at_call 35; (with_reducible refine (block_digits.calls t177 true _ A37.out).mono ?_); rintro e w51 ⟨rfl, hb⟩; replace HB := Aside0.mk (below_step yB hb); (try clear hb); have p45 : 0 ≤ ((ji42) : Int) := yD; have q45 : (ji42) < (t177.size : Int) := yD; have hx45 := bt_at t177 (ji42); replace p45 := eq_true p45; replace q45 := eq_true q45))
        go_meet
        case rel => exact ⟨_, ((t174.toList == ([48] : List UInt8))), yS, H', ⟨by first | omega | exact Nat.le_refl _⟩, ⟨yB⟩⟩
       replace c49 := Bool.eq_false_iff.mpr c49
       subst c49
       replace H : (block_Value.j0 k false t176 t177 false) = some (r1, r2) := by rw [if_neg (show ¬ (false = true) by decide)] at H; exact H
       have H' := Aside0.mk H
       clear H
       go_wp2_with (first | ((with_reducible refine gate_callee (f := 35) rfl ?_); refine goesL_ (some 23) rfl rfl Tryd.func35 (by kernel_rfl) rfl #[.string t176] rfl yQ ?_; (with_reducible refine (block_digits.calls t176 true _ A6.out).mono ?_); rintro e w52 ⟨rfl, hb⟩; refine ⟨_, rfl, ?_⟩; replace HB := Aside0.mk (below_step yB hb); (try clear hb)) | (go_at_call 35; (with_reducible refine (block_digits.calls t177 true _ A37.out).mono ?_); rintro e w53 ⟨rfl, hb⟩; replace HB := Aside0.mk (below_step yB hb); (try clear hb); have p45 : 0 ≤ ((ji42) : Int) := yD; have q45 : (ji42) < (t177.size : Int) := yD; have hx45 := bt_at t177 (ji42); replace p45 := eq_true p45; replace q45 := eq_true q45))
       go_meet
       case rel => exact ⟨_, (false), yS, H', ⟨by first | omega | exact Nat.le_refl _⟩, ⟨yB⟩⟩
      rw [if_neg c44] at H
      exact absurd H (by simp)
     rw [if_neg c43] at H
     exact absurd H (by simp)
    replace c38 := Bool.eq_false_iff.mpr c38
    subst c38
    replace H : (block_Value.j0 k t175 t176 t177 true) = some (r1, r2) := by rw [if_neg (show ¬ (false = true) by decide)] at H; exact H
    have H' := Aside0.mk H
    clear H
    go_wp2_with (first | ((with_reducible refine gate_callee (f := 35) rfl ?_); refine goesL_ (some 23) rfl rfl Tryd.func35 (by kernel_rfl) rfl #[.string t176] rfl yQ ?_; (with_reducible refine (block_digits.calls t176 true _ A6.out).mono ?_); rintro e w54 ⟨rfl, hb⟩; refine ⟨_, rfl, ?_⟩; replace HB := Aside0.mk (below_step yB hb); (try clear hb)) | (go_at_call 35; (with_reducible refine (block_digits.calls t177 false _ A37.out).mono ?_); rintro e w55 ⟨rfl, hb⟩; replace HB := Aside0.mk (below_step yB hb); (try clear hb)))
    go_meet
    case rel => exact ⟨_, (true), yS, H', ⟨by first | omega | exact Nat.le_refl _⟩, ⟨yB⟩⟩
   replace c36 := Bool.eq_false_iff.mpr c36
   subst c36
   replace H : (if t175 = true then (block_Value.j0 k t175 t176 t177 (t174.toList == ([48] : List UInt8))) else (block_Value.j0 k t175 t176 t177 false)) = some (r1, r2) := by rw [if_neg (show ¬ (false = true) by decide)] at H; exact H
   by_cases c56 : t175 = true
   ·subst c56
    rw [if_pos rfl] at H
    have H' := Aside0.mk H
    clear H
    go_wp2_with (first | ((with_reducible refine gate_callee (f := 35) rfl ?_); refine goesL_ (some 23) rfl rfl Tryd.func35 (by kernel_rfl) rfl #[.string t176] rfl yQ ?_; (with_reducible refine (block_digits.calls t176 true _ A6.out).mono ?_); rintro e w57 ⟨rfl, hb⟩; refine ⟨_, rfl, ?_⟩; replace HB := Aside0.mk (below_step yB hb); (try clear hb)))
    go_meet
    case rel => exact ⟨_, ((t174.toList == ([48] : List UInt8))), yS, H', ⟨by first | omega | exact Nat.le_refl _⟩, ⟨yB⟩⟩
   replace c56 := Bool.eq_false_iff.mpr c56
   subst c56
   replace H : (block_Value.j0 k false t176 t177 false) = some (r1, r2) := by rw [if_neg (show ¬ (false = true) by decide)] at H; exact H
   have H' := Aside0.mk H
   clear H
   go_wp2_with (first | ((with_reducible refine gate_callee (f := 35) rfl ?_); refine goesL_ (some 23) rfl rfl Tryd.func35 (by kernel_rfl) rfl #[.string t176] rfl yQ ?_; (with_reducible refine (block_digits.calls t176 true _ A6.out).mono ?_); rintro e w58 ⟨rfl, hb⟩; refine ⟨_, rfl, ?_⟩; replace HB := Aside0.mk (below_step yB hb); (try clear hb)))
   go_meet
   case rel => exact ⟨_, (false), yS, H', ⟨by first | omega | exact Nat.le_refl _⟩, ⟨yB⟩⟩
  replace c7 := Bool.eq_false_iff.mpr c7
  subst c7
  replace H : (block_Value.j0 k t175 t176 t177 true) = some (r1, r2) := by rw [if_neg (show ¬ (false = true) by decide)] at H; exact H
  have H' := Aside0.mk H
  clear H
  go_wp2_with (first | ((with_reducible refine gate_callee (f := 35) rfl ?_); refine goesL_ (some 23) rfl rfl Tryd.func35 (by kernel_rfl) rfl #[.string t176] rfl yQ ?_; (with_reducible refine (block_digits.calls t176 false _ A6.out).mono ?_); rintro e w59 ⟨rfl, hb⟩; refine ⟨_, rfl, ?_⟩; replace HB := Aside0.mk (below_step yB hb); (try clear hb)))
  go_meet
  case rel => exact ⟨_, (true), yS, H', ⟨by first | omega | exact Nat.le_refl _⟩, ⟨yB⟩⟩
 case rest =>
  clear HC4
  try clear c1
  try clear p1
  try clear q1
  try clear hx1
  try clear qi1
  try clear c2
  try clear p2
  try clear q2
  try clear hx2
  try clear c3
  try clear c4
  try clear p4
  try clear q4
  try clear hx4
  try clear c5
  try clear p6
  try clear c7
  try clear c8
  try clear c8b0
  try clear c8b1
  try clear c9
  try clear c9b0
  try clear c9b1
  try clear p10
  try clear q10
  try clear hx10
  try clear qi10
  try clear c11
  try clear c11b0
  try clear c11b1
  try clear c13
  try clear c15
  try clear c16
  try clear c16b0
  try clear c16b1
  try clear c20
  try clear c20b0
  try clear c21
  try clear c21b0
  try clear p22
  try clear q22
  try clear hx22
  try clear c23
  try clear c23b0
  try clear c23b1
  try clear c26
  try clear c33
  try clear c34
  try clear c35
  try clear c36
  try clear c38
  try clear c39
  try clear c39b0
  try clear c39b1
  try clear c43
  try clear c43b0
  try clear c44
  try clear c44b0
  try clear p45
  try clear q45
  try clear hx45
  try clear c46
  try clear c46b0
  try clear c46b1
  try clear c49
  try clear c56
  try clear p10
  try clear p22
  try clear p45
  try clear q10
  try clear q22
  try clear q45
  obtain ⟨kq, x62_3, rfl, HA, HJ3, HB⟩ := hcut
  cases kq with
  | zero => exact absurd HA.out (by simp [block_Value.j0])
  | succ kj3 =>
   have H := HA.out
   clear HA
   simp only [block_Value.j0] at H
   by_cases c60 : x62_3 = true
   ·subst c60
    rw [if_pos rfl] at H
    simp only [Option.some.injEq, Prod.mk.injEq] at H
    obtain ⟨rfl, rfl⟩ := H
    go_wp2
    go_ret2
    exact ⟨yE, yB⟩
   replace c60 := Bool.eq_false_iff.mpr c60
   subst c60
   replace H : (if (t176.size : Int) > 10 then (some (0, 11)) else (if t176.size + t177.size ≤ 9223372036854775807 then (if 0 ≤ (t177.size : Int) then (if (t177.size : Int) ≤ 3 then (if (t176 ++ t177).size + ((⟨#[48, 48, 48]⟩ : ByteArray).extract ((t177.size : Int) : Int).toNat (⟨#[48, 48, 48]⟩ : ByteArray).size).size ≤ 9223372036854775807 then ((strconv_ParseInt.f ((t176 ++ t177) ++ ((⟨#[48, 48, 48]⟩ : ByteArray).extract ((t177.size : Int) : Int).toNat (⟨#[48, 48, 48]⟩ : ByteArray).size)) 10 64).bind fun bt182 => (if bt182.1 > 1000000000000 then (some (0, 11)) else (if t175 = true then (some (wrap64 (-bt182.1), 0)) else (some (bt182.1, 0))))) else (none)) else (none)) else (none)) else (none))) = some (r1, r2) := by rw [if_neg (show ¬ (false = true) by decide)] at H; exact H
   by_cases c61 : (t176.size : Int) > 10
   ·rw [if_pos c61] at H
    have c61b0 := decide_eq_true c61
    have c61b1 : decide (10 < t176.size) = true := decide_eq_true (by omega)
    clear c61
    simp only [Option.some.injEq, Prod.mk.injEq] at H
    obtain ⟨rfl, rfl⟩ := H
    go_wp2
    go_ret2
    exact ⟨yE, yB⟩
   rw [if_neg c61] at H
   have c61b0 := decide_eq_false c61
   have c61b1 : decide (10 < t176.size) = false := decide_eq_false (by omega)
   clear c61
   by_cases c62 : t176.size + t177.size ≤ 9223372036854775807
   ·rw [if_pos c62] at H
    have c62b0 := eq_true c62
    have c62b1 := decide_eq_true c62
    try have c62b2 : (9223372036854775807 < t176.size + t177.size) = False := eq_false (Nat.not_lt.2 c62)
    by_cases c63 : 0 ≤ (t177.size : Int)
    ·rw [if_pos c63] at H
     have c63b0 := eq_true c63
     have c63b1 := decide_eq_true c63
     clear c63
     by_cases c64 : (t177.size : Int) ≤ 3
     ·rw [if_pos c64] at H
      have c64b0 := eq_true c64
      have c64b1 := decide_eq_true c64
      clear c64
      by_cases c65 : (t176 ++ t177).size + ((⟨#[48, 48, 48]⟩ : ByteArray).extract ((t177.size : Int) : Int).toNat (⟨#[48, 48, 48]⟩ : ByteArray).size).size ≤ 9223372036854775807
      ·rw [if_pos c65] at H
       have c65b0 := eq_true c65
       have c65b1 := decide_eq_true c65
       try have c65b2 : (9223372036854775807 < (t176 ++ t177).size + ((⟨#[48, 48, 48]⟩ : ByteArray).extract ((t177.size : Int) : Int).toNat (⟨#[48, 48, 48]⟩ : ByteArray).size).size) = False := eq_false (Nat.not_lt.2 c65)
       have c65b3 : (9223372036854775807 < t176.size + t177.size + (3 - t177.size)) = False := eq_false (by have h_ := Nat.not_lt.2 c65; simp at h_; have e_ : (⟨#[48, 48, 48]⟩ : ByteArray).size = 3 := rfl; rw [e_] at h_; omega)
       replace H := Option.bind_eq_some_iff.mp H
       obtain ⟨⟨t182, t183⟩, A660, H⟩ := H
       have A66 := Aside0.mk A660
       clear A660
       by_cases c67 : t182 > 1000000000000
       ·rw [if_pos c67] at H
        have c67b0 := decide_eq_true c67
        clear c67
        simp only [Option.some.injEq, Prod.mk.injEq] at H
        obtain ⟨rfl, rfl⟩ := H
        go_wp2_with (first | ((with_reducible refine gate_callee (f := 36) rfl ?_); refine goesL_ (some 74) rfl rfl Tryd.func36 (by kernel_rfl) rfl #[.string ((t176 ++ t177) ++ ((⟨#[48, 48, 48]⟩ : ByteArray).extract ((t177.size : Int) : Int).toNat (⟨#[48, 48, 48]⟩ : ByteArray).size)), .int .i64 10, .int .i64 64] rfl yQ ?_; (with_reducible refine (strconv_ParseInt.calls ((t176 ++ t177) ++ ((⟨#[48, 48, 48]⟩ : ByteArray).extract ((t177.size : Int) : Int).toNat (⟨#[48, 48, 48]⟩ : ByteArray).size)) 10 64 t182 t183 _ A66.out).mono ?_); rintro e w68 ⟨rfl, hb⟩; refine ⟨_, rfl, ?_⟩; replace HB := Aside0.mk (below_step yB hb); (try clear hb); (try simp only [errW_none, errW_some])))
        go_ret2
        exact ⟨yE, yB⟩
       rw [if_neg c67] at H
       have c67b0 := decide_eq_false c67
       clear c67
       by_cases c69 : t175 = true
       ·subst c69
        rw [if_pos rfl] at H
        simp only [Option.some.injEq, Prod.mk.injEq] at H
        obtain ⟨rfl, rfl⟩ := H
        go_wp2_with (first | ((with_reducible refine gate_callee (f := 36) rfl ?_); refine goesL_ (some 74) rfl rfl Tryd.func36 (by kernel_rfl) rfl #[.string ((t176 ++ t177) ++ ((⟨#[48, 48, 48]⟩ : ByteArray).extract ((t177.size : Int) : Int).toNat (⟨#[48, 48, 48]⟩ : ByteArray).size)), .int .i64 10, .int .i64 64] rfl yQ ?_; (with_reducible refine (strconv_ParseInt.calls ((t176 ++ t177) ++ ((⟨#[48, 48, 48]⟩ : ByteArray).extract ((t177.size : Int) : Int).toNat (⟨#[48, 48, 48]⟩ : ByteArray).size)) 10 64 t182 t183 _ A66.out).mono ?_); rintro e w70 ⟨rfl, hb⟩; refine ⟨_, rfl, ?_⟩; replace HB := Aside0.mk (below_step yB hb); (try clear hb); (try simp only [errW_none, errW_some])))
        go_ret2
        exact ⟨yE, yB⟩
       replace c69 := Bool.eq_false_iff.mpr c69
       subst c69
       replace H : (some (t182, 0)) = some (r1, r2) := by rw [if_neg (show ¬ (false = true) by decide)] at H; exact H
       simp only [Option.some.injEq, Prod.mk.injEq] at H
       obtain ⟨rfl, rfl⟩ := H
       go_wp2_with (first | ((with_reducible refine gate_callee (f := 36) rfl ?_); refine goesL_ (some 74) rfl rfl Tryd.func36 (by kernel_rfl) rfl #[.string ((t176 ++ t177) ++ ((⟨#[48, 48, 48]⟩ : ByteArray).extract ((t177.size : Int) : Int).toNat (⟨#[48, 48, 48]⟩ : ByteArray).size)), .int .i64 10, .int .i64 64] rfl yQ ?_; (with_reducible refine (strconv_ParseInt.calls ((t176 ++ t177) ++ ((⟨#[48, 48, 48]⟩ : ByteArray).extract ((t177.size : Int) : Int).toNat (⟨#[48, 48, 48]⟩ : ByteArray).size)) 10 64 t182 t183 _ A66.out).mono ?_); rintro e w71 ⟨rfl, hb⟩; refine ⟨_, rfl, ?_⟩; replace HB := Aside0.mk (below_step yB hb); (try clear hb); (try simp only [errW_none, errW_some])))
       go_ret2
       exact ⟨yE, yB⟩
      rw [if_neg c65] at H
      exact absurd H (by simp)
     rw [if_neg c64] at H
     exact absurd H (by simp)
    rw [if_neg c63] at H
    exact absurd H (by simp)
   rw [if_neg c62] at H
   exact absurd H (by simp)
end Go.Proofs.YtehkhbnhmehobaaDoor.P
namespace Go.Proofs.YtehkhbnhmehobaaDoor.P
open Go.RowKit Go.Proofs.YtehkhbnhmehobaaDoorW.PrintWords Go.Proofs.YtehkhbnhmehobaaDoorW.PrintLast Go.Proofs.YtehkhbnhmehobaaDoorW.PrintMore
set_option linter.unusedVariables false
def PIs (W : World) (g : Nat) (s : ByteArray) (at_ : Int) (sk : Bool) (v : Value) (cm : ByteArray) : Prop := W.heap[g]? = some (.cells #[.string s, .int .i64 at_, .bool sk, v, .string cm] 71 (0, 0))
section
variable {g : Nat} {s cm : ByteArray} {at_ : Int} {sk : Bool} {v : Value} {w : World}
theorem PIs.cells (h : PIs w g s at_ sk v cm) : w.cell? ⟨g, 0, none⟩ = some (.string s) ∧ w.cell? ⟨g, 1, none⟩ = some (.int .i64 at_) ∧ w.cell? ⟨g, 2, none⟩ = some (.bool sk) ∧ w.cell? ⟨g, 3, none⟩ = some v ∧ w.cell? ⟨g, 4, none⟩ = some (.string cm) :=
  ⟨(blk_cell h 0).trans rfl, (blk_cell h 1).trans rfl, (blk_cell h 2).trans rfl, (blk_cell h 3).trans rfl, (blk_cell h 4).trans rfl⟩
theorem PIs.drewN (h : PIs w g s at_ sk v cm) (n : Nat) : PIs (w.drewN n) g s at_ sk v cm := blk_drewN h n
set_option maxRecDepth 100000 in
theorem end_calls (h : PIs w g s at_ sk v cm) (b : Bool) (hb : (at_ == (s.size : Int)) = b) : Calls Tryd.prog 61 #[.pointer (some ⟨g, 0, none⟩)] w fun e w' => e = .returned (.bool b) ∧ ∃ n, w' = w.drewN n := by
  obtain ⟨hc0, hc1, _, _, _⟩ := h.cells
  clear h
  go_enter Tryd.func61, Tryd.ntmps61
  go_wp2
  go_quiet (fail)
  go_wp2
  go_ret
  exact ⟨rfl, _, rfl⟩
set_option maxRecDepth 100000 in
theorem skip_end (c : Int) (h : PIs w g s at_ sk v cm) (he : at_ = (s.size : Int)) : Calls Tryd.prog 60 #[.pointer (some ⟨g, 0, none⟩), .int .u8 c] w fun e w' => e = .returned (.bool false) ∧ ∃ n, w' = w.drewN n := by
  obtain ⟨hc0, hc1, _, _, _⟩ := h.cells
  have H := Aside0.mk h
  have HE := Aside0.mk he
  clear h he
  go_enter Tryd.func60, Tryd.ntmps60
  go_wp2
  go_quiet ((go_at_call 61; exact Calls.quiet_of (end_calls (H.out.drewN _) true (by simp [HE.out]))))
  go_wp2
  go_ret
  exact ⟨rfl, _, rfl⟩
set_option maxRecDepth 100000 in
theorem skip_other (c : Int) (h : PIs w g s at_ sk v cm) (h0 : 0 ≤ at_) (h1 : at_ < (s.size : Int)) (hne : ¬ bt s at_ = c) : Calls Tryd.prog 60 #[.pointer (some ⟨g, 0, none⟩), .int .u8 c] w fun e w' => e = .returned (.bool false) ∧ ∃ n, w' = w.drewN n := by
  obtain ⟨hc0, hc1, _, _, _⟩ := h.cells
  have H := Aside0.mk h
  have hx := bt_at s at_
  have p := eq_true h0
  have q := eq_true h1
  have hn1 : (bt s at_ != c) = true := bne_iff_ne.mpr hne
  have HN := Aside0.mk (show (at_ == (s.size : Int)) = false from by simp; omega)
  clear h h0 h1 hne
  go_enter Tryd.func60, Tryd.ntmps60
  go_wp2
  go_quiet ((go_at_call 61; exact Calls.quiet_of (end_calls (H.out.drewN _) false HN.out)))
  go_wp2
  go_ret
  exact ⟨rfl, _, rfl⟩
set_option maxRecDepth 100000 in
theorem skip_yes {W0 : World} (hB : Below W0.heap.size W0 w) (hge : W0.heap.size ≤ g) (c : Int) (h : PIs w g s at_ sk v cm) (h0 : 0 ≤ at_) (h1 : at_ < (s.size : Int)) (h2 : s.size ≤ 9223372036854775807) (he : bt s at_ = c) : Calls Tryd.prog 60 #[.pointer (some ⟨g, 0, none⟩), .int .u8 c] w fun e w' => e = .returned (.bool true) ∧ PIs w' g s (at_ + 1) sk v cm ∧ KeepBut w w' g none ∧ Below W0.heap.size W0 w' := by
  obtain ⟨hc0, hc1, _, _, _⟩ := h.cells
  have hf1 := blk_frozen h 1
  have H := Aside0.mk h
  have hx := bt_at s at_
  have p := eq_true h0
  have q := eq_true h1
  have hn1 : (bt s at_ != c) = false := bne_eq_false_iff_eq.mpr he
  have HN := Aside0.mk (show (at_ == (s.size : Int)) = false from by simp; omega)
  have hw : IntKind.i64.wrap (at_ + 1) = at_ + 1 := (i64_w _).trans (by unfold wrap64; omega)
  have HBL := Aside0.mk hB
  have HGE := Aside0.mk hge
  clear h h0 h1 he hB hge
  go_enter Tryd.func60, Tryd.ntmps60
  go_wp2
  go_quiet ((go_at_call 61; exact Calls.quiet_of (end_calls (H.out.drewN _) false HN.out)))
  go_wp2
  go_ret
  exact ⟨rfl, blk_drewN (blk_set H.out 1 _) _, keep_drewN ((KeepBut.refl w g none).set_ 1 _) _, pw_below_drewN (below_set HBL.out HGE.out) _⟩
end
def prB (c : Int) : Bool := decide (c ≥ 32) && (decide (c ≤ 126) && (c != 40 && c != 41))
theorem printable_eq (c : Int) : block_printable.f c = some (prB c) := by
  unfold block_printable.f prB
  by_cases h1 : c ≥ 32
  · rw [if_pos h1, decide_eq_true h1, Bool.true_and]
    by_cases h2 : c ≤ 126
    · rw [if_pos h2, decide_eq_true h2, Bool.true_and]
      by_cases h3 : c = 40
      · rw [if_pos h3, h3]; rfl
      rw [if_neg h3, bne_iff_ne.mpr h3, Bool.true_and]
    rw [if_neg h2, decide_eq_false h2]; rfl
  rw [if_neg h1, decide_eq_false h1]; rfl
theorem printable_q {c : Int} {b : Bool} (h : block_printable.f c = some b) (w : World) : Calls Tryd.prog 41 #[.int .u8 c] w fun e w' => e = .returned (.bool b) ∧ ∃ n, w' = w.drewN n :=
  (block_printable.calls c b w h).mono fun e w' ⟨he, hd⟩ => ⟨he, by obtain ⟨m, rfl⟩ := hd; exact ⟨m, rfl⟩⟩
def scanI (s : ByteArray) : Nat → Int → Int
  | 0, i => i
  | n + 1, i => if i < (s.size : Int) ∧ prB (bt s i) = true then scanI s n (i + 1) else i
def scanJ (s : ByteArray) (i : Int) : Int := scanI s ((s.size : Int) - i).toNat i
def cmtF (s : ByteArray) (at_ J : Int) (cm : ByteArray) : Int × Int × ByteArray :=
  if J - (at_ + 1) > 100 then (3, at_, cm) else if J = at_ + 1 then (2, J, cm) else if J < (s.size : Int) ∧ bt s J = 41 then (if J + 1 = (s.size : Int) then (0, J + 1, s.extract (at_ + 1).toNat J.toNat) else (2, J + 1, s.extract (at_ + 1).toNat J.toNat)) else (2, J, cm)
def CmtPost (W0 w : World) (g : Nat) (s : ByteArray) (at_ : Int) (sk : Bool) (v : Value) (cm : ByteArray) (e : Ending) (w' : World) : Prop := ∃ r, r = cmtF s at_ (scanJ s (at_ + 1)) cm ∧ e = .returned (.int .i64 r.1) ∧ PIs w' g s r.2.1 sk v r.2.2 ∧ KeepBut w w' g none ∧ Below W0.heap.size W0 w'
theorem extract_nil {s : ByteArray} {a b : Nat} (h : (s.extract a b).toList = []) (hb : b ≤ s.size) : b ≤ a := by
  have h1 : (s.extract a b).size = 0 := by
    rw [← data_length, ← ByteArray.toList_eq]
    rw [h]; rfl
  rw [ByteArray.size_extract] at h1
  omega
theorem extract_ne {s : ByteArray} {a b : Nat} (h : ¬ (s.extract a b).toList = []) : a < b := by
  apply Decidable.byContradiction
  intro hn
  apply h
  have h1 : (s.extract a b).size = 0 := by rw [ByteArray.size_extract]; omega
  rw [← data_length] at h1
  rw [ByteArray.toList_eq]
  exact List.length_eq_zero_iff.mp h1
section
variable {g : Nat} {s cm : ByteArray} {at_ : Int} {sk : Bool} {v : Value} {w : World}
set_option maxRecDepth 100000 in
set_option maxHeartbeats 2000000 in
theorem comment_walk {W0 : World} (hB : Below W0.heap.size W0 w) (hge : W0.heap.size ≤ g) (h : PIs w g s at_ sk v cm) (h0 : 0 ≤ at_) (h1 : at_ < (s.size : Int)) (hs : (s.size : Int) ≤ 65536) : Calls Tryd.prog 62 #[.pointer (some ⟨g, 0, none⟩)] w (CmtPost W0 w g s at_ sk v cm) := by
  obtain ⟨hc0, hc1, _, _, _⟩ := h.cells
  have hf1 := blk_frozen h 1
  have HB := Aside0.mk (show PIs (w.setCell ⟨g, 1, none⟩ (.int .i64 (at_ + 1))) g s (at_ + 1) sk v cm from blk_set h 1 _)
  have H := Aside0.mk h
  obtain ⟨J, hJ⟩ : ∃ J, scanI s ((s.size : Int) - (at_ + 1)).toNat (at_ + 1) = J := ⟨_, rfl⟩
  have HJ := Aside0.mk hJ
  have HJ0 := Aside0.mk (show scanJ s (at_ + 1) = J from hJ)
  have hw : IntKind.i64.wrap (at_ + 1) = at_ + 1 := (i64_w _).trans (by unfold wrap64; omega)
  have HBL := Aside0.mk hB
  have HGE := Aside0.mk hge
  clear h hJ hB hge
  go_enter Tryd.func62, Tryd.ntmps62
  go_wp2
  clear hw
  go_loopg [] ((s.size : Int) - (at_ + 1)).toNat (fun kq wr => ∃ i : Int, Aside0 (at_ + 1 ≤ i ∧ i ≤ (s.size : Int) ∧ kq = ((s.size : Int) - i).toNat) ∧ Aside0 (scanI s kq i = J) ∧ Aside0 (PIs wr g s i sk v cm) ∧ Aside0 (KeepBut w wr g none) ∧ Aside0 (Below W0.heap.size W0 wr))
  case atStart => exact ⟨at_ + 1, ⟨by omega, by omega, rfl⟩, HJ, HB, ⟨(KeepBut.refl w g none).set_ 1 _⟩, ⟨below_set HBL.out HGE.out⟩⟩
  case round =>
    obtain ⟨i, HI, HS, HP, HK, HBR⟩ := hrel
    clear HBL
    have HBL := HBR
    clear HBR
    clear HB hc0 hc1 hf1
    obtain ⟨hc0, hc1, _, _, _⟩ := HP.out.cells
    have hf1 := blk_frozen HP.out 1
    by_cases hgo : i < (s.size : Int) ∧ prB (bt s i) = true
    · have hx := bt_at s i
      have p := eq_true (show 0 ≤ i by have := HI.out; omega)
      have q := eq_true hgo.1
      have HN := Aside0.mk (show (i == (s.size : Int)) = false from by have := hgo.1; simp; omega)
      have HPR := Aside0.mk (show block_printable.f (bt s i) = some true from by rw [printable_eq, hgo.2])
      have hw : IntKind.i64.wrap (i + 1) = i + 1 := (i64_w _).trans (by have := HI.out; unfold wrap64; omega)
      have HG := Aside0.mk hgo
      clear hgo
      go_wp2
      go_quiet ((first | (go_at_call 61; exact Calls.quiet_of (end_calls (HP.out.drewN _) false HN.out)) | (go_at_call 41; exact Calls.quiet_of (printable_q HPR.out _))))
      go_wp2
      go_roundg (gk - 1)
      case measure => have := HI.out; have := HG.out.1; omega
      case rel => exact ⟨i + 1, ⟨by have := HI.out; omega, by have := HG.out.1; omega, by have := HI.out; have := HG.out.1; omega⟩, ⟨by
        have h1 := HS.out
        obtain ⟨n, hn⟩ : ∃ n, gk = n + 1 := ⟨gk - 1, by have := HI.out; have := HG.out.1; omega⟩
        rw [hn, scanI, if_pos HG.out] at h1
        rw [hn]
        exact h1⟩, ⟨blk_drewN (blk_set HP.out 1 _) _⟩, ⟨keep_drewN (HK.out.set_ 1 _) _⟩, ⟨pw_below_drewN (below_set HBL.out HGE.out) _⟩⟩
    have hJ : J = i := by
      have h1 := HS.out
      cases gk with
      | zero => rw [scanI] at h1; exact h1.symm
      | succ n => rw [scanI, if_neg hgo] at h1; exact h1.symm
    subst hJ
    clear HS
    have h100 := HI.out
    have b0 : 0 ≤ at_ + 1 := by omega
    have b1 : at_ + 1 ≤ J := by omega
    have b2 : J ≤ (s.size : Int) := by omega
    by_cases hend : J = (s.size : Int)
    · have HN := Aside0.mk (show (J == (s.size : Int)) = true from by simp [hend])
      have HE := Aside0.mk hend
      clear hend hgo
      go_wp2
      go_quiet ((go_at_call 61; exact Calls.quiet_of (end_calls (HP.out.drewN _) true HN.out)))
      go_wp2
      go_quiet (fail)
      go_wp2_with (go_at_call 60; refine (skip_end 41 (HP.out.drewN _) HE.out).mono ?_; rintro e w5 ⟨rfl, n5, rfl⟩)
      · have h5 : 100 < ((J.toNat - (at_ + 1).toNat : Nat) : Int) := by assumption
        go_ret
        refine ⟨_, rfl, ?_⟩
        rw [HJ0.out, cmtF, if_pos (by omega)]
        exact ⟨rfl, blk_drewN (blk_set HP.out 1 _) _, keep_drewN (HK.out.set_ 1 _) _, pw_below_drewN (below_set HBL.out HGE.out) _⟩
      · have h5 : ((J.toNat - (at_ + 1).toNat : Nat) : Int) ≤ 100 := by assumption
        have h6 : (s.extract (at_ + 1).toNat J.toNat).toList = [] := by assumption
        have h7 := extract_nil h6 (by omega)
        go_ret
        refine ⟨_, rfl, ?_⟩
        rw [HJ0.out, cmtF, if_neg (by omega), if_pos (by omega)]
        exact ⟨rfl, blk_drewN HP.out _, keep_drewN HK.out _, pw_below_drewN HBL.out _⟩
      have h5 : ((J.toNat - (at_ + 1).toNat : Nat) : Int) ≤ 100 := by assumption
      have h6 : ¬ (s.extract (at_ + 1).toNat J.toNat).toList = [] := by assumption
      have h7 := extract_ne h6
      go_ret
      refine ⟨_, rfl, ?_⟩
      rw [HJ0.out, cmtF, if_neg (by omega), if_neg (by omega), if_neg (by have := HE.out; omega)]
      exact ⟨rfl, blk_drewN HP.out _, keep_drewN HK.out _, pw_below_drewN HBL.out _⟩
    have hp : prB (bt s J) = false := by
      cases hpb : prB (bt s J) with
      | false => rfl
      | true => exact absurd ⟨by omega, hpb⟩ hgo
    have hlt : J < (s.size : Int) := by omega
    have hx := bt_at s J
    have p := eq_true (show 0 ≤ J by omega)
    have q := eq_true hlt
    have HL := Aside0.mk hlt
    have HN := Aside0.mk (show (J == (s.size : Int)) = false from by simp; omega)
    have HPR := Aside0.mk (show block_printable.f (bt s J) = some false from by rw [printable_eq, hp])
    clear hgo hend hlt hp
    by_cases h8 : bt s J = 41
    · have H8 := Aside0.mk h8
      clear h8
      cases hb : (J + 1 == (s.size : Int)) with
      | true =>
        have HB2 := Aside0.mk hb
        clear hb
        go_wp2
        go_quiet ((first | (go_at_call 61; exact Calls.quiet_of (end_calls (HP.out.drewN _) false HN.out)) | (go_at_call 41; exact Calls.quiet_of (printable_q HPR.out _))))
        go_wp2
        go_quiet (fail)
        go_wp2_with (first | (go_at_call 60; refine (skip_yes (pw_below_drewN HBL.out _) HGE.out 41 (HP.out.drewN _) (by omega) HL.out (by omega) H8.out).mono ?_; rintro e w5 ⟨rfl, hp5, hk5, hbl5⟩; have HBL5 := Aside0.mk hbl5; clear hbl5; obtain ⟨_, _, _, _, hc4⟩ := hp5.cells; have hf4 := blk_frozen hp5 4; have HP5 := Aside0.mk hp5; have HK5 := Aside0.mk hk5; clear hp5 hk5) | (go_at_call 61; refine (end_calls (blk_set HP5.out 4 _) true HB2.out).mono ?_; rintro e w6 ⟨rfl, n6, rfl⟩))
        · have h5 : 100 < ((J.toNat - (at_ + 1).toNat : Nat) : Int) := by assumption
          go_ret
          refine ⟨_, rfl, ?_⟩
          rw [HJ0.out, cmtF, if_pos (by omega)]
          exact ⟨rfl, blk_drewN (blk_set HP.out 1 _) _, keep_drewN (HK.out.set_ 1 _) _, pw_below_drewN (below_set HBL.out HGE.out) _⟩
        · have h5 : ((J.toNat - (at_ + 1).toNat : Nat) : Int) ≤ 100 := by assumption
          have h6 : (s.extract (at_ + 1).toNat J.toNat).toList = [] := by assumption
          have h7 := extract_nil h6 (by omega)
          go_ret
          refine ⟨_, rfl, ?_⟩
          rw [HJ0.out, cmtF, if_neg (by omega), if_pos (by omega)]
          exact ⟨rfl, blk_drewN HP.out _, keep_drewN HK.out _, pw_below_drewN HBL.out _⟩
        · have h5 : ((J.toNat - (at_ + 1).toNat : Nat) : Int) ≤ 100 := by assumption
          have h6 : ¬ (s.extract (at_ + 1).toNat J.toNat).toList = [] := by assumption
          have h9 : (s.extract (at_ + 1).toNat J.toNat).toList.isEmpty = true := by assumption
          exact absurd (List.isEmpty_iff.mp h9) h6
        have h5 : ((J.toNat - (at_ + 1).toNat : Nat) : Int) ≤ 100 := by assumption
        have h6 : ¬ (s.extract (at_ + 1).toNat J.toNat).toList = [] := by assumption
        have h7 := extract_ne h6
        go_ret
        refine ⟨_, rfl, ?_⟩
        rw [HJ0.out, cmtF, if_neg (by omega), if_neg (by omega), if_pos ⟨HL.out, H8.out⟩, if_pos (by simpa using HB2.out)]
        exact ⟨rfl, blk_drewN (blk_set HP5.out 4 _) _, keep_drewN (((keep_drewN HK.out _).trans HK5.out (.inl rfl)).set_ 4 _) _, pw_below_drewN (below_set HBL5.out HGE.out) _⟩
      | false =>
        have HB2 := Aside0.mk hb
        clear hb
        go_wp2
        go_quiet ((first | (go_at_call 61; exact Calls.quiet_of (end_calls (HP.out.drewN _) false HN.out)) | (go_at_call 41; exact Calls.quiet_of (printable_q HPR.out _))))
        go_wp2
        go_quiet (fail)
        go_wp2_with (first | (go_at_call 60; refine (skip_yes (pw_below_drewN HBL.out _) HGE.out 41 (HP.out.drewN _) (by omega) HL.out (by omega) H8.out).mono ?_; rintro e w5 ⟨rfl, hp5, hk5, hbl5⟩; have HBL5 := Aside0.mk hbl5; clear hbl5; obtain ⟨_, _, _, _, hc4⟩ := hp5.cells; have hf4 := blk_frozen hp5 4; have HP5 := Aside0.mk hp5; have HK5 := Aside0.mk hk5; clear hp5 hk5) | (go_at_call 61; refine (end_calls (blk_set HP5.out 4 _) false HB2.out).mono ?_; rintro e w6 ⟨rfl, n6, rfl⟩))
        · have h5 : 100 < ((J.toNat - (at_ + 1).toNat : Nat) : Int) := by assumption
          go_ret
          refine ⟨_, rfl, ?_⟩
          rw [HJ0.out, cmtF, if_pos (by omega)]
          exact ⟨rfl, blk_drewN (blk_set HP.out 1 _) _, keep_drewN (HK.out.set_ 1 _) _, pw_below_drewN (below_set HBL.out HGE.out) _⟩
        · have h5 : ((J.toNat - (at_ + 1).toNat : Nat) : Int) ≤ 100 := by assumption
          have h6 : (s.extract (at_ + 1).toNat J.toNat).toList = [] := by assumption
          have h7 := extract_nil h6 (by omega)
          go_ret
          refine ⟨_, rfl, ?_⟩
          rw [HJ0.out, cmtF, if_neg (by omega), if_pos (by omega)]
          exact ⟨rfl, blk_drewN HP.out _, keep_drewN HK.out _, pw_below_drewN HBL.out _⟩
        · have h5 : ((J.toNat - (at_ + 1).toNat : Nat) : Int) ≤ 100 := by assumption
          have h6 : ¬ (s.extract (at_ + 1).toNat J.toNat).toList = [] := by assumption
          have h9 : (s.extract (at_ + 1).toNat J.toNat).toList.isEmpty = true := by assumption
          exact absurd (List.isEmpty_iff.mp h9) h6
        have h5 : ((J.toNat - (at_ + 1).toNat : Nat) : Int) ≤ 100 := by assumption
        have h6 : ¬ (s.extract (at_ + 1).toNat J.toNat).toList = [] := by assumption
        have h7 := extract_ne h6
        go_ret
        refine ⟨_, rfl, ?_⟩
        rw [HJ0.out, cmtF, if_neg (by omega), if_neg (by omega), if_pos ⟨HL.out, H8.out⟩, if_neg (by simpa using HB2.out)]
        exact ⟨rfl, blk_drewN (blk_set HP5.out 4 _) _, keep_drewN (((keep_drewN HK.out _).trans HK5.out (.inl rfl)).set_ 4 _) _, pw_below_drewN (below_set HBL5.out HGE.out) _⟩
    have H8 := Aside0.mk h8
    clear h8
    go_wp2
    go_quiet ((first | (go_at_call 61; exact Calls.quiet_of (end_calls (HP.out.drewN _) false HN.out)) | (go_at_call 41; exact Calls.quiet_of (printable_q HPR.out _))))
    go_wp2
    go_quiet (fail)
    go_wp2_with (go_at_call 60; refine (skip_other 41 (HP.out.drewN _) (by omega) HL.out H8.out).mono ?_; rintro e w5 ⟨rfl, n5, rfl⟩)
    · have h5 : 100 < ((J.toNat - (at_ + 1).toNat : Nat) : Int) := by assumption
      go_ret
      refine ⟨_, rfl, ?_⟩
      rw [HJ0.out, cmtF, if_pos (by omega)]
      exact ⟨rfl, blk_drewN (blk_set HP.out 1 _) _, keep_drewN (HK.out.set_ 1 _) _, pw_below_drewN (below_set HBL.out HGE.out) _⟩
    · have h5 : ((J.toNat - (at_ + 1).toNat : Nat) : Int) ≤ 100 := by assumption
      have h6 : (s.extract (at_ + 1).toNat J.toNat).toList = [] := by assumption
      have h7 := extract_nil h6 (by omega)
      go_ret
      refine ⟨_, rfl, ?_⟩
      rw [HJ0.out, cmtF, if_neg (by omega), if_pos (by omega)]
      exact ⟨rfl, blk_drewN HP.out _, keep_drewN HK.out _, pw_below_drewN HBL.out _⟩
    have h5 : ((J.toNat - (at_ + 1).toNat : Nat) : Int) ≤ 100 := by assumption
    have h6 : ¬ (s.extract (at_ + 1).toNat J.toNat).toList = [] := by assumption
    have h7 := extract_ne h6
    go_ret
    refine ⟨_, rfl, ?_⟩
    rw [HJ0.out, cmtF, if_neg (by omega), if_neg (by omega), if_neg (fun h => H8.out h.2)]
    exact ⟨rfl, blk_drewN HP.out _, keep_drewN HK.out _, pw_below_drewN HBL.out _⟩
end
end Go.Proofs.YtehkhbnhmehobaaDoor.P
namespace Go.Proofs.YtehkhbnhmehobaaDoor.P
open Go.RowKit Go.Sort Go.Proofs.YtehkhbnhmehobaaDoorW.PrintWords Go.Proofs.YtehkhbnhmehobaaDoorW.PrintLast Go.Proofs.YtehkhbnhmehobaaDoorW.PrintMore
set_option linter.unusedVariables false
abbrev Wd := S65
def PW (W0 W : World) (g : Nat) (s : ByteArray) (at_ : Int) (sk : Bool) (l : List Wd) (cm : ByteArray) : Prop := ∃ v, PIs W g s at_ sk v cm ∧ Kd.R k65 65 W W0.heap.size (fun k => k ≠ g) v l ∧ Below W0.heap.size W0 W ∧ W0.heap.size ≤ g
def numB (c : Int) : Bool := decide (48 ≤ c) && decide (c ≤ 57) || (c == 45 || c == 46)
def numI (s : ByteArray) : Nat → Int → Int
  | 0, i => i
  | n + 1, i => if i < (s.size : Int) ∧ numB (bt s i) = true then numI s n (i + 1) else i
def numJ (s : ByteArray) (i : Int) : Int := numI s ((s.size : Int) - i).toNat i
def wordF (k : Nat) (s : ByteArray) (at_ : Int) (l : List Wd) : Option (Int × Int × List Wd) :=
  if bt s at_ < 65 ∨ 90 < bt s at_ then some (2, at_, l) else if l.length = 16 then some (3, at_, l) else
  (block_Value.f k (s.extract (at_ + 1).toNat (numJ s (at_ + 1)).toNat)).bind fun r => if r.2 = 0 then some (0, numJ s (at_ + 1), l ++ [⟨bt s at_, r.1⟩]) else some (r.2, at_, l)
section
variable {g : Nat} {s cm : ByteArray} {at_ : Int} {sk : Bool} {l : List Wd} {W0 w : World}
theorem PW.drewN (h : PW W0 w g s at_ sk l cm) (n : Nat) : PW W0 (w.drewN n) g s at_ sk l cm := by
  obtain ⟨v, h1, h2, h3, h4⟩ := h
  exact ⟨v, blk_drewN h1 n, Kd.R_drewN h2 n, pw_below_drewN h3 n, h4⟩
theorem PW.below {W : World} (h : PW W0 w g s at_ sk l cm) (hb : Below w.heap.size w W) : PW W0 W g s at_ sk l cm := by
  obtain ⟨v, h1, h2, h3, h4⟩ := h
  exact ⟨v, blk_below h1 hb, Kd.R_below h2 hb, below_then h3 h3.size hb, h4⟩
set_option maxRecDepth 100000 in
set_option maxHeartbeats 4000000 in
theorem word_calls (k : Nat) (er at2 : Int) (l2 : List Wd) (h : PW W0 w g s at_ sk l cm) (h0 : 0 ≤ at_) (h1 : at_ < (s.size : Int)) (hs : (s.size : Int) ≤ 65536) (hl : l.length ≤ 16) (hf : wordF k s at_ l = some (er, at2, l2)) :
    Calls Tryd.prog 63 #[.pointer (some ⟨g, 0, none⟩)] w fun e w' => e = .returned (.int .i64 er) ∧ PW W0 w' g s at2 sk l2 cm := by
  have H := Aside0.mk h
  obtain ⟨v, hP, hR, hB, hge⟩ := h
  have HP := Aside0.mk hP
  have HR := Aside0.mk hR
  have HB := Aside0.mk hB
  have HGE := Aside0.mk hge
  obtain ⟨hc0, hc1, _, hc3, _⟩ := hP.cells
  have hx := bt_at s at_
  have p := eq_true h0
  have q := eq_true h1
  have HF := Aside0.mk hf
  clear hP hR hB hge hf
  by_cases d1 : bt s at_ < 65
  · have hf := HF.out
    rw [wordF, if_pos (.inl d1)] at hf
    injection hf with hf
    injection hf with e1 e2
    injection e2 with e2 e3
    subst e1 e2 e3
    have d1' : decide (bt s at_ < 65) = true := decide_eq_true d1
    clear d1
    go_enter Tryd.func63, Tryd.ntmps63
    go_wp2
    go_quiet (fail)
    go_wp2
    go_ret
    exact ⟨rfl, H.out.drewN _⟩
  have d1' : decide (bt s at_ < 65) = false := decide_eq_false d1
  by_cases d2 : 90 < bt s at_
  · have hf := HF.out
    rw [wordF, if_pos (.inr d2)] at hf
    injection hf with hf
    injection hf with e1 e2
    injection e2 with e2 e3
    subst e1 e2 e3
    have d2' : decide (90 < bt s at_) = true := decide_eq_true d2
    clear d1 d2
    go_enter Tryd.func63, Tryd.ntmps63
    go_wp2
    go_quiet (fail)
    go_wp2
    go_ret
    exact ⟨rfl, H.out.drewN _⟩
  have d2' : decide (90 < bt s at_) = false := decide_eq_false d2
  obtain ⟨A, c, rfl⟩ := Kd.R_slice HR.out
  by_cases d3 : l.length = 16
  · have hf := HF.out
    rw [wordF, if_neg (by omega), if_pos d3] at hf
    injection hf with hf
    injection hf with e1 e2
    injection e2 with e2 e3
    subst e1 e2 e3
    have d3' : ((l.length : Int) == 16) = true := by simp [d3]
    have D3 := Aside0.mk d3
    clear d1 d2 d3 hl
    go_enter Tryd.func63, Tryd.ntmps63
    go_wp2
    go_quiet (fail)
    go_wp2
    go_ret
    exact ⟨rfl, H.out.drewN _⟩
  have d3' : ((l.length : Int) == 16) = false := by simp; omega
  have hf := HF.out
  rw [wordF, if_neg (by omega), if_neg d3] at hf
  obtain ⟨r, hv, hf⟩ := Option.bind_eq_some_iff.mp hf
  have HV := Aside0.mk hv
  have HF2 := Aside0.mk hf
  have HL := Aside0.mk hl
  clear hf hv hl HF
  obtain ⟨J, hJ⟩ : ∃ J, numI s ((s.size : Int) - (at_ + 1)).toNat (at_ + 1) = J := ⟨_, rfl⟩
  have HJ := Aside0.mk hJ
  have HJ0 := Aside0.mk (show numJ s (at_ + 1) = J from hJ)
  have hw : IntKind.i64.wrap (at_ + 1) = at_ + 1 := (i64_w _).trans (by unfold wrap64; omega)
  clear d1 d2 d3 hJ
  go_enter Tryd.func63, Tryd.ntmps63
  go_wp2
  go_quiet (fail)
  go_wp2
  go_loopg [4] ((s.size : Int) - (at_ + 1)).toNat (fun kq v4 wr => ∃ i : Int, v4 = .int .i64 i ∧ Aside0 (at_ + 1 ≤ i ∧ i ≤ (s.size : Int) ∧ kq = ((s.size : Int) - i).toNat) ∧ Aside0 (numI s kq i = J) ∧ (∃ m, wr = w.drewN m))
  case atStart => exact ⟨at_ + 1, rfl, ⟨by omega, by omega, rfl⟩, HJ, ⟨_, rfl⟩⟩
  case round =>
    obtain ⟨i, rfl, HI, HS, m, rfl⟩ := hrel
    clear p q hx hw
    have hgo : i < (s.size : Int) ∧ numB (bt s i) = true → numI s gk i = J → ∃ n, gk = n + 1 ∧ numI s n (i + 1) = J := by
      intro h2 h3
      cases gk with
      | zero => have := HI.out; omega
      | succ n => rw [numI, if_pos h2] at h3; exact ⟨n, rfl, h3⟩
    have hend : ¬ (i < (s.size : Int) ∧ numB (bt s i) = true) → numI s gk i = J → J = i := by
      intro h2 h3
      cases gk with
      | zero => rw [numI] at h3; exact h3.symm
      | succ n => rw [numI, if_neg h2] at h3; exact h3.symm
    have HGO := Aside0.mk hgo
    have HEND := Aside0.mk hend
    clear hgo hend
    have p := eq_true (show 0 ≤ i by have := HI.out; omega)
    by_cases e0 : i < (s.size : Int)
    · have q := eq_true e0
      have e0' : decide (i < (s.size : Int)) = true := decide_eq_true e0
      have hx := bt_at s i
      have hw : IntKind.i64.wrap (i + 1) = i + 1 := (i64_w _).trans (by have := HI.out; unfold wrap64; omega)
      have E0 := Aside0.mk e0
      clear e0
      by_cases e1 : 48 ≤ bt s i
      · have e1' : decide (48 ≤ bt s i) = true := decide_eq_true e1
        by_cases e2 : bt s i ≤ 57
        · have e2' : decide (bt s i ≤ 57) = true := decide_eq_true e2
          have HN := Aside0.mk (show numB (bt s i) = true from by unfold numB; rw [decide_eq_true e1, decide_eq_true e2]; rfl)
          clear e1 e2
          go_wp2
          go_roundg (gk - 1)
          case measure => obtain ⟨n, hn, _⟩ := HGO.out ⟨E0.out, HN.out⟩ HS.out; omega
          case rel => exact ⟨i + 1, rfl, ⟨by have := HI.out; omega, by have := E0.out; omega, by obtain ⟨n, hn, _⟩ := HGO.out ⟨E0.out, HN.out⟩ HS.out; have := HI.out; omega⟩, ⟨by obtain ⟨n, hn, h5⟩ := HGO.out ⟨E0.out, HN.out⟩ HS.out; rw [hn]; exact h5⟩, ⟨_, rfl⟩⟩
        have e2' : decide (bt s i ≤ 57) = false := decide_eq_false e2
        have e3' : (bt s i == 45) = false := by simp; omega
        have e4' : (bt s i == 46) = false := by simp; omega
        have HX := Aside0.mk (show ¬ (i < (s.size : Int) ∧ numB (bt s i) = true) from fun h => by have h2 := h.2; unfold numB at h2; rw [e2', e3', e4'] at h2; simp at h2)
        clear e1 e2
        have hJ := HEND.out HX.out HS.out
        subst hJ
        have hv9 := HV.out
        rw [HJ0.out] at hv9
        have HV9 := Aside0.mk hv9
        have hf2 := HF2.out
        rw [HJ0.out] at hf2
        have HF9 := Aside0.mk hf2
        clear hv9 hf2
        have b0 : 0 ≤ at_ + 1 := by omega
        have b1 : at_ + 1 ≤ J := by have := HI.out; omega
        have b2 : J ≤ (s.size : Int) := by have := HI.out; omega
        have hw : IntKind.i64.wrap (at_ + 1) = at_ + 1 := (i64_w _).trans (by unfold wrap64; omega)
        have hcr0 : ∀ n d os, (grow (redrawn (w.drewN n) d) os).cell? ⟨g, 0, none⟩ = some (.string s) := fun n d os => cell_regrown (w := w.drewN n) (by simpa using hc0) d os
        have hcr1 : ∀ n d os, (grow (redrawn (w.drewN n) d) os).cell? ⟨g, 1, none⟩ = some (.int .i64 at_) := fun n d os => cell_regrown (w := w.drewN n) (by simpa using hc1) d os
        go_wp2
        refine wp_region_quiet_below (by kernel_rfl) (by kernel_rfl) ?_
        repeat (quiet_step ((go_at_call 11; exact Calls.regrown_of (block_Value.calls k _ r.1 r.2 _ HV9.out))))
        refine wpQuiet_nil ?_
        intro _ hw'
        obtain ⟨⟨dq, osq⟩, hw''⟩ := hw'
        subst hw''
        have hb9 : Below (w.drewN m).heap.size (w.drewN m) (grow (redrawn (w.drewN m) dq) osq) := below_regrown _ dq osq
        have hP9 : PIs (grow (redrawn (w.drewN m) dq) osq) g s at_ sk (.slice A l.length c) cm := blk_below (blk_drewN HP.out m) hb9
        have hR9 := Kd.R_below (Kd.R_drewN HR.out m) hb9
        have hB9 : Below W0.heap.size W0 (grow (redrawn (w.drewN m) dq) osq) := below_then (pw_below_drewN HB.out m) (pw_below_drewN HB.out m).size hb9
        clear hcr0 hcr1 hb9 hc0 hc1 hc3
        generalize grow (redrawn (w.drewN m) dq) osq = W9 at hP9 hR9 hB9 ⊢
        by_cases c9 : r.2 = 0
        · have hf := HF9.out
          rw [if_pos c9] at hf
          injection hf with hf
          injection hf with e1 e2
          injection e2 with e2 e3
          subst e1 e2 e3
          have c9' : (r.2 != 0) = false := by simp [c9]
          have HP9 := Aside0.mk hP9
          have HR9 := Aside0.mk hR9
          have HB9 := Aside0.mk hB9
          have hlt9 := blk_lt hP9
          have HLT9 := Aside0.mk hlt9
          obtain ⟨_, _, _, hc3, _⟩ := PIs.cells hP9
          clear c9 hP9 hR9 hB9 hlt9
          go_wp2_with ((with_reducible refine gate_builtin (b := .append) (xs := #[.tmp 102, .tmp 106]) rfl ?_); at_builtin; refine Kd.R_append k65 (w0 := W0) W0.heap.size rfl (.tmp 102) (.tmp 106) 29 65 (.agg #[(.int .u8 0), (.int .i64 0)]) 16 rfl Tryd.underlying29 info65 rfl (by decide) (by omega) (.slice A l.length c) l (⟨bt s at_, r.1⟩ : Wd) [.int .u8 (bt s at_), .int .i64 r.1] (fun k => k ≠ g) (fun _ => False) rfl rfl ?aP (fun _ hk => hk.elim) ?aF HR9.out HB9.out HB9.out.size ?aL ?_; (case aP => exact k65_mkM _ _ _ (⟨bt s at_, r.1⟩ : Wd)); (case aF => exact (fun k hk => by have := HLT9.out; omega)); (case aL => have := HL.out; omega); intro v1 w10 ho hb hg hat; obtain ⟨A10, c10, rfl⟩ := Kd.R_slice ho; rw [List.length_append, List.length_singleton] at ho; have hP10 : PIs w10 g s at_ sk (.slice A l.length c) cm := blk_grown HP9.out hg (Kd.R_ne HR9.out HP9.out (by decide)); obtain ⟨_, hd1, _, hd3, _⟩ := PIs.cells hP10; have hf1 := blk_frozen hP10 1; have hf3 := blk_frozen hP10 3; have HP10 := Aside0.mk hP10; have HO10 := Aside0.mk ho; have HB10 := Aside0.mk hb; clear ho hb hg hat hP10)
          go_ret
          exact ⟨rfl, _, blk_set (blk_set HP10.out 3 _) 1 _, Kd.R_far (Kd.R_far HO10.out (fun k hk => hk) _) (fun k hk => hk) _, below_set (below_set HB10.out HGE.out) HGE.out, HGE.out⟩
        have hf := HF9.out
        rw [if_neg c9] at hf
        injection hf with hf
        injection hf with e1 e2
        injection e2 with e2 e3
        subst e1 e2 e3
        have c9' : (r.2 != 0) = true := by simpa using c9
        have HPW := Aside0.mk (show PW W0 W9 g s at_ sk l cm from ⟨_, hP9, hR9, hB9, HGE.out⟩)
        clear c9 hP9 hR9 hB9
        go_wp2
        go_ret
        exact ⟨rfl, HPW.out⟩
      have e1' : decide (48 ≤ bt s i) = false := decide_eq_false e1
      by_cases e3 : bt s i = 45
      · have e3' : (bt s i == 45) = true := by simp [e3]
        have HN := Aside0.mk (show numB (bt s i) = true from by unfold numB; rw [e3']; simp)
        clear e1 e3
        go_wp2
        go_roundg (gk - 1)
        case measure => obtain ⟨n, hn, _⟩ := HGO.out ⟨E0.out, HN.out⟩ HS.out; omega
        case rel => exact ⟨i + 1, rfl, ⟨by have := HI.out; omega, by have := E0.out; omega, by obtain ⟨n, hn, _⟩ := HGO.out ⟨E0.out, HN.out⟩ HS.out; have := HI.out; omega⟩, ⟨by obtain ⟨n, hn, h5⟩ := HGO.out ⟨E0.out, HN.out⟩ HS.out; rw [hn]; exact h5⟩, ⟨_, rfl⟩⟩
      have e3' : (bt s i == 45) = false := by simpa using e3
      by_cases e4 : bt s i = 46
      · have e4' : (bt s i == 46) = true := by simp [e4]
        have HN := Aside0.mk (show numB (bt s i) = true from by unfold numB; rw [e4']; simp)
        clear e1 e3 e4
        go_wp2
        go_roundg (gk - 1)
        case measure => obtain ⟨n, hn, _⟩ := HGO.out ⟨E0.out, HN.out⟩ HS.out; omega
        case rel => exact ⟨i + 1, rfl, ⟨by have := HI.out; omega, by have := E0.out; omega, by obtain ⟨n, hn, _⟩ := HGO.out ⟨E0.out, HN.out⟩ HS.out; have := HI.out; omega⟩, ⟨by obtain ⟨n, hn, h5⟩ := HGO.out ⟨E0.out, HN.out⟩ HS.out; rw [hn]; exact h5⟩, ⟨_, rfl⟩⟩
      have e4' : (bt s i == 46) = false := by simpa using e4
      have HX := Aside0.mk (show ¬ (i < (s.size : Int) ∧ numB (bt s i) = true) from fun h => by have h2 := h.2; unfold numB at h2; rw [e1', e3', e4'] at h2; simp at h2)
      clear e1 e3 e4
      have hJ := HEND.out HX.out HS.out
      subst hJ
      have hv9 := HV.out
      rw [HJ0.out] at hv9
      have HV9 := Aside0.mk hv9
      have hf2 := HF2.out
      rw [HJ0.out] at hf2
      have HF9 := Aside0.mk hf2
      clear hv9 hf2
      have b0 : 0 ≤ at_ + 1 := by omega
      have b1 : at_ + 1 ≤ J := by have := HI.out; omega
      have b2 : J ≤ (s.size : Int) := by have := HI.out; omega
      have hw : IntKind.i64.wrap (at_ + 1) = at_ + 1 := (i64_w _).trans (by unfold wrap64; omega)
      have hcr0 : ∀ n d os, (grow (redrawn (w.drewN n) d) os).cell? ⟨g, 0, none⟩ = some (.string s) := fun n d os => cell_regrown (w := w.drewN n) (by simpa using hc0) d os
      have hcr1 : ∀ n d os, (grow (redrawn (w.drewN n) d) os).cell? ⟨g, 1, none⟩ = some (.int .i64 at_) := fun n d os => cell_regrown (w := w.drewN n) (by simpa using hc1) d os
      go_wp2
      refine wp_region_quiet_below (by kernel_rfl) (by kernel_rfl) ?_
      repeat (quiet_step ((go_at_call 11; exact Calls.regrown_of (block_Value.calls k _ r.1 r.2 _ HV9.out))))
      refine wpQuiet_nil ?_
      intro _ hw'
      obtain ⟨⟨dq, osq⟩, hw''⟩ := hw'
      subst hw''
      have hb9 : Below (w.drewN m).heap.size (w.drewN m) (grow (redrawn (w.drewN m) dq) osq) := below_regrown _ dq osq
      have hP9 : PIs (grow (redrawn (w.drewN m) dq) osq) g s at_ sk (.slice A l.length c) cm := blk_below (blk_drewN HP.out m) hb9
      have hR9 := Kd.R_below (Kd.R_drewN HR.out m) hb9
      have hB9 : Below W0.heap.size W0 (grow (redrawn (w.drewN m) dq) osq) := below_then (pw_below_drewN HB.out m) (pw_below_drewN HB.out m).size hb9
      clear hcr0 hcr1 hb9 hc0 hc1 hc3
      generalize grow (redrawn (w.drewN m) dq) osq = W9 at hP9 hR9 hB9 ⊢
      by_cases c9 : r.2 = 0
      · have hf := HF9.out
        rw [if_pos c9] at hf
        injection hf with hf
        injection hf with e1 e2
        injection e2 with e2 e3
        subst e1 e2 e3
        have c9' : (r.2 != 0) = false := by simp [c9]
        have HP9 := Aside0.mk hP9
        have HR9 := Aside0.mk hR9
        have HB9 := Aside0.mk hB9
        have hlt9 := blk_lt hP9
        have HLT9 := Aside0.mk hlt9
        obtain ⟨_, _, _, hc3, _⟩ := PIs.cells hP9
        clear c9 hP9 hR9 hB9 hlt9
        go_wp2_with ((with_reducible refine gate_builtin (b := .append) (xs := #[.tmp 102, .tmp 106]) rfl ?_); at_builtin; refine Kd.R_append k65 (w0 := W0) W0.heap.size rfl (.tmp 102) (.tmp 106) 29 65 (.agg #[(.int .u8 0), (.int .i64 0)]) 16 rfl Tryd.underlying29 info65 rfl (by decide) (by omega) (.slice A l.length c) l (⟨bt s at_, r.1⟩ : Wd) [.int .u8 (bt s at_), .int .i64 r.1] (fun k => k ≠ g) (fun _ => False) rfl rfl ?aP (fun _ hk => hk.elim) ?aF HR9.out HB9.out HB9.out.size ?aL ?_; (case aP => exact k65_mkM _ _ _ (⟨bt s at_, r.1⟩ : Wd)); (case aF => exact (fun k hk => by have := HLT9.out; omega)); (case aL => have := HL.out; omega); intro v1 w10 ho hb hg hat; obtain ⟨A10, c10, rfl⟩ := Kd.R_slice ho; rw [List.length_append, List.length_singleton] at ho; have hP10 : PIs w10 g s at_ sk (.slice A l.length c) cm := blk_grown HP9.out hg (Kd.R_ne HR9.out HP9.out (by decide)); obtain ⟨_, hd1, _, hd3, _⟩ := PIs.cells hP10; have hf1 := blk_frozen hP10 1; have hf3 := blk_frozen hP10 3; have HP10 := Aside0.mk hP10; have HO10 := Aside0.mk ho; have HB10 := Aside0.mk hb; clear ho hb hg hat hP10)
        go_ret
        exact ⟨rfl, _, blk_set (blk_set HP10.out 3 _) 1 _, Kd.R_far (Kd.R_far HO10.out (fun k hk => hk) _) (fun k hk => hk) _, below_set (below_set HB10.out HGE.out) HGE.out, HGE.out⟩
      have hf := HF9.out
      rw [if_neg c9] at hf
      injection hf with hf
      injection hf with e1 e2
      injection e2 with e2 e3
      subst e1 e2 e3
      have c9' : (r.2 != 0) = true := by simpa using c9
      have HPW := Aside0.mk (show PW W0 W9 g s at_ sk l cm from ⟨_, hP9, hR9, hB9, HGE.out⟩)
      clear c9 hP9 hR9 hB9
      go_wp2
      go_ret
      exact ⟨rfl, HPW.out⟩
    have e0' : decide (i < (s.size : Int)) = false := decide_eq_false e0
    have HX := Aside0.mk (show ¬ (i < (s.size : Int) ∧ numB (bt s i) = true) from fun h => e0 h.1)
    clear e0
    have hJ := HEND.out HX.out HS.out
    subst hJ
    have hv9 := HV.out
    rw [HJ0.out] at hv9
    have HV9 := Aside0.mk hv9
    have hf2 := HF2.out
    rw [HJ0.out] at hf2
    have HF9 := Aside0.mk hf2
    clear hv9 hf2
    have b0 : 0 ≤ at_ + 1 := by omega
    have b1 : at_ + 1 ≤ J := by have := HI.out; omega
    have b2 : J ≤ (s.size : Int) := by have := HI.out; omega
    have hw : IntKind.i64.wrap (at_ + 1) = at_ + 1 := (i64_w _).trans (by unfold wrap64; omega)
    have hcr0 : ∀ n d os, (grow (redrawn (w.drewN n) d) os).cell? ⟨g, 0, none⟩ = some (.string s) := fun n d os => cell_regrown (w := w.drewN n) (by simpa using hc0) d os
    have hcr1 : ∀ n d os, (grow (redrawn (w.drewN n) d) os).cell? ⟨g, 1, none⟩ = some (.int .i64 at_) := fun n d os => cell_regrown (w := w.drewN n) (by simpa using hc1) d os
    go_wp2
    refine wp_region_quiet_below (by kernel_rfl) (by kernel_rfl) ?_
    repeat (quiet_step ((go_at_call 11; exact Calls.regrown_of (block_Value.calls k _ r.1 r.2 _ HV9.out))))
    refine wpQuiet_nil ?_
    intro _ hw'
    obtain ⟨⟨dq, osq⟩, hw''⟩ := hw'
    subst hw''
    have hb9 : Below (w.drewN m).heap.size (w.drewN m) (grow (redrawn (w.drewN m) dq) osq) := below_regrown _ dq osq
    have hP9 : PIs (grow (redrawn (w.drewN m) dq) osq) g s at_ sk (.slice A l.length c) cm := blk_below (blk_drewN HP.out m) hb9
    have hR9 := Kd.R_below (Kd.R_drewN HR.out m) hb9
    have hB9 : Below W0.heap.size W0 (grow (redrawn (w.drewN m) dq) osq) := below_then (pw_below_drewN HB.out m) (pw_below_drewN HB.out m).size hb9
    clear hcr0 hcr1 hb9 hc0 hc1 hc3
    generalize grow (redrawn (w.drewN m) dq) osq = W9 at hP9 hR9 hB9 ⊢
    by_cases c9 : r.2 = 0
    · have hf := HF9.out
      rw [if_pos c9] at hf
      injection hf with hf
      injection hf with e1 e2
      injection e2 with e2 e3
      subst e1 e2 e3
      have c9' : (r.2 != 0) = false := by simp [c9]
      have HP9 := Aside0.mk hP9
      have HR9 := Aside0.mk hR9
      have HB9 := Aside0.mk hB9
      have hlt9 := blk_lt hP9
      have HLT9 := Aside0.mk hlt9
      obtain ⟨_, _, _, hc3, _⟩ := PIs.cells hP9
      clear c9 hP9 hR9 hB9 hlt9
      go_wp2_with ((with_reducible refine gate_builtin (b := .append) (xs := #[.tmp 102, .tmp 106]) rfl ?_); at_builtin; refine Kd.R_append k65 (w0 := W0) W0.heap.size rfl (.tmp 102) (.tmp 106) 29 65 (.agg #[(.int .u8 0), (.int .i64 0)]) 16 rfl Tryd.underlying29 info65 rfl (by decide) (by omega) (.slice A l.length c) l (⟨bt s at_, r.1⟩ : Wd) [.int .u8 (bt s at_), .int .i64 r.1] (fun k => k ≠ g) (fun _ => False) rfl rfl ?aP (fun _ hk => hk.elim) ?aF HR9.out HB9.out HB9.out.size ?aL ?_; (case aP => exact k65_mkM _ _ _ (⟨bt s at_, r.1⟩ : Wd)); (case aF => exact (fun k hk => by have := HLT9.out; omega)); (case aL => have := HL.out; omega); intro v1 w10 ho hb hg hat; obtain ⟨A10, c10, rfl⟩ := Kd.R_slice ho; rw [List.length_append, List.length_singleton] at ho; have hP10 : PIs w10 g s at_ sk (.slice A l.length c) cm := blk_grown HP9.out hg (Kd.R_ne HR9.out HP9.out (by decide)); obtain ⟨_, hd1, _, hd3, _⟩ := PIs.cells hP10; have hf1 := blk_frozen hP10 1; have hf3 := blk_frozen hP10 3; have HP10 := Aside0.mk hP10; have HO10 := Aside0.mk ho; have HB10 := Aside0.mk hb; clear ho hb hg hat hP10)
      go_ret
      exact ⟨rfl, _, blk_set (blk_set HP10.out 3 _) 1 _, Kd.R_far (Kd.R_far HO10.out (fun k hk => hk) _) (fun k hk => hk) _, below_set (below_set HB10.out HGE.out) HGE.out, HGE.out⟩
    have hf := HF9.out
    rw [if_neg c9] at hf
    injection hf with hf
    injection hf with e1 e2
    injection e2 with e2 e3
    subst e1 e2 e3
    have c9' : (r.2 != 0) = true := by simpa using c9
    have HPW := Aside0.mk (show PW W0 W9 g s at_ sk l cm from ⟨_, hP9, hR9, hB9, HGE.out⟩)
    clear c9 hP9 hR9 hB9
    go_wp2
    go_ret
    exact ⟨rfl, HPW.out⟩
end
section
variable {g : Nat} {s cm : ByteArray} {at_ : Int} {sk : Bool} {l : List Wd} {W0 w : World}
theorem end_pw (h : PW W0 w g s at_ sk l cm) (b : Bool) (hb : (at_ == (s.size : Int)) = b) : Calls Tryd.prog 61 #[.pointer (some ⟨g, 0, none⟩)] w fun e w' => e = .returned (.bool b) ∧ PW W0 w' g s at_ sk l cm := by
  have h' := h
  obtain ⟨v, h1, h2, h3, h4⟩ := h'
  exact (end_calls h1 b hb).mono fun e w' ⟨he, n, hn⟩ => ⟨he, by rw [hn]; exact h.drewN n⟩
theorem skip_pw (c : Int) (h : PW W0 w g s at_ sk l cm) (h0 : 0 ≤ at_) (h1 : at_ ≤ (s.size : Int)) (hs : (s.size : Int) ≤ 65536) (b : Bool) (hb : decide (at_ < (s.size : Int) ∧ bt s at_ = c) = b) : Calls Tryd.prog 60 #[.pointer (some ⟨g, 0, none⟩), .int .u8 c] w fun e w' => e = .returned (.bool b) ∧ PW W0 w' g s (if b = true then at_ + 1 else at_) sk l cm := by
  have h' := h
  obtain ⟨v, k1, k2, k3, k4⟩ := h'
  by_cases c1 : at_ = (s.size : Int)
  · have : b = false := by rw [← hb]; exact decide_eq_false (by omega)
    subst this
    exact (skip_end c k1 c1).mono fun e w' ⟨he, n, hn⟩ => ⟨he, by rw [hn, if_neg (by decide)]; exact h.drewN n⟩
  by_cases c2 : bt s at_ = c
  · have : b = true := by rw [← hb]; exact decide_eq_true ⟨by omega, c2⟩
    subst this
    refine (skip_yes k3 k4 c k1 h0 (by omega) (by omega) c2).mono fun e w' ⟨he, p1, p2, p3⟩ => ⟨he, ?_⟩
    rw [if_pos rfl]
    exact ⟨v, p1, Kd.R_keep k2 p2 (fun k hk => hk), p3, k4⟩
  have : b = false := by rw [← hb]; exact decide_eq_false (fun h => c2 h.2)
  subst this
  exact (skip_other c k1 h0 (by omega) c2).mono fun e w' ⟨he, n, hn⟩ => ⟨he, by rw [hn, if_neg (by decide)]; exact h.drewN n⟩
theorem comment_pw (h : PW W0 w g s at_ sk l cm) (h0 : 0 ≤ at_) (h1 : at_ < (s.size : Int)) (hs : (s.size : Int) ≤ 65536) (r : Int × Int × ByteArray) (hr : cmtF s at_ (scanJ s (at_ + 1)) cm = r) : Calls Tryd.prog 62 #[.pointer (some ⟨g, 0, none⟩)] w fun e w' => e = .returned (.int .i64 r.1) ∧ PW W0 w' g s r.2.1 sk l r.2.2 := by
  obtain ⟨v, k1, k2, k3, k4⟩ := h
  refine (comment_walk k3 k4 k1 h0 h1 hs).mono fun e w' ⟨r', hr', he, p1, p2, p3⟩ => ?_
  have : r' = r := hr'.trans hr
  subst this
  exact ⟨he, v, p1, Kd.R_keep k2 p2 (fun k hk => hk), p3, k4⟩
end
theorem numI_bound (s : ByteArray) : ∀ (n : Nat) (i : Int), i ≤ (s.size : Int) → i ≤ numI s n i ∧ numI s n i ≤ (s.size : Int)
  | 0, i, h => ⟨Int.le_refl _, h⟩
  | n + 1, i, h => by
    rw [numI]
    by_cases c : i < (s.size : Int) ∧ numB (bt s i) = true
    · rw [if_pos c]; have := numI_bound s n (i + 1) (by omega); omega
    rw [if_neg c]; omega
theorem wordF_bound {k : Nat} {s : ByteArray} {at_ : Int} {l : List Wd} {r : Int × Int × List Wd} (h : wordF k s at_ l = some r) (h1 : at_ < (s.size : Int)) (hl : l.length ≤ 16) : at_ ≤ r.2.1 ∧ r.2.1 ≤ (s.size : Int) ∧ r.2.2.length ≤ 16 ∧ (r.1 = 0 → at_ < r.2.1) := by
  unfold wordF at h
  have hb := numI_bound s ((s.size : Int) - (at_ + 1)).toNat (at_ + 1) (by omega)
  split at h
  · injection h with h; subst h; exact ⟨by simp, by simp; omega, hl, fun h => by simp at h⟩
  split at h
  · injection h with h; subst h; exact ⟨by simp, by simp; omega, hl, fun h => by simp at h⟩
  rename_i h16
  obtain ⟨q, hq, h⟩ := Option.bind_eq_some_iff.mp h
  split at h
  · injection h with h; subst h
    refine ⟨?_, ?_, ?_, fun _ => ?_⟩
    · show at_ ≤ numJ s (at_ + 1); unfold numJ; omega
    · show numJ s (at_ + 1) ≤ _; unfold numJ; omega
    · simp; omega
    show at_ < numJ s (at_ + 1); unfold numJ; omega
  rename_i hq0
  injection h with h; subst h; exact ⟨by simp, by simp; omega, hl, fun h => absurd h hq0⟩
def blkF (k : Nat) (s : ByteArray) : Nat → Bool → Int → List Wd → ByteArray → Option (Int × Int × List Wd × ByteArray)
  | 0, _, _, _, _ => none
  | n + 1, sp, at_, l, cm => if at_ = (s.size : Int) then some (if sp = true then 2 else 0, at_, l, cm) else if bt s at_ = 40 then some ((cmtF s at_ (scanJ s (at_ + 1)) cm).1, (cmtF s at_ (scanJ s (at_ + 1)) cm).2.1, l, (cmtF s at_ (scanJ s (at_ + 1)) cm).2.2) else
    (wordF k s at_ l).bind fun r => if r.1 = 0 then (if r.2.1 = (s.size : Int) then some (0, r.2.1, r.2.2, cm) else if bt s r.2.1 = 32 then blkF k s n true (r.2.1 + 1) r.2.2 cm else some (2, r.2.1, r.2.2, cm)) else some (r.1, r.2.1, r.2.2, cm)
section
variable {g : Nat} {s cm : ByteArray} {at_ : Int} {sk : Bool} {l : List Wd} {W0 w : World}
set_option maxRecDepth 100000 in
set_option maxHeartbeats 4000000 in
theorem block_calls (k n : Nat) (b : Bool) (R : Int × Int × List Wd × ByteArray) (h : PW W0 w g s 0 sk [] cm) (hs : (s.size : Int) ≤ 65536) (hb : decide (0 < (s.size : Int) ∧ bt s 0 = 47) = b) (hf : blkF k s n false (if b = true then 1 else 0) [] cm = some R) :
    Calls Tryd.prog 43 #[.pointer (some ⟨g, 0, none⟩)] w fun e w' => e = .returned (.int .i64 R.1) ∧ PW W0 w' g s R.2.1 b R.2.2.1 R.2.2.2 := by
  have H := Aside0.mk h
  have HF := Aside0.mk hf
  have HBB := Aside0.mk hb
  have hsz : (if b = true then 1 else 0 : Int) ≤ (s.size : Int) := by
    cases b with
    | true => have := of_decide_eq_true hb; simp; omega
    | false => simp
  have HSZ := Aside0.mk hsz
  clear h hf hb hsz
  go_enter Tryd.func43, Tryd.ntmps43
  go_wp2_with (go_at_call 60; refine (skip_pw 47 H.out (by omega) (by omega) hs b HBB.out).mono ?_; rintro e w5 ⟨rfl, hp5⟩; have HP5 := Aside0.mk hp5; obtain ⟨v5, hq5, hr5, hb5, hg5⟩ := hp5; obtain ⟨_, _, hc2, _, _⟩ := hq5.cells; have hf2 := blk_frozen hq5 2; have HQ5 := Aside0.mk hq5; have HR5 := Aside0.mk hr5; have HB5 := Aside0.mk hb5; have HG5 := Aside0.mk hg5; clear hq5 hr5 hb5 hg5)
  have HS1 := Aside0.mk (show PW W0 (w5.setCell ⟨g, 2, none⟩ (.bool b)) g s (if b = true then 0 + 1 else 0) b [] cm from ⟨v5, blk_set HQ5.out 2 _, Kd.R_far HR5.out (fun k hk => hk) _, below_set HB5.out HG5.out, HG5.out⟩)
  go_loopg [3] n (fun kq v3 wr => ∃ (sp : Bool) (at_ : Int) (l : List Wd), v3 = .bool sp ∧ Aside0 (0 ≤ at_ ∧ at_ ≤ (s.size : Int) ∧ l.length ≤ 16) ∧ Aside0 (blkF k s kq sp at_ l cm = some R) ∧ Aside0 (PW W0 wr g s at_ b l cm))
  case atStart => exact ⟨false, _, [], rfl, ⟨by split <;> omega, HSZ.out, by simp⟩, HF, HS1⟩
  case round =>
    obtain ⟨sp, at_, l, rfl, HI, HE, HP⟩ := hrel
    clear HS1 HP5 HQ5 HR5 HB5 HG5 H HF HBB HSZ
    cases gk with
    | zero => exact absurd HE.out (by simp [blkF])
    | succ n =>
      by_cases c1 : at_ = (s.size : Int)
      · have he := HE.out
        rw [blkF, if_pos c1] at he
        injection he with he
        subst he
        have HN := Aside0.mk (show (at_ == (s.size : Int)) = true from by simp [c1])
        clear c1
        cases sp with
        | true =>
          go_wp2_with (go_at_call 61; refine (end_pw HP.out true HN.out).mono ?_; rintro e w6 ⟨rfl, hp6⟩; have HP6 := Aside0.mk hp6; clear hp6)
          go_ret
          exact ⟨rfl, HP6.out⟩
        | false =>
          go_wp2_with (go_at_call 61; refine (end_pw HP.out true HN.out).mono ?_; rintro e w6 ⟨rfl, hp6⟩; have HP6 := Aside0.mk hp6; clear hp6)
          go_ret
          exact ⟨rfl, HP6.out⟩
      have hlt : at_ < (s.size : Int) := by have := HI.out; omega
      have HLT := Aside0.mk hlt
      have hx := bt_at s at_
      have p := eq_true (show 0 ≤ at_ from HI.out.1)
      have q := eq_true hlt
      have HN := Aside0.mk (show (at_ == (s.size : Int)) = false from by simpa using c1)
      have HA : ∀ {W : World}, PW W0 W g s at_ b l cm → W.cell? ⟨g, 0, none⟩ = some (.string s) ∧ W.cell? ⟨g, 1, none⟩ = some (.int .i64 at_) := fun h => by obtain ⟨v, h1, _⟩ := h; exact ⟨h1.cells.1, h1.cells.2.1⟩
      have HA := Aside0.mk @HA
      by_cases c2 : bt s at_ = 40
      · have he := HE.out
        rw [blkF, if_neg c1, if_pos c2] at he
        injection he with he
        subst he
        have c2' : (bt s at_ == 40) = true := by simp [c2]
        clear c1 c2 hlt
        go_wp2_with (go_at_call 61; refine (end_pw HP.out false HN.out).mono ?_; rintro e w6 ⟨rfl, hp6⟩; obtain ⟨hc0, hc1⟩ := HA.out hp6; have HP6 := Aside0.mk hp6; clear hp6)
        go_quiet (fail)
        go_wp2_with (go_at_call 62; refine (comment_pw (HP6.out.drewN _) HI.out.1 HLT.out hs _ rfl).mono ?_; rintro e w7 ⟨rfl, hp7⟩; have HP7 := Aside0.mk hp7; clear hp7)
        go_ret
        exact ⟨rfl, HP7.out⟩
      have he := HE.out
      rw [blkF, if_neg c1, if_neg c2] at he
      obtain ⟨r, hr, he⟩ := Option.bind_eq_some_iff.mp he
      have c2' : (bt s at_ == 40) = false := by simpa using c2
      have HW := Aside0.mk hr
      have HBD := Aside0.mk (wordF_bound hr hlt HI.out.2.2)
      clear c1 c2 hlt hr
      by_cases c3 : r.1 = 0
      · rw [if_pos c3] at he
        have c3' : (r.1 != 0) = false := by simp [c3]
        have HPO := Aside0.mk (show at_ < r.2.1 from HBD.out.2.2.2 c3)
        clear c3
        by_cases c4 : r.2.1 = (s.size : Int)
        · rw [if_pos c4] at he
          injection he with he
          subst he
          have HN4 := Aside0.mk (show (r.2.1 == (s.size : Int)) = true from by simp [c4])
          clear c4
          go_wp2_with (go_at_call 61; refine (end_pw HP.out false HN.out).mono ?_; rintro e w6 ⟨rfl, hp6⟩; obtain ⟨hc0, hc1⟩ := HA.out hp6; have HP6 := Aside0.mk hp6; clear hp6)
          go_quiet (fail)
          go_wp2_with (first | (go_at_call 63; refine (word_calls k r.1 r.2.1 r.2.2 (HP6.out.drewN _) HI.out.1 HLT.out hs HI.out.2.2 HW.out).mono ?_; rintro e w7 ⟨rfl, hp7⟩; have HP7 := Aside0.mk hp7; clear hp7) | (go_at_call 61; refine (end_pw HP7.out true HN4.out).mono ?_; rintro e w8 ⟨rfl, hp8⟩; have HP8 := Aside0.mk hp8; clear hp8))
          go_ret
          exact ⟨rfl, HP8.out⟩
        rw [if_neg c4] at he
        have HN4 := Aside0.mk (show (r.2.1 == (s.size : Int)) = false from by simpa using c4)
        have HL4 := Aside0.mk (show r.2.1 < (s.size : Int) from by have := HBD.out; omega)
        clear c4
        by_cases c5 : bt s r.2.1 = 32
        · rw [if_pos c5] at he
          have HD := Aside0.mk (show decide (r.2.1 < (s.size : Int) ∧ bt s r.2.1 = 32) = true from decide_eq_true ⟨HL4.out, c5⟩)
          have HE2 := Aside0.mk he
          clear c5 he
          go_wp2_with (go_at_call 61; refine (end_pw HP.out false HN.out).mono ?_; rintro e w6 ⟨rfl, hp6⟩; obtain ⟨hc0, hc1⟩ := HA.out hp6; have HP6 := Aside0.mk hp6; clear hp6)
          go_quiet (fail)
          go_wp2_with (first | (go_at_call 63; refine (word_calls k r.1 r.2.1 r.2.2 (HP6.out.drewN _) HI.out.1 HLT.out hs HI.out.2.2 HW.out).mono ?_; rintro e w7 ⟨rfl, hp7⟩; have HP7 := Aside0.mk hp7; clear hp7) | (go_at_call 61; refine (end_pw HP7.out false HN4.out).mono ?_; rintro e w8 ⟨rfl, hp8⟩; have HP8 := Aside0.mk hp8; clear hp8) | (go_at_call 60; refine (skip_pw 32 HP8.out (by have := HI.out; have := HBD.out; omega) (by have := HBD.out; omega) hs true HD.out).mono ?_; rintro e w9 ⟨rfl, hp9⟩; have HP9 := Aside0.mk hp9; clear hp9))
          go_roundg n
          case measure => omega
          case rel => exact ⟨true, r.2.1 + 1, r.2.2, rfl, ⟨by have := HI.out; have := HBD.out; omega, by have := HL4.out; omega, HBD.out.2.2.1⟩, HE2, HP9⟩
        rw [if_neg c5] at he
        injection he with he
        subst he
        have HD := Aside0.mk (show decide (r.2.1 < (s.size : Int) ∧ bt s r.2.1 = 32) = false from decide_eq_false (fun h => c5 h.2))
        clear c5
        go_wp2_with (go_at_call 61; refine (end_pw HP.out false HN.out).mono ?_; rintro e w6 ⟨rfl, hp6⟩; obtain ⟨hc0, hc1⟩ := HA.out hp6; have HP6 := Aside0.mk hp6; clear hp6)
        go_quiet (fail)
        go_wp2_with (first | (go_at_call 63; refine (word_calls k r.1 r.2.1 r.2.2 (HP6.out.drewN _) HI.out.1 HLT.out hs HI.out.2.2 HW.out).mono ?_; rintro e w7 ⟨rfl, hp7⟩; have HP7 := Aside0.mk hp7; clear hp7) | (go_at_call 61; refine (end_pw HP7.out false HN4.out).mono ?_; rintro e w8 ⟨rfl, hp8⟩; have HP8 := Aside0.mk hp8; clear hp8) | (go_at_call 60; refine (skip_pw 32 HP8.out (by have := HI.out; have := HBD.out; omega) (by have := HBD.out; omega) hs false HD.out).mono ?_; rintro e w9 ⟨rfl, hp9⟩; have HP9 := Aside0.mk hp9; clear hp9))
        go_ret
        exact ⟨rfl, HP9.out⟩
      rw [if_neg c3] at he
      injection he with he
      subst he
      have c3' : (r.1 != 0) = true := by simpa using c3
      clear c3
      go_wp2_with (go_at_call 61; refine (end_pw HP.out false HN.out).mono ?_; rintro e w6 ⟨rfl, hp6⟩; obtain ⟨hc0, hc1⟩ := HA.out hp6; have HP6 := Aside0.mk hp6; clear hp6)
      go_quiet (fail)
      go_wp2_with (go_at_call 63; refine (word_calls k r.1 r.2.1 r.2.2 (HP6.out.drewN _) HI.out.1 HLT.out hs HI.out.2.2 HW.out).mono ?_; rintro e w7 ⟨rfl, hp7⟩; have HP7 := Aside0.mk hp7; clear hp7)
      go_ret
      exact ⟨rfl, HP7.out⟩
end
def skipB (s : ByteArray) : Bool := decide (0 < (s.size : Int) ∧ bt s 0 = 47)
def block_Parse.f (k : Nat) (s : ByteArray) : Option (Bool × List Wd × ByteArray × Int × Int) :=
  if 65536 < (s.size : Int) then some (false, [], "".toUTF8, 0, 3) else
  (blkF k s (s.size + 2) false (if skipB s = true then 1 else 0) [] "".toUTF8).bind fun r => if r.1 = 0 then some (skipB s, r.2.2.1, r.2.2.2, 0, 0) else some (false, [], "".toUTF8, r.2.1, r.1)
set_option maxRecDepth 100000 in
set_option maxHeartbeats 4000000 in
theorem block_Parse.calls (k : Nat) (a0 : ByteArray) (r1 : Bool) (r2 : List Wd) (r3 : ByteArray) (r4 : Int) (r5 : Int) (w : World) (h : block_Parse.f k a0 = some (r1, r2, r3, r4, r5)) :
    Calls Tryd.prog 19 #[.string a0] w fun e w' => ∃ v1_ : Value, e = .returned (.tuple #[.agg #[.bool r1, v1_, .string r3], .int .i64 r4, .int .i64 r5]) ∧ Kd.R k65 65 w' w.heap.size (fun _ => True) v1_ r2 ∧ Below w.heap.size w w' := by
  by_cases c : 65536 < (a0.size : Int)
  · have hf := h
    rw [block_Parse.f, if_pos c] at hf
    injection hf with hf
    injection hf with e1 hf
    injection hf with e2 hf
    injection hf with e3 hf
    injection hf with e4 e5
    subst e1 e2 e3 e4 e5
    have c' : decide (65536 < (a0.size : Int)) = true := decide_eq_true c
    clear c h
    go_enter Tryd.func19, Tryd.ntmps19
    go_wp2
    go_returns
    exact ⟨_, rfl, Kd.R_nil _ _ _ _ _, below_alloc (Below.refl _ _) _⟩
  have HC := Aside0.mk (show (a0.size : Int) ≤ 65536 by omega)
  have c' : decide (65536 < (a0.size : Int)) = false := decide_eq_false c
  rw [block_Parse.f, if_neg c] at h
  obtain ⟨r, hr, h⟩ := Option.bind_eq_some_iff.mp h
  have hr' : blkF k a0 (a0.size + 2) false (if skipB a0 = true then 1 else 0) [] ⟨#[]⟩ = some r := hr
  have HR := Aside0.mk hr'
  have HH := Aside0.mk h
  have HS := Aside0.mk (show (w.alloc (.cells #[.bool false, .slice none 0 0, .string ⟨#[]⟩] 31)).heap.size = w.heap.size + 1 by simp)
  have HP := Aside0.mk (show PW (w.alloc (.cells #[.bool false, .slice none 0 0, .string ⟨#[]⟩] 31)) ((w.alloc (.cells #[.bool false, .slice none 0 0, .string ⟨#[]⟩] 31)).alloc (.cells #[.string a0, .int .i64 0, .bool false, .slice none 0 0, .string ⟨#[]⟩] 71)) (w.heap.size + 1) a0 0 false [] ⟨#[]⟩ from
    ⟨.slice none 0 0, by unfold PIs; have := (Go.MapKept.heap_alloc (w.alloc (.cells #[.bool false, .slice none 0 0, .string ⟨#[]⟩] 31)) (.cells #[.string a0, .int .i64 0, .bool false, .slice none 0 0, .string ⟨#[]⟩] 71)).1; rw [HS.out] at this; exact this, Kd.R_nil _ _ _ _ _, below_alloc (Below.refl _ _) _, by simp⟩)
  have HRes := Aside0.mk (show ∀ {W : World} {at_ : Int} {l : List Wd} {cm : ByteArray}, PW (w.alloc (.cells #[.bool false, .slice none 0 0, .string ⟨#[]⟩] 31)) W (w.heap.size + 1) a0 at_ (skipB a0) l cm → W.heap[w.heap.size]? = some (.cells #[.bool false, .slice none 0 0, .string ⟨#[]⟩] 31 (0, 0)) from by
    intro W at_ l cm hp
    obtain ⟨_, _, _, hb, _⟩ := hp
    rw [hb.block _ (by simp)]
    exact (Go.MapKept.heap_alloc w _).1)
  clear c h hr hr'
  by_cases c2 : r.1 = 0
  · have c2' : (r.1 != 0) = false := by simp [c2]
    have hh := HH.out
    rw [if_pos c2] at hh
    injection hh with hh
    injection hh with e1 hh
    injection hh with e2 hh
    injection hh with e3 hh
    injection hh with e4 e5
    subst e1 e2 e3 e4 e5
    clear c2
    go_enter Tryd.func19, Tryd.ntmps19
    go_wp2_with (go_at_call 43; refine (block_calls k _ (skipB a0) r HP.out HC.out rfl HR.out).mono ?_; rintro e w5 ⟨rfl, hp5⟩; have hres := HRes.out hp5; have HRS := Aside0.mk hres; obtain ⟨hr0, hr1, hr2⟩ := (show w5.cell? ⟨w.heap.size, 0, none⟩ = some (.bool false) ∧ w5.cell? ⟨w.heap.size, 1, none⟩ = some (.slice none 0 0) ∧ w5.cell? ⟨w.heap.size, 2, none⟩ = some (.string ⟨#[]⟩) from ⟨(blk_cell hres 0).trans rfl, (blk_cell hres 1).trans rfl, (blk_cell hres 2).trans rfl⟩); have HP5 := Aside0.mk hp5; obtain ⟨v5, hq5, hr5, hb5, hg5⟩ := hp5; obtain ⟨A5, c5, hA5⟩ := Kd.R_slice hr5; subst hA5; obtain ⟨hc0, hc1, hc2, hc3, hc4⟩ := hq5.cells; have hf0 := blk_frozen hres 0; have hf1 := blk_frozen hres 1; have hf2 := blk_frozen hres 2; have HQ5 := Aside0.mk hq5; have HR5 := Aside0.mk hr5; have HB5 := Aside0.mk hb5; have HG5 := Aside0.mk hg5; clear hq5 hr5 hb5 hg5 hres)
    have hz := blk_set (blk_set (blk_set HRS.out 0 (.bool (skipB a0))) 1 (.slice A5 r.2.2.1.length c5)) 2 (.string r.2.2.2)
    obtain ⟨hz0, hz1, hz2⟩ := And.intro (blk_cell hz 0) (And.intro (blk_cell hz 1) (blk_cell hz 2))
    refine bodyPost_ret (v := .tuple #[.agg #[.bool (skipB a0), .slice A5 r.2.2.1.length c5, .string r.2.2.2], .int .i64 0, .int .i64 0]) (by simp [results, Tryd.results19, go_sem, hz0, hz1, hz2]; try rfl) rfl ?_
    refine ⟨_, rfl, ?_, ?_⟩
    · refine Kd.R_lower (Kd.R_mono (Kd.R_far (Kd.R_far (Kd.R_far (Kd.R_mono (Kd.R_bound HR5.out) (ok' := fun k => k ≠ w.heap.size) ?_) ?_ _) ?_ _) ?_ _) (fun _ _ => trivial)) ?_
      · intro k hk; have h1 := hk.2.1; have h2 := HS.out; omega
      · exact fun k hk => hk
      · exact fun k hk => hk
      · exact fun k hk => hk
      have h2 := HS.out; omega
    exact below_set (below_set (below_set (below_weaken (below_alloc (Below.refl _ _) _) (by have h2 := HS.out; omega) HB5.out) (Nat.le_refl _)) (Nat.le_refl _)) (Nat.le_refl _)
  have c2' : (r.1 != 0) = true := by simp [c2]
  have hh := HH.out
  rw [if_neg c2] at hh
  injection hh with hh
  injection hh with e1 hh
  injection hh with e2 hh
  injection hh with e3 hh
  injection hh with e4 e5
  subst e1 e2 e3 e4 e5
  clear c2
  go_enter Tryd.func19, Tryd.ntmps19
  go_wp2_with (go_at_call 43; refine (block_calls k _ (skipB a0) r HP.out HC.out rfl HR.out).mono ?_; rintro e w5 ⟨rfl, hp5⟩; have hres := HRes.out hp5; have HRS := Aside0.mk hres; obtain ⟨hr0, hr1, hr2⟩ := (show w5.cell? ⟨w.heap.size, 0, none⟩ = some (.bool false) ∧ w5.cell? ⟨w.heap.size, 1, none⟩ = some (.slice none 0 0) ∧ w5.cell? ⟨w.heap.size, 2, none⟩ = some (.string ⟨#[]⟩) from ⟨(blk_cell hres 0).trans rfl, (blk_cell hres 1).trans rfl, (blk_cell hres 2).trans rfl⟩); have HP5 := Aside0.mk hp5; obtain ⟨v5, hq5, hr5, hb5, hg5⟩ := hp5; obtain ⟨A5, c5, hA5⟩ := Kd.R_slice hr5; subst hA5; obtain ⟨hc0, hc1, hc2, hc3, hc4⟩ := hq5.cells; have hf0 := blk_frozen hres 0; have hf1 := blk_frozen hres 1; have hf2 := blk_frozen hres 2; have HQ5 := Aside0.mk hq5; have HR5 := Aside0.mk hr5; have HB5 := Aside0.mk hb5; have HG5 := Aside0.mk hg5; clear hq5 hr5 hb5 hg5 hres)
  go_region
  go_wp2
  have hz := blk_drewN (blk_set (blk_set (blk_set HRS.out 0 (.bool false)) 1 (.slice none 0 0)) 2 (.string ⟨#[]⟩)) 1
  obtain ⟨hz0, hz1, hz2⟩ := And.intro (blk_cell hz 0) (And.intro (blk_cell hz 1) (blk_cell hz 2))
  refine bodyPost_ret (v := .tuple #[.agg #[.bool false, .slice none 0 0, .string ⟨#[]⟩], .int .i64 r.2.1, .int .i64 r.1]) (by change Sem.run _ _ (World.drewN _ 1) = .ok _ (World.drewN _ 1); simp [results, Tryd.results19, go_sem, hz0, hz1, hz2]; try rfl) rfl ?_
  refine ⟨_, rfl, Kd.R_nil _ _ _ _ _, ?_⟩
  exact below_drew1 (below_set (below_set (below_set (below_weaken (below_alloc (Below.refl _ _) _) (by have h2 := HS.out; omega) HB5.out) (Nat.le_refl _)) (Nat.le_refl _)) (Nat.le_refl _))
end Go.Proofs.YtehkhbnhmehobaaDoor.P
namespace Go.Proofs.YtehkhbnhmehobaaDoor.P
open Go.RowKit Go.Proofs.YtehkhbnhmehobaaDoorW.PrintWords Go.Proofs.YtehkhbnhmehobaaDoorW.PrintLast Go.Proofs.YtehkhbnhmehobaaDoorW.PrintMore
attribute [local go_sem] max2_int min2_int max_two min_two max_three min_three max_four min_four
set_option linter.unusedVariables false
set_option linter.unusedSimpArgs false
def swarflaw41_awake.f (k : Nat)  : Option (Bool) := (swarflaw41_example.f).bind fun bt194 => ((block_Format.f k bt194.1 bt194.2.1 bt194.2.2).bind fun bt199 => ((block_Parse.f k bt199.1).bind fun bt201 => ((block_Parse.f k (⟨#[71, 49, 32, 32, 88, 50]⟩ : ByteArray)).bind fun bt209 => ((block_Parse.f k (⟨#[71, 49, 32, 40, 97]⟩ : ByteArray)).bind fun bt217 => (if bt199.2 = 0 then (if bt199.1.toList = ([47, 78, 49, 48, 32, 71, 49, 32, 88, 49, 50, 46, 53, 32, 89, 45, 48, 46, 50, 53, 32, 40, 108, 97, 115, 116, 32, 112, 97, 115, 115, 41] : List UInt8) then (if bt201.2.2.2.2 = 0 then (if bt201.2.2.2.1 = 0 then ((swarflaw41_example.f).bind fun bt225 => ((swarfref41_Equal.f k bt201.1 bt201.2.1 bt201.2.2.1 bt225.1 bt225.2.1 bt225.2.2).bind fun t230 => (if t230 = true then (if bt209.2.2.2.2 = 2 then (if bt209.2.2.2.1 = 3 then (if bt217.2.2.2.2 = 2 then (some (bt217.2.2.2.1 == 5)) else (none)) else (none)) else (none)) else (none)))) else (none)) else (none)) else (none)) else (none))))))
def swarflaw41_awake.T5 : Bool × List (List Nat × List Nat) := (true, [([], []), ([0], [0]), ([1], [1]), ([2], [2]), ([3, 2], [2, 3]), ([2, 4], [2, 4]), ([5, 2], [5]), ([6], [6]), ([7, 6], [6, 7]), ([6, 8], [6, 8]), ([9, 6], [9]), ([10], [10]), ([11, 10], [10, 11]), ([10, 12], [10, 12]), ([13, 10], [13]), ([14], [14]), ([14, 14], [14]), ([15, 16, 16, 14], [14, 15, 16]), ([14, 17], [14, 17]), ([18, 17], [18]), ([19], [19]), ([20, 19], [19, 20]), ([19, 21], [19, 21]), ([22, 19], [22]), ([23], [23]), ([24, 23], [23, 24]), ([23, 25], [23, 25]), ([26, 23], [26]), ([27], [27]), ([28, 27], [27, 28]), ([27, 29], [27, 29]), ([30, 27], [30]), ([31], [31]), ([32, 31], [31, 32]), ([31, 33], [31, 33]), ([34, 31, 0, 1, 2, 3, 4, 5, 6, 7, 8, 9, 10, 11, 12, 13, 14, 15, 16, 17, 18, 19, 20, 21, 22, 23, 24, 25, 26, 27, 28, 29, 30, 31, 32, 33, 34], [34])])
def swarflaw41_awake.B5 : List Nat := [0, 1, 3, 7, 15, 31, 63, 127, 255, 511, 1023, 2047, 4095, 8191, 16383, 32767, 32767, 131071, 262143, 524287, 1048575, 2097151, 4194303, 8388607, 16777215, 33554431, 67108863, 134217727, 268435455, 536870911, 1073741823, 2147483647, 4294967295, 8589934591, 17179869183, 34359738367]
theorem swarflaw41_awake.tab5 : rtab .any (opsOf Tryd.f9 5) = swarflaw41_awake.T5 := by kernel_rfl
theorem swarflaw41_awake.bits5 : waitsOk swarflaw41_awake.T5.2 swarflaw41_awake.B5 = true := by kernel_rfl
set_option maxHeartbeats 8000000 in
set_option maxRecDepth 100000 in
theorem swarflaw41_awake.calls (k : Nat)  (r : Bool) (w : World) (h : swarflaw41_awake.f k  = some r) (hTB_ : TabOk w := by first | with_reducible exact HTB_.out | exact HTB_.out.step yB) :
  Calls Tryd.prog 9 #[] w fun e w' => e = .returned (.bool r) ∧ Below w.heap.size w w' := by
 have HTB_ := Aside0.mk hTB_
 clear hTB_
 have hu31 := Tryd.underlying31
 have HB := Aside0.mk (Below.refl w.heap.size w)
 have H : ((swarflaw41_example.f).bind fun bt194 => ((block_Format.f k bt194.1 bt194.2.1 bt194.2.2).bind fun bt199 => ((block_Parse.f k bt199.1).bind fun bt201 => ((block_Parse.f k (⟨#[71, 49, 32, 32, 88, 50]⟩ : ByteArray)).bind fun bt209 => ((block_Parse.f k (⟨#[71, 49, 32, 40, 97]⟩ : ByteArray)).bind fun bt217 => (if bt199.2 = 0 then (if bt199.1.toList = ([47, 78, 49, 48, 32, 71, 49, 32, 88, 49, 50, 46, 53, 32, 89, 45, 48, 46, 50, 53, 32, 40, 108, 97, 115, 116, 32, 112, 97, 115, 115, 41] : List UInt8) then (if bt201.2.2.2.2 = 0 then (if bt201.2.2.2.1 = 0 then ((swarflaw41_example.f).bind fun bt225 => ((swarfref41_Equal.f k bt201.1 bt201.2.1 bt201.2.2.1 bt225.1 bt225.2.1 bt225.2.2).bind fun t230 => (if t230 = true then (if bt209.2.2.2.2 = 2 then (if bt209.2.2.2.1 = 3 then (if bt217.2.2.2.2 = 2 then (some (bt217.2.2.2.1 == 5)) else (none)) else (none)) else (none)) else (none)))) else (none)) else (none)) else (none)) else (none))))))) = some r := h
 clear h
 replace H := Option.bind_eq_some_iff.mp H
 obtain ⟨⟨t194, t195, t198⟩, A10, H⟩ := H
 have A1 := Aside0.mk A10
 clear A10
 replace H := Option.bind_eq_some_iff.mp H
 obtain ⟨⟨t199, t200⟩, A20, H⟩ := H
 have A2 := Aside0.mk A20
 clear A20
 replace H := Option.bind_eq_some_iff.mp H
 obtain ⟨⟨t201, t202, t205, t206, t207⟩, A30, H⟩ := H
 have A3 := Aside0.mk A30
 clear A30
 replace H := Option.bind_eq_some_iff.mp H
 obtain ⟨⟨t209, t210, t213, t214, t215⟩, A40, H⟩ := H
 have A4 := Aside0.mk A40
 clear A40
 replace H := Option.bind_eq_some_iff.mp H
 obtain ⟨⟨t217, t218, t221, t222, t223⟩, A50, H⟩ := H
 have A5 := Aside0.mk A50
 clear A50
 by_cases c6 : t200 = 0
 ·rw [if_pos c6] at H
  have c6b0 : (t200 == 0) = true := beq_iff_eq.mpr c6
  have c6b1 : (t200 != 0) = false := bne_eq_false_iff_eq.mpr c6
  clear c6
  by_cases c7 : t199.toList = ([47, 78, 49, 48, 32, 71, 49, 32, 88, 49, 50, 46, 53, 32, 89, 45, 48, 46, 50, 53, 32, 40, 108, 97, 115, 116, 32, 112, 97, 115, 115, 41] : List UInt8)
  ·rw [if_pos c7] at H
   have c7b0 : (t199.toList == ([47, 78, 49, 48, 32, 71, 49, 32, 88, 49, 50, 46, 53, 32, 89, 45, 48, 46, 50, 53, 32, 40, 108, 97, 115, 116, 32, 112, 97, 115, 115, 41] : List UInt8)) = true := beq_iff_eq.mpr c7
   have c7b1 : (t199.toList != ([47, 78, 49, 48, 32, 71, 49, 32, 88, 49, 50, 46, 53, 32, 89, 45, 48, 46, 50, 53, 32, 40, 108, 97, 115, 116, 32, 112, 97, 115, 115, 41] : List UInt8)) = false := bne_eq_false_iff_eq.mpr c7
   clear c7
   by_cases c8 : t207 = 0
   ·rw [if_pos c8] at H
    have c8b0 : (t207 == 0) = true := beq_iff_eq.mpr c8
    have c8b1 : (t207 != 0) = false := bne_eq_false_iff_eq.mpr c8
    clear c8
    by_cases c9 : t206 = 0
    ·rw [if_pos c9] at H
     have c9b0 : (t206 == 0) = true := beq_iff_eq.mpr c9
     have c9b1 : (t206 != 0) = false := bne_eq_false_iff_eq.mpr c9
     clear c9
     replace H := Option.bind_eq_some_iff.mp H
     obtain ⟨⟨t225, t226, t229⟩, A100, H⟩ := H
     have A10 := Aside0.mk A100
     clear A100
     replace H := Option.bind_eq_some_iff.mp H
     obtain ⟨t230, A110, H⟩ := H
     have A11 := Aside0.mk A110
     clear A110
     by_cases c12 : t230 = true
     ·subst c12
      rw [if_pos rfl] at H
      by_cases c13 : t215 = 2
      ·rw [if_pos c13] at H
       have c13b0 : (t215 == 2) = true := beq_iff_eq.mpr c13
       have c13b1 : (t215 != 2) = false := bne_eq_false_iff_eq.mpr c13
       clear c13
       by_cases c14 : t214 = 3
       ·rw [if_pos c14] at H
        have c14b0 : (t214 == 3) = true := beq_iff_eq.mpr c14
        have c14b1 : (t214 != 3) = false := bne_eq_false_iff_eq.mpr c14
        clear c14
        by_cases c15 : t223 = 2
        ·rw [if_pos c15] at H
         have c15b0 : (t223 == 2) = true := beq_iff_eq.mpr c15
         have c15b1 : (t223 != 2) = false := bne_eq_false_iff_eq.mpr c15
         clear c15
         obtain rfl := Option.some.inj H
         go_enter Tryd.func9, Tryd.ntmps9
         try go_wp2_with (first | ((with_reducible refine gate_callee (f := 30) rfl ?_); refine goesL_ (some 13) rfl rfl Tryd.func30 (by kernel_rfl) rfl #[] rfl yQ ?_; (with_reducible refine (swarflaw41_example.calls  t194 t195 t198 _ A1.out).mono ?_); rintro e w16 ⟨v196, rfl, ho0, hb⟩; refine ⟨_, rfl, ?_⟩; have HO197 := Aside0.mk (Kd.R_lower ho0 (below_size yB)); replace HB := Aside0.mk (below_step yB hb); (try clear hb); (try clear ho0); obtain ⟨Ao17, co17, eo17⟩ := Kd.R_slice HO197.out; subst eo17) | ((with_reducible refine gate_callee (f := 15) rfl ?_); refine goesL_ (some 14) rfl rfl Tryd.func15 (by kernel_rfl) rfl #[.agg #[.bool t194, .slice Ao17 t195.length co17, .string t198]] rfl yQ ?_; (with_reducible refine (block_Format.calls k t194 _ _ t195 t198 t199 t200 _ ?side1 ?side2 A2.out).mono ?_); (case side1 => repeat (first | exact (Kd.R_reads' HO197.out).2.2 | (with_reducible refine Kd.C_alloc ?_ _) | (with_reducible refine Kd.C_drewN ?_ _) | (with_reducible refine Kd.C_drew ?_))); (case side2 => exact (Kd.R_reads' HO197.out).2.1); rintro e w18 ⟨rfl, hb⟩; refine ⟨_, rfl, ?_⟩; replace HO197 := Aside0.mk (Kd.R_below (yR HO197.out) hb); replace HB := Aside0.mk (below_step yB hb); (try clear hb)) | ((with_reducible refine gate_callee (f := 19) rfl ?_); refine goesL_ (some 19) rfl rfl Tryd.func19 (by kernel_rfl) rfl #[.string t199] rfl yQ ?_; (with_reducible refine (block_Parse.calls k t199 t201 t202 t205 t206 t207 _ A3.out).mono ?_); rintro e w19 ⟨v203, rfl, ho0, hb⟩; refine ⟨_, rfl, ?_⟩; have HO204 := Aside0.mk (Kd.R_lower (Kd.R_new' ho0 (Kd.R_lt (yR HO197.out))) (below_size yB)); replace HO197 := Aside0.mk (Kd.R_elder' (yR HO197.out) (Kd.R_base ho0) hb); replace HB := Aside0.mk (below_step yB hb); (try clear hb); (try clear ho0)) | ((with_reducible refine gate_dst (N := 3) rfl ?_); refine yX 3 #[.bool false, .slice none 0 0, .string (⟨#[]⟩ : ByteArray)] 31 ?_; intro gb208 hg w20 hbox hb; replace HO197 := Aside0.mk (Kd.R_below (yR HO197.out) hb); replace HO204 := Aside0.mk (Kd.R_below (yR HO204.out) hb); have BK208 := Aside0.mk (hbox); have GE208 := Aside0.mk ((yG hg : w.heap.size ≤ gb208)); replace HB := Aside0.mk (below_step yB hb); clear hb hbox hg; have hcz21_0 := yZ0 BK208.out; have hcz21_1 := yZ1 BK208.out; have hcz21_2 := yZ2 BK208.out; have hfz21_0 := blk_frozen BK208.out 0; have hfz21_1 := blk_frozen BK208.out 1; have hfz21_2 := blk_frozen BK208.out 2; obtain ⟨Ao22, co22, eo22⟩ := Kd.R_slice HO204.out; subst eo22) | ((with_reducible refine gate_callee (f := 19) rfl ?_); refine goesL_ (some 24) rfl rfl Tryd.func19 (by kernel_rfl) rfl #[.string (⟨#[71, 49, 32, 32, 88, 50]⟩ : ByteArray)] rfl yQ ?_; (with_reducible refine (block_Parse.calls k (⟨#[71, 49, 32, 32, 88, 50]⟩ : ByteArray) t209 t210 t213 t214 t215 _ A4.out).mono ?_); rintro e w23 ⟨v211, rfl, ho0, hb⟩; refine ⟨_, rfl, ?_⟩; have HO212 := Aside0.mk (Kd.R_lower (Kd.R_new' (Kd.R_new' ho0 (Kd.R_lt (yR ((Kd.R_mono (Kd.R_far (p := ⟨gb208, 2, none⟩) (Kd.R_far (p := ⟨gb208, 1, none⟩) (Kd.R_far (p := ⟨gb208, 0, none⟩) (Kd.R_types HO197.out BK208.out (by decide)) (fun _ hk => hk.2) (.bool t201)) (fun _ hk => hk.2) (.slice Ao22 t202.length co22)) (fun _ hk => hk.2) (.string t205)) (fun _ h_ => h_.1)))))) (Kd.R_lt (yR ((Kd.R_mono (Kd.R_far (p := ⟨gb208, 2, none⟩) (Kd.R_far (p := ⟨gb208, 1, none⟩) (Kd.R_far (p := ⟨gb208, 0, none⟩) (Kd.R_types HO204.out BK208.out (by decide)) (fun _ hk => hk.2) (.bool t201)) (fun _ hk => hk.2) (.slice Ao22 t202.length co22)) (fun _ hk => hk.2) (.string t205)) (fun _ h_ => h_.1)))))) (below_size yB)); replace HO197 := Aside0.mk (Kd.R_elder' (yR ((Kd.R_mono (Kd.R_far (p := ⟨gb208, 2, none⟩) (Kd.R_far (p := ⟨gb208, 1, none⟩) (Kd.R_far (p := ⟨gb208, 0, none⟩) (Kd.R_types HO197.out BK208.out (by decide)) (fun _ hk => hk.2) (.bool t201)) (fun _ hk => hk.2) (.slice Ao22 t202.length co22)) (fun _ hk => hk.2) (.string t205)) (fun _ h_ => h_.1)))) (Kd.R_base ho0) hb); replace HO204 := Aside0.mk (Kd.R_elder' (yR ((Kd.R_mono (Kd.R_far (p := ⟨gb208, 2, none⟩) (Kd.R_far (p := ⟨gb208, 1, none⟩) (Kd.R_far (p := ⟨gb208, 0, none⟩) (Kd.R_types HO204.out BK208.out (by decide)) (fun _ hk => hk.2) (.bool t201)) (fun _ hk => hk.2) (.slice Ao22 t202.length co22)) (fun _ hk => hk.2) (.string t205)) (fun _ h_ => h_.1)))) (Kd.R_base ho0) hb); replace BK208 := Aside0.mk (blk_below (g := gb208) (o := .cells #[.bool t201, .slice Ao22 t202.length co22, .string t205] 31 (0, 0)) (by refine yH ?_; refine blk_put (cs := #[.bool t201, .slice Ao22 t202.length co22, .string (⟨#[]⟩ : ByteArray)]) ?_ 2 _ rfl; refine yH ?_; refine blk_put (cs := #[.bool t201, .slice none 0 0, .string (⟨#[]⟩ : ByteArray)]) ?_ 1 _ rfl; refine yH ?_; refine blk_put (cs := #[.bool false, .slice none 0 0, .string (⟨#[]⟩ : ByteArray)]) ?_ 0 _ rfl; refine yH ?_; exact BK208.out) hb); replace HB := Aside0.mk (below_step yB hb); (try clear hb); (try clear hk); (try clear ho0)) | ((with_reducible refine gate_dst (N := 6) rfl ?_); refine yX 6 #[.bool false, .slice none 0 0, .string (⟨#[]⟩ : ByteArray)] 31 ?_; intro gb216 hg w24 hbox hb; replace HO197 := Aside0.mk (Kd.R_below (yR HO197.out) hb); replace HO204 := Aside0.mk (Kd.R_below (yR HO204.out) hb); replace HO212 := Aside0.mk (Kd.R_below (yR HO212.out) hb); have BK216 := Aside0.mk (hbox); have GE216 := Aside0.mk ((yG hg : w.heap.size ≤ gb216)); replace HB := Aside0.mk (below_step yB hb); have NB208_216 := Aside0.mk ((yJ hg yK : gb208 ≠ gb216)); have NB216_208 := Aside0.mk ((yI hg yK : gb216 ≠ gb208)); replace BK208 := Aside0.mk (blk_below (g := gb208) yK hb); clear hb hbox hg; have hnb25 := NB216_208.out; have hnc25 := NB208_216.out; have hcz26_0 := yZ0 BK216.out; have hcz26_1 := yZ1 BK216.out; have hcz26_2 := yZ2 BK216.out; have hfz26_0 := blk_frozen BK216.out 0; have hfz26_1 := blk_frozen BK216.out 1; have hfz26_2 := blk_frozen BK216.out 2; obtain ⟨Ao27, co27, eo27⟩ := Kd.R_slice HO212.out; subst eo27) | ((with_reducible refine gate_callee (f := 19) rfl ?_); refine goesL_ (some 29) rfl rfl Tryd.func19 (by kernel_rfl) rfl #[.string (⟨#[71, 49, 32, 40, 97]⟩ : ByteArray)] rfl yQ ?_; (with_reducible refine (block_Parse.calls k (⟨#[71, 49, 32, 40, 97]⟩ : ByteArray) t217 t218 t221 t222 t223 _ A5.out).mono ?_); rintro e w28 ⟨v219, rfl, ho0, hb⟩; refine ⟨_, rfl, ?_⟩; have HO220 := Aside0.mk (Kd.R_lower (Kd.R_new' (Kd.R_new' (Kd.R_new' ho0 (Kd.R_lt (yR ((Kd.R_mono (Kd.R_far (p := ⟨gb216, 2, none⟩) (Kd.R_far (p := ⟨gb216, 1, none⟩) (Kd.R_far (p := ⟨gb216, 0, none⟩) (Kd.R_types HO197.out BK216.out (by decide)) (fun _ hk => hk.2) (.bool t209)) (fun _ hk => hk.2) (.slice Ao27 t210.length co27)) (fun _ hk => hk.2) (.string t213)) (fun _ h_ => h_.1)))))) (Kd.R_lt (yR ((Kd.R_mono (Kd.R_far (p := ⟨gb216, 2, none⟩) (Kd.R_far (p := ⟨gb216, 1, none⟩) (Kd.R_far (p := ⟨gb216, 0, none⟩) (Kd.R_types HO204.out BK216.out (by decide)) (fun _ hk => hk.2) (.bool t209)) (fun _ hk => hk.2) (.slice Ao27 t210.length co27)) (fun _ hk => hk.2) (.string t213)) (fun _ h_ => h_.1)))))) (Kd.R_lt (yR ((Kd.R_mono (Kd.R_far (p := ⟨gb216, 2, none⟩) (Kd.R_far (p := ⟨gb216, 1, none⟩) (Kd.R_far (p := ⟨gb216, 0, none⟩) (Kd.R_types HO212.out BK216.out (by decide)) (fun _ hk => hk.2) (.bool t209)) (fun _ hk => hk.2) (.slice Ao27 t210.length co27)) (fun _ hk => hk.2) (.string t213)) (fun _ h_ => h_.1)))))) (below_size yB)); replace HO197 := Aside0.mk (Kd.R_elder' (yR ((Kd.R_mono (Kd.R_far (p := ⟨gb216, 2, none⟩) (Kd.R_far (p := ⟨gb216, 1, none⟩) (Kd.R_far (p := ⟨gb216, 0, none⟩) (Kd.R_types HO197.out BK216.out (by decide)) (fun _ hk => hk.2) (.bool t209)) (fun _ hk => hk.2) (.slice Ao27 t210.length co27)) (fun _ hk => hk.2) (.string t213)) (fun _ h_ => h_.1)))) (Kd.R_base ho0) hb); replace HO204 := Aside0.mk (Kd.R_elder' (yR ((Kd.R_mono (Kd.R_far (p := ⟨gb216, 2, none⟩) (Kd.R_far (p := ⟨gb216, 1, none⟩) (Kd.R_far (p := ⟨gb216, 0, none⟩) (Kd.R_types HO204.out BK216.out (by decide)) (fun _ hk => hk.2) (.bool t209)) (fun _ hk => hk.2) (.slice Ao27 t210.length co27)) (fun _ hk => hk.2) (.string t213)) (fun _ h_ => h_.1)))) (Kd.R_base ho0) hb); replace HO212 := Aside0.mk (Kd.R_elder' (yR ((Kd.R_mono (Kd.R_far (p := ⟨gb216, 2, none⟩) (Kd.R_far (p := ⟨gb216, 1, none⟩) (Kd.R_far (p := ⟨gb216, 0, none⟩) (Kd.R_types HO212.out BK216.out (by decide)) (fun _ hk => hk.2) (.bool t209)) (fun _ hk => hk.2) (.slice Ao27 t210.length co27)) (fun _ hk => hk.2) (.string t213)) (fun _ h_ => h_.1)))) (Kd.R_base ho0) hb); replace BK208 := Aside0.mk (blk_below (g := gb208) (o := .cells #[.bool t201, .slice Ao22 t202.length co22, .string t205] 31 (0, 0)) (by refine yH ?_; refine blk_far ?_ NB208_216.out _; refine yH ?_; refine blk_far ?_ NB208_216.out _; refine yH ?_; refine blk_far ?_ NB208_216.out _; refine yH ?_; exact BK208.out) hb); replace BK216 := Aside0.mk (blk_below (g := gb216) (o := .cells #[.bool t209, .slice Ao27 t210.length co27, .string t213] 31 (0, 0)) (by refine yH ?_; refine blk_put (cs := #[.bool t209, .slice Ao27 t210.length co27, .string (⟨#[]⟩ : ByteArray)]) ?_ 2 _ rfl; refine yH ?_; refine blk_put (cs := #[.bool t209, .slice none 0 0, .string (⟨#[]⟩ : ByteArray)]) ?_ 1 _ rfl; refine yH ?_; refine blk_put (cs := #[.bool false, .slice none 0 0, .string (⟨#[]⟩ : ByteArray)]) ?_ 0 _ rfl; refine yH ?_; exact BK216.out) hb); replace HB := Aside0.mk (below_step yB hb); (try clear hb); (try clear hk); (try clear ho0)) | ((with_reducible refine gate_dst (N := 9) rfl ?_); refine yX 9 #[.bool false, .slice none 0 0, .string (⟨#[]⟩ : ByteArray)] 31 ?_; intro gb224 hg w29 hbox hb; replace HO197 := Aside0.mk (Kd.R_below (yR HO197.out) hb); replace HO204 := Aside0.mk (Kd.R_below (yR HO204.out) hb); replace HO212 := Aside0.mk (Kd.R_below (yR HO212.out) hb); replace HO220 := Aside0.mk (Kd.R_below (yR HO220.out) hb); have BK224 := Aside0.mk (hbox); have GE224 := Aside0.mk ((yG hg : w.heap.size ≤ gb224)); replace HB := Aside0.mk (below_step yB hb); have NB208_224 := Aside0.mk ((yJ hg yK : gb208 ≠ gb224)); have NB224_208 := Aside0.mk ((yI hg yK : gb224 ≠ gb208)); replace BK208 := Aside0.mk (blk_below (g := gb208) yK hb); have NB216_224 := Aside0.mk ((yJ hg yK : gb216 ≠ gb224)); have NB224_216 := Aside0.mk ((yI hg yK : gb224 ≠ gb216)); replace BK216 := Aside0.mk (blk_below (g := gb216) yK hb); clear hb hbox hg; have hnb30 := NB224_208.out; have hnc30 := NB208_224.out; have hnb31 := NB224_216.out; have hnc31 := NB216_224.out; have hcz32_0 := yZ0 BK224.out; have hcz32_1 := yZ1 BK224.out; have hcz32_2 := yZ2 BK224.out; have hfz32_0 := blk_frozen BK224.out 0; have hfz32_1 := blk_frozen BK224.out 1; have hfz32_2 := blk_frozen BK224.out 2; obtain ⟨Ao33, co33, eo33⟩ := Kd.R_slice HO220.out; subst eo33))
         have n0_ : Aside0 (Kd.R k65 65 (((w29.setCell ⟨gb224, 0, none⟩ (.bool t217)).setCell ⟨gb224, 1, none⟩ (.slice Ao33 t218.length co33)).setCell ⟨gb224, 2, none⟩ (.string t221)) w.heap.size (fun k_ => some k_ ≠ (.slice Ao22 t202.length co22 : Value).ownBlock ∧ some k_ ≠ (.slice Ao27 t210.length co27 : Value).ownBlock ∧ some k_ ≠ (.slice Ao33 t218.length co33 : Value).ownBlock) (.slice Ao17 t195.length co17) t195) := ⟨by refine yR ?_; exact Kd.R_mono (Kd.R_far (p := ⟨gb224, 2, none⟩) (Kd.R_far (p := ⟨gb224, 1, none⟩) (Kd.R_far (p := ⟨gb224, 0, none⟩) (Kd.R_types HO197.out BK224.out (by decide)) (fun _ hk => hk.2) (.bool t217)) (fun _ hk => hk.2) (.slice Ao33 t218.length co33)) (fun _ hk => hk.2) (.string t221)) (fun _ hk => ⟨hk.1.1.1.2, ⟨hk.1.1.2, hk.1.2⟩⟩)⟩
         have n1_ : Aside0 (Kd.R k65 65 (((w29.setCell ⟨gb224, 0, none⟩ (.bool t217)).setCell ⟨gb224, 1, none⟩ (.slice Ao33 t218.length co33)).setCell ⟨gb224, 2, none⟩ (.string t221)) w.heap.size (fun k_ => some k_ ≠ (.slice Ao17 t195.length co17 : Value).ownBlock ∧ some k_ ≠ (.slice Ao27 t210.length co27 : Value).ownBlock ∧ some k_ ≠ (.slice Ao33 t218.length co33 : Value).ownBlock) (.slice Ao22 t202.length co22) t202) := ⟨by refine yR ?_; exact Kd.R_mono (Kd.R_far (p := ⟨gb224, 2, none⟩) (Kd.R_far (p := ⟨gb224, 1, none⟩) (Kd.R_far (p := ⟨gb224, 0, none⟩) (Kd.R_types HO204.out BK224.out (by decide)) (fun _ hk => hk.2) (.bool t217)) (fun _ hk => hk.2) (.slice Ao33 t218.length co33)) (fun _ hk => hk.2) (.string t221)) (fun _ hk => ⟨hk.1.1.1.2, ⟨hk.1.1.2, hk.1.2⟩⟩)⟩
         have n2_ : Aside0 (Kd.R k65 65 (((w29.setCell ⟨gb224, 0, none⟩ (.bool t217)).setCell ⟨gb224, 1, none⟩ (.slice Ao33 t218.length co33)).setCell ⟨gb224, 2, none⟩ (.string t221)) w.heap.size (fun k_ => some k_ ≠ (.slice Ao17 t195.length co17 : Value).ownBlock ∧ some k_ ≠ (.slice Ao22 t202.length co22 : Value).ownBlock ∧ some k_ ≠ (.slice Ao33 t218.length co33 : Value).ownBlock) (.slice Ao27 t210.length co27) t210) := ⟨by refine yR ?_; exact Kd.R_mono (Kd.R_far (p := ⟨gb224, 2, none⟩) (Kd.R_far (p := ⟨gb224, 1, none⟩) (Kd.R_far (p := ⟨gb224, 0, none⟩) (Kd.R_types HO212.out BK224.out (by decide)) (fun _ hk => hk.2) (.bool t217)) (fun _ hk => hk.2) (.slice Ao33 t218.length co33)) (fun _ hk => hk.2) (.string t221)) (fun _ hk => ⟨hk.1.1.1.2, ⟨hk.1.1.2, hk.1.2⟩⟩)⟩
         have n3_ : Aside0 (Kd.R k65 65 (((w29.setCell ⟨gb224, 0, none⟩ (.bool t217)).setCell ⟨gb224, 1, none⟩ (.slice Ao33 t218.length co33)).setCell ⟨gb224, 2, none⟩ (.string t221)) w.heap.size (fun k_ => some k_ ≠ (.slice Ao17 t195.length co17 : Value).ownBlock ∧ some k_ ≠ (.slice Ao22 t202.length co22 : Value).ownBlock ∧ some k_ ≠ (.slice Ao27 t210.length co27 : Value).ownBlock) (.slice Ao33 t218.length co33) t218) := ⟨by refine yR ?_; exact Kd.R_mono (Kd.R_far (p := ⟨gb224, 2, none⟩) (Kd.R_far (p := ⟨gb224, 1, none⟩) (Kd.R_far (p := ⟨gb224, 0, none⟩) (Kd.R_types HO220.out BK224.out (by decide)) (fun _ hk => hk.2) (.bool t217)) (fun _ hk => hk.2) (.slice Ao33 t218.length co33)) (fun _ hk => hk.2) (.string t221)) (fun _ hk => ⟨hk.1.1.1.2, ⟨hk.1.1.2, hk.1.2⟩⟩)⟩
         have n4_ : Aside0 ((((w29.setCell ⟨gb224, 0, none⟩ (.bool t217)).setCell ⟨gb224, 1, none⟩ (.slice Ao33 t218.length co33)).setCell ⟨gb224, 2, none⟩ (.string t221)).heap[gb208]? = some (.cells #[.bool t201, .slice Ao22 t202.length co22, .string t205] 31 (0, 0))) := ⟨by refine yH ?_; refine blk_far ?_ NB208_224.out _; refine yH ?_; refine blk_far ?_ NB208_224.out _; refine yH ?_; refine blk_far ?_ NB208_224.out _; refine yH ?_; exact BK208.out⟩
         have n5_ : Aside0 ((((w29.setCell ⟨gb224, 0, none⟩ (.bool t217)).setCell ⟨gb224, 1, none⟩ (.slice Ao33 t218.length co33)).setCell ⟨gb224, 2, none⟩ (.string t221)).heap[gb216]? = some (.cells #[.bool t209, .slice Ao27 t210.length co27, .string t213] 31 (0, 0))) := ⟨by refine yH ?_; refine blk_far ?_ NB216_224.out _; refine yH ?_; refine blk_far ?_ NB216_224.out _; refine yH ?_; refine blk_far ?_ NB216_224.out _; refine yH ?_; exact BK216.out⟩
         have n6_ : Aside0 ((((w29.setCell ⟨gb224, 0, none⟩ (.bool t217)).setCell ⟨gb224, 1, none⟩ (.slice Ao33 t218.length co33)).setCell ⟨gb224, 2, none⟩ (.string t221)).heap[gb224]? = some (.cells #[.bool t217, .slice Ao33 t218.length co33, .string t221] 31 (0, 0))) := ⟨by refine yH ?_; refine blk_put (cs := #[.bool t217, .slice Ao33 t218.length co33, .string (⟨#[]⟩ : ByteArray)]) ?_ 2 _ rfl; refine yH ?_; refine blk_put (cs := #[.bool t217, .slice none 0 0, .string (⟨#[]⟩ : ByteArray)]) ?_ 1 _ rfl; refine yH ?_; refine blk_put (cs := #[.bool false, .slice none 0 0, .string (⟨#[]⟩ : ByteArray)]) ?_ 0 _ rfl; refine yH ?_; exact BK224.out⟩
         have n7_ : Aside0 (Below w.heap.size w (((w29.setCell ⟨gb224, 0, none⟩ (.bool t217)).setCell ⟨gb224, 1, none⟩ (.slice Ao33 t218.length co33)).setCell ⟨gb224, 2, none⟩ (.string t221))) := ⟨yB⟩
         (try clear HO197)
         (try clear HO204)
         (try clear HO212)
         (try clear HO220)
         (try clear BK208)
         (try clear BK216)
         (try clear BK224)
         (try clear HB)
         generalize (((w29.setCell ⟨gb224, 0, none⟩ (.bool t217)).setCell ⟨gb224, 1, none⟩ (.slice Ao33 t218.length co33)).setCell ⟨gb224, 2, none⟩ (.string t221)) = w34 at n0_ n1_ n2_ n3_ n4_ n5_ n6_ n7_ ⊢
         have HO197 := n0_
         have HO204 := n1_
         have HO212 := n2_
         have HO220 := n3_
         have BK208 := n4_
         have BK216 := n5_
         have BK224 := n6_
         have HB := n7_
         clear n0_ n1_ n2_ n3_ n4_ n5_ n6_ n7_
         replace HO197 := Aside0.mk (Kd.R_drew HO197.out)
         replace HO204 := Aside0.mk (Kd.R_drew HO204.out)
         replace HO212 := Aside0.mk (Kd.R_drew HO212.out)
         replace HO220 := Aside0.mk (Kd.R_drew HO220.out)
         replace BK208 := Aside0.mk (blk_drew BK208.out)
         replace BK216 := Aside0.mk (blk_drew BK216.out)
         replace BK224 := Aside0.mk (blk_drew BK224.out)
         replace HB := Aside0.mk (below_drew1 HB.out)
         refine start_ (n := 36) (S := fun w' => w'.cell? ⟨gb208, 0, none⟩ = some (.bool t201) ∧ w'.cell? ⟨gb208, 1, none⟩ = some (.slice Ao22 t202.length co22) ∧ w'.cell? ⟨gb208, 2, none⟩ = some (.string t205)) (ds := []) #[false, false, false, false, false, false, false, false, false, false, false, false, false, false, false, false, false, false, false, false, false, false, false, false, false, false, false, false, false, false, false, false, false, false, false, false] (by kernel_rfl) rfl rfl ⟨(blk_cell BK208.out 0).trans rfl, (blk_cell BK208.out 1).trans rfl, (blk_cell BK208.out 2).trans rfl⟩ (fun hHeld => ?_); refine with_tabW swarflaw41_awake.tab5 swarflaw41_awake.bits5 (fun HT_ HW_ => ?_)
         generalize w34.drew = w35 at HO197 HO204 HO212 HO220 BK208 BK216 BK224 HB hHeld ⊢
         refine yp 0 33 ?_
         refine yp 1 34 ?_
         refine yp 2 35 ?_
         refine yp 3 36 ?_
         refine yp 4 37 ?_
         refine yp 5 38 ?_
         refine yp 6 39 ?_
         refine yp 7 40 ?_
         refine yp 8 41 ?_
         refine yp 9 42 ?_
         refine yp 10 43 ?_
         refine yp 11 44 ?_
         refine yp 12 45 ?_
         refine yp 13 46 ?_
         refine yp 14 47 ?_
         refine yt 15 48 hHeld ?_
         refine yo 16 (some 49) (fun K hK => ?_)
         refine goes_ Tryd.func30 (by kernel_rfl) rfl #[] (by rfl) rfl rfl yQ ?_
         with_reducible refine (swarflaw41_example.calls  t225 t226 t229 _ A10.out).mono ?_
         rintro e w36 ⟨v227, rfl, ho0, hb⟩
         refine ⟨_, rfl, ?_⟩
         have HO228 := Aside0.mk (Kd.R_lower (Kd.R_new' (Kd.R_new' (Kd.R_new' (Kd.R_new' ho0 (Kd.R_lt (yR HO197.out))) (Kd.R_lt (yR HO204.out))) (Kd.R_lt (yR HO212.out))) (Kd.R_lt (yR HO220.out))) (below_size yB))
         replace HO197 := Aside0.mk (Kd.R_elder' (yR HO197.out) (Kd.R_base ho0) hb)
         replace HO204 := Aside0.mk (Kd.R_elder' (yR HO204.out) (Kd.R_base ho0) hb)
         replace HO212 := Aside0.mk (Kd.R_elder' (yR HO212.out) (Kd.R_base ho0) hb)
         replace HO220 := Aside0.mk (Kd.R_elder' (yR HO220.out) (Kd.R_base ho0) hb)
         replace BK208 := Aside0.mk (blk_below (g := gb208) yK hb)
         replace BK216 := Aside0.mk (blk_below (g := gb216) yK hb)
         replace BK224 := Aside0.mk (blk_below (g := gb224) yK hb)
         replace HB := Aside0.mk (below_step yB hb)
         (try clear hb)
         (try clear ho0)
         obtain ⟨Ao37, co37, eo37⟩ := Kd.R_slice HO228.out
         (first | subst eo37 | (injection eo37 with f1_ f2_ f3_; have f4_ := f1_.symm; have f5_ := f3_.symm; clear f1_ f2_ f3_; subst f4_; subst f5_))
         refine hK.out _ _ ⟨(blk_cell BK208.out 0).trans rfl, (blk_cell BK208.out 1).trans rfl, (blk_cell BK208.out 2).trans rfl⟩ (fun hHeld => ?_)
         clear hK K
         refine yn 49 ?_
         refine yo 17 (some 50) (fun K hK => ?_)
         refine goes_ Tryd.func20 (by kernel_rfl) rfl #[.agg #[.bool t201, .slice Ao22 t202.length co22, .string t205], .agg #[.bool t225, .slice Ao37 t226.length co37, .string t229]] (by rfl) rfl rfl yQ ?_
         with_reducible refine (swarfref41_Equal.calls k t201 _ _ t202 t205 t225 _ _ t226 t229 true _ ?side1 ?side2 ?side3 ?side4 A11.out).mono ?_
         (case side1 => repeat (first | exact (Kd.R_reads' HO204.out).2.2 | (with_reducible refine Kd.C_alloc ?_ _) | (with_reducible refine Kd.C_drewN ?_ _) | (with_reducible refine Kd.C_drew ?_)))
         (case side2 => exact (Kd.R_reads' HO204.out).2.1)
         (case side3 => repeat (first | exact (Kd.R_reads' HO228.out).2.2 | (with_reducible refine Kd.C_alloc ?_ _) | (with_reducible refine Kd.C_drewN ?_ _) | (with_reducible refine Kd.C_drew ?_)))
         (case side4 => exact (Kd.R_reads' HO228.out).2.1)
         rintro e w38 ⟨rfl, hb⟩
         refine ⟨_, rfl, ?_⟩
         replace HO197 := Aside0.mk (Kd.R_below (yR HO197.out) hb)
         replace HO204 := Aside0.mk (Kd.R_below (yR HO204.out) hb)
         replace HO212 := Aside0.mk (Kd.R_below (yR HO212.out) hb)
         replace HO220 := Aside0.mk (Kd.R_below (yR HO220.out) hb)
         replace HO228 := Aside0.mk (Kd.R_below (yR HO228.out) hb)
         replace BK208 := Aside0.mk (blk_below (g := gb208) yK hb)
         replace BK216 := Aside0.mk (blk_below (g := gb216) yK hb)
         replace BK224 := Aside0.mk (blk_below (g := gb224) yK hb)
         replace HB := Aside0.mk (below_step yB hb)
         (try clear hb)
         refine hK.out _ _ ⟨(blk_cell BK208.out 0).trans rfl, (blk_cell BK208.out 1).trans rfl, (blk_cell BK208.out 2).trans rfl⟩ (fun hHeld => ?_)
         clear hK K
         refine yn 50 ?_
         refine yp 18 51 ?_
         refine yp 19 52 ?_
         refine yp 20 53 ?_
         refine yp 21 54 ?_
         refine yp 22 55 ?_
         refine yp 23 56 ?_
         refine yp 24 57 ?_
         refine yp 25 58 ?_
         refine yp 26 59 ?_
         refine yp 27 60 ?_
         refine yp 28 61 ?_
         refine yp 29 62 ?_
         refine yp 30 63 ?_
         refine yp 31 64 ?_
         refine yp 32 65 ?_
         refine yp 33 66 ?_
         refine yp 34 67 ?_
         refine yp 35 0 ?_
         refine done_ (done_of HT_.out (by kernel_rfl)) ?_
         try go_wp2
         go_ret
         exact ⟨yE, yB⟩
        rw [if_neg c15] at H
        have c15b0 : (t223 == 2) = false := beq_eq_false_iff_ne.mpr c15
        have c15b1 : (t223 != 2) = true := bne_iff_ne.mpr c15
        exact absurd H (by simp)
       rw [if_neg c14] at H
       have c14b0 : (t214 == 3) = false := beq_eq_false_iff_ne.mpr c14
       have c14b1 : (t214 != 3) = true := bne_iff_ne.mpr c14
       exact absurd H (by simp)
      rw [if_neg c13] at H
      have c13b0 : (t215 == 2) = false := beq_eq_false_iff_ne.mpr c13
      have c13b1 : (t215 != 2) = true := bne_iff_ne.mpr c13
      exact absurd H (by simp)
     replace c12 := Bool.eq_false_iff.mpr c12
     subst c12
     replace H : (none) = some r := by rw [if_neg (show ¬ (false = true) by decide)] at H; exact H
     exact absurd H (by simp)
    rw [if_neg c9] at H
    have c9b0 : (t206 == 0) = false := beq_eq_false_iff_ne.mpr c9
    have c9b1 : (t206 != 0) = true := bne_iff_ne.mpr c9
    exact absurd H (by simp)
   rw [if_neg c8] at H
   have c8b0 : (t207 == 0) = false := beq_eq_false_iff_ne.mpr c8
   have c8b1 : (t207 != 0) = true := bne_iff_ne.mpr c8
   exact absurd H (by simp)
  rw [if_neg c7] at H
  have c7b0 : (t199.toList == ([47, 78, 49, 48, 32, 71, 49, 32, 88, 49, 50, 46, 53, 32, 89, 45, 48, 46, 50, 53, 32, 40, 108, 97, 115, 116, 32, 112, 97, 115, 115, 41] : List UInt8)) = false := beq_eq_false_iff_ne.mpr c7
  have c7b1 : (t199.toList != ([47, 78, 49, 48, 32, 71, 49, 32, 88, 49, 50, 46, 53, 32, 89, 45, 48, 46, 50, 53, 32, 40, 108, 97, 115, 116, 32, 112, 97, 115, 115, 41] : List UInt8)) = true := bne_iff_ne.mpr c7
  exact absurd H (by simp)
 rw [if_neg c6] at H
 have c6b0 : (t200 == 0) = false := beq_eq_false_iff_ne.mpr c6
 have c6b1 : (t200 != 0) = true := bne_iff_ne.mpr c6
 exact absurd H (by simp)
end Go.Proofs.YtehkhbnhmehobaaDoor.P
namespace Go.Proofs.YtehkhbnhmehobaaDoor.P
open Go.RowKit
end Go.Proofs.YtehkhbnhmehobaaDoor.P
namespace Go.Proofs.YtehkhbnhmehobaaDoor.P
open Go.RowKit Go.Proofs.YtehkhbnhmehobaaDoorW.PrintWords Go.Proofs.YtehkhbnhmehobaaDoorW.PrintLast Go.Proofs.YtehkhbnhmehobaaDoorW.PrintMore
attribute [local go_sem] max2_int min2_int max_two min_two max_three min_three max_four min_four
set_option linter.unusedVariables false
set_option linter.unusedSimpArgs false
def swarfref41_digits.l0 : Nat → Int → ByteArray → Option (ByteArray)
 | 0, _, _ => none
 | k + 1, x0, x3 => if x0 > 0 then (if (Utf8.encode (wrap32 (IntKind.u64.wrap (48 + (Int.tmod x0 10))))).size + x3.size ≤ 9223372036854775807 then (swarfref41_digits.l0 k (IntKind.u64.wrap (Int.tdiv x0 10)) ((Utf8.encode (wrap32 (IntKind.u64.wrap (48 + (Int.tmod x0 10))))) ++ x3)) else (none)) else (if x3.toList = ([] : List UInt8) then (if (Utf8.encode (wrap32 (IntKind.u64.wrap (48 + (Int.tmod x0 10))))).size + x3.size ≤ 9223372036854775807 then (swarfref41_digits.l0 k (IntKind.u64.wrap (Int.tdiv x0 10)) ((Utf8.encode (wrap32 (IntKind.u64.wrap (48 + (Int.tmod x0 10))))) ++ x3)) else (none)) else (some x3))
def swarfref41_digits.f (k : Nat) (a0 : Int) : Option (ByteArray) := swarfref41_digits.l0 k a0 (⟨#[]⟩ : ByteArray)
set_option maxHeartbeats 8000000 in
set_option maxRecDepth 100000 in
theorem swarfref41_digits.calls (k : Nat) (a0 : Int) (r : ByteArray) (w : World) (h : swarfref41_digits.f k a0 = some r) :
  Calls Tryd.prog 37 #[.int .u64 a0] w fun e w' => e = .returned (.string r) ∧ Drawn0 w w' := by
 have H : (swarfref41_digits.l0 k a0 (⟨#[]⟩ : ByteArray)) = some r := h
 clear h
 have H' := Aside0.mk H
 clear H
 go_enter Tryd.func37, Tryd.ntmps37
 go_wp2
 go_loopg [0, 3] k (fun kq v0 v3 w' => ∃ (x0_1 : Int) (x3_1 : ByteArray), v0 = .int .u64 x0_1 ∧ v3 = .string x3_1 ∧ Aside0 (swarfref41_digits.l0 kq x0_1 x3_1 = some r) ∧ Aside0 (kq ≤ k) ∧ Drawn0 w w')
 case atStart => exact ⟨(a0), ((⟨#[]⟩ : ByteArray)), yS, yS, H', ⟨Nat.le_refl _⟩, by repeat (first | exact Drawn0.refl _ | apply Drawn0.step)⟩
 case round =>
  clear H'
  obtain ⟨x0_1, x3_1, rfl, rfl, HA, HK1, ⟨m1, rfl⟩⟩ := hrel
  cases gk with
  | zero => exact absurd HA.out (by simp [swarfref41_digits.l0])
  | succ k1 =>
   have H := HA.out
   clear HA
   simp only [swarfref41_digits.l0] at H
   by_cases c2 : x0_1 > 0
   ·rw [if_pos c2] at H
    have c2b0 := decide_eq_true c2
    clear c2
    by_cases c3 : (Utf8.encode (wrap32 (IntKind.u64.wrap (48 + (Int.tmod x0_1 10))))).size + x3_1.size ≤ 9223372036854775807
    ·rw [if_pos c3] at H
     have c3b0 := eq_true c3
     have c3b1 := decide_eq_true c3
     try have c3b2 : (9223372036854775807 < (Utf8.encode (wrap32 (IntKind.u64.wrap (48 + (Int.tmod x0_1 10))))).size + x3_1.size) = False := eq_false (Nat.not_lt.2 c3)
     have H' := Aside0.mk H
     clear H
     go_wp2
     go_roundg k1
     case measure => have := HK1.out; omega
     case rel => exact ⟨(IntKind.u64.wrap (Int.tdiv x0_1 10)), ((Utf8.encode (wrap32 (IntKind.u64.wrap (48 + (Int.tmod x0_1 10))))) ++ x3_1), yS, yS, H', ⟨by have := HK1.out; omega⟩, by repeat (first | exact Drawn0.refl _ | apply Drawn0.step)⟩
    rw [if_neg c3] at H
    exact absurd H (by simp)
   rw [if_neg c2] at H
   have c2b0 := decide_eq_false c2
   clear c2
   by_cases c4 : x3_1.toList = ([] : List UInt8)
   ·rw [if_pos c4] at H
    have c4b0 : (x3_1.toList == ([] : List UInt8)) = true := beq_iff_eq.mpr c4
    have c4b1 : (x3_1.toList != ([] : List UInt8)) = false := bne_eq_false_iff_eq.mpr c4
    clear c4
    by_cases c5 : (Utf8.encode (wrap32 (IntKind.u64.wrap (48 + (Int.tmod x0_1 10))))).size + x3_1.size ≤ 9223372036854775807
    ·rw [if_pos c5] at H
     have c5b0 := eq_true c5
     have c5b1 := decide_eq_true c5
     try have c5b2 : (9223372036854775807 < (Utf8.encode (wrap32 (IntKind.u64.wrap (48 + (Int.tmod x0_1 10))))).size + x3_1.size) = False := eq_false (Nat.not_lt.2 c5)
     have H' := Aside0.mk H
     clear H
     go_wp2
     go_roundg k1
     case measure => have := HK1.out; omega
     case rel => exact ⟨(IntKind.u64.wrap (Int.tdiv x0_1 10)), ((Utf8.encode (wrap32 (IntKind.u64.wrap (48 + (Int.tmod x0_1 10))))) ++ x3_1), yS, yS, H', ⟨by have := HK1.out; omega⟩, by repeat (first | exact Drawn0.refl _ | apply Drawn0.step)⟩
    rw [if_neg c5] at H
    exact absurd H (by simp)
   rw [if_neg c4] at H
   have c4b0 : (x3_1.toList == ([] : List UInt8)) = false := beq_eq_false_iff_ne.mpr c4
   have c4b1 : (x3_1.toList != ([] : List UInt8)) = true := bne_iff_ne.mpr c4
   obtain rfl := Option.some.inj H
   go_wp2
   go_ret
   exact ⟨by first | rfl | (simp; done) | (simp [*]; done), by repeat (first | exact Drawn0.refl _ | apply Drawn0.step)⟩
mutual
def swarfref41_Text.j0 : Nat → ByteArray → Int → Option (ByteArray)
 | 0, _, _ => none
 | k + 1, x3, x4 => (swarfref41_digits.f k (IntKind.u64.wrap (Int.tdiv x4 1000))).bind fun t231 => (if x3.size + t231.size ≤ 9223372036854775807 then (if (Int.tmod x4 1000) > 0 then ((swarfref41_digits.f k (IntKind.u64.wrap (1000 + (Int.tmod x4 1000)))).bind fun t232 => (if 1 ≤ (t232.size : Int) then (swarfref41_Text.l0 k (x3 ++ t231) (t232.extract 1 t232.size)) else (none))) else (some (x3 ++ t231))) else (none))
def swarfref41_Text.l0 : Nat → ByteArray → ByteArray → Option (ByteArray)
 | 0, _, _ => none
 | k + 1, x5, x7 => if 0 ≤ (wrap64 ((x7.size : Int) - 1)) then (if (wrap64 ((x7.size : Int) - 1)) < (x7.size : Int) then (if (bt x7 (wrap64 ((x7.size : Int) - 1))) = 48 then (if (wrap64 ((x7.size : Int) - 1)) ≤ (x7.size : Int) then (swarfref41_Text.l0 k x5 (x7.extract 0 ((wrap64 ((x7.size : Int) - 1)) : Int).toNat)) else (none)) else (if x5.size + 1 ≤ 9223372036854775807 then (if (x5 ++ (⟨#[46]⟩ : ByteArray)).size + x7.size ≤ 9223372036854775807 then (some ((x5 ++ (⟨#[46]⟩ : ByteArray)) ++ x7)) else (none)) else (none))) else (none)) else (none)
end
def swarfref41_Text.f (k : Nat) (a0 : Int) : Option (ByteArray) := if a0 < 0 then (swarfref41_Text.j0 k (⟨#[45]⟩ : ByteArray) (IntKind.u64.wrap (-(IntKind.u64.wrap (a0))))) else (swarfref41_Text.j0 k (⟨#[]⟩ : ByteArray) (IntKind.u64.wrap (a0)))
set_option maxHeartbeats 8000000 in
set_option maxRecDepth 100000 in
theorem swarfref41_Text.calls (k : Nat) (a0 : Int) (r : ByteArray) (w : World) (h : swarfref41_Text.f k a0 = some r) :
  Calls Tryd.prog 12 #[.int .i64 a0] w fun e w' => e = .returned (.string r) ∧ Drawn0 w w' := by
 have H : (if a0 < 0 then (swarfref41_Text.j0 k (⟨#[45]⟩ : ByteArray) (IntKind.u64.wrap (-(IntKind.u64.wrap (a0))))) else (swarfref41_Text.j0 k (⟨#[]⟩ : ByteArray) (IntKind.u64.wrap (a0)))) = some r := h
 clear h
 have HC2 := Aside0.mk H
 clear H
 go_enter Tryd.func12, Tryd.ntmps12
 go_upto_if 11 with (fail)
 go_cut [3, 4] (fun v3 v4 wc => ∃ (kq : Nat) (x3_1 : ByteArray) (x4_1 : Int), v3 = .string x3_1 ∧ v4 = .int .u64 x4_1 ∧ Aside0 (swarfref41_Text.j0 kq x3_1 x4_1 = some r) ∧ Aside0 (kq ≤ k) ∧ Drawn0 w wc)
 case first =>
  have H := HC2.out
  clear HC2
  by_cases c3 : a0 < 0
  ·rw [if_pos c3] at H
   have c3b0 := decide_eq_true c3
   clear c3
   (first | rw [c3b0] | (simp only [i64_w, i32_w]; rw [c3b0]) | skip)
   have H' := Aside0.mk H
   clear H
   go_wp2
   go_meet
   case rel => exact ⟨_, ((⟨#[45]⟩ : ByteArray)), (IntKind.u64.wrap (-(IntKind.u64.wrap (a0)))), yS, yS, H', ⟨by first | omega | exact Nat.le_refl _⟩, by repeat (first | exact Drawn0.refl _ | apply Drawn0.step)⟩
  rw [if_neg c3] at H
  have c3b0 := decide_eq_false c3
  clear c3
  (first | rw [c3b0] | (simp only [i64_w, i32_w]; rw [c3b0]) | skip)
  have H' := Aside0.mk H
  clear H
  go_wp2
  go_meet
  case rel => exact ⟨_, ((⟨#[]⟩ : ByteArray)), (IntKind.u64.wrap (a0)), yS, yS, H', ⟨by first | omega | exact Nat.le_refl _⟩, by repeat (first | exact Drawn0.refl _ | apply Drawn0.step)⟩
 case rest =>
  clear HC2
  try clear c1
  try clear p2
  try clear c3
  try clear c3b0
  obtain ⟨kq, x3_1, x4_1, rfl, rfl, HA, HJ1, ⟨mc1, rfl⟩⟩ := hcut
  cases kq with
  | zero => exact absurd HA.out (by simp [swarfref41_Text.j0])
  | succ kj1 =>
   have H := HA.out
   clear HA
   simp only [swarfref41_Text.j0] at H
   replace H := Option.bind_eq_some_iff.mp H
   obtain ⟨t231, A40, H⟩ := H
   have A4 := Aside0.mk A40
   clear A40
   by_cases c5 : x3_1.size + t231.size ≤ 9223372036854775807
   ·rw [if_pos c5] at H
    have c5b0 := eq_true c5
    have c5b1 := decide_eq_true c5
    try have c5b2 : (9223372036854775807 < x3_1.size + t231.size) = False := eq_false (Nat.not_lt.2 c5)
    by_cases c6 : (Int.tmod x4_1 1000) > 0
    ·rw [if_pos c6] at H
     have c6b0 := decide_eq_true c6
     clear c6
     replace H := Option.bind_eq_some_iff.mp H
     obtain ⟨t232, A70, H⟩ := H
     have A7 := Aside0.mk A70
     clear A70
     by_cases c8 : 1 ≤ (t232.size : Int)
     ·rw [if_pos c8] at H
      have c8b0 := eq_true c8
      have c8b1 := decide_eq_true c8
      clear c8
      have H' := Aside0.mk H
      clear H
      go_wp2_with (first | ((with_reducible refine gate_callee (f := 37) rfl ?_); refine goesL_ (some 17) rfl rfl Tryd.func37 (by kernel_rfl) rfl #[.int .u64 (IntKind.u64.wrap (Int.tdiv x4_1 1000))] rfl yQ ?_; (with_reducible refine (swarfref41_digits.calls kj1 (IntKind.u64.wrap (Int.tdiv x4_1 1000)) t231 _ A4.out).mono ?_); rintro e w' ⟨rfl, ⟨nd, rfl⟩⟩; refine ⟨_, rfl, ?_⟩) | ((with_reducible refine gate_callee (f := 37) rfl ?_); refine goesL_ (some 25) rfl rfl Tryd.func37 (by kernel_rfl) rfl #[.int .u64 (IntKind.u64.wrap (1000 + (Int.tmod x4_1 1000)))] rfl yQ ?_; (with_reducible refine (swarfref41_digits.calls kj1 (IntKind.u64.wrap (1000 + (Int.tmod x4_1 1000))) t232 _ A7.out).mono ?_); rintro e w' ⟨rfl, ⟨nd, rfl⟩⟩; refine ⟨_, rfl, ?_⟩))
      go_loopg [7] kj1 (fun kq v7 w' => ∃ (x7_2 : ByteArray), v7 = .string x7_2 ∧ Aside0 (swarfref41_Text.l0 kq (x3_1 ++ t231) x7_2 = some r) ∧ Aside0 (kq ≤ kj1) ∧ Drawn0 w w')
      case atStart => exact ⟨(t232.extract 1 t232.size), yS, H', ⟨Nat.le_refl _⟩, by repeat (first | exact Drawn0.refl _ | apply Drawn0.step)⟩
      case round =>
       clear H'
       try clear c1
       try clear p2
       try clear c3
       try clear c3b0
       try clear c5
       try clear c5b0
       try clear c5b1
       try clear c5b2
       try clear c6
       try clear c6b0
       try clear c8
       try clear c8b0
       try clear c8b1
       try clear p2
       obtain ⟨x7_2, rfl, HA, HK2, ⟨m2, rfl⟩⟩ := hrel
       cases gk with
       | zero => exact absurd HA.out (by simp [swarfref41_Text.l0])
       | succ k2 =>
        have H := HA.out
        clear HA
        simp only [swarfref41_Text.l0] at H
        obtain ⟨ji9, hji9⟩ : ∃ j_ : Int, (wrap64 ((x7_2.size : Int) - 1)) = j_ := ⟨_, rfl⟩
        replace H : (if 0 ≤ (ji9) then (if (ji9) < (x7_2.size : Int) then (if (bt x7_2 (ji9)) = 48 then (if (ji9) ≤ (x7_2.size : Int) then (swarfref41_Text.l0 k2 (x3_1 ++ t231) (x7_2.extract 0 ((ji9) : Int).toNat)) else (none)) else (if (x3_1 ++ t231).size + 1 ≤ 9223372036854775807 then (if ((x3_1 ++ t231) ++ (⟨#[46]⟩ : ByteArray)).size + x7_2.size ≤ 9223372036854775807 then (some (((x3_1 ++ t231) ++ (⟨#[46]⟩ : ByteArray)) ++ x7_2)) else (none)) else (none))) else (none)) else (none)) = some r := by first | (rw [hji9] at H; exact H) | (simp only [hji9] at H ⊢; exact H)
        have hji9w : (IntKind.i64.wrap ((x7_2.size : Int) - 1)) = ji9 := (i64_w _).trans hji9
        by_cases c10 : 0 ≤ (ji9)
        ·rw [if_pos c10] at H
         have c10b0 := decide_eq_true c10
         clear c10
         by_cases c11 : (ji9) < (x7_2.size : Int)
         ·rw [if_pos c11] at H
          have c11b0 := decide_eq_true c11
          clear c11
          by_cases c13 : (bt x7_2 (ji9)) = 48
          ·rw [if_pos c13] at H
           have c13b0 : ((bt x7_2 (ji9)) == 48) = true := beq_iff_eq.mpr c13
           have c13b1 : ((bt x7_2 (ji9)) != 48) = false := bne_eq_false_iff_eq.mpr c13
           clear c13
           have c14b0 := eq_true (yD : 0 ≤ (ji9))
           by_cases c15 : (ji9) ≤ (x7_2.size : Int)
           ·rw [if_pos c15] at H
            have c15b0 := eq_true c15
            have c15b1 := decide_eq_true c15
            clear c15
            have H' := Aside0.mk H
            clear H
            have p12 : 0 ≤ ((ji9) : Int) := yD
            have q12 : (ji9) < (x7_2.size : Int) := yD
            have hx12 := bt_at x7_2 (ji9)
            replace p12 := eq_true p12
            replace q12 := eq_true q12
            go_wp2
            go_roundg k2
            case measure => have := HJ1.out; have := HK2.out; omega
            case rel => exact ⟨(x7_2.extract 0 ((ji9) : Int).toNat), (by first | rfl | (simp; done) | (simp only [← hji9] <;> (first | rfl | simp)) | (simp [*]; done)), H', ⟨by have := HJ1.out; have := HK2.out; omega⟩, by repeat (first | exact Drawn0.refl _ | apply Drawn0.step)⟩
           rw [if_neg c15] at H
           exact absurd H (by simp)
          rw [if_neg c13] at H
          have c13b0 : ((bt x7_2 (ji9)) == 48) = false := beq_eq_false_iff_ne.mpr c13
          have c13b1 : ((bt x7_2 (ji9)) != 48) = true := bne_iff_ne.mpr c13
          by_cases c16 : (x3_1 ++ t231).size + 1 ≤ 9223372036854775807
          ·rw [if_pos c16] at H
           have c16b0 := eq_true c16
           have c16b1 := decide_eq_true c16
           try have c16b2 : (9223372036854775807 < (x3_1 ++ t231).size + 1) = False := eq_false (Nat.not_lt.2 c16)
           try have c16b3 : (9223372036854775807 < x3_1.size + t231.size + 1) = False := eq_false (by have hq := c16; simp only [ByteArray.size_append] at hq; omega)
           by_cases c17 : ((x3_1 ++ t231) ++ (⟨#[46]⟩ : ByteArray)).size + x7_2.size ≤ 9223372036854775807
           ·rw [if_pos c17] at H
            have c17b0 := eq_true c17
            have c17b1 := decide_eq_true c17
            try have c17b2 : (9223372036854775807 < ((x3_1 ++ t231) ++ (⟨#[46]⟩ : ByteArray)).size + x7_2.size) = False := eq_false (Nat.not_lt.2 c17)
            try have c17b3 : (9223372036854775807 < x3_1.size + t231.size + 1 + x7_2.size) = False := eq_false (by have hq := c17; simp only [ByteArray.size_append] at hq; have h_0 : (⟨#[46]⟩ : ByteArray).size = 1 := rfl; omega)
            obtain rfl := Option.some.inj H
            have p12 : 0 ≤ ((ji9) : Int) := yD
            have q12 : (ji9) < (x7_2.size : Int) := yD
            have hx12 := bt_at x7_2 (ji9)
            replace p12 := eq_true p12
            replace q12 := eq_true q12
            go_wp2
            go_ret
            exact ⟨by first | rfl | (simp; done) | (simp only [← hji9] <;> (first | rfl | simp)) | (simp [*]; done), by repeat (first | exact Drawn0.refl _ | apply Drawn0.step)⟩
           rw [if_neg c17] at H
           exact absurd H (by simp)
          rw [if_neg c16] at H
          exact absurd H (by simp)
         rw [if_neg c11] at H
         exact absurd H (by simp)
        rw [if_neg c10] at H
        exact absurd H (by simp)
     rw [if_neg c8] at H
     exact absurd H (by simp)
    rw [if_neg c6] at H
    have c6b0 := decide_eq_false c6
    clear c6
    obtain rfl := Option.some.inj H
    go_wp2_with (first | ((with_reducible refine gate_callee (f := 37) rfl ?_); refine goesL_ (some 17) rfl rfl Tryd.func37 (by kernel_rfl) rfl #[.int .u64 (IntKind.u64.wrap (Int.tdiv x4_1 1000))] rfl yQ ?_; (with_reducible refine (swarfref41_digits.calls kj1 (IntKind.u64.wrap (Int.tdiv x4_1 1000)) t231 _ A4.out).mono ?_); rintro e w' ⟨rfl, ⟨nd, rfl⟩⟩; refine ⟨_, rfl, ?_⟩))
    go_ret
    exact ⟨by first | rfl | (simp; done) | (simp [*]; done), by repeat (first | exact Drawn0.refl _ | apply Drawn0.step)⟩
   rw [if_neg c5] at H
   exact absurd H (by simp)
end Go.Proofs.YtehkhbnhmehobaaDoor.P
namespace Go.Proofs.YtehkhbnhmehobaaDoor.P
open Go.RowKit Go.Proofs.YtehkhbnhmehobaaDoorW.PrintWords Go.Proofs.YtehkhbnhmehobaaDoorW.PrintLast Go.Proofs.YtehkhbnhmehobaaDoorW.PrintMore
set_option linter.unusedVariables false
set_option linter.unusedSimpArgs false
abbrev ba (l : List UInt8) : ByteArray := ⟨l.toArray⟩
theorem ba_size (l : List UInt8) : (ba l).size = l.length := by show l.toArray.size = _; simp
theorem ba_append (a b : List UInt8) : ba a ++ ba b = ba (a ++ b) := by
  apply ByteArray.ext; show (ba a ++ ba b).data = _; rw [ByteArray.data_append]; simp
theorem u64_wr (x : Int) (h0 : 0 ≤ x) (h1 : x < 18446744073709551616) : IntKind.u64.wrap x = x := by
  have : IntKind.u64.wrap x = x % 18446744073709551616 := by rfl
  rw [this]; omega
theorem u64_neg (a : Int) (h0 : a < 0) (h1 : -9223372036854775808 ≤ a) : IntKind.u64.wrap (-(IntKind.u64.wrap a)) = (a.natAbs : Int) := by
  have e : ∀ x : Int, IntKind.u64.wrap x = x % 18446744073709551616 := fun x => rfl
  rw [e, e]; omega
def fracL (r : Nat) : List UInt8 := if 0 < r then 46 :: Lib.trimRightB ((Lib.decDigits (1000 + r)).drop 1) 48 else []
def bodyL (u : Nat) : List UInt8 := Lib.decDigits (u / 1000) ++ fracL (u % 1000)
def textL (a : Int) : List UInt8 := (if a < 0 then [45] else []) ++ bodyL a.natAbs
theorem dec4 (r : Nat) (h : r < 1000) : (Lib.decDigits (1000 + r)).length = 4 := by
  rw [Lib.decDigits_length]; exact Lib.nDigits_unique 3 _ (by omega) (by omega)
theorem dec_short (u : Nat) (h : u < 100000000000000000) : (Lib.decDigits u).length ≤ 20 := by
  rw [Lib.decDigits_length]
  have : ∀ (n u : Nat), u < 10 ^ (n + 1) → Lib.nDigits u ≤ n + 1 := by
    intro n
    induction n with
    | zero => intro u h; rw [Lib.nDigits_small (by omega)]; omega
    | succ n ih =>
      intro u h
      by_cases c : u < 10
      · rw [Lib.nDigits_small c]; omega
      rw [Lib.nDigits_big c]
      have := ih (u / 10) (by rw [Nat.pow_succ] at h; omega)
      omega
  have := this 18 u (by omega)
  omega
theorem bt_ba (l : List UInt8) (j : Nat) (h : j < l.length) : bt (ba l) (j : Int) = ((l[j]).toNat : Int) := by
  have h1 : (j : Int).toNat < (ba l).size := by rw [ba_size, Int.toNat_natCast]; exact h
  unfold bt
  rw [dif_pos h1]
  have e : (ba l)[(j : Int).toNat]'h1 = l[j] := by
    show (ba l).data[(j : Int).toNat]'_ = _
    simp
  rw [e]
theorem ba_toList (l : List UInt8) : (ba l).toList = l := by rw [ByteArray.toList_eq]
theorem enc10 : ∀ (d : Nat), d < 10 → Utf8.encode (wrap32 (IntKind.u64.wrap (48 + (d : Int)))) = ba [UInt8.ofNat (48 + d)]
  | 0, _ => by kernel_rfl
  | 1, _ => by kernel_rfl
  | 2, _ => by kernel_rfl
  | 3, _ => by kernel_rfl
  | 4, _ => by kernel_rfl
  | 5, _ => by kernel_rfl
  | 6, _ => by kernel_rfl
  | 7, _ => by kernel_rfl
  | 8, _ => by kernel_rfl
  | 9, _ => by kernel_rfl
  | d + 10, h => by omega
theorem dig_step (k u : Nat) (acc : List UInt8) (h : 0 < u ∨ acc = []) (hu : u < 18446744073709551616) (ha : acc.length ≤ 1000) : swarfref41_digits.l0 (k + 1) (u : Int) (ba acc) = swarfref41_digits.l0 k ((u / 10 : Nat) : Int) (ba (UInt8.ofNat (48 + u % 10) :: acc)) := by
  have e1 : Int.tdiv (u : Int) 10 = ((u / 10 : Nat) : Int) := rfl
  have e2 : Int.tmod (u : Int) 10 = ((u % 10 : Nat) : Int) := rfl
  have hs : (ba [UInt8.ofNat (48 + u % 10)]).size + (ba acc).size ≤ 9223372036854775807 := by rw [ba_size, ba_size]; simp only [List.length_cons, List.length_nil]; omega
  have e3 : ba [UInt8.ofNat (48 + u % 10)] ++ ba acc = ba (UInt8.ofNat (48 + u % 10) :: acc) := ba_append _ _
  rw [swarfref41_digits.l0, e1, e2, enc10 _ (Nat.mod_lt _ (by omega)), u64_wr _ (by omega) (by omega), if_pos hs, e3]
  by_cases c : (u : Int) > 0
  · rw [if_pos c]
  rw [if_neg c, if_pos (by rw [ba_toList]; exact h.resolve_left (by omega))]
theorem dig_end (k : Nat) (acc : List UInt8) (h : acc ≠ []) : swarfref41_digits.l0 (k + 1) 0 (ba acc) = some (ba acc) := by
  rw [swarfref41_digits.l0, if_neg (by omega), if_neg (by rw [ba_toList]; exact h)]
theorem dig_l0 : ∀ (k u : Nat) (acc : List UInt8), 0 < u ∨ acc = [] → u < 18446744073709551616 → acc.length + k ≤ 1000 → Lib.nDigits u < k → swarfref41_digits.l0 k (u : Int) (ba acc) = some (ba (Lib.decDigits u ++ acc))
  | 0, u, acc, h, hu, ha, hk => by omega
  | k + 1, u, acc, h, hu, ha, hk => by
    rw [dig_step k u acc h hu (by omega)]
    by_cases c : u < 10
    · have e : u / 10 = 0 := by omega
      rw [Lib.nDigits_small c] at hk
      obtain ⟨k2, rfl⟩ : ∃ k2, k = k2 + 1 := ⟨k - 1, by omega⟩
      rw [e, show ((0 : Nat) : Int) = 0 from rfl, dig_end _ _ (by simp), Lib.decDigits_one c, show u % 10 = u by omega]; rfl
    rw [Lib.nDigits_big c] at hk
    rw [dig_l0 k (u / 10) _ (.inl (by omega)) (by omega) (by simp only [List.length_cons]; omega) (by omega)]
    have e : Lib.decDigits u = Lib.decDigits (u / 10) ++ [UInt8.ofNat (48 + u % 10)] := by rw [Lib.decDigits, dif_neg c]
    rw [e, List.append_assoc]; rfl
theorem digits_ev (k u : Nat) (hu : u < 100000000000000000) (hk : 30 ≤ k) (hk2 : k ≤ 1000) : swarfref41_digits.f k (u : Int) = some (ba (Lib.decDigits u)) := by
  have h1 := dec_short u hu
  rw [Lib.decDigits_length] at h1
  have := dig_l0 k u [] (.inr rfl) (by omega) (by simp; omega) (by omega)
  rw [List.append_nil] at this
  exact this
theorem trim_snoc (l : List UInt8) (c : UInt8) : Lib.trimRightB (l ++ [c]) 48 = if c = 48 then Lib.trimRightB l 48 else l ++ [c] := by
  unfold Lib.trimRightB
  rw [List.reverse_append, List.reverse_singleton, List.singleton_append, List.dropWhile_cons]
  by_cases h : c = 48
  · rw [if_pos (by simp [h]), if_pos h]
  rw [if_neg (by simp [h]), if_neg h]; simp
theorem trim_loop : ∀ (k : Nat) (l : List UInt8) (x5 : List UInt8), Lib.trimRightB l 48 ≠ [] → l.length < k → l.length ≤ 1000 → x5.length ≤ 1000 → swarfref41_Text.l0 k (ba x5) (ba l) = some (ba (x5 ++ 46 :: Lib.trimRightB l 48))
  | 0, l, x5, h, hk, hl, hx => by omega
  | k + 1, l, x5, h, hk, hl, hx => by
    rcases List.eq_nil_or_concat l with rfl | ⟨l2, c, rfl⟩
    · exact absurd rfl h
    rw [List.concat_eq_append] at h hk hl ⊢
    have es : (ba (l2 ++ [c])).size = l2.length + 1 := by rw [ba_size]; simp
    have ew : wrap64 (((ba (l2 ++ [c])).size : Int) - 1) = (l2.length : Int) := by
      rw [es]; simp only [List.length_append, List.length_cons, List.length_nil] at hl; unfold wrap64; omega
    have eb : bt (ba (l2 ++ [c])) (l2.length : Int) = (c.toNat : Int) := by
      rw [bt_ba _ _ (by simp)]; simp
    have hl2 : l2.length + 1 ≤ 1000 := by simpa using hl
    have hk2 : l2.length + 1 < k + 1 := by simpa using hk
    rw [swarfref41_Text.l0, ew, if_pos (by omega), if_pos (by rw [es]; omega), eb]
    by_cases hc : c = 48
    · rw [if_pos (by rw [hc]; rfl), if_pos (by rw [es]; omega)]
      have e3 : (ba (l2 ++ [c])).extract 0 ((l2.length : Int)).toNat = ba l2 := by
        apply ByteArray.ext
        rw [ByteArray.data_extract, Int.toNat_natCast]
        simp [List.extract_eq_take_drop]
      rw [trim_snoc, if_pos hc] at h ⊢
      rw [e3]
      exact trim_loop k l2 x5 h (by omega) (by omega) hx
    have hn : ¬ (c.toNat : Int) = 48 := fun he => hc (UInt8.toNat_inj.mp (by show c.toNat = 48; omega))
    have e4 : (⟨#[46]⟩ : ByteArray) = ba [46] := rfl
    rw [if_neg hn, e4, ba_append, ba_append, if_pos (by rw [ba_size]; omega), if_pos (by rw [ba_size, es]; simp only [List.length_append, List.length_cons, List.length_nil]; omega), trim_snoc, if_neg hc]
    simp
theorem trim_ne : ∀ (r : Nat), 0 < r → r < 1000 → Lib.trimRightB ((Lib.decDigits (1000 + r)).drop 1) 48 ≠ [] := by
  have h : ((List.range 1000).all fun r => r == 0 || !(Lib.trimRightB ((Lib.decDigits (1000 + r)).drop 1) 48).isEmpty) = true := by kernel_rfl
  intro r h0 h1 he
  have := List.all_eq_true.1 h r (List.mem_range.2 h1)
  rw [he] at this
  simp at this
  omega
theorem refText_j0 (k u : Nat) (sg : List UInt8) (h : u < 18446744073709551616) (hs : sg.length ≤ 10) (hk : 30 ≤ k) (hk2 : k ≤ 1000) : swarfref41_Text.j0 (k + 1) (ba sg) (u : Int) = some (ba (sg ++ bodyL u)) := by
  have e1 : Int.tdiv (u : Int) 1000 = ((u / 1000 : Nat) : Int) := rfl
  have e2 : Int.tmod (u : Int) 1000 = ((u % 1000 : Nat) : Int) := rfl
  have h1 := dec_short (u / 1000) (by omega)
  rw [swarfref41_Text.j0, e1, e2, u64_wr _ (by omega) (by omega), digits_ev k _ (by omega) hk hk2, Option.bind_some, if_pos (by rw [ba_size, ba_size]; omega), ba_append]
  unfold bodyL fracL
  by_cases c : 0 < u % 1000
  · rw [if_pos (by omega), u64_wr _ (by omega) (by omega), show (1000 : Int) + ((u % 1000 : Nat) : Int) = ((1000 + u % 1000 : Nat) : Int) by omega, digits_ev k _ (by omega) hk hk2, Option.bind_some, if_pos (by rw [ba_size, dec4 _ (by omega)]; decide)]
    have e3 : (ba (Lib.decDigits (1000 + u % 1000))).extract 1 (ba (Lib.decDigits (1000 + u % 1000))).size = ba ((Lib.decDigits (1000 + u % 1000)).drop 1) := by
      apply ByteArray.ext
      rw [ByteArray.data_extract, ba_size]
      simp [List.extract_eq_take_drop, List.take_of_length_le]
    have h4 : ((Lib.decDigits (1000 + u % 1000)).drop 1).length = 3 := by rw [List.length_drop, dec4 _ (by omega)]
    rw [e3, trim_loop k _ _ (trim_ne _ c (by omega)) (by omega) (by omega) (by rw [List.length_append]; omega), if_pos c, List.append_assoc]
  rw [if_neg (by omega), if_neg c]; simp
theorem refText_ev (k : Nat) (a : Int) (h0 : -9223372036854775808 ≤ a) (h1 : a ≤ 9223372036854775807) (hk : 30 ≤ k) (hk2 : k ≤ 1000) : swarfref41_Text.f (k + 1) a = some (ba (textL a)) := by
  unfold swarfref41_Text.f textL
  by_cases c : a < 0
  · rw [if_pos c, u64_neg a c h0, if_pos c]
    exact refText_j0 k a.natAbs [45] (by omega) (by decide) hk hk2
  rw [if_neg c, u64_wr a (by omega) (by omega), if_neg c, show a = (a.natAbs : Int) by omega]
  have := refText_j0 k a.natAbs [] (by omega) (by decide) hk hk2
  simpa using this
theorem ba_extract (l : List UInt8) (a b : Nat) : (ba l).extract a b = ba ((l.take b).drop a) := by
  apply ByteArray.ext
  rw [ByteArray.data_extract]
  apply Array.toList_inj.mp
  simp [List.extract_eq_take_drop, List.drop_take]
def cutS : List UInt8 → List UInt8 × Bool
  | c :: r => if c = 45 then (r, true) else (c :: r, false)
  | [] => ([], false)
theorem cutPrefix_ev (l : List UInt8) (hl : l.length ≤ 1000000) : strings_CutPrefix.f (ba l) (⟨#[45]⟩ : ByteArray) = some (ba (cutS l).1, (cutS l).2) := by
  have e : (⟨#[45]⟩ : ByteArray) = ba [45] := rfl
  unfold strings_CutPrefix.f stringslite_CutPrefix.f stringslite_HasPrefix.f
  rw [e, ba_size, ba_size]
  cases l with
  | nil => rfl
  | cons c r =>
    have hc : (([45] : List UInt8).length : Int) ≤ ((c :: r).length : Int) := by simp only [List.length_cons, List.length_nil]; omega
    rw [if_pos hc, if_pos (by decide), if_pos hc]
    have e2 : (ba (c :: r)).extract 0 (([45] : List UInt8).length : Int).toNat = ba [c] := by
      rw [ba_extract]; simp
    rw [e2, Option.bind_some, ba_toList, ba_toList]
    by_cases h : c = 45
    · subst h
      rw [if_pos (by decide), if_pos (by decide), if_pos hc, ba_extract]
      simp [cutS]
    rw [if_neg (by simp [h])]
    simp [cutS, h]
def wholeS (l : List UInt8) : List UInt8 := l.takeWhile (· != 46)
def partS (l : List UInt8) : List UInt8 := (l.dropWhile (· != 46)).tail
def pointS (l : List UInt8) : Bool := !(l.dropWhile (· != 46)).isEmpty
theorem index_ev : ∀ (l : List UInt8), Lib.indexByte l 46 = if pointS l = true then ((wholeS l).length : Int) else -1
  | [] => rfl
  | c :: r => by
    have ih := index_ev r
    unfold Lib.indexByte
    unfold pointS wholeS at *
    by_cases h : c = 46
    · subst h; simp
    have h1 : (c == 46) = false := by simp [h]
    have h2 : (c != 46) = true := by simp [h]
    rw [h1, ih]
    simp only [List.dropWhile_cons, h2, List.takeWhile_cons, if_true]
    by_cases hp : (!(List.dropWhile (fun x => x != 46) r).isEmpty) = true
    · rw [if_pos hp, if_pos hp, if_neg (by simp), if_neg (by simp)]; simp
    rw [if_neg hp, if_neg hp]; rfl
theorem take_whole : ∀ (l : List UInt8), l.take (wholeS l).length = wholeS l
  | [] => rfl
  | c :: r => by
    have ih := take_whole r
    unfold wholeS at *
    by_cases h : (c != 46) = true
    · rw [List.takeWhile_cons, if_pos h]; simp [ih]
    rw [List.takeWhile_cons, if_neg h]; rfl
theorem drop_whole : ∀ (l : List UInt8), l.drop ((wholeS l).length + 1) = partS l
  | [] => rfl
  | c :: r => by
    have ih := drop_whole r
    unfold wholeS partS at *
    by_cases h : (c != 46) = true
    · rw [List.takeWhile_cons, if_pos h, List.dropWhile_cons, if_pos h]; simpa using ih
    rw [List.takeWhile_cons, if_neg h, List.dropWhile_cons, if_neg h]; simp
theorem whole_lt {l : List UInt8} (h : pointS l = true) : (wholeS l).length < l.length := by
  induction l with
  | nil => simp [pointS] at h
  | cons c r ih =>
    unfold pointS wholeS at *
    by_cases h2 : (c != 46) = true
    · rw [List.dropWhile_cons, if_pos h2] at h
      rw [List.takeWhile_cons, if_pos h2]
      have := ih h
      simp only [List.length_cons]; omega
    rw [List.takeWhile_cons, if_neg h2]; simp
theorem nopoint {l : List UInt8} (h : pointS l = false) : wholeS l = l ∧ partS l = [] := by
  induction l with
  | nil => exact ⟨rfl, rfl⟩
  | cons c r ih =>
    unfold pointS wholeS partS at *
    by_cases h2 : (c != 46) = true
    · rw [List.dropWhile_cons, if_pos h2] at h ⊢
      rw [List.takeWhile_cons, if_pos h2]
      have := ih h
      exact ⟨by rw [this.1], this.2⟩
    rw [List.dropWhile_cons, if_neg h2] at h
    simp at h
theorem cut_ev (l : List UInt8) (hl : l.length ≤ 1000000) : strings_Cut.f (ba l) (⟨#[46]⟩ : ByteArray) = some (ba (wholeS l), ba (partS l), pointS l) := by
  have e : (⟨#[46]⟩ : ByteArray) = ba [46] := rfl
  unfold strings_Cut.f stringslite_Cut.f stringslite_Index.f
  rw [dif_pos (by rfl)]
  have e2 : Lib.indexByte (ba l).data.toList ((⟨#[46]⟩ : ByteArray)[0]'(by decide)) = if pointS l = true then ((wholeS l).length : Int) else -1 := by
    have : (ba l).data.toList = l := by simp
    rw [this]; exact index_ev l
  rw [e2, Option.bind_some, ba_size]
  cases hp : pointS l with
  | true =>
    have := whole_lt hp
    have hw : wrap64 (((wholeS l).length : Int) + ((⟨#[46]⟩ : ByteArray).size : Int)) = (((wholeS l).length + 1 : Nat) : Int) := by
      rw [show ((⟨#[46]⟩ : ByteArray).size : Int) = 1 from rfl]; unfold wrap64; omega
    rw [if_pos rfl, hw, if_pos (by omega), if_pos (by omega), if_pos (by omega), if_pos (by omega), if_pos (by omega), Int.toNat_natCast, Int.toNat_natCast, ba_extract, ba_extract]
    rw [List.drop_zero, take_whole, List.take_of_length_le (Nat.le_refl _), drop_whole]; rfl
  | false =>
    obtain ⟨h1, h2⟩ := nopoint hp
    rw [if_neg (show ¬ (false = true) by decide), if_neg (by omega), h1, h2]; rfl
def isD (c : UInt8) : Bool := decide (48 ≤ c.toNat) && decide (c.toNat ≤ 57)
def digs (l : List UInt8) : Bool := !l.isEmpty && l.all isD
theorem dropWhile_idem (p : UInt8 → Bool) : ∀ (l : List UInt8), (l.dropWhile p).dropWhile p = l.dropWhile p
  | [] => rfl
  | c :: r => by
    by_cases h : p c = true
    · rw [List.dropWhile_cons, if_pos h]; exact dropWhile_idem p r
    rw [List.dropWhile_cons, if_neg h, List.dropWhile_cons, if_neg h]
theorem dropWhile_nil {p : UInt8 → Bool} : ∀ {l : List UInt8}, l.dropWhile p = [] ↔ l.all p = true
  | [] => by simp
  | c :: r => by
    by_cases h : p c = true
    · rw [List.dropWhile_cons, if_pos h, List.all_cons, h, Bool.true_and]; exact dropWhile_nil
    rw [List.dropWhile_cons, if_neg h, List.all_cons]; simp [h]
theorem contains_isD (c : UInt8) : ([48, 49, 50, 51, 52, 53, 54, 55, 56, 57] : List UInt8).contains c = isD c := by
  have h : ((List.range 256).all fun n => ([48, 49, 50, 51, 52, 53, 54, 55, 56, 57] : List UInt8).contains (UInt8.ofNat n) == isD (UInt8.ofNat n)) = true := by kernel_rfl
  have := List.all_eq_true.1 h c.toNat (List.mem_range.2 c.toNat_lt)
  simpa using this
theorem trim_nil (l : List UInt8) : (Lib.trimS l [48, 49, 50, 51, 52, 53, 54, 55, 56, 57] = []) ↔ l.all isD = true := by
  have ef : (fun x => ([48, 49, 50, 51, 52, 53, 54, 55, 56, 57] : List UInt8).contains x) = isD := funext contains_isD
  unfold Lib.trimS Lib.trimLeftS Lib.trimRightS
  rw [ef, dropWhile_nil, List.all_reverse, ← dropWhile_nil, dropWhile_idem, dropWhile_nil, List.all_reverse]
theorem digits_ev2 (l : List UInt8) (hl : l.length ≤ 1000000) : block_digits.f (ba l) = some (digs l) := by
  unfold block_digits.f digs
  rw [ba_toList]
  by_cases h : l = []
  · rw [if_pos h, h]; rfl
  rw [if_neg h]
  unfold strings_Trim.f
  rw [if_pos ⟨by rw [ba_size]; omega, rfl⟩, Option.bind_some]
  have e : (ba l).data.toList = l := by simp
  rw [e, ba_toList]
  have h1 : l.isEmpty = false := by cases l with | nil => exact absurd rfl h | cons => rfl
  rw [h1]
  cases ha : l.all isD with
  | true => rw [(trim_nil l).mpr ha]; rfl
  | false =>
    have : ¬ Lib.trimS l [48, 49, 50, 51, 52, 53, 54, 55, 56, 57] = [] := fun h => by rw [(trim_nil l).mp h] at ha; cases ha
    simp only [Option.some.injEq]
    rw [beq_eq_false_iff_ne.mpr this]; rfl
def valA : Nat → List UInt8 → Nat
  | a, [] => a
  | a, c :: r => valA (a * 10 + (c.toNat - 48)) r
theorem isD_le {c : UInt8} (h : isD c = true) : 48 ≤ c.toNat ∧ c.toNat ≤ 57 := by
  unfold isD at h; simp only [Bool.and_eq_true, decide_eq_true_eq] at h; exact h
theorem parse_ok : ∀ (l : List UInt8) (acc m : Nat), l.all isD = true → acc < 10 ^ m → m + l.length ≤ 18 → Lib.parseUintM (2 ^ 64 - 1) acc l = .ok (valA acc l) ∧ valA acc l < 10 ^ (m + l.length)
  | [], acc, m, _, h, _ => ⟨rfl, h⟩
  | c :: r, acc, m, ha, h, hm => by
    rw [List.all_cons, Bool.and_eq_true] at ha
    have hc := isD_le ha.1
    simp only [List.length_cons] at hm
    have hp : (10 : Nat) ^ m ≤ 10 ^ 17 := Nat.pow_le_pow_right (by decide) (by omega)
    have h2 : acc * 10 + (c.toNat - 48) < 10 ^ (m + 1) := by rw [Nat.pow_succ]; omega
    have ih := parse_ok r (acc * 10 + (c.toNat - 48)) (m + 1) ha.2 h2 (by omega)
    rw [Lib.parseUintM, if_pos hc, if_neg (by omega), if_neg (by omega)]
    refine ⟨ih.1, ?_⟩
    have : m + 1 + r.length = m + (c :: r).length := by simp only [List.length_cons]; omega
    rw [← this]; exact ih.2
theorem parseV_ev (l : List UInt8) (h : digs l = true) (hl : l.length ≤ 18) : parseV l = some ((valA 0 l : Nat) : Int) ∧ valA 0 l < 10 ^ l.length := by
  unfold digs at h
  rw [Bool.and_eq_true] at h
  obtain ⟨h1, h2⟩ := h
  obtain ⟨e, hb⟩ := parse_ok l 0 0 h2 (by decide) (by omega)
  rw [Nat.zero_add] at hb
  refine ⟨?_, hb⟩
  cases l with
  | nil => simp at h1
  | cons c r =>
    rw [List.all_cons, Bool.and_eq_true] at h2
    have hc := isD_le h2.1
    have hb2 : valA 0 (c :: r) < 10 ^ 18 := Nat.lt_of_lt_of_le hb (Nat.pow_le_pow_right (by decide) hl)
    unfold parseV Lib.parseIntB
    simp only
    rw [if_neg (show ¬ (c.toNat = 43 ∨ c.toNat = 45) by omega)]
    unfold Lib.parseUintB
    rw [if_neg (by simp), e]
    simp only
    rw [if_neg (by omega), if_neg (by omega), if_neg (by omega)]
def rangeS (neg : Bool) (W P : List UInt8) : Int × Int :=
  if 10 < W.length then (0, 11) else if 1000000000000 < valA 0 (W ++ P ++ ([48, 48, 48] : List UInt8).drop P.length) then (0, 11) else if neg = true then (-(valA 0 (W ++ P ++ ([48, 48, 48] : List UInt8).drop P.length) : Int), 0) else ((valA 0 (W ++ P ++ ([48, 48, 48] : List UInt8).drop P.length) : Int), 0)
theorem value_j0 (k : Nat) (neg bad : Bool) (W P : List UInt8) (hW : W.length ≤ 1000000) (hP : P.length ≤ 1000000) (h : bad = false → digs W = true ∧ P.all isD = true ∧ P.length ≤ 3) :
    block_Value.j0 (k + 1) neg (ba W) (ba P) bad = some (if bad = true then (0, 2) else rangeS neg W P) := by
  rw [block_Value.j0]
  cases bad with
  | true => rw [if_pos rfl, if_pos rfl]
  | false =>
    obtain ⟨h1, h2, h3⟩ := h rfl
    rw [if_neg (show ¬ (false = true) by decide), if_neg (show ¬ (false = true) by decide)]
    unfold rangeS
    rw [ba_size, ba_size]
    by_cases c : 10 < W.length
    · rw [if_pos (by omega), if_pos c]
    have e0 : (⟨#[48, 48, 48]⟩ : ByteArray) = ba [48, 48, 48] := rfl
    have e1 : (ba [48, 48, 48]).extract ((P.length : Int)).toNat (ba [48, 48, 48]).size = ba (([48, 48, 48] : List UInt8).drop P.length) := by
      rw [ba_extract, Int.toNat_natCast]; rfl
    have hd : (([48, 48, 48] : List UInt8).drop P.length).length = 3 - P.length := by simp
    have hlen : (W ++ P ++ ([48, 48, 48] : List UInt8).drop P.length).length ≤ 13 := by simp only [List.length_append, hd]; omega
    have hdig : digs (W ++ P ++ ([48, 48, 48] : List UInt8).drop P.length) = true := by
      unfold digs at h1 ⊢
      rw [Bool.and_eq_true] at h1 ⊢
      refine ⟨?_, ?_⟩
      · cases W with
        | nil => simp at h1
        | cons => rfl
      rw [List.all_append, List.all_append, h1.2, h2, Bool.true_and, Bool.true_and, List.all_eq_true]
      intro x hx
      have := List.mem_of_mem_drop hx
      simp only [List.mem_cons, List.mem_nil_iff, or_false, or_self] at this
      rw [this]; rfl
    obtain ⟨e2, e3⟩ := parseV_ev _ hdig (by omega)
    have e4 : valA 0 (W ++ P ++ ([48, 48, 48] : List UInt8).drop P.length) < 10 ^ 13 := Nat.lt_of_lt_of_le e3 (Nat.pow_le_pow_right (by decide) hlen)
    rw [if_neg (by omega), if_neg c, if_pos (by omega), if_pos (by omega), if_pos (by omega), e0, e1, ba_append, ba_append, ba_size, ba_size, if_pos (by rw [List.length_append, hd]; omega)]
    unfold strconv_ParseInt.f
    rw [if_pos ⟨rfl, rfl, by rw [ba_size]; omega⟩]
    have e5 : (ba (W ++ P ++ ([48, 48, 48] : List UInt8).drop P.length)).data.toList = W ++ P ++ ([48, 48, 48] : List UInt8).drop P.length := by simp
    rw [e5, e2, Option.map_some, Option.bind_some]
    by_cases c2 : 1000000000000 < valA 0 (W ++ P ++ ([48, 48, 48] : List UInt8).drop P.length)
    · rw [if_pos (by omega), if_pos c2]
    rw [if_neg (by omega), if_neg c2]
    cases neg with
    | true =>
      rw [if_pos rfl, if_pos rfl]
      have : wrap64 (-(valA 0 (W ++ P ++ ([48, 48, 48] : List UInt8).drop P.length) : Int)) = -(valA 0 (W ++ P ++ ([48, 48, 48] : List UInt8).drop P.length) : Int) := by unfold wrap64; omega
      rw [this]
    | false => rw [if_neg (show ¬ (false = true) by decide), if_neg (show ¬ (false = true) by decide)]
def zeroAhead (W : List UInt8) : Bool := W.getD 0 0 == 48
def zeroEnd (P : List UInt8) : Bool := P.getD (P.length - 1) 0 == 48
def badS (neg : Bool) (body W P : List UInt8) (pt : Bool) : Bool := !digs W || (decide (1 < W.length) && zeroAhead W) || (pt && (!digs P || decide (3 < P.length) || zeroEnd P)) || (neg && body == ([48] : List UInt8))
def valueS (l : List UInt8) : Int × Int := if badS (cutS l).2 (cutS l).1 (wholeS (cutS l).1) (partS (cutS l).1) (pointS (cutS l).1) = true then (0, 2) else rangeS (cutS l).2 (wholeS (cutS l).1) (partS (cutS l).1)
theorem cutS_le (l : List UInt8) : (cutS l).1.length ≤ l.length := by
  cases l with
  | nil => simp [cutS]
  | cons c r =>
    rw [cutS]
    split <;> simp
theorem wholeS_le (l : List UInt8) : (wholeS l).length ≤ l.length := (List.takeWhile_sublist _).length_le
theorem partS_le (l : List UInt8) : (partS l).length ≤ l.length := by
  unfold partS
  rw [List.length_tail]
  have := (List.dropWhile_sublist (· != (46 : UInt8)) (l := l)).length_le
  omega
theorem value_ev (k : Nat) (l : List UInt8) (hl : l.length ≤ 100000) : block_Value.f (k + 1) (ba l) = some (valueS l) := by
  have hb := cutS_le l
  have hWl : (wholeS (cutS l).1).length ≤ 1000000 := by have := wholeS_le (cutS l).1; omega
  have hPl : (partS (cutS l).1).length ≤ 1000000 := by have := partS_le (cutS l).1; omega
  unfold block_Value.f valueS
  rw [cutPrefix_ev l (by omega), Option.bind_some]
  rw [cut_ev _ (by omega), Option.bind_some]
  rw [digits_ev2 _ hWl, Option.bind_some]
  cases hW : digs (wholeS (cutS l).1) with
  | false =>
    rw [if_neg (show ¬ (false = true) by decide)]
    rw [value_j0 k _ _ _ _ hWl hPl (fun h => by cases h)]
    rw [show badS (cutS l).2 (cutS l).1 (wholeS (cutS l).1) (partS (cutS l).1) (pointS (cutS l).1) = true from by unfold badS; simp [hW]]
  | true =>
    rw [if_pos rfl]
    by_cases c1 : 1 < (wholeS (cutS l).1).length
    · have eg : (wholeS (cutS l).1).getD 0 0 = (wholeS (cutS l).1)[0]'(by omega) := by rw [List.getD, List.getElem?_eq_getElem (by omega)]; rfl
      rw [if_pos (by rw [ba_size]; omega), if_pos (by rw [ba_size]; omega), show bt (ba (wholeS (cutS l).1)) 0 = (((wholeS (cutS l).1)[0]'(by omega)).toNat : Int) from bt_ba _ 0 (by omega)]
      by_cases c2 : (wholeS (cutS l).1)[0]'(by omega) = 48
      · have c2' : zeroAhead (wholeS (cutS l).1) = true := by unfold zeroAhead; rw [eg, c2]; rfl
        rw [if_pos (by rw [c2]; rfl)]
        rw [value_j0 k _ _ _ _ hWl hPl (fun h => by cases h)]
        rw [show badS (cutS l).2 (cutS l).1 (wholeS (cutS l).1) (partS (cutS l).1) (pointS (cutS l).1) = true from by unfold badS; simp [hW, c1, c2']]
      have c2' : zeroAhead (wholeS (cutS l).1) = false := by unfold zeroAhead; rw [eg]; exact beq_eq_false_iff_ne.mpr c2
      have hn : ¬ (((wholeS (cutS l).1)[0]'(by omega)).toNat : Int) = 48 := fun he => c2 (UInt8.toNat_inj.mp (by show _ = 48; omega))
      rw [if_neg hn]
      cases hp : pointS (cutS l).1 with
      | false =>
        obtain ⟨_, hP0⟩ := nopoint hp
        rw [if_neg (show ¬ (false = true) by decide), hP0]
        rw [hP0] at hPl
        cases hn : (cutS l).2 with
        | true =>
          rw [if_pos rfl, ba_toList, value_j0 k _ _ _ _ hWl hPl (fun _ => ⟨hW, rfl, by simp⟩)]
          rw [show badS true (cutS l).1 (wholeS (cutS l).1) [] false = ((cutS l).1 == ([48] : List UInt8)) from by unfold badS; simp [hW, hp, hP0, c2']]
        | false =>
          rw [if_neg (show ¬ (false = true) by decide), value_j0 k _ _ _ _ hWl hPl (fun _ => ⟨hW, rfl, by simp⟩)]
          rw [show badS false (cutS l).1 (wholeS (cutS l).1) [] false = false from by unfold badS; simp [hW, hp, hP0, c2']]
      | true =>
        rw [if_pos rfl, digits_ev2 _ hPl, Option.bind_some]
        cases hd : digs (partS (cutS l).1) with
        | false =>
          rw [if_neg (show ¬ (false = true) by decide)]
          rw [value_j0 k _ _ _ _ hWl hPl (fun h => by cases h)]
          rw [show badS (cutS l).2 (cutS l).1 (wholeS (cutS l).1) (partS (cutS l).1) true = true from by unfold badS; simp [hW, hp, hd]]
        | true =>
          rw [if_pos rfl]
          have hPall : (partS (cutS l).1).all isD = true := by unfold digs at hd; rw [Bool.and_eq_true] at hd; exact hd.2
          by_cases c3 : 3 < (partS (cutS l).1).length
          · rw [if_pos (by rw [ba_size]; omega)]
            rw [value_j0 k _ _ _ _ hWl hPl (fun h => by cases h)]
            rw [show badS (cutS l).2 (cutS l).1 (wholeS (cutS l).1) (partS (cutS l).1) true = true from by unfold badS; simp [hW, hp, hd, c3]]
          have hP1 : 0 < (partS (cutS l).1).length := by
            cases hq : partS (cutS l).1 with
            | nil => rw [hq] at hd; simp [digs] at hd
            | cons => simp
          have ew : wrap64 (((ba (partS (cutS l).1)).size : Int) - 1) = (((partS (cutS l).1).length - 1 : Nat) : Int) := by rw [ba_size]; unfold wrap64; omega
          have eg : (partS (cutS l).1).getD ((partS (cutS l).1).length - 1) 0 = (partS (cutS l).1)[(partS (cutS l).1).length - 1]'(by omega) := by rw [List.getD, List.getElem?_eq_getElem (by omega)]; rfl
          rw [if_neg (by rw [ba_size]; omega), ew, if_pos (by omega), if_pos (by rw [ba_size]; omega), bt_ba _ _ (by omega)]
          by_cases c4 : (partS (cutS l).1)[(partS (cutS l).1).length - 1]'(by omega) = 48
          · have c5 : zeroEnd (partS (cutS l).1) = true := by unfold zeroEnd; rw [eg, c4]; rfl
            rw [if_pos (by rw [c4]; rfl)]
            rw [value_j0 k _ _ _ _ hWl hPl (fun h => by cases h)]
            rw [show badS (cutS l).2 (cutS l).1 (wholeS (cutS l).1) (partS (cutS l).1) true = true from by unfold badS; simp [hW, hp, hd, c3, c5]]
          have c5 : zeroEnd (partS (cutS l).1) = false := by unfold zeroEnd; rw [eg]; exact beq_eq_false_iff_ne.mpr c4
          have hn : ¬ (((partS (cutS l).1)[(partS (cutS l).1).length - 1]'(by omega)).toNat : Int) = 48 := fun he => c4 (UInt8.toNat_inj.mp (by show _ = 48; omega))
          rw [if_neg hn]
          cases hn : (cutS l).2 with
          | true =>
            rw [if_pos rfl, ba_toList, value_j0 k _ _ _ _ hWl hPl (fun _ => ⟨hW, hPall, by omega⟩)]
            rw [show badS true (cutS l).1 (wholeS (cutS l).1) (partS (cutS l).1) true = ((cutS l).1 == ([48] : List UInt8)) from by unfold badS; simp [hW, hp, hd, c3, c5, c2']]
          | false =>
            rw [if_neg (show ¬ (false = true) by decide), value_j0 k _ _ _ _ hWl hPl (fun _ => ⟨hW, hPall, by omega⟩)]
            rw [show badS false (cutS l).1 (wholeS (cutS l).1) (partS (cutS l).1) true = false from by unfold badS; simp [hW, hp, hd, c3, c5, c2']]
    rw [if_neg (by rw [ba_size]; omega)]
    cases hp : pointS (cutS l).1 with
    | false =>
      obtain ⟨_, hP0⟩ := nopoint hp
      rw [if_neg (show ¬ (false = true) by decide), hP0]
      rw [hP0] at hPl
      cases hn : (cutS l).2 with
      | true =>
        rw [if_pos rfl, ba_toList, value_j0 k _ _ _ _ hWl hPl (fun _ => ⟨hW, rfl, by simp⟩)]
        rw [show badS true (cutS l).1 (wholeS (cutS l).1) [] false = ((cutS l).1 == ([48] : List UInt8)) from by unfold badS; simp [hW, hp, hP0, c1]]
      | false =>
        rw [if_neg (show ¬ (false = true) by decide), value_j0 k _ _ _ _ hWl hPl (fun _ => ⟨hW, rfl, by simp⟩)]
        rw [show badS false (cutS l).1 (wholeS (cutS l).1) [] false = false from by unfold badS; simp [hW, hp, hP0, c1]]
    | true =>
      rw [if_pos rfl, digits_ev2 _ hPl, Option.bind_some]
      cases hd : digs (partS (cutS l).1) with
      | false =>
        rw [if_neg (show ¬ (false = true) by decide)]
        rw [value_j0 k _ _ _ _ hWl hPl (fun h => by cases h)]
        rw [show badS (cutS l).2 (cutS l).1 (wholeS (cutS l).1) (partS (cutS l).1) true = true from by unfold badS; simp [hW, hp, hd]]
      | true =>
        rw [if_pos rfl]
        have hPall : (partS (cutS l).1).all isD = true := by unfold digs at hd; rw [Bool.and_eq_true] at hd; exact hd.2
        by_cases c3 : 3 < (partS (cutS l).1).length
        · rw [if_pos (by rw [ba_size]; omega)]
          rw [value_j0 k _ _ _ _ hWl hPl (fun h => by cases h)]
          rw [show badS (cutS l).2 (cutS l).1 (wholeS (cutS l).1) (partS (cutS l).1) true = true from by unfold badS; simp [hW, hp, hd, c3]]
        have hP1 : 0 < (partS (cutS l).1).length := by
          cases hq : partS (cutS l).1 with
          | nil => rw [hq] at hd; simp [digs] at hd
          | cons => simp
        have ew : wrap64 (((ba (partS (cutS l).1)).size : Int) - 1) = (((partS (cutS l).1).length - 1 : Nat) : Int) := by rw [ba_size]; unfold wrap64; omega
        have eg : (partS (cutS l).1).getD ((partS (cutS l).1).length - 1) 0 = (partS (cutS l).1)[(partS (cutS l).1).length - 1]'(by omega) := by rw [List.getD, List.getElem?_eq_getElem (by omega)]; rfl
        rw [if_neg (by rw [ba_size]; omega), ew, if_pos (by omega), if_pos (by rw [ba_size]; omega), bt_ba _ _ (by omega)]
        by_cases c4 : (partS (cutS l).1)[(partS (cutS l).1).length - 1]'(by omega) = 48
        · have c5 : zeroEnd (partS (cutS l).1) = true := by unfold zeroEnd; rw [eg, c4]; rfl
          rw [if_pos (by rw [c4]; rfl)]
          rw [value_j0 k _ _ _ _ hWl hPl (fun h => by cases h)]
          rw [show badS (cutS l).2 (cutS l).1 (wholeS (cutS l).1) (partS (cutS l).1) true = true from by unfold badS; simp [hW, hp, hd, c3, c5]]
        have c5 : zeroEnd (partS (cutS l).1) = false := by unfold zeroEnd; rw [eg]; exact beq_eq_false_iff_ne.mpr c4
        have hn : ¬ (((partS (cutS l).1)[(partS (cutS l).1).length - 1]'(by omega)).toNat : Int) = 48 := fun he => c4 (UInt8.toNat_inj.mp (by show _ = 48; omega))
        rw [if_neg hn]
        cases hn : (cutS l).2 with
        | true =>
          rw [if_pos rfl, ba_toList, value_j0 k _ _ _ _ hWl hPl (fun _ => ⟨hW, hPall, by omega⟩)]
          rw [show badS true (cutS l).1 (wholeS (cutS l).1) (partS (cutS l).1) true = ((cutS l).1 == ([48] : List UInt8)) from by unfold badS; simp [hW, hp, hd, c3, c5, c1]]
        | false =>
          rw [if_neg (show ¬ (false = true) by decide), value_j0 k _ _ _ _ hWl hPl (fun _ => ⟨hW, hPall, by omega⟩)]
          rw [show badS false (cutS l).1 (wholeS (cutS l).1) (partS (cutS l).1) true = false from by unfold badS; simp [hW, hp, hd, c3, c5, c1]]
end Go.Proofs.YtehkhbnhmehobaaDoor.P
namespace Go.Proofs.YtehkhbnhmehobaaDoor.P
open Go.RowKit Go.Proofs.YtehkhbnhmehobaaDoorW.PrintWords Go.Proofs.YtehkhbnhmehobaaDoorW.PrintLast Go.Proofs.YtehkhbnhmehobaaDoorW.PrintMore
attribute [local go_sem] max2_int min2_int max_two min_two max_three min_three max_four min_four
set_option linter.unusedVariables false
set_option linter.unusedSimpArgs false
end Go.Proofs.YtehkhbnhmehobaaDoor.P
namespace Go.Proofs.YtehkhbnhmehobaaDoor.P
open Go.RowKit Go.Proofs.YtehkhbnhmehobaaDoorW.PrintWords Go.Proofs.YtehkhbnhmehobaaDoorW.PrintLast Go.Proofs.YtehkhbnhmehobaaDoorW.PrintMore
set_option linter.unusedVariables false
set_option linter.unusedSimpArgs false
theorem isD_ne {c : UInt8} (h : isD c = true) : c ≠ 46 ∧ c ≠ 45 := by
  have := isD_le h
  refine ⟨fun he => ?_, fun he => ?_⟩
  · rw [he] at this; have : (46 : UInt8).toNat = 46 := rfl; omega
  rw [he] at this; have : (45 : UInt8).toNat = 45 := rfl; omega
def plS (r : Nat) : List UInt8 := Lib.trimRightB ((Lib.decDigits (1000 + r)).drop 1) 48
theorem valA_app : ∀ (l m : List UInt8) (a : Nat), valA a (l ++ m) = valA (valA a l) m
  | [], m, a => rfl
  | c :: l, m, a => valA_app l m _
theorem valA_three (a : Nat) (l : List UInt8) (h : l.length = 3) : valA a l = a * 1000 + valA 0 l := by
  match l, h with
  | [x, y, z], _ =>
    show ((a * 10 + _) * 10 + _) * 10 + _ = a * 1000 + (((0 * 10 + _) * 10 + _) * 10 + _)
    omega
end Go.Proofs.YtehkhbnhmehobaaDoor.P
namespace Go.Proofs.YtehkhbnhmehobaaDoor.P
open Go.RowKit Go.Proofs.YtehkhbnhmehobaaDoorW.PrintWords Go.Proofs.YtehkhbnhmehobaaDoorW.PrintLast Go.Proofs.YtehkhbnhmehobaaDoorW.PrintMore
attribute [local go_sem] max2_int min2_int max_two min_two max_three min_three max_four min_four
set_option linter.unusedVariables false
set_option linter.unusedSimpArgs false
mutual
def swarfref41_canonical.j0 : Nat → ByteArray → Bool → Option (Bool)
 | 0, _, _ => none
 | k + 1, x0, x12 => if x12 = true then (if x0.toList = ([45, 48] : List UInt8) then (some false) else (if 1 ≤ (x0.size : Int) then (swarfref41_canonical.j1 k (x0.extract 1 x0.size)) else (none))) else (swarfref41_canonical.j1 k x0)
def swarfref41_canonical.j1 : Nat → ByteArray → Option (Bool)
 | 0, _ => none
 | k + 1, x0 => swarfref41_canonical.l0 k x0 (x0.size : Int) 0
def swarfref41_canonical.l0 : Nat → ByteArray → Int → Int → Option (Bool)
 | 0, _, _, _ => none
 | k + 1, x0, x3, x4 => if x4 < (x0.size : Int) then (if 0 ≤ x4 then (if (bt x0 x4) = 46 then (swarfref41_canonical.l0 k x0 x4 (wrap64 (x4 + 1))) else (swarfref41_canonical.l0 k x0 x3 (wrap64 (x4 + 1)))) else (none)) else (if x3 = 0 then (some false) else (if x3 > 1 then (if 0 < (x0.size : Int) then (if (bt x0 0) = 48 then (some false) else (if x3 = (x0.size : Int) then (some true) else (if x3 < (wrap64 ((x0.size : Int) - 1)) then (if 0 ≤ (wrap64 ((x0.size : Int) - 1)) then (if (wrap64 ((x0.size : Int) - 1)) < (x0.size : Int) then (some ((bt x0 (wrap64 ((x0.size : Int) - 1))) != 48)) else (none)) else (none)) else (some false)))) else (none)) else (if x3 = (x0.size : Int) then (some true) else (if x3 < (wrap64 ((x0.size : Int) - 1)) then (if 0 ≤ (wrap64 ((x0.size : Int) - 1)) then (if (wrap64 ((x0.size : Int) - 1)) < (x0.size : Int) then (some ((bt x0 (wrap64 ((x0.size : Int) - 1))) != 48)) else (none)) else (none)) else (some false)))))
end
def swarfref41_canonical.f (k : Nat) (a0 : ByteArray) : Option (Bool) := if (a0.size : Int) > 0 then (if 0 < (a0.size : Int) then (swarfref41_canonical.j0 k a0 ((bt a0 0) == 45)) else (none)) else (swarfref41_canonical.j0 k a0 false)
set_option maxHeartbeats 8000000 in
set_option maxRecDepth 100000 in
theorem swarfref41_canonical.calls (k : Nat) (a0 : ByteArray) (r : Bool) (w : World) (h : swarfref41_canonical.f k a0 = some r) :
  Calls Tryd.prog 38 #[.string a0] w fun e w' => e = .returned (.bool r) ∧ Drawn0 w w' := by
 have H : (if (a0.size : Int) > 0 then (if 0 < (a0.size : Int) then (swarfref41_canonical.j0 k a0 ((bt a0 0) == 45)) else (none)) else (swarfref41_canonical.j0 k a0 false)) = some r := h
 clear h
 have HC2 := Aside0.mk H
 clear H
 go_enter Tryd.func38, Tryd.ntmps38
 go_upto_region 1 with (fail)
 go_cut [12] (fun v12 wc => ∃ (kq : Nat) (x12_1 : Bool), v12 = .bool x12_1 ∧ Aside0 (swarfref41_canonical.j0 kq a0 x12_1 = some r) ∧ Aside0 (kq ≤ k) ∧ Drawn0 w wc)
 case first =>
  have H := HC2.out
  clear HC2
  by_cases c3 : (a0.size : Int) > 0
  ·rw [if_pos c3] at H
   have c3b0 := decide_eq_true c3
   have c3b1 : decide (0 < a0.size) = true := decide_eq_true (by omega)
   clear c3
   (first | rw [c3b0] | (simp only [i64_w, i32_w]; rw [c3b0]) | skip)
   by_cases c4 : 0 < (a0.size : Int)
   ·rw [if_pos c4] at H
    have c4b0 := decide_eq_true c4
    have c4b1 : decide (0 < a0.size) = true := decide_eq_true (by omega)
    clear c4
    have H' := Aside0.mk H
    clear H
    have p5 : 0 ≤ (0 : Int) := (by omega)
    have q5 : 0 < a0.size := (by have : (0 : Int) < (a0.size : Int) := yD; omega)
    have hx5 : ∀ h : 0 < a0.size, ((a0[0]'h).toNat : Int) = bt a0 0 := bt_at a0 0
    clear p5
    have qi5 : (0 < (a0.size : Int)) = True := eq_true (yD)
    replace q5 := eq_true q5
    go_wp2
    go_meet
    case rel => exact ⟨_, (((bt a0 0) == 45)), yS, H', ⟨by first | omega | exact Nat.le_refl _⟩, by repeat (first | exact Drawn0.refl _ | apply Drawn0.step)⟩
   rw [if_neg c4] at H
   exact absurd H (by simp)
  rw [if_neg c3] at H
  have c3b0 := decide_eq_false c3
  have c3b1 : decide (0 < a0.size) = false := decide_eq_false (by omega)
  clear c3
  (first | rw [c3b0] | (simp only [i64_w, i32_w]; rw [c3b0]) | skip)
  have H' := Aside0.mk H
  clear H
  go_wp2
  go_meet
  case rel => exact ⟨_, (false), yS, H', ⟨by first | omega | exact Nat.le_refl _⟩, by repeat (first | exact Drawn0.refl _ | apply Drawn0.step)⟩
 case rest =>
  clear HC2
  try clear p2
  try clear c3
  try clear c3b0
  try clear c3b1
  try clear c4
  try clear c4b0
  try clear c4b1
  try clear p5
  try clear q5
  try clear hx5
  try clear qi5
  try clear p5
  try clear q5
  obtain ⟨kq, x12_1, rfl, HA, HJ1, ⟨mc1, rfl⟩⟩ := hcut
  cases kq with
  | zero => exact absurd HA.out (by simp [swarfref41_canonical.j0])
  | succ kj1 =>
   have H := HA.out
   clear HA
   simp only [swarfref41_canonical.j0] at H
   have HC6 := Aside0.mk H
   clear H
   go_upto_if 12 with (fail)
   go_cut [0] (fun v0 wc => ∃ (kq : Nat) (x0_5 : ByteArray), v0 = .string x0_5 ∧ Aside0 (swarfref41_canonical.j1 kq x0_5 = some r) ∧ Aside0 (kq ≤ kj1) ∧ Drawn0 w wc)
   case first =>
    have H := HC6.out
    clear HC6
    by_cases c7 : x12_1 = true
    ·subst c7
     rw [if_pos rfl] at H
     by_cases c8 : a0.toList = ([45, 48] : List UInt8)
     ·rw [if_pos c8] at H
      have c8b0 : (a0.toList == ([45, 48] : List UInt8)) = true := beq_iff_eq.mpr c8
      have c8b1 : (a0.toList != ([45, 48] : List UInt8)) = false := bne_eq_false_iff_eq.mpr c8
      clear c8
      (first | rw [c8b0] | (simp only [i64_w, i32_w]; rw [c8b0]) | skip)
      obtain rfl := Option.some.inj H
      go_wp2
      go_ret
      exact ⟨by first | rfl | (simp; done) | (simp [*]; done), by repeat (first | exact Drawn0.refl _ | apply Drawn0.step)⟩
     rw [if_neg c8] at H
     have c8b0 : (a0.toList == ([45, 48] : List UInt8)) = false := beq_eq_false_iff_ne.mpr c8
     have c8b1 : (a0.toList != ([45, 48] : List UInt8)) = true := bne_iff_ne.mpr c8
     (first | rw [c8b0] | (simp only [i64_w, i32_w]; rw [c8b0]) | skip)
     by_cases c9 : 1 ≤ (a0.size : Int)
     ·rw [if_pos c9] at H
      have c9b0 := eq_true c9
      have c9b1 := decide_eq_true c9
      clear c9
      have H' := Aside0.mk H
      clear H
      go_wp2
      go_meet
      case rel => exact ⟨_, (a0.extract 1 a0.size), yS, H', ⟨by have := HJ1.out; first | omega | exact Nat.le_refl _⟩, by repeat (first | exact Drawn0.refl _ | apply Drawn0.step)⟩
     rw [if_neg c9] at H
     exact absurd H (by simp)
    replace c7 := Bool.eq_false_iff.mpr c7
    subst c7
    replace H : (swarfref41_canonical.j1 kj1 a0) = some r := by rw [if_neg (show ¬ (false = true) by decide)] at H; exact H
    have H' := Aside0.mk H
    clear H
    go_wp2
    go_meet
    case rel => exact ⟨_, (a0), yS, H', ⟨by have := HJ1.out; first | omega | exact Nat.le_refl _⟩, by repeat (first | exact Drawn0.refl _ | apply Drawn0.step)⟩
   case rest =>
    clear HC6
    try clear c1
    try clear p2
    try clear c3
    try clear c3b0
    try clear c3b1
    try clear c4
    try clear c4b0
    try clear c4b1
    try clear p5
    try clear q5
    try clear hx5
    try clear qi5
    try clear c7
    try clear c8
    try clear c8b0
    try clear c8b1
    try clear c9
    try clear c9b0
    try clear c9b1
    try clear p2
    try clear p5
    try clear q5
    obtain ⟨kq, x0_5, rfl, HA, HJ5, ⟨mc5, rfl⟩⟩ := hcut
    cases kq with
    | zero => exact absurd HA.out (by simp [swarfref41_canonical.j1])
    | succ kj5 =>
     have H := HA.out
     clear HA
     simp only [swarfref41_canonical.j1] at H
     have H' := Aside0.mk H
     clear H
     go_wp2
     go_loopg [3, 4] kj5 (fun kq v3 v4 w' => ∃ (x3_3 : Int) (x4_3 : Int), v3 = .int .i64 x3_3 ∧ v4 = .int .i64 x4_3 ∧ Aside0 (swarfref41_canonical.l0 kq x0_5 x3_3 x4_3 = some r) ∧ Aside0 (kq ≤ kj5) ∧ Drawn0 w w')
     case atStart => exact ⟨((x0_5.size : Int)), (0), yS, yS, H', ⟨Nat.le_refl _⟩, by repeat (first | exact Drawn0.refl _ | apply Drawn0.step)⟩
     case round =>
      clear H'
      try clear c1
      try clear p2
      try clear c3
      try clear c3b0
      try clear c3b1
      try clear c4
      try clear c4b0
      try clear c4b1
      try clear c5
      try clear p5
      try clear q5
      try clear hx5
      try clear qi5
      try clear c7
      try clear c8
      try clear c8b0
      try clear c8b1
      try clear c9
      try clear c9b0
      try clear c9b1
      try clear p2
      try clear p5
      try clear q5
      obtain ⟨x3_3, x4_3, rfl, rfl, HA, HK3, ⟨m3, rfl⟩⟩ := hrel
      cases gk with
      | zero => exact absurd HA.out (by simp [swarfref41_canonical.l0])
      | succ k3 =>
       have H := HA.out
       clear HA
       simp only [swarfref41_canonical.l0] at H
       by_cases c10 : x4_3 < (x0_5.size : Int)
       ·rw [if_pos c10] at H
        have c10b0 := decide_eq_true c10
        clear c10
        by_cases c11 : 0 ≤ x4_3
        ·rw [if_pos c11] at H
         have c11b0 := decide_eq_true c11
         clear c11
         by_cases c13 : (bt x0_5 x4_3) = 46
         ·rw [if_pos c13] at H
          have c13b0 : ((bt x0_5 x4_3) == 46) = true := beq_iff_eq.mpr c13
          have c13b1 : ((bt x0_5 x4_3) != 46) = false := bne_eq_false_iff_eq.mpr c13
          clear c13
          have H' := Aside0.mk H
          clear H
          have p12 : 0 ≤ (x4_3 : Int) := yD
          have q12 : x4_3 < (x0_5.size : Int) := yD
          have hx12 := bt_at x0_5 x4_3
          replace p12 := eq_true p12
          replace q12 := eq_true q12
          go_wp2
          go_roundg k3
          case measure => have := HJ1.out; have := HJ5.out; have := HK3.out; omega
          case rel => exact ⟨(x4_3), (wrap64 (x4_3 + 1)), yS, yS, H', ⟨by have := HJ1.out; have := HJ5.out; have := HK3.out; omega⟩, by repeat (first | exact Drawn0.refl _ | apply Drawn0.step)⟩
         rw [if_neg c13] at H
         have c13b0 : ((bt x0_5 x4_3) == 46) = false := beq_eq_false_iff_ne.mpr c13
         have c13b1 : ((bt x0_5 x4_3) != 46) = true := bne_iff_ne.mpr c13
         have H' := Aside0.mk H
         clear H
         have p12 : 0 ≤ (x4_3 : Int) := yD
         have q12 : x4_3 < (x0_5.size : Int) := yD
         have hx12 := bt_at x0_5 x4_3
         replace p12 := eq_true p12
         replace q12 := eq_true q12
         go_wp2
         go_roundg k3
         case measure => have := HJ1.out; have := HJ5.out; have := HK3.out; omega
         case rel => exact ⟨(x3_3), (wrap64 (x4_3 + 1)), yS, yS, H', ⟨by have := HJ1.out; have := HJ5.out; have := HK3.out; omega⟩, by repeat (first | exact Drawn0.refl _ | apply Drawn0.step)⟩
        rw [if_neg c11] at H
        exact absurd H (by simp)
       rw [if_neg c10] at H
       have c10b0 := decide_eq_false c10
       clear c10
       by_cases c14 : x3_3 = 0
       ·rw [if_pos c14] at H
        have c14b0 : (x3_3 == 0) = true := beq_iff_eq.mpr c14
        have c14b1 : (x3_3 != 0) = false := bne_eq_false_iff_eq.mpr c14
        clear c14
        obtain rfl := Option.some.inj H
        go_wp2
        go_ret
        exact ⟨by first | rfl | (simp; done) | (simp [*]; done), by repeat (first | exact Drawn0.refl _ | apply Drawn0.step)⟩
       rw [if_neg c14] at H
       have c14b0 : (x3_3 == 0) = false := beq_eq_false_iff_ne.mpr c14
       have c14b1 : (x3_3 != 0) = true := bne_iff_ne.mpr c14
       by_cases c15 : x3_3 > 1
       ·rw [if_pos c15] at H
        have c15b0 := decide_eq_true c15
        clear c15
        by_cases c16 : 0 < (x0_5.size : Int)
        ·rw [if_pos c16] at H
         have c16b0 := decide_eq_true c16
         have c16b1 : decide (0 < x0_5.size) = true := decide_eq_true (by omega)
         clear c16
         by_cases c18 : (bt x0_5 0) = 48
         ·rw [if_pos c18] at H
          have c18b0 : ((bt x0_5 0) == 48) = true := beq_iff_eq.mpr c18
          have c18b1 : ((bt x0_5 0) != 48) = false := bne_eq_false_iff_eq.mpr c18
          clear c18
          obtain rfl := Option.some.inj H
          have p17 : 0 ≤ (0 : Int) := (by omega)
          have q17 : 0 < x0_5.size := (by have : (0 : Int) < (x0_5.size : Int) := yD; omega)
          have hx17 : ∀ h : 0 < x0_5.size, ((x0_5[0]'h).toNat : Int) = bt x0_5 0 := bt_at x0_5 0
          clear p17
          have qi17 : (0 < (x0_5.size : Int)) = True := eq_true (yD)
          replace q17 := eq_true q17
          go_wp2
          go_ret
          exact ⟨by first | rfl | (simp; done) | (simp [*]; done), by repeat (first | exact Drawn0.refl _ | apply Drawn0.step)⟩
         rw [if_neg c18] at H
         have c18b0 : ((bt x0_5 0) == 48) = false := beq_eq_false_iff_ne.mpr c18
         have c18b1 : ((bt x0_5 0) != 48) = true := bne_iff_ne.mpr c18
         by_cases c19 : x3_3 = (x0_5.size : Int)
         ·rw [if_pos c19] at H
          have c19b0 : (x3_3 == (x0_5.size : Int)) = true := beq_iff_eq.mpr c19
          have c19b1 : (x3_3 != (x0_5.size : Int)) = false := bne_eq_false_iff_eq.mpr c19
          clear c19
          obtain rfl := Option.some.inj H
          have p17 : 0 ≤ (0 : Int) := (by omega)
          have q17 : 0 < x0_5.size := (by have : (0 : Int) < (x0_5.size : Int) := yD; omega)
          have hx17 : ∀ h : 0 < x0_5.size, ((x0_5[0]'h).toNat : Int) = bt x0_5 0 := bt_at x0_5 0
          clear p17
          have qi17 : (0 < (x0_5.size : Int)) = True := eq_true (yD)
          replace q17 := eq_true q17
          go_wp2
          go_ret
          exact ⟨by first | rfl | (simp; done) | (simp [*]; done), by repeat (first | exact Drawn0.refl _ | apply Drawn0.step)⟩
         rw [if_neg c19] at H
         have c19b0 : (x3_3 == (x0_5.size : Int)) = false := beq_eq_false_iff_ne.mpr c19
         have c19b1 : (x3_3 != (x0_5.size : Int)) = true := bne_iff_ne.mpr c19
         by_cases c20 : x3_3 < (wrap64 ((x0_5.size : Int) - 1))
         ·rw [if_pos c20] at H
          have c20b0 := decide_eq_true c20
          clear c20
          obtain ⟨ji21, hji21⟩ : ∃ j_ : Int, (wrap64 ((x0_5.size : Int) - 1)) = j_ := ⟨_, rfl⟩
          replace H : (if 0 ≤ (ji21) then (if (ji21) < (x0_5.size : Int) then (some ((bt x0_5 (ji21)) != 48)) else (none)) else (none)) = some r := by first | (rw [hji21] at H; exact H) | (simp only [hji21] at H ⊢; exact H)
          (try rw [hji21] at c20b0)
          have hji21w : (IntKind.i64.wrap ((x0_5.size : Int) - 1)) = ji21 := (i64_w _).trans hji21
          by_cases c22 : 0 ≤ (ji21)
          ·rw [if_pos c22] at H
           have c22b0 := decide_eq_true c22
           clear c22
           by_cases c23 : (ji21) < (x0_5.size : Int)
           ·rw [if_pos c23] at H
            have c23b0 := decide_eq_true c23
            clear c23
            obtain rfl := Option.some.inj H
            have p17 : 0 ≤ (0 : Int) := (by omega)
            have q17 : 0 < x0_5.size := (by have : (0 : Int) < (x0_5.size : Int) := yD; omega)
            have hx17 : ∀ h : 0 < x0_5.size, ((x0_5[0]'h).toNat : Int) = bt x0_5 0 := bt_at x0_5 0
            clear p17
            have qi17 : (0 < (x0_5.size : Int)) = True := eq_true (yD)
            replace q17 := eq_true q17
            have p24 : 0 ≤ ((ji21) : Int) := yD
            have q24 : (ji21) < (x0_5.size : Int) := yD
            have hx24 := bt_at x0_5 (ji21)
            replace p24 := eq_true p24
            replace q24 := eq_true q24
            go_wp2
            go_ret
            exact ⟨by first | rfl | (simp; done) | (simp only [← hji21] <;> (first | rfl | simp)) | (simp [*]; done), by repeat (first | exact Drawn0.refl _ | apply Drawn0.step)⟩
           rw [if_neg c23] at H
           exact absurd H (by simp)
          rw [if_neg c22] at H
          exact absurd H (by simp)
         rw [if_neg c20] at H
         have c20b0 := decide_eq_false c20
         clear c20
         obtain rfl := Option.some.inj H
         have p17 : 0 ≤ (0 : Int) := (by omega)
         have q17 : 0 < x0_5.size := (by have : (0 : Int) < (x0_5.size : Int) := yD; omega)
         have hx17 : ∀ h : 0 < x0_5.size, ((x0_5[0]'h).toNat : Int) = bt x0_5 0 := bt_at x0_5 0
         clear p17
         have qi17 : (0 < (x0_5.size : Int)) = True := eq_true (yD)
         replace q17 := eq_true q17
         go_wp2
         go_ret
         exact ⟨by first | rfl | (simp; done) | (simp [*]; done), by repeat (first | exact Drawn0.refl _ | apply Drawn0.step)⟩
        rw [if_neg c16] at H
        exact absurd H (by simp)
       rw [if_neg c15] at H
       have c15b0 := decide_eq_false c15
       clear c15
       by_cases c25 : x3_3 = (x0_5.size : Int)
       ·rw [if_pos c25] at H
        have c25b0 : (x3_3 == (x0_5.size : Int)) = true := beq_iff_eq.mpr c25
        have c25b1 : (x3_3 != (x0_5.size : Int)) = false := bne_eq_false_iff_eq.mpr c25
        clear c25
        obtain rfl := Option.some.inj H
        go_wp2
        go_ret
        exact ⟨by first | rfl | (simp; done) | (simp [*]; done), by repeat (first | exact Drawn0.refl _ | apply Drawn0.step)⟩
       rw [if_neg c25] at H
       have c25b0 : (x3_3 == (x0_5.size : Int)) = false := beq_eq_false_iff_ne.mpr c25
       have c25b1 : (x3_3 != (x0_5.size : Int)) = true := bne_iff_ne.mpr c25
       by_cases c26 : x3_3 < (wrap64 ((x0_5.size : Int) - 1))
       ·rw [if_pos c26] at H
        have c26b0 := decide_eq_true c26
        clear c26
        obtain ⟨ji27, hji27⟩ : ∃ j_ : Int, (wrap64 ((x0_5.size : Int) - 1)) = j_ := ⟨_, rfl⟩
        replace H : (if 0 ≤ (ji27) then (if (ji27) < (x0_5.size : Int) then (some ((bt x0_5 (ji27)) != 48)) else (none)) else (none)) = some r := by first | (rw [hji27] at H; exact H) | (simp only [hji27] at H ⊢; exact H)
        (try rw [hji27] at c26b0)
        have hji27w : (IntKind.i64.wrap ((x0_5.size : Int) - 1)) = ji27 := (i64_w _).trans hji27
        by_cases c28 : 0 ≤ (ji27)
        ·rw [if_pos c28] at H
         have c28b0 := decide_eq_true c28
         clear c28
         by_cases c29 : (ji27) < (x0_5.size : Int)
         ·rw [if_pos c29] at H
          have c29b0 := decide_eq_true c29
          clear c29
          obtain rfl := Option.some.inj H
          have p30 : 0 ≤ ((ji27) : Int) := yD
          have q30 : (ji27) < (x0_5.size : Int) := yD
          have hx30 := bt_at x0_5 (ji27)
          replace p30 := eq_true p30
          replace q30 := eq_true q30
          go_wp2
          go_ret
          exact ⟨by first | rfl | (simp; done) | (simp only [← hji27] <;> (first | rfl | simp)) | (simp [*]; done), by repeat (first | exact Drawn0.refl _ | apply Drawn0.step)⟩
         rw [if_neg c29] at H
         exact absurd H (by simp)
        rw [if_neg c28] at H
        exact absurd H (by simp)
       rw [if_neg c26] at H
       have c26b0 := decide_eq_false c26
       clear c26
       obtain rfl := Option.some.inj H
       go_wp2
       go_ret
       exact ⟨by first | rfl | (simp; done) | (simp [*]; done), by repeat (first | exact Drawn0.refl _ | apply Drawn0.step)⟩
mutual
def swarfref41_Value.l0 : Nat → ByteArray → Int → Int → Int → Bool → Bool → Int → Option (Int × Int)
 | 0, _, _, _, _, _, _, _ => none
 | k + 1, x0, x4, x5, x6, x7, x8, x9 => if x9 < (x0.size : Int) then (if x9 = 0 then (if 0 ≤ x9 then (swarfref41_Value.j1 k x0 x4 x5 x6 x7 x8 x9 ((bt x0 x9) == 45)) else (none)) else (swarfref41_Value.j1 k x0 x4 x5 x6 x7 x8 x9 false)) else ((swarfref41_canonical.f k x0).bind fun t239 => (if t239 = true then (swarfref41_Value.l1 k x4 x5 x6 x7 x8) else (some (0, 2))))
def swarfref41_Value.j1 : Nat → ByteArray → Int → Int → Int → Bool → Bool → Int → Bool → Option (Int × Int)
 | 0, _, _, _, _, _, _, _, _ => none
 | k + 1, x0, x4, x5, x6, x7, x8, x9, x17 => if x17 = true then (swarfref41_Value.l0 k x0 x4 x5 x6 true x8 (wrap64 (x9 + 1))) else (if 0 ≤ x9 then (if x9 < (x0.size : Int) then (if (bt x0 x9) = 46 then (if x6 < 0 then (swarfref41_Value.j2 k x0 x4 x5 x6 x7 x8 x9 (decide (x9 > 0))) else (swarfref41_Value.j2 k x0 x4 x5 x6 x7 x8 x9 false)) else (swarfref41_Value.j2 k x0 x4 x5 x6 x7 x8 x9 false)) else (none)) else (none))
def swarfref41_Value.j2 : Nat → ByteArray → Int → Int → Int → Bool → Bool → Int → Bool → Option (Int × Int)
 | 0, _, _, _, _, _, _, _, _ => none
 | k + 1, x0, x4, x5, x6, x7, x8, x9, x26 => if x26 = true then (swarfref41_Value.l0 k x0 x4 x5 0 x7 x8 (wrap64 (x9 + 1))) else (if 0 ≤ x9 then (if x9 < (x0.size : Int) then (if (bt x0 x9) ≥ 48 then (if (bt x0 x9) ≤ 57 then (swarfref41_Value.j3 k x0 x4 x5 x6 x7 x8 x9 (decide (x6 < 0))) else (swarfref41_Value.j3 k x0 x4 x5 x6 x7 x8 x9 false)) else (swarfref41_Value.j3 k x0 x4 x5 x6 x7 x8 x9 false)) else (none)) else (none))
def swarfref41_Value.j3 : Nat → ByteArray → Int → Int → Int → Bool → Bool → Int → Bool → Option (Int × Int)
 | 0, _, _, _, _, _, _, _, _ => none
 | k + 1, x0, x4, x5, x6, x7, x8, x9, x39 => if x39 = true then (if 0 ≤ x9 then (if x9 < (x0.size : Int) then (if (IntKind.u64.wrap ((IntKind.u64.wrap (10 * x4)) + (((bt x0 x9) - 48) % 256))) > 1000000000000 then (swarfref41_Value.l0 k x0 1000000000000 x5 x6 x7 true (wrap64 (x9 + 1))) else (swarfref41_Value.l0 k x0 (IntKind.u64.wrap ((IntKind.u64.wrap (10 * x4)) + (((bt x0 x9) - 48) % 256))) x5 x6 x7 x8 (wrap64 (x9 + 1)))) else (none)) else (none)) else (if 0 ≤ x9 then (if x9 < (x0.size : Int) then (if (bt x0 x9) ≥ 48 then (if (bt x0 x9) ≤ 57 then (if x6 < 3 then (swarfref41_Value.l0 k x0 x4 (IntKind.u64.wrap ((IntKind.u64.wrap (10 * x5)) + (((bt x0 x9) - 48) % 256))) (wrap64 (x6 + 1)) x7 x8 (wrap64 (x9 + 1))) else (some (0, 2))) else (some (0, 2))) else (some (0, 2))) else (none)) else (none))
def swarfref41_Value.j5 : Nat → Int → Int → Bool → Bool → Option (Int × Int)
 | 0, _, _, _, _ => none
 | k + 1, x4, x5, x7, x8 => if x8 = true then (swarfref41_Value.j6 k x7 (IntKind.u64.wrap ((IntKind.u64.wrap (1000 * x4)) + x5)) true) else (swarfref41_Value.j6 k x7 (IntKind.u64.wrap ((IntKind.u64.wrap (1000 * x4)) + x5)) (decide ((IntKind.u64.wrap ((IntKind.u64.wrap (1000 * x4)) + x5)) > 1000000000000)))
def swarfref41_Value.j6 : Nat → Bool → Int → Bool → Option (Int × Int)
 | 0, _, _, _ => none
 | k + 1, x7, x10, x110 => if x110 = true then (some (0, 11)) else (if x7 = true then (some (wrap64 (-(wrap64 (x10))), 0)) else (some (wrap64 (x10), 0)))
def swarfref41_Value.l1 : Nat → Int → Int → Int → Bool → Bool → Option (Int × Int)
 | 0, _, _, _, _, _ => none
 | k + 1, x4, x5, x6, x7, x8 => if x6 ≥ 0 then (if x6 < 3 then (swarfref41_Value.l1 k x4 (IntKind.u64.wrap (10 * x5)) (wrap64 (x6 + 1)) x7 x8) else (swarfref41_Value.j5 k x4 x5 x7 x8)) else (swarfref41_Value.j5 k x4 x5 x7 x8)
end
def swarfref41_Value.f (k : Nat) (a0 : ByteArray) : Option (Int × Int) := swarfref41_Value.l0 k a0 0 0 (-1) false false 0
set_option maxHeartbeats 8000000 in
set_option maxRecDepth 100000 in
theorem swarfref41_Value.calls (k : Nat) (a0 : ByteArray) (r1 : Int) (r2 : Int) (w : World) (h : swarfref41_Value.f k a0 = some (r1, r2)) :
  Calls Tryd.prog 13 #[.string a0] w fun e w' => e = .returned (.tuple #[.int .i64 r1, .int .i64 r2]) ∧ Drawn0 w w' := by
 have H : (swarfref41_Value.l0 k a0 0 0 (-1) false false 0) = some (r1, r2) := h
 clear h
 have H' := Aside0.mk H
 clear H
 go_enter Tryd.func13, Tryd.ntmps13
 go_wp2
 go_loopg [4, 5, 6, 7, 8, 9] k (fun kq v4 v5 v6 v7 v8 v9 w' => ∃ (x4_1 : Int) (x5_1 : Int) (x6_1 : Int) (x7_1 : Bool) (x8_1 : Bool) (x9_1 : Int), v4 = .int .u64 x4_1 ∧ v5 = .int .u64 x5_1 ∧ v6 = .int .i64 x6_1 ∧ v7 = .bool x7_1 ∧ v8 = .bool x8_1 ∧ v9 = .int .i64 x9_1 ∧ Aside0 (swarfref41_Value.l0 kq a0 x4_1 x5_1 x6_1 x7_1 x8_1 x9_1 = some (r1, r2)) ∧ Aside0 (kq ≤ k) ∧ Drawn0 w w')
 case atStart => exact ⟨(0), (0), ((-1)), (false), (false), (0), yS, yS, yS, yS, yS, yS, H', ⟨Nat.le_refl _⟩, by repeat (first | exact Drawn0.refl _ | apply Drawn0.step)⟩
 case round =>
  clear H'
  try clear c1
  obtain ⟨x4_1, x5_1, x6_1, x7_1, x8_1, x9_1, rfl, rfl, rfl, rfl, rfl, rfl, HA, HK1, ⟨m1, rfl⟩⟩ := hrel
  cases gk with
  | zero => exact absurd HA.out (by simp [swarfref41_Value.l0])
  | succ k1 =>
   have H := HA.out
   clear HA
   simp only [swarfref41_Value.l0] at H
   by_cases c2 : x9_1 < (a0.size : Int)
   ·rw [if_pos c2] at H
    have c2b0 := decide_eq_true c2
    clear c2
    have HC3 := Aside0.mk H
    clear H
    go_upto_region 7 with (fail)
    go_cut [17] (fun v17 wc => ∃ (kq : Nat) (x17_2 : Bool), v17 = .bool x17_2 ∧ Aside0 (swarfref41_Value.j1 kq a0 x4_1 x5_1 x6_1 x7_1 x8_1 x9_1 x17_2 = some (r1, r2)) ∧ Aside0 (kq ≤ k1) ∧ Drawn0 w wc)
    case first =>
     have H := HC3.out
     clear HC3
     by_cases c4 : x9_1 = 0
     ·rw [if_pos c4] at H
      have c4b0 : (x9_1 == 0) = true := beq_iff_eq.mpr c4
      have c4b1 : (x9_1 != 0) = false := bne_eq_false_iff_eq.mpr c4
      clear c4
      (first | rw [c4b0] | (simp only [i64_w, i32_w]; rw [c4b0]) | skip)
      by_cases c5 : 0 ≤ x9_1
      ·rw [if_pos c5] at H
       have c5b0 := decide_eq_true c5
       clear c5
       have H' := Aside0.mk H
       clear H
       have p6 : 0 ≤ (x9_1 : Int) := yD
       have q6 : x9_1 < (a0.size : Int) := yD
       have hx6 := bt_at a0 x9_1
       replace p6 := eq_true p6
       replace q6 := eq_true q6
       go_wp2
       go_meet
       case rel => exact ⟨_, (((bt a0 x9_1) == 45)), yS, H', ⟨by have := HK1.out; first | omega | exact Nat.le_refl _⟩, by repeat (first | exact Drawn0.refl _ | apply Drawn0.step)⟩
      rw [if_neg c5] at H
      exact absurd H (by simp)
     rw [if_neg c4] at H
     have c4b0 : (x9_1 == 0) = false := beq_eq_false_iff_ne.mpr c4
     have c4b1 : (x9_1 != 0) = true := bne_iff_ne.mpr c4
     (first | rw [c4b0] | (simp only [i64_w, i32_w]; rw [c4b0]) | skip)
     have H' := Aside0.mk H
     clear H
     go_wp2
     go_meet
     case rel => exact ⟨_, (false), yS, H', ⟨by have := HK1.out; first | omega | exact Nat.le_refl _⟩, by repeat (first | exact Drawn0.refl _ | apply Drawn0.step)⟩
    case rest =>
     clear HC3
     try clear c1
     try clear c2
     try clear c2b0
     try clear p2
     try clear c4
     try clear c4b0
     try clear c4b1
     try clear c5
     try clear c5b0
     try clear p6
     try clear q6
     try clear hx6
     try clear p6
     try clear q6
     obtain ⟨kq, x17_2, rfl, HA, HJ2, ⟨mc2, rfl⟩⟩ := hcut
     cases kq with
     | zero => exact absurd HA.out (by simp [swarfref41_Value.j1])
     | succ kj2 =>
      have H := HA.out
      clear HA
      simp only [swarfref41_Value.j1] at H
      by_cases c7 : x17_2 = true
      ·subst c7
       rw [if_pos rfl] at H
       have H' := Aside0.mk H
       clear H
       go_wp2
       go_roundg kj2
       case measure => have := HK1.out; have := HJ2.out; omega
       case rel => exact ⟨(x4_1), (x5_1), (x6_1), (true), (x8_1), (wrap64 (x9_1 + 1)), yS, yS, yS, yS, yS, yS, H', ⟨by have := HK1.out; have := HJ2.out; omega⟩, by repeat (first | exact Drawn0.refl _ | apply Drawn0.step)⟩
      replace c7 := Bool.eq_false_iff.mpr c7
      subst c7
      replace H : (if 0 ≤ x9_1 then (if x9_1 < (a0.size : Int) then (if (bt a0 x9_1) = 46 then (if x6_1 < 0 then (swarfref41_Value.j2 kj2 a0 x4_1 x5_1 x6_1 x7_1 x8_1 x9_1 (decide (x9_1 > 0))) else (swarfref41_Value.j2 kj2 a0 x4_1 x5_1 x6_1 x7_1 x8_1 x9_1 false)) else (swarfref41_Value.j2 kj2 a0 x4_1 x5_1 x6_1 x7_1 x8_1 x9_1 false)) else (none)) else (none)) = some (r1, r2) := by rw [if_neg (show ¬ (false = true) by decide)] at H; exact H
      have HC8 := Aside0.mk H
      clear H
      go_upto_region 9 with (fail)
      go_cut [26] (fun v26 wc => ∃ (kq : Nat) (x26_7 : Bool), v26 = .bool x26_7 ∧ Aside0 (swarfref41_Value.j2 kq a0 x4_1 x5_1 x6_1 x7_1 x8_1 x9_1 x26_7 = some (r1, r2)) ∧ Aside0 (kq ≤ kj2) ∧ Drawn0 w wc)
      case first =>
       have H := HC8.out
       clear HC8
       by_cases c9 : 0 ≤ x9_1
       ·rw [if_pos c9] at H
        have c9b0 := decide_eq_true c9
        clear c9
        (first | rw [c9b0] | (simp only [i64_w, i32_w]; rw [c9b0]) | skip)
        by_cases c10 : x9_1 < (a0.size : Int)
        ·rw [if_pos c10] at H
         have c10b0 := decide_eq_true c10
         clear c10
         by_cases c12 : (bt a0 x9_1) = 46
         ·rw [if_pos c12] at H
          have c12b0 : ((bt a0 x9_1) == 46) = true := beq_iff_eq.mpr c12
          have c12b1 : ((bt a0 x9_1) != 46) = false := bne_eq_false_iff_eq.mpr c12
          clear c12
          by_cases c13 : x6_1 < 0
          ·rw [if_pos c13] at H
           have c13b0 := decide_eq_true c13
           clear c13
           have H' := Aside0.mk H
           clear H
           have p11 : 0 ≤ (x9_1 : Int) := yD
           have q11 : x9_1 < (a0.size : Int) := yD
           have hx11 := bt_at a0 x9_1
           replace p11 := eq_true p11
           replace q11 := eq_true q11
           go_wp2
           go_meet
           case rel => exact ⟨_, (decide (x9_1 > 0)), yS, H', ⟨by have := HK1.out; have := HJ2.out; first | omega | exact Nat.le_refl _⟩, by repeat (first | exact Drawn0.refl _ | apply Drawn0.step)⟩
          rw [if_neg c13] at H
          have c13b0 := decide_eq_false c13
          clear c13
          have H' := Aside0.mk H
          clear H
          have p11 : 0 ≤ (x9_1 : Int) := yD
          have q11 : x9_1 < (a0.size : Int) := yD
          have hx11 := bt_at a0 x9_1
          replace p11 := eq_true p11
          replace q11 := eq_true q11
          go_wp2
          go_meet
          case rel => exact ⟨_, (false), yS, H', ⟨by have := HK1.out; have := HJ2.out; first | omega | exact Nat.le_refl _⟩, by repeat (first | exact Drawn0.refl _ | apply Drawn0.step)⟩
         rw [if_neg c12] at H
         have c12b0 : ((bt a0 x9_1) == 46) = false := beq_eq_false_iff_ne.mpr c12
         have c12b1 : ((bt a0 x9_1) != 46) = true := bne_iff_ne.mpr c12
         have H' := Aside0.mk H
         clear H
         have p11 : 0 ≤ (x9_1 : Int) := yD
         have q11 : x9_1 < (a0.size : Int) := yD
         have hx11 := bt_at a0 x9_1
         replace p11 := eq_true p11
         replace q11 := eq_true q11
         go_wp2
         go_meet
         case rel => exact ⟨_, (false), yS, H', ⟨by have := HK1.out; have := HJ2.out; first | omega | exact Nat.le_refl _⟩, by repeat (first | exact Drawn0.refl _ | apply Drawn0.step)⟩
        rw [if_neg c10] at H
        exact absurd H (by simp)
       rw [if_neg c9] at H
       exact absurd H (by simp)
      case rest =>
       clear HC8
       try clear c1
       try clear p1
       try clear q1
       try clear hx1
       try clear c2
       try clear c2b0
       try clear p2
       try clear c4
       try clear c4b0
       try clear c4b1
       try clear c5
       try clear c5b0
       try clear p6
       try clear q6
       try clear hx6
       try clear c7
       try clear c9
       try clear c9b0
       try clear c10
       try clear c10b0
       try clear p11
       try clear q11
       try clear hx11
       try clear c12
       try clear c12b0
       try clear c12b1
       try clear c13
       try clear c13b0
       try clear p11
       try clear p2
       try clear p6
       try clear q11
       try clear q6
       obtain ⟨kq, x26_7, rfl, HA, HJ7, ⟨mc7, rfl⟩⟩ := hcut
       cases kq with
       | zero => exact absurd HA.out (by simp [swarfref41_Value.j2])
       | succ kj7 =>
        have H := HA.out
        clear HA
        simp only [swarfref41_Value.j2] at H
        by_cases c14 : x26_7 = true
        ·subst c14
         rw [if_pos rfl] at H
         have H' := Aside0.mk H
         clear H
         go_wp2
         go_roundg kj7
         case measure => have := HK1.out; have := HJ2.out; have := HJ7.out; omega
         case rel => exact ⟨(x4_1), (x5_1), (0), (x7_1), (x8_1), (wrap64 (x9_1 + 1)), yS, yS, yS, yS, yS, yS, H', ⟨by have := HK1.out; have := HJ2.out; have := HJ7.out; omega⟩, by repeat (first | exact Drawn0.refl _ | apply Drawn0.step)⟩
        replace c14 := Bool.eq_false_iff.mpr c14
        subst c14
        replace H : (if 0 ≤ x9_1 then (if x9_1 < (a0.size : Int) then (if (bt a0 x9_1) ≥ 48 then (if (bt a0 x9_1) ≤ 57 then (swarfref41_Value.j3 kj7 a0 x4_1 x5_1 x6_1 x7_1 x8_1 x9_1 (decide (x6_1 < 0))) else (swarfref41_Value.j3 kj7 a0 x4_1 x5_1 x6_1 x7_1 x8_1 x9_1 false)) else (swarfref41_Value.j3 kj7 a0 x4_1 x5_1 x6_1 x7_1 x8_1 x9_1 false)) else (none)) else (none)) = some (r1, r2) := by rw [if_neg (show ¬ (false = true) by decide)] at H; exact H
        have HC15 := Aside0.mk H
        clear H
        go_upto_region 11 with (fail)
        go_cut [39] (fun v39 wc => ∃ (kq : Nat) (x39_14 : Bool), v39 = .bool x39_14 ∧ Aside0 (swarfref41_Value.j3 kq a0 x4_1 x5_1 x6_1 x7_1 x8_1 x9_1 x39_14 = some (r1, r2)) ∧ Aside0 (kq ≤ kj7) ∧ Drawn0 w wc)
        case first =>
         have H := HC15.out
         clear HC15
         by_cases c16 : 0 ≤ x9_1
         ·rw [if_pos c16] at H
          have c16b0 := decide_eq_true c16
          clear c16
          (first | rw [c16b0] | (simp only [i64_w, i32_w]; rw [c16b0]) | skip)
          by_cases c17 : x9_1 < (a0.size : Int)
          ·rw [if_pos c17] at H
           have c17b0 := decide_eq_true c17
           clear c17
           by_cases c19 : (bt a0 x9_1) ≥ 48
           ·rw [if_pos c19] at H
            have c19b0 := decide_eq_true c19
            clear c19
            by_cases c21 : (bt a0 x9_1) ≤ 57
            ·rw [if_pos c21] at H
             have c21b0 := decide_eq_true c21
             clear c21
             have H' := Aside0.mk H
             clear H
             have p18 : 0 ≤ (x9_1 : Int) := yD
             have q18 : x9_1 < (a0.size : Int) := yD
             have hx18 := bt_at a0 x9_1
             replace p18 := eq_true p18
             replace q18 := eq_true q18
             have p20 : 0 ≤ (x9_1 : Int) := yD
             have q20 : x9_1 < (a0.size : Int) := yD
             have hx20 := bt_at a0 x9_1
             replace p20 := eq_true p20
             replace q20 := eq_true q20
             go_wp2
             go_meet
             case rel => exact ⟨_, (decide (x6_1 < 0)), yS, H', ⟨by have := HK1.out; have := HJ2.out; have := HJ7.out; first | omega | exact Nat.le_refl _⟩, by repeat (first | exact Drawn0.refl _ | apply Drawn0.step)⟩
            rw [if_neg c21] at H
            have c21b0 := decide_eq_false c21
            clear c21
            have H' := Aside0.mk H
            clear H
            have p18 : 0 ≤ (x9_1 : Int) := yD
            have q18 : x9_1 < (a0.size : Int) := yD
            have hx18 := bt_at a0 x9_1
            replace p18 := eq_true p18
            replace q18 := eq_true q18
            have p20 : 0 ≤ (x9_1 : Int) := yD
            have q20 : x9_1 < (a0.size : Int) := yD
            have hx20 := bt_at a0 x9_1
            replace p20 := eq_true p20
            replace q20 := eq_true q20
            go_wp2
            go_meet
            case rel => exact ⟨_, (false), yS, H', ⟨by have := HK1.out; have := HJ2.out; have := HJ7.out; first | omega | exact Nat.le_refl _⟩, by repeat (first | exact Drawn0.refl _ | apply Drawn0.step)⟩
           rw [if_neg c19] at H
           have c19b0 := decide_eq_false c19
           clear c19
           have H' := Aside0.mk H
           clear H
           have p18 : 0 ≤ (x9_1 : Int) := yD
           have q18 : x9_1 < (a0.size : Int) := yD
           have hx18 := bt_at a0 x9_1
           replace p18 := eq_true p18
           replace q18 := eq_true q18
           go_wp2
           go_meet
           case rel => exact ⟨_, (false), yS, H', ⟨by have := HK1.out; have := HJ2.out; have := HJ7.out; first | omega | exact Nat.le_refl _⟩, by repeat (first | exact Drawn0.refl _ | apply Drawn0.step)⟩
          rw [if_neg c17] at H
          exact absurd H (by simp)
         rw [if_neg c16] at H
         exact absurd H (by simp)
        case rest =>
         clear HC15
         try clear c1
         try clear p1
         try clear q1
         try clear hx1
         try clear c2
         try clear c2b0
         try clear p2
         try clear q2
         try clear hx2
         try clear c4
         try clear c4b0
         try clear c4b1
         try clear c5
         try clear c5b0
         try clear p6
         try clear q6
         try clear hx6
         try clear c7
         try clear c9
         try clear c9b0
         try clear c10
         try clear c10b0
         try clear p11
         try clear q11
         try clear hx11
         try clear c12
         try clear c12b0
         try clear c12b1
         try clear c13
         try clear c13b0
         try clear c14
         try clear c16
         try clear c16b0
         try clear c17
         try clear c17b0
         try clear p18
         try clear q18
         try clear hx18
         try clear c19
         try clear c19b0
         try clear p20
         try clear q20
         try clear hx20
         try clear c21
         try clear c21b0
         try clear p1
         try clear p11
         try clear p18
         try clear p2
         try clear p20
         try clear p6
         try clear q1
         try clear q11
         try clear q18
         try clear q20
         try clear q6
         obtain ⟨kq, x39_14, rfl, HA, HJ14, ⟨mc14, rfl⟩⟩ := hcut
         cases kq with
         | zero => exact absurd HA.out (by simp [swarfref41_Value.j3])
         | succ kj14 =>
          have H := HA.out
          clear HA
          simp only [swarfref41_Value.j3] at H
          by_cases c22 : x39_14 = true
          ·subst c22
           rw [if_pos rfl] at H
           by_cases c23 : 0 ≤ x9_1
           ·rw [if_pos c23] at H
            have c23b0 := decide_eq_true c23
            clear c23
            by_cases c24 : x9_1 < (a0.size : Int)
            ·rw [if_pos c24] at H
             have c24b0 := decide_eq_true c24
             clear c24
             by_cases c26 : (IntKind.u64.wrap ((IntKind.u64.wrap (10 * x4_1)) + (((bt a0 x9_1) - 48) % 256))) > 1000000000000
             ·rw [if_pos c26] at H
              have c26b0 := decide_eq_true c26
              clear c26
              have H' := Aside0.mk H
              clear H
              have p25 : 0 ≤ (x9_1 : Int) := yD
              have q25 : x9_1 < (a0.size : Int) := yD
              have hx25 := bt_at a0 x9_1
              replace p25 := eq_true p25
              replace q25 := eq_true q25
              go_wp2
              go_roundg kj14
              case measure => have := HK1.out; have := HJ2.out; have := HJ7.out; have := HJ14.out; omega
              case rel => exact ⟨(1000000000000), (x5_1), (x6_1), (x7_1), (true), (wrap64 (x9_1 + 1)), yS, yS, yS, yS, yS, yS, H', ⟨by have := HK1.out; have := HJ2.out; have := HJ7.out; have := HJ14.out; omega⟩, by repeat (first | exact Drawn0.refl _ | apply Drawn0.step)⟩
             rw [if_neg c26] at H
             have c26b0 := decide_eq_false c26
             clear c26
             have H' := Aside0.mk H
             clear H
             have p25 : 0 ≤ (x9_1 : Int) := yD
             have q25 : x9_1 < (a0.size : Int) := yD
             have hx25 := bt_at a0 x9_1
             replace p25 := eq_true p25
             replace q25 := eq_true q25
             go_wp2
             go_roundg kj14
             case measure => have := HK1.out; have := HJ2.out; have := HJ7.out; have := HJ14.out; omega
             case rel => exact ⟨(IntKind.u64.wrap ((IntKind.u64.wrap (10 * x4_1)) + (((bt a0 x9_1) - 48) % 256))), (x5_1), (x6_1), (x7_1), (x8_1), (wrap64 (x9_1 + 1)), yS, yS, yS, yS, yS, yS, H', ⟨by have := HK1.out; have := HJ2.out; have := HJ7.out; have := HJ14.out; omega⟩, by repeat (first | exact Drawn0.refl _ | apply Drawn0.step)⟩
            rw [if_neg c24] at H
            exact absurd H (by simp)
           rw [if_neg c23] at H
           exact absurd H (by simp)
          replace c22 := Bool.eq_false_iff.mpr c22
          subst c22
          replace H : (if 0 ≤ x9_1 then (if x9_1 < (a0.size : Int) then (if (bt a0 x9_1) ≥ 48 then (if (bt a0 x9_1) ≤ 57 then (if x6_1 < 3 then (swarfref41_Value.l0 kj14 a0 x4_1 (IntKind.u64.wrap ((IntKind.u64.wrap (10 * x5_1)) + (((bt a0 x9_1) - 48) % 256))) (wrap64 (x6_1 + 1)) x7_1 x8_1 (wrap64 (x9_1 + 1))) else (some (0, 2))) else (some (0, 2))) else (some (0, 2))) else (none)) else (none)) = some (r1, r2) := by rw [if_neg (show ¬ (false = true) by decide)] at H; exact H
          by_cases c27 : 0 ≤ x9_1
          ·rw [if_pos c27] at H
           have c27b0 := decide_eq_true c27
           clear c27
           by_cases c28 : x9_1 < (a0.size : Int)
           ·rw [if_pos c28] at H
            have c28b0 := decide_eq_true c28
            clear c28
            by_cases c30 : (bt a0 x9_1) ≥ 48
            ·rw [if_pos c30] at H
             have c30b0 := decide_eq_true c30
             clear c30
             by_cases c32 : (bt a0 x9_1) ≤ 57
             ·rw [if_pos c32] at H
              have c32b0 := decide_eq_true c32
              clear c32
              by_cases c33 : x6_1 < 3
              ·rw [if_pos c33] at H
               have c33b0 := decide_eq_true c33
               clear c33
               have H' := Aside0.mk H
               clear H
               have p29 : 0 ≤ (x9_1 : Int) := yD
               have q29 : x9_1 < (a0.size : Int) := yD
               have hx29 := bt_at a0 x9_1
               replace p29 := eq_true p29
               replace q29 := eq_true q29
               have p31 : 0 ≤ (x9_1 : Int) := yD
               have q31 : x9_1 < (a0.size : Int) := yD
               have hx31 := bt_at a0 x9_1
               replace p31 := eq_true p31
               replace q31 := eq_true q31
               have p34 : 0 ≤ (x9_1 : Int) := yD
               have q34 : x9_1 < (a0.size : Int) := yD
               have hx34 := bt_at a0 x9_1
               replace p34 := eq_true p34
               replace q34 := eq_true q34
               go_wp2
               go_roundg kj14
               case measure => have := HK1.out; have := HJ2.out; have := HJ7.out; have := HJ14.out; omega
               case rel => exact ⟨(x4_1), (IntKind.u64.wrap ((IntKind.u64.wrap (10 * x5_1)) + (((bt a0 x9_1) - 48) % 256))), (wrap64 (x6_1 + 1)), (x7_1), (x8_1), (wrap64 (x9_1 + 1)), yS, yS, yS, yS, yS, yS, H', ⟨by have := HK1.out; have := HJ2.out; have := HJ7.out; have := HJ14.out; omega⟩, by repeat (first | exact Drawn0.refl _ | apply Drawn0.step)⟩
              rw [if_neg c33] at H
              have c33b0 := decide_eq_false c33
              clear c33
              simp only [Option.some.injEq, Prod.mk.injEq] at H
              obtain ⟨rfl, rfl⟩ := H
              have p29 : 0 ≤ (x9_1 : Int) := yD
              have q29 : x9_1 < (a0.size : Int) := yD
              have hx29 := bt_at a0 x9_1
              replace p29 := eq_true p29
              replace q29 := eq_true q29
              have p31 : 0 ≤ (x9_1 : Int) := yD
              have q31 : x9_1 < (a0.size : Int) := yD
              have hx31 := bt_at a0 x9_1
              replace p31 := eq_true p31
              replace q31 := eq_true q31
              go_wp2
              go_ret2
              exact ⟨by first | rfl | (simp; done) | (simp [*]; done), by repeat (first | exact Drawn0.refl _ | apply Drawn0.step)⟩
             rw [if_neg c32] at H
             have c32b0 := decide_eq_false c32
             clear c32
             simp only [Option.some.injEq, Prod.mk.injEq] at H
             obtain ⟨rfl, rfl⟩ := H
             have p29 : 0 ≤ (x9_1 : Int) := yD
             have q29 : x9_1 < (a0.size : Int) := yD
             have hx29 := bt_at a0 x9_1
             replace p29 := eq_true p29
             replace q29 := eq_true q29
             have p31 : 0 ≤ (x9_1 : Int) := yD
             have q31 : x9_1 < (a0.size : Int) := yD
             have hx31 := bt_at a0 x9_1
             replace p31 := eq_true p31
             replace q31 := eq_true q31
             go_wp2
             go_ret2
             exact ⟨by first | rfl | (simp; done) | (simp [*]; done), by repeat (first | exact Drawn0.refl _ | apply Drawn0.step)⟩
            rw [if_neg c30] at H
            have c30b0 := decide_eq_false c30
            clear c30
            simp only [Option.some.injEq, Prod.mk.injEq] at H
            obtain ⟨rfl, rfl⟩ := H
            have p29 : 0 ≤ (x9_1 : Int) := yD
            have q29 : x9_1 < (a0.size : Int) := yD
            have hx29 := bt_at a0 x9_1
            replace p29 := eq_true p29
            replace q29 := eq_true q29
            go_wp2
            go_ret2
            exact ⟨by first | rfl | (simp; done) | (simp [*]; done), by repeat (first | exact Drawn0.refl _ | apply Drawn0.step)⟩
           rw [if_neg c28] at H
           exact absurd H (by simp)
          rw [if_neg c27] at H
          exact absurd H (by simp)
   rw [if_neg c2] at H
   have c2b0 := decide_eq_false c2
   clear c2
   replace H := Option.bind_eq_some_iff.mp H
   obtain ⟨t239, A350, H⟩ := H
   have A35 := Aside0.mk A350
   clear A350
   by_cases c36 : t239 = true
   ·subst c36
    rw [if_pos rfl] at H
    have HC37 := Aside0.mk H
    clear H
    go_upto_block 3 with (first | ((with_reducible refine gate_callee (f := 38) rfl ?_); refine goesL_ (some 90) rfl rfl Tryd.func38 (by kernel_rfl) rfl #[.string a0] rfl yQ ?_; (with_reducible refine (swarfref41_canonical.calls k1 a0 true _ A35.out).mono ?_); rintro e w' ⟨rfl, ⟨nd, rfl⟩⟩; refine ⟨_, rfl, ?_⟩))
    (try simp only [Act.put, List.setIfInBounds_toArray, List.set_cons_zero, List.set_cons_succ])
    go_cut [5] (fun v5 wc => ∃ (kq : Nat) (x5_36 : Int), v5 = .int .u64 x5_36 ∧ Aside0 (swarfref41_Value.j5 kq x4_1 x5_36 x7_1 x8_1 = some (r1, r2)) ∧ Aside0 (kq ≤ k1) ∧ Drawn0 w wc)
    case first =>
     have H := HC37.out
     clear HC37
     have H' := Aside0.mk H
     clear H
     go_wp2
     go_loopg [5, 6] k1 (fun kq v5 v6 w' => ∃ (x5_2 : Int) (x6_2 : Int), v5 = .int .u64 x5_2 ∧ v6 = .int .i64 x6_2 ∧ Aside0 (swarfref41_Value.l1 kq x4_1 x5_2 x6_2 x7_1 x8_1 = some (r1, r2)) ∧ Aside0 (kq ≤ k1) ∧ Drawn0 w w')
     case atStart => exact ⟨(x5_1), (x6_1), yS, yS, H', ⟨Nat.le_refl _⟩, by repeat (first | exact Drawn0.refl _ | apply Drawn0.step)⟩
     case round =>
      clear H'
      try clear c1
      try clear p1
      try clear q1
      try clear hx1
      try clear c2
      try clear c2b0
      try clear p2
      try clear q2
      try clear hx2
      try clear c3
      try clear p3
      try clear q3
      try clear hx3
      try clear c4
      try clear c4b0
      try clear c4b1
      try clear c5
      try clear c5b0
      try clear p6
      try clear q6
      try clear hx6
      try clear c7
      try clear c9
      try clear c9b0
      try clear c10
      try clear c10b0
      try clear p11
      try clear q11
      try clear hx11
      try clear c12
      try clear c12b0
      try clear c12b1
      try clear c13
      try clear c13b0
      try clear c14
      try clear c16
      try clear c16b0
      try clear c17
      try clear c17b0
      try clear p18
      try clear q18
      try clear hx18
      try clear c19
      try clear c19b0
      try clear p20
      try clear q20
      try clear hx20
      try clear c21
      try clear c21b0
      try clear c22
      try clear c23
      try clear c23b0
      try clear c24
      try clear c24b0
      try clear p25
      try clear q25
      try clear hx25
      try clear c26
      try clear c26b0
      try clear c27
      try clear c27b0
      try clear c28
      try clear c28b0
      try clear p29
      try clear q29
      try clear hx29
      try clear c30
      try clear c30b0
      try clear p31
      try clear q31
      try clear hx31
      try clear c32
      try clear c32b0
      try clear c33
      try clear c33b0
      try clear p34
      try clear q34
      try clear hx34
      try clear c36
      try clear p1
      try clear p11
      try clear p18
      try clear p2
      try clear p20
      try clear p25
      try clear p29
      try clear p31
      try clear p34
      try clear p6
      try clear q1
      try clear q11
      try clear q18
      try clear q2
      try clear q20
      try clear q25
      try clear q29
      try clear q31
      try clear q34
      try clear q6
      obtain ⟨x5_2, x6_2, rfl, rfl, HA, HK2, ⟨m2, rfl⟩⟩ := hrel
      cases gk with
      | zero => exact absurd HA.out (by simp [swarfref41_Value.l1])
      | succ k2 =>
       have H := HA.out
       clear HA
       simp only [swarfref41_Value.l1] at H
       by_cases c38 : x6_2 ≥ 0
       ·rw [if_pos c38] at H
        have c38b0 := decide_eq_true c38
        clear c38
        (first | rw [c38b0] | (simp only [i64_w, i32_w]; rw [c38b0]) | skip)
        by_cases c39 : x6_2 < 3
        ·rw [if_pos c39] at H
         have c39b0 := decide_eq_true c39
         clear c39
         have H' := Aside0.mk H
         clear H
         go_wp2
         go_roundg k2
         case measure => have := HK1.out; have := HK2.out; omega
         case rel => exact ⟨(IntKind.u64.wrap (10 * x5_2)), (wrap64 (x6_2 + 1)), yS, yS, H', ⟨by have := HK1.out; have := HK2.out; omega⟩, by repeat (first | exact Drawn0.refl _ | apply Drawn0.step)⟩
        rw [if_neg c39] at H
        have c39b0 := decide_eq_false c39
        clear c39
        have H' := Aside0.mk H
        clear H
        go_wp2
        go_meet
        case rel => exact ⟨_, (x5_2), yS, H', ⟨by have := HK1.out; have := HK2.out; first | omega | exact Nat.le_refl _⟩, by repeat (first | exact Drawn0.refl _ | apply Drawn0.step)⟩
       rw [if_neg c38] at H
       have c38b0 := decide_eq_false c38
       clear c38
       (first | rw [c38b0] | (simp only [i64_w, i32_w]; rw [c38b0]) | skip)
       have H' := Aside0.mk H
       clear H
       go_wp2
       go_meet
       case rel => exact ⟨_, (x5_2), yS, H', ⟨by have := HK1.out; have := HK2.out; first | omega | exact Nat.le_refl _⟩, by repeat (first | exact Drawn0.refl _ | apply Drawn0.step)⟩
    case rest =>
     clear HC37
     try clear c1
     try clear p1
     try clear q1
     try clear hx1
     try clear c2
     try clear c2b0
     try clear p2
     try clear q2
     try clear hx2
     try clear c3
     try clear p3
     try clear q3
     try clear hx3
     try clear c4
     try clear c4b0
     try clear c4b1
     try clear c5
     try clear c5b0
     try clear p6
     try clear q6
     try clear hx6
     try clear c7
     try clear c9
     try clear c9b0
     try clear c10
     try clear c10b0
     try clear p11
     try clear q11
     try clear hx11
     try clear c12
     try clear c12b0
     try clear c12b1
     try clear c13
     try clear c13b0
     try clear c14
     try clear c16
     try clear c16b0
     try clear c17
     try clear c17b0
     try clear p18
     try clear q18
     try clear hx18
     try clear c19
     try clear c19b0
     try clear p20
     try clear q20
     try clear hx20
     try clear c21
     try clear c21b0
     try clear c22
     try clear c23
     try clear c23b0
     try clear c24
     try clear c24b0
     try clear p25
     try clear q25
     try clear hx25
     try clear c26
     try clear c26b0
     try clear c27
     try clear c27b0
     try clear c28
     try clear c28b0
     try clear p29
     try clear q29
     try clear hx29
     try clear c30
     try clear c30b0
     try clear p31
     try clear q31
     try clear hx31
     try clear c32
     try clear c32b0
     try clear c33
     try clear c33b0
     try clear p34
     try clear q34
     try clear hx34
     try clear c36
     try clear c38
     try clear c38b0
     try clear c39
     try clear c39b0
     try clear p1
     try clear p11
     try clear p18
     try clear p2
     try clear p20
     try clear p25
     try clear p29
     try clear p3
     try clear p31
     try clear p34
     try clear p6
     try clear q1
     try clear q11
     try clear q18
     try clear q2
     try clear q20
     try clear q25
     try clear q29
     try clear q3
     try clear q31
     try clear q34
     try clear q6
     obtain ⟨kq, x5_36, rfl, HA, HJ36, ⟨mc36, rfl⟩⟩ := hcut
     cases kq with
     | zero => exact absurd HA.out (by simp [swarfref41_Value.j5])
     | succ kj36 =>
      have H := HA.out
      clear HA
      simp only [swarfref41_Value.j5] at H
      have HC40 := Aside0.mk H
      clear H
      go_upto_region 22 with (fail)
      go_cut [110] (fun v110 wc => ∃ (kq : Nat) (x110_39 : Bool), v110 = .bool x110_39 ∧ Aside0 (swarfref41_Value.j6 kq x7_1 (IntKind.u64.wrap ((IntKind.u64.wrap (1000 * x4_1)) + x5_36)) x110_39 = some (r1, r2)) ∧ Aside0 (kq ≤ kj36) ∧ Drawn0 w wc)
      case first =>
       have H := HC40.out
       clear HC40
       by_cases c41 : x8_1 = true
       ·subst c41
        rw [if_pos rfl] at H
        have H' := Aside0.mk H
        clear H
        go_wp2
        go_meet
        case rel => exact ⟨_, (true), yS, H', ⟨by have := HK1.out; have := HJ36.out; first | omega | exact Nat.le_refl _⟩, by repeat (first | exact Drawn0.refl _ | apply Drawn0.step)⟩
       replace c41 := Bool.eq_false_iff.mpr c41
       subst c41
       replace H : (swarfref41_Value.j6 kj36 x7_1 (IntKind.u64.wrap ((IntKind.u64.wrap (1000 * x4_1)) + x5_36)) (decide ((IntKind.u64.wrap ((IntKind.u64.wrap (1000 * x4_1)) + x5_36)) > 1000000000000))) = some (r1, r2) := by rw [if_neg (show ¬ (false = true) by decide)] at H; exact H
       have H' := Aside0.mk H
       clear H
       go_wp2
       go_meet
       case rel => exact ⟨_, (decide ((IntKind.u64.wrap ((IntKind.u64.wrap (1000 * x4_1)) + x5_36)) > 1000000000000)), yS, H', ⟨by have := HK1.out; have := HJ36.out; first | omega | exact Nat.le_refl _⟩, by repeat (first | exact Drawn0.refl _ | apply Drawn0.step)⟩
      case rest =>
       clear HC40
       try clear c1
       try clear p1
       try clear q1
       try clear hx1
       try clear c2
       try clear c2b0
       try clear p2
       try clear q2
       try clear hx2
       try clear c3
       try clear p3
       try clear q3
       try clear hx3
       try clear c4
       try clear c4b0
       try clear c4b1
       try clear c5
       try clear c5b0
       try clear p6
       try clear q6
       try clear hx6
       try clear c7
       try clear c9
       try clear c9b0
       try clear c10
       try clear c10b0
       try clear p11
       try clear q11
       try clear hx11
       try clear c12
       try clear c12b0
       try clear c12b1
       try clear c13
       try clear c13b0
       try clear c14
       try clear c16
       try clear c16b0
       try clear c17
       try clear c17b0
       try clear p18
       try clear q18
       try clear hx18
       try clear c19
       try clear c19b0
       try clear p20
       try clear q20
       try clear hx20
       try clear c21
       try clear c21b0
       try clear c22
       try clear c23
       try clear c23b0
       try clear c24
       try clear c24b0
       try clear p25
       try clear q25
       try clear hx25
       try clear c26
       try clear c26b0
       try clear c27
       try clear c27b0
       try clear c28
       try clear c28b0
       try clear p29
       try clear q29
       try clear hx29
       try clear c30
       try clear c30b0
       try clear p31
       try clear q31
       try clear hx31
       try clear c32
       try clear c32b0
       try clear c33
       try clear c33b0
       try clear p34
       try clear q34
       try clear hx34
       try clear c36
       try clear c38
       try clear c38b0
       try clear c39
       try clear c39b0
       try clear c41
       try clear p1
       try clear p11
       try clear p18
       try clear p2
       try clear p20
       try clear p25
       try clear p29
       try clear p3
       try clear p31
       try clear p34
       try clear p6
       try clear q1
       try clear q11
       try clear q18
       try clear q2
       try clear q20
       try clear q25
       try clear q29
       try clear q3
       try clear q31
       try clear q34
       try clear q6
       obtain ⟨kq, x110_39, rfl, HA, HJ39, ⟨mc39, rfl⟩⟩ := hcut
       cases kq with
       | zero => exact absurd HA.out (by simp [swarfref41_Value.j6])
       | succ kj39 =>
        have H := HA.out
        clear HA
        simp only [swarfref41_Value.j6] at H
        by_cases c42 : x110_39 = true
        ·subst c42
         rw [if_pos rfl] at H
         simp only [Option.some.injEq, Prod.mk.injEq] at H
         obtain ⟨rfl, rfl⟩ := H
         go_wp2
         go_ret2
         exact ⟨by first | rfl | (simp; done) | (simp [*]; done), by repeat (first | exact Drawn0.refl _ | apply Drawn0.step)⟩
        replace c42 := Bool.eq_false_iff.mpr c42
        subst c42
        replace H : (if x7_1 = true then (some (wrap64 (-(wrap64 ((IntKind.u64.wrap ((IntKind.u64.wrap (1000 * x4_1)) + x5_36))))), 0)) else (some (wrap64 ((IntKind.u64.wrap ((IntKind.u64.wrap (1000 * x4_1)) + x5_36))), 0))) = some (r1, r2) := by rw [if_neg (show ¬ (false = true) by decide)] at H; exact H
        by_cases c43 : x7_1 = true
        ·subst c43
         rw [if_pos rfl] at H
         simp only [Option.some.injEq, Prod.mk.injEq] at H
         obtain ⟨rfl, rfl⟩ := H
         go_wp2
         go_ret2
         exact ⟨by first | rfl | (simp; done) | (simp [*]; done), by repeat (first | exact Drawn0.refl _ | apply Drawn0.step)⟩
        replace c43 := Bool.eq_false_iff.mpr c43
        subst c43
        replace H : (some (wrap64 ((IntKind.u64.wrap ((IntKind.u64.wrap (1000 * x4_1)) + x5_36))), 0)) = some (r1, r2) := by rw [if_neg (show ¬ (false = true) by decide)] at H; exact H
        simp only [Option.some.injEq, Prod.mk.injEq] at H
        obtain ⟨rfl, rfl⟩ := H
        go_wp2
        go_ret2
        exact ⟨by first | rfl | (simp; done) | (simp [*]; done), by repeat (first | exact Drawn0.refl _ | apply Drawn0.step)⟩
   replace c36 := Bool.eq_false_iff.mpr c36
   subst c36
   replace H : (some (0, 2)) = some (r1, r2) := by rw [if_neg (show ¬ (false = true) by decide)] at H; exact H
   simp only [Option.some.injEq, Prod.mk.injEq] at H
   obtain ⟨rfl, rfl⟩ := H
   go_wp2_with (first | ((with_reducible refine gate_callee (f := 38) rfl ?_); refine goesL_ (some 90) rfl rfl Tryd.func38 (by kernel_rfl) rfl #[.string a0] rfl yQ ?_; (with_reducible refine (swarfref41_canonical.calls k1 a0 false _ A35.out).mono ?_); rintro e w' ⟨rfl, ⟨nd, rfl⟩⟩; refine ⟨_, rfl, ?_⟩))
   go_ret2
   exact ⟨by first | rfl | (simp; done) | (simp [*]; done), by repeat (first | exact Drawn0.refl _ | apply Drawn0.step)⟩
end Go.Proofs.YtehkhbnhmehobaaDoor.P
namespace Go.Proofs.YtehkhbnhmehobaaDoor.P
open Go.RowKit Go.Proofs.YtehkhbnhmehobaaDoorW.PrintWords Go.Proofs.YtehkhbnhmehobaaDoorW.PrintLast Go.Proofs.YtehkhbnhmehobaaDoorW.PrintMore
set_option linter.unusedVariables false
set_option linter.unusedSimpArgs false
def lastDot : Int → Nat → List UInt8 → Int
  | p, _, [] => p
  | p, i, c :: r => lastDot (if c = 46 then (i : Int) else p) (i + 1) r
def canonB (b : List UInt8) : Bool :=
  if lastDot (b.length : Int) 0 b = 0 then false else if lastDot (b.length : Int) 0 b > 1 ∧ zeroAhead b = true then false else
  if lastDot (b.length : Int) 0 b = (b.length : Int) then true else if lastDot (b.length : Int) 0 b < (b.length : Int) - 1 then !zeroEnd b else false
def canonS (s : List UInt8) : Bool := if (cutS s).2 = true then (if s = [45, 48] then false else canonB (cutS s).1) else canonB s
theorem lastDot_le (i : Nat) : ∀ (b : List UInt8) (j : Nat) (p : Int), p ≤ (i : Int) → j + b.length ≤ i → lastDot p j b ≤ (i : Int)
  | [], _, p, h, _ => h
  | c :: r, j, p, h, hl => by
    rw [lastDot]; simp only [List.length_cons] at hl
    exact lastDot_le i r (j + 1) _ (by split <;> omega) (by omega)
theorem lastDot_ge : ∀ (b : List UInt8) (j : Nat) (p : Int), 0 ≤ p → 0 ≤ lastDot p j b
  | [], _, p, h => h
  | c :: r, j, p, h => by
    rw [lastDot]; exact lastDot_ge r (j + 1) _ (by split <;> omega)
theorem w64n (j : Nat) (h : j ≤ 100000) : wrap64 ((j : Int) + 1) = ((j + 1 : Nat) : Int) := by unfold wrap64; omega
theorem beq48 (c : UInt8) : ((c.toNat : Int) = 48) ↔ c = 48 := ⟨fun h => UInt8.toNat_inj.mp (by show _ = 48; omega), fun h => by rw [h]; rfl⟩
theorem beq46 (c : UInt8) : ((c.toNat : Int) = 46) ↔ c = 46 := ⟨fun h => UInt8.toNat_inj.mp (by show _ = 46; omega), fun h => by rw [h]; rfl⟩
theorem beq45 (c : UInt8) : ((c.toNat : Int) = 45) ↔ c = 45 := ⟨fun h => UInt8.toNat_inj.mp (by show _ = 45; omega), fun h => by rw [h]; rfl⟩
theorem canon_l0 (b : List UInt8) (hb : b.length ≤ 1000) : ∀ (k j : Nat) (p : Int), b.length < k + j → j ≤ b.length → swarfref41_canonical.l0 k (ba b) p (j : Int) = swarfref41_canonical.l0 1 (ba b) (lastDot p j (b.drop j)) (b.length : Int)
  | 0, j, p, h, h1 => by omega
  | k + 1, j, p, h, h1 => by
    by_cases hj : j < b.length
    · rw [swarfref41_canonical.l0, if_pos (by rw [ba_size]; omega), if_pos (by omega), bt_ba b j hj, w64n j (by omega), List.drop_eq_getElem_cons hj, lastDot]
      by_cases hc : b[j] = 46
      · rw [if_pos ((beq46 _).mpr hc), if_pos hc]; exact canon_l0 b hb k (j + 1) _ (by omega) (by omega)
      rw [if_neg (fun h => hc ((beq46 _).mp h)), if_neg hc]; exact canon_l0 b hb k (j + 1) _ (by omega) (by omega)
    have e : j = b.length := by omega
    subst e
    have hn : ¬ ((b.length : Int) < ((ba b).size : Int)) := by rw [ba_size]; omega
    rw [List.drop_length, lastDot, swarfref41_canonical.l0, swarfref41_canonical.l0, if_neg hn, if_neg hn]
theorem canon_end (b : List UInt8) (hb : b.length ≤ 1000) : swarfref41_canonical.l0 1 (ba b) (lastDot (b.length : Int) 0 b) (b.length : Int) = some (canonB b) := by
  have h0 := lastDot_ge b 0 (b.length : Int) (by omega)
  have h1 := lastDot_le b.length b 0 (b.length : Int) (Int.le_refl _) (by omega)
  unfold canonB
  rw [swarfref41_canonical.l0, if_neg (by rw [ba_size]; omega)]
  by_cases c0 : lastDot (b.length : Int) 0 b = 0
  · rw [if_pos c0, if_pos c0]
  have hl : 0 < b.length := by omega
  have ew : wrap64 (((ba b).size : Int) - 1) = ((b.length - 1 : Nat) : Int) := by rw [ba_size]; unfold wrap64; omega
  have ez : (bt (ba b) 0 = 48) ↔ zeroAhead b = true := by
    rw [show bt (ba b) 0 = ((b[0]'hl).toNat : Int) from bt_ba b 0 hl, beq48]
    unfold zeroAhead
    rw [show b.getD 0 0 = b[0]'hl by rw [List.getD, List.getElem?_eq_getElem hl]; rfl]; simp
  have ee : (bt (ba b) ((b.length - 1 : Nat) : Int) != 48) = !zeroEnd b := by
    rw [bt_ba b (b.length - 1) (by omega)]
    unfold zeroEnd
    rw [show b.getD (b.length - 1) 0 = b[b.length - 1]'(by omega) by rw [List.getD, List.getElem?_eq_getElem (by omega)]; rfl]
    by_cases hc : b[b.length - 1]'(by omega) = 48
    · rw [hc]; rfl
    rw [bne_iff_ne.mpr (fun h => hc ((beq48 _).mp h)), beq_eq_false_iff_ne.mpr hc]; rfl
  rw [if_neg c0, if_neg c0, ew, ee, ba_size]
  have tail : (if lastDot (b.length : Int) 0 b = (b.length : Int) then some true else if lastDot (b.length : Int) 0 b < ((b.length - 1 : Nat) : Int) then (if (0 : Int) ≤ ((b.length - 1 : Nat) : Int) then (if ((b.length - 1 : Nat) : Int) < (b.length : Int) then some (!zeroEnd b) else none) else none) else some false) =
      some (if lastDot (b.length : Int) 0 b = (b.length : Int) then true else if lastDot (b.length : Int) 0 b < (b.length : Int) - 1 then !zeroEnd b else false) := by
    by_cases c2 : lastDot (b.length : Int) 0 b = (b.length : Int)
    · rw [if_pos c2, if_pos c2]
    rw [if_neg c2, if_neg c2]
    by_cases c3 : lastDot (b.length : Int) 0 b < (b.length : Int) - 1
    · rw [if_pos (by omega), if_pos (by omega), if_pos (by omega), if_pos c3]
    rw [if_neg (by omega), if_neg c3]
  by_cases c1 : lastDot (b.length : Int) 0 b > 1
  · rw [if_pos c1, if_pos (by omega)]
    by_cases cz : zeroAhead b = true
    · rw [if_pos (ez.mpr cz), if_pos ⟨c1, cz⟩]
    rw [if_neg (fun h => cz (ez.mp h)), if_neg (show ¬ (lastDot (b.length : Int) 0 b > 1 ∧ zeroAhead b = true) from fun h => cz h.2)]; exact tail
  rw [if_neg c1, if_neg (show ¬ (lastDot (b.length : Int) 0 b > 1 ∧ zeroAhead b = true) from fun h => c1 h.1)]; exact tail
theorem canon_ev (k : Nat) (s : List UInt8) (hs : s.length ≤ 1000) (hk : s.length + 10 ≤ k) : swarfref41_canonical.f k (ba s) = some (canonS s) := by
  have hB : ∀ (k : Nat) (b : List UInt8), b.length ≤ 1000 → b.length + 5 ≤ k → swarfref41_canonical.j1 k (ba b) = some (canonB b) := by
    intro k b hb hk
    obtain ⟨k2, rfl⟩ : ∃ k2, k = k2 + 1 := ⟨k - 1, by omega⟩
    rw [swarfref41_canonical.j1, ba_size]
    have := canon_l0 b hb k2 0 (b.length : Int) (by omega) (by omega)
    rw [List.drop_zero] at this
    exact this.trans (canon_end b hb)
  obtain ⟨k2, rfl⟩ : ∃ k2, k = k2 + 1 := ⟨k - 1, by omega⟩
  unfold swarfref41_canonical.f canonS
  rw [ba_size]
  cases s with
  | nil =>
    rw [if_neg (by simp), swarfref41_canonical.j0, if_neg (by decide), hB k2 [] (by simp) (by simp at hk ⊢; omega)]; rfl
  | cons c r =>
    have hl : (0 : Int) < ((c :: r).length : Int) := by simp only [List.length_cons]; omega
    simp only [List.length_cons] at hs hk
    rw [if_pos hl, if_pos hl, show bt (ba (c :: r)) 0 = (c.toNat : Int) from bt_ba (c :: r) 0 (by simp), swarfref41_canonical.j0]
    by_cases h : c = 45
    · subst h
      rw [if_pos (by rfl), ba_toList]
      have e1 : cutS (45 :: r) = (r, true) := by rw [cutS, if_pos rfl]
      rw [e1, if_pos rfl]
      by_cases h2 : (45 :: r) = ([45, 48] : List UInt8)
      · rw [if_pos h2, if_pos h2]
      rw [if_neg h2, if_neg h2, if_pos (by rw [ba_size]; omega), ba_extract, ba_size, List.take_of_length_le (Nat.le_refl _)]
      exact hB k2 r (by omega) (by omega)
    rw [if_neg (by rw [beq_eq_false_iff_ne.mpr (fun he => h ((beq45 _).mp he))]; decide), cutS, if_neg h, if_neg (show ¬ (false = true) by decide)]
    exact hB k2 (c :: r) (by simp only [List.length_cons]; omega) (by simp only [List.length_cons]; omega)
end Go.Proofs.YtehkhbnhmehobaaDoor.P
