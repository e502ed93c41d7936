/- The law swarflaw42.ModalLine of the given program returns true for every input, and its arguments read behind the call as they read before.
   Conditions: none beyond the given statement Rows.ModalLineSaid. -/
import Derived.Test.YtehkhbnhmehobaaRows
import Derived.WalkKit
import Derived.ProofKit
import Derived.OpenShut
import Derived.ShutString
import Derived.ChangeOld
import Derived.Below
import Derived.SizedLaws
import Derived.Carry
import Derived.Test.YtehkhbnhmehobaaCModalLine1
import Derived.Test.YtehkhbnhmehobaaCModalLine2
import Derived.Test.YtehkhbnhmehobaaCModalLine3
import Derived.Test.YtehkhbnhmehobaaCModalLine4
import Derived.Test.YtehkhbnhmehobaaCModalLine5
namespace Go.Proofs.Ytehkhbnhmehobaa.P
open Go.RowKit Go.Proofs.YtehkhbnhmehobaaW.PrintWords Go.Proofs.YtehkhbnhmehobaaW.PrintLast Go.Proofs.YtehkhbnhmehobaaW.PrintMore
attribute [local go_sem] max2_int min2_int max_two min_two max_three min_three max_four min_four
set_option linter.unusedVariables false
set_option linter.unusedSimpArgs false
attribute [local go_sem high] eqA25 eqA26
def swarflaw42_ModalLine.f (k : Nat) (a0_0 : Int) (a0_1 : Int) (a0_2 : Int) (a0_3 : Int) (a0_4 : Int) (a0_5 : Int) (a0_6 : Int) (a0_7 : Int) (a1_0 : Int) (a1_1 : Int) (a1_2 : Int) (a1_3 : Int) (a1_4 : Int) (a1_5 : Int) (a1_6 : Int) (a1_7 : Int) : Option (Bool) := (swarflaw42_awake.f k).bind fun t329 => (if t329 = true then ((modal_Line.f k a0_0 a0_1 a0_2 a0_3 a0_4 a0_5 a0_6 a0_7).bind fun bt330 => ((swarfref42_Line.f a0_0 a0_1 a0_2 a0_3 a0_4 a0_5 a0_6 a0_7).bind fun bt339 => ((swarfref41_Same.f k (([(⟨bt330.1, bt330.2.1, bt330.2.2⟩ : S32)] : List (S32))) (([(⟨bt339.1, bt339.2.1, bt339.2.2⟩ : S32)] : List (S32)))).bind fun t347 => (if t347 = true then ((modal_Apply.f k a1_0 a1_1 a1_2 a1_3 a1_4 a1_5 a1_6 a1_7 bt330.1 bt330.2.1 bt330.2.2).bind fun bt348 => ((swarfref42_Regular.f k a0_0 a0_1 a0_2 a0_3 a0_4 a0_5 a0_6 a0_7).bind fun t358 => (if t358 = true then (if bt348.2.2.2.2.2.2.2.2 = 0 then (some (bt348.1 == a0_0 && (bt348.2.1 == a0_1 && (bt348.2.2.1 == a0_2 && (bt348.2.2.2.1 == a0_3 && (bt348.2.2.2.2.1 == a0_4 && (bt348.2.2.2.2.2.1 == a0_5 && (bt348.2.2.2.2.2.2.1 == a0_6 && (bt348.2.2.2.2.2.2.2.1 == a0_7))))))))) else (none)) else (some true)))) else (none))))) else (none))
theorem swarflaw42_ModalLine.mono : ∀ a0 a1 a2 a3 a4 a5 a6 a7 a8 a9 a10 a11 a12 a13 a14 a15 k, LeO (swarflaw42_ModalLine.f k a0 a1 a2 a3 a4 a5 a6 a7 a8 a9 a10 a11 a12 a13 a14 a15) (swarflaw42_ModalLine.f (k + 1) a0 a1 a2 a3 a4 a5 a6 a7 a8 a9 a10 a11 a12 a13 a14 a15) := by
 intro a0 a1 a2 a3 a4 a5 a6 a7 a8 a9 a10 a11 a12 a13 a14 a15 k
 unfold swarflaw42_ModalLine.f
 repeat' first
   | (with_reducible exact modal_Apply.mono _ _ _ _ _ _ _ _ _ _ _ _)
   | (with_reducible exact modal_Line.mono _ _ _ _ _ _ _ _ _)
   | (with_reducible exact swarflaw42_awake.mono _)
   | (with_reducible exact swarfref41_Same.mono _ _ _)
   | (with_reducible exact swarfref42_Regular.mono _ _ _ _ _ _ _ _ _)
   | (with_reducible exact LeO.refl _)
   | (with_reducible exact LeO.none _)
   | (with_reducible refine LeO.ite ?_ ?_)
   | (with_reducible refine LeO.bind ?_ (fun _ => ?_))
   | exact modal_Apply.mono _ _ _ _ _ _ _ _ _ _ _ _
   | exact modal_Line.mono _ _ _ _ _ _ _ _ _
   | exact swarflaw42_awake.mono _
   | exact swarfref41_Same.mono _ _ _
   | exact swarfref42_Regular.mono _ _ _ _ _ _ _ _ _
   | exact LeO.none _
   | refine LeO.ite ?_ ?_
   | refine LeO.bind ?_ (fun _ => ?_)
set_option maxHeartbeats 8000000 in
set_option maxRecDepth 100000 in
theorem swarflaw42_ModalLine.calls (k : Nat) (a0_0 : Int) (a0_1 : Int) (a0_2 : Int) (a0_3 : Int) (a0_4 : Int) (a0_5 : Int) (a0_6 : Int) (a0_7 : Int) (a1_0 : Int) (a1_1 : Int) (a1_2 : Int) (a1_3 : Int) (a1_4 : Int) (a1_5 : Int) (a1_6 : Int) (a1_7 : Int) (r : Bool) (w : World) (h : swarflaw42_ModalLine.f k a0_0 a0_1 a0_2 a0_3 a0_4 a0_5 a0_6 a0_7 a1_0 a1_1 a1_2 a1_3 a1_4 a1_5 a1_6 a1_7 = some r) :
  Calls Try.prog 4 #[.agg #[.int .i64 a0_0, .int .i64 a0_1, .int .i64 a0_2, .int .i64 a0_3, .int .i64 a0_4, .int .i64 a0_5, .int .i64 a0_6, .int .i64 a0_7], .agg #[.int .i64 a1_0, .int .i64 a1_1, .int .i64 a1_2, .int .i64 a1_3, .int .i64 a1_4, .int .i64 a1_5, .int .i64 a1_6, .int .i64 a1_7]] w fun e w' => e = .returned (.bool r) ∧ Below w.heap.size w w' := by
 have hu25 := Try.underlying25
 have hu32 := Try.underlying32
 have hu26 := Try.underlying26
 have HB := Aside0.mk (Below.refl w.heap.size w)
 have H : ((swarflaw42_awake.f k).bind fun t329 => (if t329 = true then ((modal_Line.f k a0_0 a0_1 a0_2 a0_3 a0_4 a0_5 a0_6 a0_7).bind fun bt330 => ((swarfref42_Line.f a0_0 a0_1 a0_2 a0_3 a0_4 a0_5 a0_6 a0_7).bind fun bt339 => ((swarfref41_Same.f k (([(⟨bt330.1, bt330.2.1, bt330.2.2⟩ : S32)] : List (S32))) (([(⟨bt339.1, bt339.2.1, bt339.2.2⟩ : S32)] : List (S32)))).bind fun t347 => (if t347 = true then ((modal_Apply.f k a1_0 a1_1 a1_2 a1_3 a1_4 a1_5 a1_6 a1_7 bt330.1 bt330.2.1 bt330.2.2).bind fun bt348 => ((swarfref42_Regular.f k a0_0 a0_1 a0_2 a0_3 a0_4 a0_5 a0_6 a0_7).bind fun t358 => (if t358 = true then (if bt348.2.2.2.2.2.2.2.2 = 0 then (some (bt348.1 == a0_0 && (bt348.2.1 == a0_1 && (bt348.2.2.1 == a0_2 && (bt348.2.2.2.1 == a0_3 && (bt348.2.2.2.2.1 == a0_4 && (bt348.2.2.2.2.2.1 == a0_5 && (bt348.2.2.2.2.2.2.1 == a0_6 && (bt348.2.2.2.2.2.2.2.1 == a0_7))))))))) else (none)) else (some true)))) else (none))))) else (none))) = some r := h
 clear h
 replace H := Option.bind_eq_some_iff.mp H
 obtain ⟨t329, A30, H⟩ := H
 replace H : (if t329 = true then ((modal_Line.f k a0_0 a0_1 a0_2 a0_3 a0_4 a0_5 a0_6 a0_7).bind fun bt330 => ((swarfref42_Line.f a0_0 a0_1 a0_2 a0_3 a0_4 a0_5 a0_6 a0_7).bind fun bt339 => ((swarfref41_Same.f k (([(⟨bt330.1, bt330.2.1, bt330.2.2⟩ : S32)] : List (S32))) (([(⟨bt339.1, bt339.2.1, bt339.2.2⟩ : S32)] : List (S32)))).bind fun t347 => (if t347 = true then ((modal_Apply.f k a1_0 a1_1 a1_2 a1_3 a1_4 a1_5 a1_6 a1_7 bt330.1 bt330.2.1 bt330.2.2).bind fun bt348 => ((swarfref42_Regular.f k a0_0 a0_1 a0_2 a0_3 a0_4 a0_5 a0_6 a0_7).bind fun t358 => (if t358 = true then (if bt348.2.2.2.2.2.2.2.2 = 0 then (some (bt348.1 == a0_0 && (bt348.2.1 == a0_1 && (bt348.2.2.1 == a0_2 && (bt348.2.2.2.1 == a0_3 && (bt348.2.2.2.2.1 == a0_4 && (bt348.2.2.2.2.2.1 == a0_5 && (bt348.2.2.2.2.2.2.1 == a0_6 && (bt348.2.2.2.2.2.2.2.1 == a0_7))))))))) else (none)) else (some true)))) else (none))))) else (none)) = some r := H
 have A3 := Aside0.mk A30
 clear A30
 by_cases c4 : t329 = true
 ·subst c4
  have H1 : ((modal_Line.f k a0_0 a0_1 a0_2 a0_3 a0_4 a0_5 a0_6 a0_7).bind fun bt330 => ((swarfref42_Line.f a0_0 a0_1 a0_2 a0_3 a0_4 a0_5 a0_6 a0_7).bind fun bt339 => ((swarfref41_Same.f k (([(⟨bt330.1, bt330.2.1, bt330.2.2⟩ : S32)] : List (S32))) (([(⟨bt339.1, bt339.2.1, bt339.2.2⟩ : S32)] : List (S32)))).bind fun t347 => (if t347 = true then ((modal_Apply.f k a1_0 a1_1 a1_2 a1_3 a1_4 a1_5 a1_6 a1_7 bt330.1 bt330.2.1 bt330.2.2).bind fun bt348 => ((swarfref42_Regular.f k a0_0 a0_1 a0_2 a0_3 a0_4 a0_5 a0_6 a0_7).bind fun t358 => (if t358 = true then (if bt348.2.2.2.2.2.2.2.2 = 0 then (some (bt348.1 == a0_0 && (bt348.2.1 == a0_1 && (bt348.2.2.1 == a0_2 && (bt348.2.2.2.1 == a0_3 && (bt348.2.2.2.2.1 == a0_4 && (bt348.2.2.2.2.2.1 == a0_5 && (bt348.2.2.2.2.2.2.1 == a0_6 && (bt348.2.2.2.2.2.2.2.1 == a0_7))))))))) else (none)) else (some true)))) else (none))))) = some r := by rw [if_pos rfl] at H; exact H
  clear H
  have H := H1
  clear H1
  replace H := Option.bind_eq_some_iff.mp H
  obtain ⟨⟨t330, t331, t334⟩, A50, H⟩ := H
  replace H : ((swarfref42_Line.f a0_0 a0_1 a0_2 a0_3 a0_4 a0_5 a0_6 a0_7).bind fun bt339 => ((swarfref41_Same.f k (([(⟨t330, t331, t334⟩ : S32)] : List (S32))) (([(⟨bt339.1, bt339.2.1, bt339.2.2⟩ : S32)] : List (S32)))).bind fun t347 => (if t347 = true then ((modal_Apply.f k a1_0 a1_1 a1_2 a1_3 a1_4 a1_5 a1_6 a1_7 t330 t331 t334).bind fun bt348 => ((swarfref42_Regular.f k a0_0 a0_1 a0_2 a0_3 a0_4 a0_5 a0_6 a0_7).bind fun t358 => (if t358 = true then (if bt348.2.2.2.2.2.2.2.2 = 0 then (some (bt348.1 == a0_0 && (bt348.2.1 == a0_1 && (bt348.2.2.1 == a0_2 && (bt348.2.2.2.1 == a0_3 && (bt348.2.2.2.2.1 == a0_4 && (bt348.2.2.2.2.2.1 == a0_5 && (bt348.2.2.2.2.2.2.1 == a0_6 && (bt348.2.2.2.2.2.2.2.1 == a0_7))))))))) else (none)) else (some true)))) else (none)))) = some r := H
  have A5 := Aside0.mk A50
  clear A50
  obtain ⟨y336, hy336⟩ : ∃ y_ : List (S32), y_ = (([(⟨t330, t331, t334⟩ : S32)] : List (S32))) := ⟨_, rfl⟩
  replace H : ((swarfref42_Line.f a0_0 a0_1 a0_2 a0_3 a0_4 a0_5 a0_6 a0_7).bind fun bt339 => ((swarfref41_Same.f k y336 (([(⟨bt339.1, bt339.2.1, bt339.2.2⟩ : S32)] : List (S32)))).bind fun t347 => (if t347 = true then ((modal_Apply.f k a1_0 a1_1 a1_2 a1_3 a1_4 a1_5 a1_6 a1_7 t330 t331 t334).bind fun bt348 => ((swarfref42_Regular.f k a0_0 a0_1 a0_2 a0_3 a0_4 a0_5 a0_6 a0_7).bind fun t358 => (if t358 = true then (if bt348.2.2.2.2.2.2.2.2 = 0 then (some (bt348.1 == a0_0 && (bt348.2.1 == a0_1 && (bt348.2.2.1 == a0_2 && (bt348.2.2.2.1 == a0_3 && (bt348.2.2.2.2.1 == a0_4 && (bt348.2.2.2.2.2.1 == a0_5 && (bt348.2.2.2.2.2.2.1 == a0_6 && (bt348.2.2.2.2.2.2.2.1 == a0_7))))))))) else (none)) else (some true)))) else (none)))) = some r := by first | (rw [hy336]; with_reducible exact H) | (have H2_ := (Option.bind_some _ _).symm.trans H; rw [hy336]; with_reducible exact H2_) | (have H2_ := (Option.bind_some _ _).symm.trans H; with_reducible exact H2_) | with_reducible exact H | (rw [hy336]; exact H) | exact H
  have Ny336 := Aside0.mk hy336
  clear hy336
  replace H := Option.bind_eq_some_iff.mp H
  obtain ⟨⟨t339, t340, t343⟩, A60, H⟩ := H
  replace H : ((swarfref41_Same.f k y336 (([(⟨t339, t340, t343⟩ : S32)] : List (S32)))).bind fun t347 => (if t347 = true then ((modal_Apply.f k a1_0 a1_1 a1_2 a1_3 a1_4 a1_5 a1_6 a1_7 t330 t331 t334).bind fun bt348 => ((swarfref42_Regular.f k a0_0 a0_1 a0_2 a0_3 a0_4 a0_5 a0_6 a0_7).bind fun t358 => (if t358 = true then (if bt348.2.2.2.2.2.2.2.2 = 0 then (some (bt348.1 == a0_0 && (bt348.2.1 == a0_1 && (bt348.2.2.1 == a0_2 && (bt348.2.2.2.1 == a0_3 && (bt348.2.2.2.2.1 == a0_4 && (bt348.2.2.2.2.2.1 == a0_5 && (bt348.2.2.2.2.2.2.1 == a0_6 && (bt348.2.2.2.2.2.2.2.1 == a0_7))))))))) else (none)) else (some true)))) else (none))) = some r := H
  have A6 := Aside0.mk A60
  clear A60
  obtain ⟨y344, hy344⟩ : ∃ y_ : List (S32), y_ = (([(⟨t339, t340, t343⟩ : S32)] : List (S32))) := ⟨_, rfl⟩
  replace H : ((swarfref41_Same.f k y336 y344).bind fun t347 => (if t347 = true then ((modal_Apply.f k a1_0 a1_1 a1_2 a1_3 a1_4 a1_5 a1_6 a1_7 t330 t331 t334).bind fun bt348 => ((swarfref42_Regular.f k a0_0 a0_1 a0_2 a0_3 a0_4 a0_5 a0_6 a0_7).bind fun t358 => (if t358 = true then (if bt348.2.2.2.2.2.2.2.2 = 0 then (some (bt348.1 == a0_0 && (bt348.2.1 == a0_1 && (bt348.2.2.1 == a0_2 && (bt348.2.2.2.1 == a0_3 && (bt348.2.2.2.2.1 == a0_4 && (bt348.2.2.2.2.2.1 == a0_5 && (bt348.2.2.2.2.2.2.1 == a0_6 && (bt348.2.2.2.2.2.2.2.1 == a0_7))))))))) else (none)) else (some true)))) else (none))) = some r := by first | (rw [hy344]; with_reducible exact H) | (have H2_ := (Option.bind_some _ _).symm.trans H; rw [hy344]; with_reducible exact H2_) | (have H2_ := (Option.bind_some _ _).symm.trans H; with_reducible exact H2_) | with_reducible exact H | (rw [hy344]; exact H) | exact H
  have Ny344 := Aside0.mk hy344
  clear hy344
  replace H := Option.bind_eq_some_iff.mp H
  obtain ⟨t347, A70, H⟩ := H
  replace H : (if t347 = true then ((modal_Apply.f k a1_0 a1_1 a1_2 a1_3 a1_4 a1_5 a1_6 a1_7 t330 t331 t334).bind fun bt348 => ((swarfref42_Regular.f k a0_0 a0_1 a0_2 a0_3 a0_4 a0_5 a0_6 a0_7).bind fun t358 => (if t358 = true then (if bt348.2.2.2.2.2.2.2.2 = 0 then (some (bt348.1 == a0_0 && (bt348.2.1 == a0_1 && (bt348.2.2.1 == a0_2 && (bt348.2.2.2.1 == a0_3 && (bt348.2.2.2.2.1 == a0_4 && (bt348.2.2.2.2.2.1 == a0_5 && (bt348.2.2.2.2.2.2.1 == a0_6 && (bt348.2.2.2.2.2.2.2.1 == a0_7))))))))) else (none)) else (some true)))) else (none)) = some r := H
  have A7 := Aside0.mk A70
  clear A70
  by_cases c8 : t347 = true
  ·subst c8
   have H1 : ((modal_Apply.f k a1_0 a1_1 a1_2 a1_3 a1_4 a1_5 a1_6 a1_7 t330 t331 t334).bind fun bt348 => ((swarfref42_Regular.f k a0_0 a0_1 a0_2 a0_3 a0_4 a0_5 a0_6 a0_7).bind fun t358 => (if t358 = true then (if bt348.2.2.2.2.2.2.2.2 = 0 then (some (bt348.1 == a0_0 && (bt348.2.1 == a0_1 && (bt348.2.2.1 == a0_2 && (bt348.2.2.2.1 == a0_3 && (bt348.2.2.2.2.1 == a0_4 && (bt348.2.2.2.2.2.1 == a0_5 && (bt348.2.2.2.2.2.2.1 == a0_6 && (bt348.2.2.2.2.2.2.2.1 == a0_7))))))))) else (none)) else (some true)))) = some r := by rw [if_pos rfl] at H; exact H
   clear H
   have H := H1
   clear H1
   replace H := Option.bind_eq_some_iff.mp H
   obtain ⟨⟨t348, t349, t350, t351, t352, t353, t354, t355, t356⟩, A90, H⟩ := H
   replace H : ((swarfref42_Regular.f k a0_0 a0_1 a0_2 a0_3 a0_4 a0_5 a0_6 a0_7).bind fun t358 => (if t358 = true then (if t356 = 0 then (some (t348 == a0_0 && (t349 == a0_1 && (t350 == a0_2 && (t351 == a0_3 && (t352 == a0_4 && (t353 == a0_5 && (t354 == a0_6 && (t355 == a0_7))))))))) else (none)) else (some true))) = some r := H
   have A9 := Aside0.mk A90
   clear A90
   replace H := Option.bind_eq_some_iff.mp H
   obtain ⟨t358, A100, H⟩ := H
   replace H : (if t358 = true then (if t356 = 0 then (some (t348 == a0_0 && (t349 == a0_1 && (t350 == a0_2 && (t351 == a0_3 && (t352 == a0_4 && (t353 == a0_5 && (t354 == a0_6 && (t355 == a0_7))))))))) else (none)) else (some true)) = some r := H
   have A10 := Aside0.mk A100
   clear A100
   by_cases c11 : t358 = true
   ·subst c11
    have H1 : (if t356 = 0 then (some (t348 == a0_0 && (t349 == a0_1 && (t350 == a0_2 && (t351 == a0_3 && (t352 == a0_4 && (t353 == a0_5 && (t354 == a0_6 && (t355 == a0_7))))))))) else (none)) = some r := by rw [if_pos rfl] at H; exact H
    clear H
    have H := H1
    clear H1
    by_cases c12 : t356 = 0
    ·rw [if_pos c12] at H
     have c12b0 : (t356 == 0) = true := beq_iff_eq.mpr c12
     have c12b1 : (t356 != 0) = false := bne_eq_false_iff_eq.mpr c12
     clear c12
     obtain rfl := Option.some.inj H
     go_enter Try.func4, Try.ntmps4
     try go_wp2_with (first | ((with_reducible refine gate_dst (N := 2) rfl ?_); refine box_event ?hg (N := 2) ?hd (cs := #[.int .i64 a0_0, .int .i64 a0_1, .int .i64 a0_2, .int .i64 a0_3, .int .i64 a0_4, .int .i64 a0_5, .int .i64 a0_6, .int .i64 a0_7]) (t := 25) ?hr ?_; (case hd => rfl); (case hg => rfl); (case hr => first | (go_simp; done) | (go_simp; rfl)); intro gb327 hg w13 hbox hb; have n0_ := Aside0.mk (below_step (by repeat (first | (with_reducible first | exact HB.out | apply below_alloc | apply pw_below_drewN | apply below_drew1) | exact HB.out)) hb); have n1_ := Aside0.mk (hbox); have n2_ := Aside0.mk ((by rw [hg]; exact (below_size (by repeat (first | (with_reducible first | exact HB.out | apply below_alloc | apply pw_below_drewN | apply below_drew1) | exact HB.out))) : w.heap.size ≤ gb327)); have n3_ := Aside0.mk ((by rw [hg]; exact (below_size (by repeat (first | (with_reducible first | exact HB.out | apply below_alloc | apply pw_below_drewN | apply below_drew1) | exact HB.out))) : w.heap.size ≤ gb327)); clear HB; have HB := n0_; have BK327 := n1_; have GW327 := n2_; have GE327 := n3_; clear n0_ n1_ n2_ n3_; clear hb hbox hg) | ((with_reducible refine gate_dst (N := 3) rfl ?_); refine box_event ?hg (N := 3) ?hd (cs := #[.int .i64 a1_0, .int .i64 a1_1, .int .i64 a1_2, .int .i64 a1_3, .int .i64 a1_4, .int .i64 a1_5, .int .i64 a1_6, .int .i64 a1_7]) (t := 25) ?hr ?_; (case hd => rfl); (case hg => rfl); (case hr => first | (go_simp; done) | (go_simp; rfl)); intro gb328 hg w14 hbox hb; have n0_ := Aside0.mk (blk_below (g := gb327) (o := .cells #[.int .i64 a0_0, .int .i64 a0_1, .int .i64 a0_2, .int .i64 a0_3, .int .i64 a0_4, .int .i64 a0_5, .int .i64 a0_6, .int .i64 a0_7] 25 (0, 0)) (by (with_reducible repeat (first | refine blk_drewN ?_ _ | refine blk_drew ?_ | refine blk_alloc ?_ _)); exact BK327.out) hb); have n1_ := Aside0.mk (below_step (by repeat (first | (with_reducible first | exact HB.out | apply below_alloc | apply pw_below_drewN | apply below_drew1 | refine below_set ?_ GE327.out) | exact HB.out)) hb); have n2_ := Aside0.mk (hbox); have n3_ := Aside0.mk ((by rw [hg]; exact (below_size (by repeat (first | (with_reducible first | exact HB.out | apply below_alloc | apply pw_below_drewN | apply below_drew1 | refine below_set ?_ GE327.out) | exact HB.out))) : w.heap.size ≤ gb328)); have n4_ := Aside0.mk ((by rw [hg]; exact (below_size (by repeat (first | (with_reducible first | exact HB.out | apply below_alloc | apply pw_below_drewN | apply below_drew1 | refine below_set ?_ GE327.out) | exact HB.out))) : w.heap.size ≤ gb328)); have n5_ := Aside0.mk ((by rw [hg]; exact Nat.ne_of_lt (blk_lt (g := gb327) (o := .cells #[.int .i64 a0_0, .int .i64 a0_1, .int .i64 a0_2, .int .i64 a0_3, .int .i64 a0_4, .int .i64 a0_5, .int .i64 a0_6, .int .i64 a0_7] 25 (0, 0)) (by (with_reducible repeat (first | refine blk_drewN ?_ _ | refine blk_drew ?_ | refine blk_alloc ?_ _)); exact BK327.out)) : gb327 ≠ gb328)); have n6_ := Aside0.mk ((by rw [hg]; exact Nat.ne_of_gt (blk_lt (g := gb327) (o := .cells #[.int .i64 a0_0, .int .i64 a0_1, .int .i64 a0_2, .int .i64 a0_3, .int .i64 a0_4, .int .i64 a0_5, .int .i64 a0_6, .int .i64 a0_7] 25 (0, 0)) (by (with_reducible repeat (first | refine blk_drewN ?_ _ | refine blk_drew ?_ | refine blk_alloc ?_ _)); exact BK327.out)) : gb328 ≠ gb327)); clear BK327; clear HB; have BK327 := n0_; have HB := n1_; have BK328 := n2_; have GW328 := n3_; have GE328 := n4_; have NB327_328 := n5_; have NB328_327 := n6_; clear n0_ n1_ n2_ n3_ n4_ n5_ n6_; clear hb hbox hg) | ((with_reducible refine gate_callee (f := 13) rfl ?_); refine goesL_ (some 8) rfl rfl Try.func13 (by kernel_rfl) rfl #[] rfl (by (try simp only [List.map_toArray, List.map_cons, List.map_nil]); first | done | rfl | (simp only [List.length_drop, List.length_take]; rfl)) ?_; (with_reducible refine (swarflaw42_awake.calls k  true _ A3.out).mono ?_); rintro e w15 ⟨rfl, hb⟩; refine ⟨_, rfl, ?_⟩; have n0_ := Aside0.mk (blk_below (g := gb327) (o := .cells #[.int .i64 a0_0, .int .i64 a0_1, .int .i64 a0_2, .int .i64 a0_3, .int .i64 a0_4, .int .i64 a0_5, .int .i64 a0_6, .int .i64 a0_7] 25 (0, 0)) (by (with_reducible repeat (first | refine blk_drewN ?_ _ | refine blk_drew ?_ | refine blk_alloc ?_ _)); exact BK327.out) hb); have n1_ := Aside0.mk (blk_below (g := gb328) (o := .cells #[.int .i64 a1_0, .int .i64 a1_1, .int .i64 a1_2, .int .i64 a1_3, .int .i64 a1_4, .int .i64 a1_5, .int .i64 a1_6, .int .i64 a1_7] 25 (0, 0)) (by (with_reducible repeat (first | refine blk_drewN ?_ _ | refine blk_drew ?_ | refine blk_alloc ?_ _)); exact BK328.out) hb); have n2_ := Aside0.mk (below_step (by repeat (first | (with_reducible first | exact HB.out | apply below_alloc | apply pw_below_drewN | apply below_drew1 | refine below_set ?_ GE327.out | refine below_set ?_ GE328.out) | exact HB.out)) hb); clear BK327; clear BK328; clear HB; have BK327 := n0_; have BK328 := n1_; have HB := n2_; clear n0_ n1_ n2_; (try clear hb); (try clear hb2); (try clear hk); (try clear hi); have hnb16 := NB327_328.out; have hnc16 := NB328_327.out; have hcz17_0 : w15.cell? ⟨gb327, 0, none⟩ = some (.int .i64 a0_0) := (blk_cell BK327.out 0).trans rfl; have hcz17_1 : w15.cell? ⟨gb327, 1, none⟩ = some (.int .i64 a0_1) := (blk_cell BK327.out 1).trans rfl; have hcz17_2 : w15.cell? ⟨gb327, 2, none⟩ = some (.int .i64 a0_2) := (blk_cell BK327.out 2).trans rfl; have hcz17_3 : w15.cell? ⟨gb327, 3, none⟩ = some (.int .i64 a0_3) := (blk_cell BK327.out 3).trans rfl; have hcz17_4 : w15.cell? ⟨gb327, 4, none⟩ = some (.int .i64 a0_4) := (blk_cell BK327.out 4).trans rfl; have hcz17_5 : w15.cell? ⟨gb327, 5, none⟩ = some (.int .i64 a0_5) := (blk_cell BK327.out 5).trans rfl; have hcz17_6 : w15.cell? ⟨gb327, 6, none⟩ = some (.int .i64 a0_6) := (blk_cell BK327.out 6).trans rfl; have hcz17_7 : w15.cell? ⟨gb327, 7, none⟩ = some (.int .i64 a0_7) := (blk_cell BK327.out 7).trans rfl; have hfz17_0 := blk_frozen BK327.out 0; have hfz17_1 := blk_frozen BK327.out 1; have hfz17_2 := blk_frozen BK327.out 2; have hfz17_3 := blk_frozen BK327.out 3; have hfz17_4 := blk_frozen BK327.out 4; have hfz17_5 := blk_frozen BK327.out 5; have hfz17_6 := blk_frozen BK327.out 6; have hfz17_7 := blk_frozen BK327.out 7) | ((with_reducible refine gate_callee (f := 18) rfl ?_); refine goesL_ (some 11) rfl rfl Try.func18 (by kernel_rfl) rfl #[.agg #[.int .i64 a0_0, .int .i64 a0_1, .int .i64 a0_2, .int .i64 a0_3, .int .i64 a0_4, .int .i64 a0_5, .int .i64 a0_6, .int .i64 a0_7]] rfl (by (try simp only [List.map_toArray, List.map_cons, List.map_nil]); first | done | rfl | (simp only [List.length_drop, List.length_take]; rfl)) ?_; (with_reducible refine (modal_Line.calls k a0_0 a0_1 a0_2 a0_3 a0_4 a0_5 a0_6 a0_7 t330 t331 t334 _ A5.out).mono ?_); rintro e w18 ⟨v332, rfl, ho0, hb⟩; refine ⟨_, rfl, ?_⟩; have n0_ := Aside0.mk (Kd.R_lower ho0 (below_size (by repeat (first | (with_reducible first | exact HB.out | apply below_alloc | apply pw_below_drewN | apply below_drew1 | refine below_set ?_ GE327.out | refine below_set ?_ GE328.out) | exact HB.out)))); have n1_ := Aside0.mk (blk_below (g := gb327) (o := .cells #[.int .i64 a0_0, .int .i64 a0_1, .int .i64 a0_2, .int .i64 a0_3, .int .i64 a0_4, .int .i64 a0_5, .int .i64 a0_6, .int .i64 a0_7] 25 (0, 0)) (by (with_reducible repeat (first | refine blk_drewN ?_ _ | refine blk_drew ?_ | refine blk_alloc ?_ _)); exact BK327.out) hb); have n2_ := Aside0.mk (blk_below (g := gb328) (o := .cells #[.int .i64 a1_0, .int .i64 a1_1, .int .i64 a1_2, .int .i64 a1_3, .int .i64 a1_4, .int .i64 a1_5, .int .i64 a1_6, .int .i64 a1_7] 25 (0, 0)) (by (with_reducible repeat (first | refine blk_drewN ?_ _ | refine blk_drew ?_ | refine blk_alloc ?_ _)); exact BK328.out) hb); have n3_ := Aside0.mk (below_step (by repeat (first | (with_reducible first | exact HB.out | apply below_alloc | apply pw_below_drewN | apply below_drew1 | refine below_set ?_ GE327.out | refine below_set ?_ GE328.out) | exact HB.out)) hb); clear BK327; clear BK328; clear HB; have HO333 := n0_; have BK327 := n1_; have BK328 := n2_; have HB := n3_; clear n0_ n1_ n2_ n3_; (try clear hb); (try clear hb2); (try clear hk); (try clear hi); (try clear ho0)) | ((with_reducible refine gate_dst (N := 5) rfl ?_); refine box_event ?hg (N := 5) ?hd (cs := #[.bool false, .slice none 0 0, .string (⟨#[]⟩ : ByteArray)]) (t := 32) ?hr ?_; (case hd => rfl); (case hg => rfl); (case hr => first | (go_simp; done) | (go_simp; rfl)); intro gb335 hg w19 hbox hb; have n0_ := Aside0.mk (Kd.R_below (by (with_reducible repeat (first | apply Kd.R_alloc | apply Kd.R_drewN | apply Kd.R_drew)); exact HO333.out) hb); have n1_ := Aside0.mk (blk_below (g := gb327) (o := .cells #[.int .i64 a0_0, .int .i64 a0_1, .int .i64 a0_2, .int .i64 a0_3, .int .i64 a0_4, .int .i64 a0_5, .int .i64 a0_6, .int .i64 a0_7] 25 (0, 0)) (by (with_reducible repeat (first | refine blk_drewN ?_ _ | refine blk_drew ?_ | refine blk_alloc ?_ _)); exact BK327.out) hb); have n2_ := Aside0.mk (blk_below (g := gb328) (o := .cells #[.int .i64 a1_0, .int .i64 a1_1, .int .i64 a1_2, .int .i64 a1_3, .int .i64 a1_4, .int .i64 a1_5, .int .i64 a1_6, .int .i64 a1_7] 25 (0, 0)) (by (with_reducible repeat (first | refine blk_drewN ?_ _ | refine blk_drew ?_ | refine blk_alloc ?_ _)); exact BK328.out) hb); have n3_ := Aside0.mk (below_step (by repeat (first | (with_reducible first | exact HB.out | apply below_alloc | apply pw_below_drewN | apply below_drew1 | refine below_set ?_ GE327.out | refine below_set ?_ GE328.out) | exact HB.out)) hb); have n4_ := Aside0.mk (hbox); have n5_ := Aside0.mk ((by rw [hg]; exact (below_size (by repeat (first | (with_reducible first | exact HB.out | apply below_alloc | apply pw_below_drewN | apply below_drew1 | refine below_set ?_ GE327.out | refine below_set ?_ GE328.out) | exact HB.out))) : w.heap.size ≤ gb335)); have n6_ := Aside0.mk ((by rw [hg]; exact (below_size (by repeat (first | (with_reducible first | exact HB.out | apply below_alloc | apply pw_below_drewN | apply below_drew1 | refine below_set ?_ GE327.out | refine below_set ?_ GE328.out) | exact HB.out))) : w.heap.size ≤ gb335)); have n7_ := Aside0.mk ((by rw [hg]; exact Nat.ne_of_lt (blk_lt (g := gb327) (o := .cells #[.int .i64 a0_0, .int .i64 a0_1, .int .i64 a0_2, .int .i64 a0_3, .int .i64 a0_4, .int .i64 a0_5, .int .i64 a0_6, .int .i64 a0_7] 25 (0, 0)) (by (with_reducible repeat (first | refine blk_drewN ?_ _ | refine blk_drew ?_ | refine blk_alloc ?_ _)); exact BK327.out)) : gb327 ≠ gb335)); have n8_ := Aside0.mk ((by rw [hg]; exact Nat.ne_of_gt (blk_lt (g := gb327) (o := .cells #[.int .i64 a0_0, .int .i64 a0_1, .int .i64 a0_2, .int .i64 a0_3, .int .i64 a0_4, .int .i64 a0_5, .int .i64 a0_6, .int .i64 a0_7] 25 (0, 0)) (by (with_reducible repeat (first | refine blk_drewN ?_ _ | refine blk_drew ?_ | refine blk_alloc ?_ _)); exact BK327.out)) : gb335 ≠ gb327)); have n9_ := Aside0.mk ((by rw [hg]; exact Nat.ne_of_lt (blk_lt (g := gb328) (o := .cells #[.int .i64 a1_0, .int .i64 a1_1, .int .i64 a1_2, .int .i64 a1_3, .int .i64 a1_4, .int .i64 a1_5, .int .i64 a1_6, .int .i64 a1_7] 25 (0, 0)) (by (with_reducible repeat (first | refine blk_drewN ?_ _ | refine blk_drew ?_ | refine blk_alloc ?_ _)); exact BK328.out)) : gb328 ≠ gb335)); have n10_ := Aside0.mk ((by rw [hg]; exact Nat.ne_of_gt (blk_lt (g := gb328) (o := .cells #[.int .i64 a1_0, .int .i64 a1_1, .int .i64 a1_2, .int .i64 a1_3, .int .i64 a1_4, .int .i64 a1_5, .int .i64 a1_6, .int .i64 a1_7] 25 (0, 0)) (by (with_reducible repeat (first | refine blk_drewN ?_ _ | refine blk_drew ?_ | refine blk_alloc ?_ _)); exact BK328.out)) : gb335 ≠ gb328)); clear HO333; clear BK327; clear BK328; clear HB; have HO333 := n0_; have BK327 := n1_; have BK328 := n2_; have HB := n3_; have BK335 := n4_; have GW335 := n5_; have GE335 := n6_; have NB327_335 := n7_; have NB335_327 := n8_; have NB328_335 := n9_; have NB335_328 := n10_; clear n0_ n1_ n2_ n3_ n4_ n5_ n6_ n7_ n8_ n9_ n10_; clear hb hbox hg; have hnb20 := NB335_327.out; have hnc20 := NB327_335.out; have hnb21 := NB335_328.out; have hnc21 := NB328_335.out; have hcz22_0 : w19.cell? ⟨gb335, 0, none⟩ = some (.bool false) := (blk_cell BK335.out 0).trans rfl; have hcz22_1 : w19.cell? ⟨gb335, 1, none⟩ = some (.slice none 0 0) := (blk_cell BK335.out 1).trans rfl; have hcz22_2 : w19.cell? ⟨gb335, 2, none⟩ = some (.string (⟨#[]⟩ : ByteArray)) := (blk_cell BK335.out 2).trans rfl; have hfz22_0 := blk_frozen BK335.out 0; have hfz22_1 := blk_frozen BK335.out 1; have hfz22_2 := blk_frozen BK335.out 2; obtain ⟨Ao23, co23, eo23⟩ := Kd.R_slice HO333.out; subst eo23))
     have n0_ : Aside0 (Kd.R k78 78 (((w19.setCell ⟨gb335, 0, none⟩ (.bool t330)).setCell ⟨gb335, 1, none⟩ (.slice Ao23 t331.length co23)).setCell ⟨gb335, 2, none⟩ (.string t334)) w.heap.size (fun _ => True) (.slice Ao23 t331.length co23) t331) := ⟨by (with_reducible repeat (first | apply Kd.R_alloc | apply Kd.R_drewN | apply Kd.R_drew)); exact Kd.R_mono (Kd.R_far (p := ⟨gb335, 2, none⟩) (Kd.R_far (p := ⟨gb335, 1, none⟩) (Kd.R_far (p := ⟨gb335, 0, none⟩) (Kd.R_types HO333.out BK335.out (by decide)) (fun _ hk => hk.2) (.bool t330)) (fun _ hk => hk.2) (.slice Ao23 t331.length co23)) (fun _ hk => hk.2) (.string t334)) (fun _ hk => trivial)⟩
     have n1_ : Aside0 ((((w19.setCell ⟨gb335, 0, none⟩ (.bool t330)).setCell ⟨gb335, 1, none⟩ (.slice Ao23 t331.length co23)).setCell ⟨gb335, 2, none⟩ (.string t334)).heap[gb327]? = some (.cells #[.int .i64 a0_0, .int .i64 a0_1, .int .i64 a0_2, .int .i64 a0_3, .int .i64 a0_4, .int .i64 a0_5, .int .i64 a0_6, .int .i64 a0_7] 25 (0, 0))) := ⟨by (with_reducible repeat (first | refine blk_drewN ?_ _ | refine blk_drew ?_ | refine blk_alloc ?_ _)); refine blk_far ?_ NB327_335.out _; (with_reducible repeat (first | refine blk_drewN ?_ _ | refine blk_drew ?_ | refine blk_alloc ?_ _)); refine blk_far ?_ NB327_335.out _; (with_reducible repeat (first | refine blk_drewN ?_ _ | refine blk_drew ?_ | refine blk_alloc ?_ _)); refine blk_far ?_ NB327_335.out _; (with_reducible repeat (first | refine blk_drewN ?_ _ | refine blk_drew ?_ | refine blk_alloc ?_ _)); exact BK327.out⟩
     have n2_ : Aside0 ((((w19.setCell ⟨gb335, 0, none⟩ (.bool t330)).setCell ⟨gb335, 1, none⟩ (.slice Ao23 t331.length co23)).setCell ⟨gb335, 2, none⟩ (.string t334)).heap[gb328]? = some (.cells #[.int .i64 a1_0, .int .i64 a1_1, .int .i64 a1_2, .int .i64 a1_3, .int .i64 a1_4, .int .i64 a1_5, .int .i64 a1_6, .int .i64 a1_7] 25 (0, 0))) := ⟨by (with_reducible repeat (first | refine blk_drewN ?_ _ | refine blk_drew ?_ | refine blk_alloc ?_ _)); refine blk_far ?_ NB328_335.out _; (with_reducible repeat (first | refine blk_drewN ?_ _ | refine blk_drew ?_ | refine blk_alloc ?_ _)); refine blk_far ?_ NB328_335.out _; (with_reducible repeat (first | refine blk_drewN ?_ _ | refine blk_drew ?_ | refine blk_alloc ?_ _)); refine blk_far ?_ NB328_335.out _; (with_reducible repeat (first | refine blk_drewN ?_ _ | refine blk_drew ?_ | refine blk_alloc ?_ _)); exact BK328.out⟩
     have n3_ : Aside0 ((((w19.setCell ⟨gb335, 0, none⟩ (.bool t330)).setCell ⟨gb335, 1, none⟩ (.slice Ao23 t331.length co23)).setCell ⟨gb335, 2, none⟩ (.string t334)).heap[gb335]? = some (.cells #[.bool t330, .slice Ao23 t331.length co23, .string t334] 32 (0, 0))) := ⟨by (with_reducible repeat (first | refine blk_drewN ?_ _ | refine blk_drew ?_ | refine blk_alloc ?_ _)); refine blk_put (cs := #[.bool t330, .slice Ao23 t331.length co23, .string (⟨#[]⟩ : ByteArray)]) ?_ 2 _ rfl; (with_reducible repeat (first | refine blk_drewN ?_ _ | refine blk_drew ?_ | refine blk_alloc ?_ _)); refine blk_put (cs := #[.bool t330, .slice none 0 0, .string (⟨#[]⟩ : ByteArray)]) ?_ 1 _ rfl; (with_reducible repeat (first | refine blk_drewN ?_ _ | refine blk_drew ?_ | refine blk_alloc ?_ _)); refine blk_put (cs := #[.bool false, .slice none 0 0, .string (⟨#[]⟩ : ByteArray)]) ?_ 0 _ rfl; (with_reducible repeat (first | refine blk_drewN ?_ _ | refine blk_drew ?_ | refine blk_alloc ?_ _)); exact BK335.out⟩
     have n4_ : Aside0 (Below w.heap.size w (((w19.setCell ⟨gb335, 0, none⟩ (.bool t330)).setCell ⟨gb335, 1, none⟩ (.slice Ao23 t331.length co23)).setCell ⟨gb335, 2, none⟩ (.string t334))) := ⟨by repeat (first | (with_reducible first | exact HB.out | apply below_alloc | apply pw_below_drewN | apply below_drew1 | refine below_set ?_ GE327.out | refine below_set ?_ GE328.out | refine below_set ?_ GE335.out) | exact HB.out)⟩
     (try clear HO333)
     (try clear BK327)
     (try clear BK328)
     (try clear BK335)
     (try clear HB)
     generalize (((w19.setCell ⟨gb335, 0, none⟩ (.bool t330)).setCell ⟨gb335, 1, none⟩ (.slice Ao23 t331.length co23)).setCell ⟨gb335, 2, none⟩ (.string t334)) = w24 at n0_ n1_ n2_ n3_ n4_ ⊢
     have HO333 := n0_
     have BK327 := n1_
     have BK328 := n2_
     have BK335 := n3_
     have HB := n4_
     clear n0_ n1_ n2_ n3_ n4_
     have n0_ := Aside0.mk (Kd.R_drew HO333.out)
     have n1_ := Aside0.mk (blk_drew BK327.out)
     have n2_ := Aside0.mk (blk_drew BK328.out)
     have n3_ := Aside0.mk (blk_drew BK335.out)
     have n4_ := Aside0.mk (below_drew1 HB.out)
     clear HO333
     clear BK327
     clear BK328
     clear BK335
     clear HB
     have HO333 := n0_
     have BK327 := n1_
     have BK328 := n2_
     have BK335 := n3_
     have HB := n4_
     clear n0_ n1_ n2_ n3_ n4_
     refine start_ (n := 7) (S := fun w' => w'.cell? ⟨gb335, 0, none⟩ = some (.bool t330) ∧ w'.cell? ⟨gb335, 1, none⟩ = some (.slice Ao23 t331.length co23) ∧ w'.cell? ⟨gb335, 2, none⟩ = some (.string t334) ∧ w'.cell? ⟨gb327, 0, none⟩ = some (.int .i64 a0_0) ∧ w'.cell? ⟨gb327, 1, none⟩ = some (.int .i64 a0_1) ∧ w'.cell? ⟨gb327, 2, none⟩ = some (.int .i64 a0_2) ∧ w'.cell? ⟨gb327, 3, none⟩ = some (.int .i64 a0_3) ∧ w'.cell? ⟨gb327, 4, none⟩ = some (.int .i64 a0_4) ∧ w'.cell? ⟨gb327, 5, none⟩ = some (.int .i64 a0_5) ∧ w'.cell? ⟨gb327, 6, none⟩ = some (.int .i64 a0_6) ∧ w'.cell? ⟨gb327, 7, none⟩ = some (.int .i64 a0_7)) (ds := []) #[false, false, false, false, false, false, false] (by kernel_rfl) rfl rfl ⟨(blk_cell BK335.out 0).trans rfl, (blk_cell BK335.out 1).trans rfl, (blk_cell BK335.out 2).trans rfl, (blk_cell BK327.out 0).trans rfl, (blk_cell BK327.out 1).trans rfl, (blk_cell BK327.out 2).trans rfl, (blk_cell BK327.out 3).trans rfl, (blk_cell BK327.out 4).trans rfl, (blk_cell BK327.out 5).trans rfl, (blk_cell BK327.out 6).trans rfl, (blk_cell BK327.out 7).trans rfl⟩ (fun hHeld => ?_)
     generalize w24.drew = w25 at HO333 BK327 BK328 BK335 HB hHeld ⊢
     have HCX := Aside0.mk (Kd.R_reads' HO333.out).2.2
     have HCL := Aside0.mk (Kd.R_reads' HO333.out).2.1
     refine take_ (i := 0) (N := some 12) (v := ?_) (a' := ?_) #[true, false, false, false, false, false, false] rfl rfl (by kernel_rfl) (fun _ _ _ h => h) (Or.inl ⟨by rfl, ?_⟩) hHeld ?_ ?_
     rotate_left
     ·rintro w' ⟨s0, s1, s2, s3, s4, s5, s6, s7, s8, s9, s10⟩
      go_simp
      with_reducible rfl
     rotate_left
     ·simp only [Act.put, List.setIfInBounds_toArray, List.set_cons_zero, List.set_cons_succ, i64_w, i32_w]
      rfl
     refine take_ (i := 2) (N := some 14) (v := ?_) (a' := ?_) #[true, false, true, false, false, false, false] rfl rfl (by kernel_rfl) (fun _ _ _ h => h) (Or.inl ⟨by rfl, ?_⟩) hHeld ?_ ?_
     rotate_left
     ·rintro w' ⟨s0, s1, s2, s3, s4, s5, s6, s7, s8, s9, s10⟩
      go_simp
      with_reducible rfl
     rotate_left
     ·simp only [Act.put, List.setIfInBounds_toArray, List.set_cons_zero, List.set_cons_succ, i64_w, i32_w]
      rfl
     refine join_ (σ := Value × Value × Value) 2 #[true, true, true, true, true, false, false] (fun s_ => [(13, s_.1), (15, .agg #[.bool t339, s_.2.1, .string t343]), (16, s_.2.2)]) (fun s_ w' => (w'.cell? ⟨gb335, 0, none⟩ = some (.bool t330) ∧ w'.cell? ⟨gb335, 1, none⟩ = some (.slice Ao23 t331.length co23) ∧ w'.cell? ⟨gb335, 2, none⟩ = some (.string t334) ∧ w'.cell? ⟨gb327, 0, none⟩ = some (.int .i64 a0_0) ∧ w'.cell? ⟨gb327, 1, none⟩ = some (.int .i64 a0_1) ∧ w'.cell? ⟨gb327, 2, none⟩ = some (.int .i64 a0_2) ∧ w'.cell? ⟨gb327, 3, none⟩ = some (.int .i64 a0_3) ∧ w'.cell? ⟨gb327, 4, none⟩ = some (.int .i64 a0_4) ∧ w'.cell? ⟨gb327, 5, none⟩ = some (.int .i64 a0_5) ∧ w'.cell? ⟨gb327, 6, none⟩ = some (.int .i64 a0_6) ∧ w'.cell? ⟨gb327, 7, none⟩ = some (.int .i64 a0_7)) ∧ (Kd.N k32 32 w' w.heap.size (fun k_ => some k_ ≠ (s_.2.2 : Value).ownBlock ∧ k_ ≠ gb327 ∧ k_ ≠ gb328 ∧ k_ ≠ gb335) s_.1 y336) ∧ (Kd.N k32 32 w' w.heap.size (fun k_ => some k_ ≠ (s_.1 : Value).ownBlock ∧ k_ ≠ gb327 ∧ k_ ≠ gb328 ∧ k_ ≠ gb335) s_.2.2 y344) ∧ (w'.heap[gb327]? = some (.cells #[.int .i64 a0_0, .int .i64 a0_1, .int .i64 a0_2, .int .i64 a0_3, .int .i64 a0_4, .int .i64 a0_5, .int .i64 a0_6, .int .i64 a0_7] 25 (0, 0))) ∧ (w'.heap[gb328]? = some (.cells #[.int .i64 a1_0, .int .i64 a1_1, .int .i64 a1_2, .int .i64 a1_3, .int .i64 a1_4, .int .i64 a1_5, .int .i64 a1_6, .int .i64 a1_7] 25 (0, 0))) ∧ (w'.heap[gb335]? = some (.cells #[.bool t330, .slice Ao23 t331.length co23, .string t334] 32 (0, 0))) ∧ (Below w.heap.size w w') ∧ Kd.C k78 w' Ao23 t331.length t331) ?_ ?_
     rotate_left
     ·intro hCont
      refine two_ (i := 1) (j := 3) (Ni := some 13) (Nj := some 15) #[true, true, true, false, false, false, false] #[true, false, true, true, false, false, false] rfl rfl rfl rfl (by kernel_rfl) (by decide) (by decide) (fun K hK => ?_) (fun K hK => ?_)
      ·skip
       refine Kd.N_lit_step k32 _ 32 ?hg (N' := 13) ?hd (xs := ([(⟨t330, t331, t334⟩ : S32)] : List (S32))) (inner := [.bool t330, .slice Ao23 t331.length co23, .string t334]) (ok := (fun k_ => k_ ≠ gb327 ∧ k_ ≠ gb328 ∧ k_ ≠ gb335)) (okp := (fun k_ => k_ ≠ gb327 ∧ k_ ≠ gb328 ∧ k_ ≠ gb335)) ?hr ?hp (fun _ hk => hk) ((show ∀ k_, w25.heap.size ≤ k_ → (fun k_ => k_ ≠ gb327 ∧ k_ ≠ gb328 ∧ k_ ≠ gb335) k_ from fun k_ hk => ⟨Kd.freshB (g := gb327) (o := .cells #[.int .i64 a0_0, .int .i64 a0_1, .int .i64 a0_2, .int .i64 a0_3, .int .i64 a0_4, .int .i64 a0_5, .int .i64 a0_6, .int .i64 a0_7] 25 (0, 0)) (by (with_reducible repeat (first | refine blk_drewN ?_ _ | refine blk_drew ?_ | refine blk_alloc ?_ _)); exact BK327.out) k_ hk, Kd.freshB (g := gb328) (o := .cells #[.int .i64 a1_0, .int .i64 a1_1, .int .i64 a1_2, .int .i64 a1_3, .int .i64 a1_4, .int .i64 a1_5, .int .i64 a1_6, .int .i64 a1_7] 25 (0, 0)) (by (with_reducible repeat (first | refine blk_drewN ?_ _ | refine blk_drew ?_ | refine blk_alloc ?_ _)); exact BK328.out) k_ hk, Kd.freshB (g := gb335) (o := .cells #[.bool t330, .slice Ao23 t331.length co23, .string t334] 32 (0, 0)) (by (with_reducible repeat (first | refine blk_drewN ?_ _ | refine blk_drew ?_ | refine blk_alloc ?_ _)); exact BK335.out) k_ hk⟩) _ (Nat.le_refl _)) (Below.refl _ _) (Nat.le_refl _) (by simp) ?_; (case hd => rfl); (case hg => rfl); (case hr => first | (go_simp; done) | (go_simp; rfl)); (case hp => exact (Reps.c3 (show Kd.FK k32 _ _ (⟨t330, t331, t334⟩ : S32) [.bool t330, .slice Ao23 t331.length co23, .string t334] from (k32_mkF _ _ (⟨t330, t331, t334⟩ : S32) (Kd.R_reads' (Kd.R_mono (ok' := (fun k_ => k_ ≠ gb327 ∧ k_ ≠ gb328 ∧ k_ ≠ gb335)) (Kd.R_types (Kd.R_types (Kd.R_types (HO333.out) BK327.out (by decide)) BK328.out (by decide)) BK335.out (by decide)) (fun k_ hk => ⟨hk.1.1.2, ⟨hk.1.2, hk.2⟩⟩))).2.1 (Kd.R_F (Kd.R_mono (ok' := (fun k_ => k_ ≠ gb327 ∧ k_ ≠ gb328 ∧ k_ ≠ gb335)) (Kd.R_types (Kd.R_types (Kd.R_types (HO333.out) BK327.out (by decide)) BK328.out (by decide)) BK335.out (by decide)) (fun k_ hk => ⟨hk.1.1.2, ⟨hk.1.2, hk.2⟩⟩))))) (Reps.none _ _)))
       intro v337 w26 ho27 hb hg_ hnew_
       clear hg_ hnew_
       (first | rw [← Ny336.out] at ho27 | (simp only [Int.reduceToNat] at ho27; rw [← Ny336.out] at ho27))
       have n0_ := Aside0.mk (Kd.N_lower ho27 (below_size (by repeat (first | (with_reducible first | exact HB.out | apply below_alloc | apply pw_below_drewN | apply below_drew1 | refine below_set ?_ GE327.out | refine below_set ?_ GE328.out | refine below_set ?_ GE335.out) | exact HB.out))))
       have n1_ := Aside0.mk (blk_below (g := gb327) (o := .cells #[.int .i64 a0_0, .int .i64 a0_1, .int .i64 a0_2, .int .i64 a0_3, .int .i64 a0_4, .int .i64 a0_5, .int .i64 a0_6, .int .i64 a0_7] 25 (0, 0)) (by (with_reducible repeat (first | refine blk_drewN ?_ _ | refine blk_drew ?_ | refine blk_alloc ?_ _)); exact BK327.out) hb)
       have n2_ := Aside0.mk (blk_below (g := gb328) (o := .cells #[.int .i64 a1_0, .int .i64 a1_1, .int .i64 a1_2, .int .i64 a1_3, .int .i64 a1_4, .int .i64 a1_5, .int .i64 a1_6, .int .i64 a1_7] 25 (0, 0)) (by (with_reducible repeat (first | refine blk_drewN ?_ _ | refine blk_drew ?_ | refine blk_alloc ?_ _)); exact BK328.out) hb)
       have n3_ := Aside0.mk (blk_below (g := gb335) (o := .cells #[.bool t330, .slice Ao23 t331.length co23, .string t334] 32 (0, 0)) (by (with_reducible repeat (first | refine blk_drewN ?_ _ | refine blk_drew ?_ | refine blk_alloc ?_ _)); exact BK335.out) hb)
       have HCX := Aside0.mk (Kd.C_below (by repeat (first | exact HCX.out | (with_reducible refine Kd.C_alloc ?_ _) | (with_reducible refine Kd.C_drewN ?_ _) | (with_reducible refine Kd.C_drew ?_))) hb)
       have n4_ := Aside0.mk (below_step (by repeat (first | (with_reducible first | exact HB.out | apply below_alloc | apply pw_below_drewN | apply below_drew1 | refine below_set ?_ GE327.out | refine below_set ?_ GE328.out | refine below_set ?_ GE335.out) | exact HB.out)) hb)
       clear BK327
       clear BK328
       clear BK335
       clear HB
       clear HO333
       have HO338 := n0_
       have BK327 := n1_
       have BK328 := n2_
       have BK335 := n3_
       have HB := n4_
       clear n0_ n1_ n2_ n3_ n4_
       clear hb ho27
       refine hK.out _ _ ⟨(blk_cell BK335.out 0).trans rfl, (blk_cell BK335.out 1).trans rfl, (blk_cell BK335.out 2).trans rfl, (blk_cell BK327.out 0).trans rfl, (blk_cell BK327.out 1).trans rfl, (blk_cell BK327.out 2).trans rfl, (blk_cell BK327.out 3).trans rfl, (blk_cell BK327.out 4).trans rfl, (blk_cell BK327.out 5).trans rfl, (blk_cell BK327.out 6).trans rfl, (blk_cell BK327.out 7).trans rfl⟩ (fun hHeld => ?_)
       clear hK K
       refine norm_ (a' := ?_) ?_ ?_
       rotate_left
       ·show Act.put _ (some 13) _ = _
        simp only [Act.put, List.setIfInBounds_toArray, List.set_cons_zero, List.set_cons_succ, i64_w, i32_w]
        rfl
       refine one_ (i := 3) (N := some 15) #[true, true, true, true, false, false, false] rfl rfl (by kernel_rfl) (by decide) (fun K hK => ?_)
       refine goes_ Try.func20 (by kernel_rfl) rfl #[.agg #[.int .i64 a0_0, .int .i64 a0_1, .int .i64 a0_2, .int .i64 a0_3, .int .i64 a0_4, .int .i64 a0_5, .int .i64 a0_6, .int .i64 a0_7]] (by rfl) rfl rfl (by (try simp only [List.map_toArray, List.map_cons, List.map_nil]); first | done | rfl | (simp only [List.length_drop, List.length_take]; rfl)) ?_
       with_reducible refine (swarfref42_Line.calls a0_0 a0_1 a0_2 a0_3 a0_4 a0_5 a0_6 a0_7 t339 t340 t343 _ A6.out).mono ?_
       rintro e w28 ⟨v341, rfl, ho0, hb⟩
       refine ⟨_, rfl, ?_⟩
       have n0_ := Aside0.mk (Kd.N_elder' (by (with_reducible repeat (first | apply Kd.N_alloc | apply Kd.N_drewN | apply Kd.N_drew)); exact HO338.out) (Kd.R_base ho0) hb)
       have n1_ := Aside0.mk (Kd.R_lower ho0 (below_size (by repeat (first | (with_reducible first | exact HB.out | apply below_alloc | apply pw_below_drewN | apply below_drew1 | refine below_set ?_ GE327.out | refine below_set ?_ GE328.out | refine below_set ?_ GE335.out) | exact HB.out))))
       have n2_ := Aside0.mk (blk_below (g := gb327) (o := .cells #[.int .i64 a0_0, .int .i64 a0_1, .int .i64 a0_2, .int .i64 a0_3, .int .i64 a0_4, .int .i64 a0_5, .int .i64 a0_6, .int .i64 a0_7] 25 (0, 0)) (by (with_reducible repeat (first | refine blk_drewN ?_ _ | refine blk_drew ?_ | refine blk_alloc ?_ _)); exact BK327.out) hb)
       have n3_ := Aside0.mk (blk_below (g := gb328) (o := .cells #[.int .i64 a1_0, .int .i64 a1_1, .int .i64 a1_2, .int .i64 a1_3, .int .i64 a1_4, .int .i64 a1_5, .int .i64 a1_6, .int .i64 a1_7] 25 (0, 0)) (by (with_reducible repeat (first | refine blk_drewN ?_ _ | refine blk_drew ?_ | refine blk_alloc ?_ _)); exact BK328.out) hb)
       have n4_ := Aside0.mk (blk_below (g := gb335) (o := .cells #[.bool t330, .slice Ao23 t331.length co23, .string t334] 32 (0, 0)) (by (with_reducible repeat (first | refine blk_drewN ?_ _ | refine blk_drew ?_ | refine blk_alloc ?_ _)); exact BK335.out) hb)
       have HCX := Aside0.mk (Kd.C_below (by repeat (first | exact HCX.out | (with_reducible refine Kd.C_alloc ?_ _) | (with_reducible refine Kd.C_drewN ?_ _) | (with_reducible refine Kd.C_drew ?_))) hb)
       have n5_ := Aside0.mk (below_step (by repeat (first | (with_reducible first | exact HB.out | apply below_alloc | apply pw_below_drewN | apply below_drew1 | refine below_set ?_ GE327.out | refine below_set ?_ GE328.out | refine below_set ?_ GE335.out) | exact HB.out)) hb)
       clear HO338
       clear BK327
       clear BK328
       clear BK335
       clear HB
       have HO338 := n0_
       have HO342 := n1_
       have BK327 := n2_
       have BK328 := n3_
       have BK335 := n4_
       have HB := n5_
       clear n0_ n1_ n2_ n3_ n4_ n5_
       (try clear hb)
       (try clear hb2)
       (try clear hk)
       (try clear hi)
       (try clear ho0)
       obtain ⟨Ao29, co29, eo29⟩ := Kd.R_slice HO342.out
       (first | subst eo29 | (injection eo29 with f1_ f2_ f3_; have f4_ := f1_.symm; have f5_ := f3_.symm; clear f1_ f2_ f3_; subst f4_; subst f5_))
       refine hK.out _ _ ⟨(blk_cell BK335.out 0).trans rfl, (blk_cell BK335.out 1).trans rfl, (blk_cell BK335.out 2).trans rfl, (blk_cell BK327.out 0).trans rfl, (blk_cell BK327.out 1).trans rfl, (blk_cell BK327.out 2).trans rfl, (blk_cell BK327.out 3).trans rfl, (blk_cell BK327.out 4).trans rfl, (blk_cell BK327.out 5).trans rfl, (blk_cell BK327.out 6).trans rfl, (blk_cell BK327.out 7).trans rfl⟩ (fun hHeld => ?_)
       clear hK K
       refine norm_ (a' := ?_) ?_ ?_
       rotate_left
       ·show Act.put _ (some 15) _ = _
        simp only [Act.put, List.setIfInBounds_toArray, List.set_cons_zero, List.set_cons_succ, i64_w, i32_w]
        rfl
       refine one_ (i := 4) (N := some 16) #[true, true, true, true, true, false, false] rfl rfl (by kernel_rfl) (by decide) (fun K hK => ?_)
       refine Kd.N_lit_step k32 _ 32 ?hg (N' := 16) ?hd (xs := ([(⟨t339, t340, t343⟩ : S32)] : List (S32))) (inner := [.bool t339, .slice Ao29 t340.length co29, .string t343]) (ok := (fun k_ => some k_ ≠ (v337 : Value).ownBlock ∧ k_ ≠ gb327 ∧ k_ ≠ gb328 ∧ k_ ≠ gb335)) (okp := (fun k_ => some k_ ≠ (v337 : Value).ownBlock ∧ k_ ≠ gb327 ∧ k_ ≠ gb328 ∧ k_ ≠ gb335)) ?hr ?hp (fun _ hk => hk) ((show ∀ k_, w28.heap.size ≤ k_ → (fun k_ => some k_ ≠ (v337 : Value).ownBlock ∧ k_ ≠ gb327 ∧ k_ ≠ gb328 ∧ k_ ≠ gb335) k_ from fun k_ hk => ⟨Kd.fresh' (Kd.N_lt (by (with_reducible repeat (first | apply Kd.N_alloc | apply Kd.N_drewN | apply Kd.N_drew)); exact HO338.out)) k_ hk, Kd.freshB (g := gb327) (o := .cells #[.int .i64 a0_0, .int .i64 a0_1, .int .i64 a0_2, .int .i64 a0_3, .int .i64 a0_4, .int .i64 a0_5, .int .i64 a0_6, .int .i64 a0_7] 25 (0, 0)) (by (with_reducible repeat (first | refine blk_drewN ?_ _ | refine blk_drew ?_ | refine blk_alloc ?_ _)); exact BK327.out) k_ hk, Kd.freshB (g := gb328) (o := .cells #[.int .i64 a1_0, .int .i64 a1_1, .int .i64 a1_2, .int .i64 a1_3, .int .i64 a1_4, .int .i64 a1_5, .int .i64 a1_6, .int .i64 a1_7] 25 (0, 0)) (by (with_reducible repeat (first | refine blk_drewN ?_ _ | refine blk_drew ?_ | refine blk_alloc ?_ _)); exact BK328.out) k_ hk, Kd.freshB (g := gb335) (o := .cells #[.bool t330, .slice Ao23 t331.length co23, .string t334] 32 (0, 0)) (by (with_reducible repeat (first | refine blk_drewN ?_ _ | refine blk_drew ?_ | refine blk_alloc ?_ _)); exact BK335.out) k_ hk⟩) _ (Nat.le_refl _)) (Below.refl _ _) (Nat.le_refl _) (by simp) ?_; (case hd => rfl); (case hg => rfl); (case hr => first | (go_simp; done) | (go_simp; rfl)); (case hp => exact (Reps.c3 (show Kd.FK k32 _ _ (⟨t339, t340, t343⟩ : S32) [.bool t339, .slice Ao29 t340.length co29, .string t343] from (k32_mkF _ _ (⟨t339, t340, t343⟩ : S32) (Kd.R_reads' (Kd.R_mono (ok' := (fun k_ => some k_ ≠ (v337 : Value).ownBlock ∧ k_ ≠ gb327 ∧ k_ ≠ gb328 ∧ k_ ≠ gb335)) (Kd.R_types (Kd.R_types (Kd.R_types (Kd.R_apart' (HO342.out) (Kd.N_typed HO338.out) (by decide)) BK327.out (by decide)) BK328.out (by decide)) BK335.out (by decide)) (fun k_ hk => ⟨hk.1.1.1.2, ⟨hk.1.1.2, ⟨hk.1.2, hk.2⟩⟩⟩))).2.1 (Kd.R_F (Kd.R_mono (ok' := (fun k_ => some k_ ≠ (v337 : Value).ownBlock ∧ k_ ≠ gb327 ∧ k_ ≠ gb328 ∧ k_ ≠ gb335)) (Kd.R_types (Kd.R_types (Kd.R_types (Kd.R_apart' (HO342.out) (Kd.N_typed HO338.out) (by decide)) BK327.out (by decide)) BK328.out (by decide)) BK335.out (by decide)) (fun k_ hk => ⟨hk.1.1.1.2, ⟨hk.1.1.2, ⟨hk.1.2, hk.2⟩⟩⟩))))) (Reps.none _ _)))
       intro v345 w30 ho31 hb hg_ hnew_
       clear hg_ hnew_
       (first | rw [← Ny344.out] at ho31 | (simp only [Int.reduceToNat] at ho31; rw [← Ny344.out] at ho31))
       have n0_ := Aside0.mk (Kd.N_elder' (by (with_reducible repeat (first | apply Kd.N_alloc | apply Kd.N_drewN | apply Kd.N_drew)); exact HO338.out) (Kd.N_base ho31) hb)
       have n1_ := Aside0.mk (Kd.N_lower ho31 (below_size (by repeat (first | (with_reducible first | exact HB.out | apply below_alloc | apply pw_below_drewN | apply below_drew1 | refine below_set ?_ GE327.out | refine below_set ?_ GE328.out | refine below_set ?_ GE335.out) | exact HB.out))))
       have n2_ := Aside0.mk (blk_below (g := gb327) (o := .cells #[.int .i64 a0_0, .int .i64 a0_1, .int .i64 a0_2, .int .i64 a0_3, .int .i64 a0_4, .int .i64 a0_5, .int .i64 a0_6, .int .i64 a0_7] 25 (0, 0)) (by (with_reducible repeat (first | refine blk_drewN ?_ _ | refine blk_drew ?_ | refine blk_alloc ?_ _)); exact BK327.out) hb)
       have n3_ := Aside0.mk (blk_below (g := gb328) (o := .cells #[.int .i64 a1_0, .int .i64 a1_1, .int .i64 a1_2, .int .i64 a1_3, .int .i64 a1_4, .int .i64 a1_5, .int .i64 a1_6, .int .i64 a1_7] 25 (0, 0)) (by (with_reducible repeat (first | refine blk_drewN ?_ _ | refine blk_drew ?_ | refine blk_alloc ?_ _)); exact BK328.out) hb)
       have n4_ := Aside0.mk (blk_below (g := gb335) (o := .cells #[.bool t330, .slice Ao23 t331.length co23, .string t334] 32 (0, 0)) (by (with_reducible repeat (first | refine blk_drewN ?_ _ | refine blk_drew ?_ | refine blk_alloc ?_ _)); exact BK335.out) hb)
       have HCX := Aside0.mk (Kd.C_below (by repeat (first | exact HCX.out | (with_reducible refine Kd.C_alloc ?_ _) | (with_reducible refine Kd.C_drewN ?_ _) | (with_reducible refine Kd.C_drew ?_))) hb)
       have n5_ := Aside0.mk (below_step (by repeat (first | (with_reducible first | exact HB.out | apply below_alloc | apply pw_below_drewN | apply below_drew1 | refine below_set ?_ GE327.out | refine below_set ?_ GE328.out | refine below_set ?_ GE335.out) | exact HB.out)) hb)
       clear HO338
       clear BK327
       clear BK328
       clear BK335
       clear HB
       clear HO342
       have HO338 := n0_
       have HO346 := n1_
       have BK327 := n2_
       have BK328 := n3_
       have BK335 := n4_
       have HB := n5_
       clear n0_ n1_ n2_ n3_ n4_ n5_
       clear hb ho31
       refine hK.out _ _ ⟨(blk_cell BK335.out 0).trans rfl, (blk_cell BK335.out 1).trans rfl, (blk_cell BK335.out 2).trans rfl, (blk_cell BK327.out 0).trans rfl, (blk_cell BK327.out 1).trans rfl, (blk_cell BK327.out 2).trans rfl, (blk_cell BK327.out 3).trans rfl, (blk_cell BK327.out 4).trans rfl, (blk_cell BK327.out 5).trans rfl, (blk_cell BK327.out 6).trans rfl, (blk_cell BK327.out 7).trans rfl⟩ (fun hHeld => ?_)
       clear hK K
       refine norm_ (a' := ?_) ?_ ?_
       rotate_left
       ·show Act.put _ (some 16) _ = _
        simp only [Act.put, List.setIfInBounds_toArray, List.set_cons_zero, List.set_cons_succ, i64_w, i32_w]
        rfl
       exact norm_ (by simp only [putAll, Act.put, List.setIfInBounds_toArray, List.set_cons_zero, List.set_cons_succ]) (hCont (v337, .slice Ao29 t340.length co29, v345) _ ⟨hHeld, (by (with_reducible repeat (first | apply Kd.N_alloc | apply Kd.N_drewN | apply Kd.N_drew)); exact Kd.N_mono HO338.out (fun _ hk => ⟨hk.2, ⟨hk.1.1.1, ⟨hk.1.1.2.1, hk.1.1.2.2⟩⟩⟩)), (by (with_reducible repeat (first | apply Kd.N_alloc | apply Kd.N_drewN | apply Kd.N_drew)); exact HO346.out), (by (with_reducible repeat (first | refine blk_drewN ?_ _ | refine blk_drew ?_ | refine blk_alloc ?_ _)); exact BK327.out), (by (with_reducible repeat (first | refine blk_drewN ?_ _ | refine blk_drew ?_ | refine blk_alloc ?_ _)); exact BK328.out), (by (with_reducible repeat (first | refine blk_drewN ?_ _ | refine blk_drew ?_ | refine blk_alloc ?_ _)); exact BK335.out), (by repeat (first | (with_reducible first | exact HB.out | apply below_alloc | apply pw_below_drewN | apply below_drew1 | refine below_set ?_ GE327.out | refine below_set ?_ GE328.out | refine below_set ?_ GE335.out) | exact HB.out)), (by repeat (first | exact HCX.out | (with_reducible refine Kd.C_alloc ?_ _) | (with_reducible refine Kd.C_drewN ?_ _) | (with_reducible refine Kd.C_drew ?_)))⟩)
      ·skip
       refine goes_ Try.func20 (by kernel_rfl) rfl #[.agg #[.int .i64 a0_0, .int .i64 a0_1, .int .i64 a0_2, .int .i64 a0_3, .int .i64 a0_4, .int .i64 a0_5, .int .i64 a0_6, .int .i64 a0_7]] (by rfl) rfl rfl (by (try simp only [List.map_toArray, List.map_cons, List.map_nil]); first | done | rfl | (simp only [List.length_drop, List.length_take]; rfl)) ?_
       with_reducible refine (swarfref42_Line.calls a0_0 a0_1 a0_2 a0_3 a0_4 a0_5 a0_6 a0_7 t339 t340 t343 _ A6.out).mono ?_
       rintro e w26 ⟨v341, rfl, ho0, hb⟩
       refine ⟨_, rfl, ?_⟩
       have n0_ := Aside0.mk (Kd.R_elder' (by (with_reducible repeat (first | apply Kd.R_alloc | apply Kd.R_drewN | apply Kd.R_drew)); exact HO333.out) (Kd.R_base ho0) hb)
       have n1_ := Aside0.mk (Kd.R_lower (Kd.R_new' ho0 (Kd.R_lt (by (with_reducible repeat (first | apply Kd.R_alloc | apply Kd.R_drewN | apply Kd.R_drew)); exact HO333.out))) (below_size (by repeat (first | (with_reducible first | exact HB.out | apply below_alloc | apply pw_below_drewN | apply below_drew1 | refine below_set ?_ GE327.out | refine below_set ?_ GE328.out | refine below_set ?_ GE335.out) | exact HB.out))))
       have n2_ := Aside0.mk (blk_below (g := gb327) (o := .cells #[.int .i64 a0_0, .int .i64 a0_1, .int .i64 a0_2, .int .i64 a0_3, .int .i64 a0_4, .int .i64 a0_5, .int .i64 a0_6, .int .i64 a0_7] 25 (0, 0)) (by (with_reducible repeat (first | refine blk_drewN ?_ _ | refine blk_drew ?_ | refine blk_alloc ?_ _)); exact BK327.out) hb)
       have n3_ := Aside0.mk (blk_below (g := gb328) (o := .cells #[.int .i64 a1_0, .int .i64 a1_1, .int .i64 a1_2, .int .i64 a1_3, .int .i64 a1_4, .int .i64 a1_5, .int .i64 a1_6, .int .i64 a1_7] 25 (0, 0)) (by (with_reducible repeat (first | refine blk_drewN ?_ _ | refine blk_drew ?_ | refine blk_alloc ?_ _)); exact BK328.out) hb)
       have n4_ := Aside0.mk (blk_below (g := gb335) (o := .cells #[.bool t330, .slice Ao23 t331.length co23, .string t334] 32 (0, 0)) (by (with_reducible repeat (first | refine blk_drewN ?_ _ | refine blk_drew ?_ | refine blk_alloc ?_ _)); exact BK335.out) hb)
       have HCX := Aside0.mk (Kd.C_below (by repeat (first | exact HCX.out | (with_reducible refine Kd.C_alloc ?_ _) | (with_reducible refine Kd.C_drewN ?_ _) | (with_reducible refine Kd.C_drew ?_))) hb)
       have n5_ := Aside0.mk (below_step (by repeat (first | (with_reducible first | exact HB.out | apply below_alloc | apply pw_below_drewN | apply below_drew1 | refine below_set ?_ GE327.out | refine below_set ?_ GE328.out | refine below_set ?_ GE335.out) | exact HB.out)) hb)
       clear HO333
       clear BK327
       clear BK328
       clear BK335
       clear HB
       have HO333 := n0_
       have HO342 := n1_
       have BK327 := n2_
       have BK328 := n3_
       have BK335 := n4_
       have HB := n5_
       clear n0_ n1_ n2_ n3_ n4_ n5_
       (try clear hb)
       (try clear hb2)
       (try clear hk)
       (try clear hi)
       (try clear ho0)
       refine hK.out _ _ ⟨(blk_cell BK335.out 0).trans rfl, (blk_cell BK335.out 1).trans rfl, (blk_cell BK335.out 2).trans rfl, (blk_cell BK327.out 0).trans rfl, (blk_cell BK327.out 1).trans rfl, (blk_cell BK327.out 2).trans rfl, (blk_cell BK327.out 3).trans rfl, (blk_cell BK327.out 4).trans rfl, (blk_cell BK327.out 5).trans rfl, (blk_cell BK327.out 6).trans rfl, (blk_cell BK327.out 7).trans rfl⟩ (fun hHeld => ?_)
       clear hK K
       refine norm_ (a' := ?_) ?_ ?_
       rotate_left
       ·show Act.put _ (some 15) _ = _
        simp only [Act.put, List.setIfInBounds_toArray, List.set_cons_zero, List.set_cons_succ, i64_w, i32_w]
        rfl
       refine two_ (i := 1) (j := 4) (Ni := some 13) (Nj := some 16) #[true, true, true, true, false, false, false] #[true, false, true, true, true, false, false] rfl rfl rfl rfl (by kernel_rfl) (by decide) (by decide) (fun K hK => ?_) (fun K hK => ?_)
       ·skip
        refine Kd.N_lit_step k32 _ 32 ?hg (N' := 13) ?hd (xs := ([(⟨t330, t331, t334⟩ : S32)] : List (S32))) (inner := [.bool t330, .slice Ao23 t331.length co23, .string t334]) (ok := (fun k_ => some k_ ≠ (v341 : Value).ownBlock ∧ k_ ≠ gb327 ∧ k_ ≠ gb328 ∧ k_ ≠ gb335)) (okp := (fun k_ => some k_ ≠ (v341 : Value).ownBlock ∧ k_ ≠ gb327 ∧ k_ ≠ gb328 ∧ k_ ≠ gb335)) ?hr ?hp (fun _ hk => hk) ((show ∀ k_, w26.heap.size ≤ k_ → (fun k_ => some k_ ≠ (v341 : Value).ownBlock ∧ k_ ≠ gb327 ∧ k_ ≠ gb328 ∧ k_ ≠ gb335) k_ from fun k_ hk => ⟨Kd.fresh' (Kd.R_lt (by (with_reducible repeat (first | apply Kd.R_alloc | apply Kd.R_drewN | apply Kd.R_drew)); exact HO342.out)) k_ hk, Kd.freshB (g := gb327) (o := .cells #[.int .i64 a0_0, .int .i64 a0_1, .int .i64 a0_2, .int .i64 a0_3, .int .i64 a0_4, .int .i64 a0_5, .int .i64 a0_6, .int .i64 a0_7] 25 (0, 0)) (by (with_reducible repeat (first | refine blk_drewN ?_ _ | refine blk_drew ?_ | refine blk_alloc ?_ _)); exact BK327.out) k_ hk, Kd.freshB (g := gb328) (o := .cells #[.int .i64 a1_0, .int .i64 a1_1, .int .i64 a1_2, .int .i64 a1_3, .int .i64 a1_4, .int .i64 a1_5, .int .i64 a1_6, .int .i64 a1_7] 25 (0, 0)) (by (with_reducible repeat (first | refine blk_drewN ?_ _ | refine blk_drew ?_ | refine blk_alloc ?_ _)); exact BK328.out) k_ hk, Kd.freshB (g := gb335) (o := .cells #[.bool t330, .slice Ao23 t331.length co23, .string t334] 32 (0, 0)) (by (with_reducible repeat (first | refine blk_drewN ?_ _ | refine blk_drew ?_ | refine blk_alloc ?_ _)); exact BK335.out) k_ hk⟩) _ (Nat.le_refl _)) (Below.refl _ _) (Nat.le_refl _) (by simp) ?_; (case hd => rfl); (case hg => rfl); (case hr => first | (go_simp; done) | (go_simp; rfl)); (case hp => exact (Reps.c3 (show Kd.FK k32 _ _ (⟨t330, t331, t334⟩ : S32) [.bool t330, .slice Ao23 t331.length co23, .string t334] from (k32_mkF _ _ (⟨t330, t331, t334⟩ : S32) (Kd.R_reads' (Kd.R_mono (ok' := (fun k_ => some k_ ≠ (v341 : Value).ownBlock ∧ k_ ≠ gb327 ∧ k_ ≠ gb328 ∧ k_ ≠ gb335)) (Kd.R_types (Kd.R_types (Kd.R_types (HO333.out) BK327.out (by decide)) BK328.out (by decide)) BK335.out (by decide)) (fun k_ hk => ⟨hk.1.1.1.2, ⟨hk.1.1.2, ⟨hk.1.2, hk.2⟩⟩⟩))).2.1 (Kd.R_F (Kd.R_mono (ok' := (fun k_ => some k_ ≠ (v341 : Value).ownBlock ∧ k_ ≠ gb327 ∧ k_ ≠ gb328 ∧ k_ ≠ gb335)) (Kd.R_types (Kd.R_types (Kd.R_types (HO333.out) BK327.out (by decide)) BK328.out (by decide)) BK335.out (by decide)) (fun k_ hk => ⟨hk.1.1.1.2, ⟨hk.1.1.2, ⟨hk.1.2, hk.2⟩⟩⟩))))) (Reps.none _ _)))
        intro v337 w27 ho28 hb hg_ hnew_
        clear hg_ hnew_
        (first | rw [← Ny336.out] at ho28 | (simp only [Int.reduceToNat] at ho28; rw [← Ny336.out] at ho28))
        have n0_ := Aside0.mk (Kd.R_below (by (with_reducible repeat (first | apply Kd.R_alloc | apply Kd.R_drewN | apply Kd.R_drew)); exact HO342.out) hb)
        have n1_ := Aside0.mk (Kd.N_lower ho28 (below_size (by repeat (first | (with_reducible first | exact HB.out | apply below_alloc | apply pw_below_drewN | apply below_drew1 | refine below_set ?_ GE327.out | refine below_set ?_ GE328.out | refine below_set ?_ GE335.out) | exact HB.out))))
        have n2_ := Aside0.mk (blk_below (g := gb327) (o := .cells #[.int .i64 a0_0, .int .i64 a0_1, .int .i64 a0_2, .int .i64 a0_3, .int .i64 a0_4, .int .i64 a0_5, .int .i64 a0_6, .int .i64 a0_7] 25 (0, 0)) (by (with_reducible repeat (first | refine blk_drewN ?_ _ | refine blk_drew ?_ | refine blk_alloc ?_ _)); exact BK327.out) hb)
        have n3_ := Aside0.mk (blk_below (g := gb328) (o := .cells #[.int .i64 a1_0, .int .i64 a1_1, .int .i64 a1_2, .int .i64 a1_3, .int .i64 a1_4, .int .i64 a1_5, .int .i64 a1_6, .int .i64 a1_7] 25 (0, 0)) (by (with_reducible repeat (first | refine blk_drewN ?_ _ | refine blk_drew ?_ | refine blk_alloc ?_ _)); exact BK328.out) hb)
        have n4_ := Aside0.mk (blk_below (g := gb335) (o := .cells #[.bool t330, .slice Ao23 t331.length co23, .string t334] 32 (0, 0)) (by (with_reducible repeat (first | refine blk_drewN ?_ _ | refine blk_drew ?_ | refine blk_alloc ?_ _)); exact BK335.out) hb)
        have HCX := Aside0.mk (Kd.C_below (by repeat (first | exact HCX.out | (with_reducible refine Kd.C_alloc ?_ _) | (with_reducible refine Kd.C_drewN ?_ _) | (with_reducible refine Kd.C_drew ?_))) hb)
        have n5_ := Aside0.mk (below_step (by repeat (first | (with_reducible first | exact HB.out | apply below_alloc | apply pw_below_drewN | apply below_drew1 | refine below_set ?_ GE327.out | refine below_set ?_ GE328.out | refine below_set ?_ GE335.out) | exact HB.out)) hb)
        clear HO342
        clear BK327
        clear BK328
        clear BK335
        clear HB
        clear HO333
        have HO342 := n0_
        have HO338 := n1_
        have BK327 := n2_
        have BK328 := n3_
        have BK335 := n4_
        have HB := n5_
        clear n0_ n1_ n2_ n3_ n4_ n5_
        clear hb ho28
        obtain ⟨Ao29, co29, eo29⟩ := Kd.R_slice HO342.out
        (first | subst eo29 | (injection eo29 with f1_ f2_ f3_; have f4_ := f1_.symm; have f5_ := f3_.symm; clear f1_ f2_ f3_; subst f4_; subst f5_))
        refine hK.out _ _ ⟨(blk_cell BK335.out 0).trans rfl, (blk_cell BK335.out 1).trans rfl, (blk_cell BK335.out 2).trans rfl, (blk_cell BK327.out 0).trans rfl, (blk_cell BK327.out 1).trans rfl, (blk_cell BK327.out 2).trans rfl, (blk_cell BK327.out 3).trans rfl, (blk_cell BK327.out 4).trans rfl, (blk_cell BK327.out 5).trans rfl, (blk_cell BK327.out 6).trans rfl, (blk_cell BK327.out 7).trans rfl⟩ (fun hHeld => ?_)
        clear hK K
        refine norm_ (a' := ?_) ?_ ?_
        rotate_left
        ·show Act.put _ (some 13) _ = _
         simp only [Act.put, List.setIfInBounds_toArray, List.set_cons_zero, List.set_cons_succ, i64_w, i32_w]
         rfl
        refine one_ (i := 4) (N := some 16) #[true, true, true, true, true, false, false] rfl rfl (by kernel_rfl) (by decide) (fun K hK => ?_)
        refine Kd.N_lit_step k32 _ 32 ?hg (N' := 16) ?hd (xs := ([(⟨t339, t340, t343⟩ : S32)] : List (S32))) (inner := [.bool t339, .slice Ao29 t340.length co29, .string t343]) (ok := (fun k_ => some k_ ≠ (v337 : Value).ownBlock ∧ k_ ≠ gb327 ∧ k_ ≠ gb328 ∧ k_ ≠ gb335)) (okp := (fun k_ => some k_ ≠ (v337 : Value).ownBlock ∧ k_ ≠ gb327 ∧ k_ ≠ gb328 ∧ k_ ≠ gb335)) ?hr ?hp (fun _ hk => hk) ((show ∀ k_, w27.heap.size ≤ k_ → (fun k_ => some k_ ≠ (v337 : Value).ownBlock ∧ k_ ≠ gb327 ∧ k_ ≠ gb328 ∧ k_ ≠ gb335) k_ from fun k_ hk => ⟨Kd.fresh' (Kd.N_lt (by (with_reducible repeat (first | apply Kd.N_alloc | apply Kd.N_drewN | apply Kd.N_drew)); exact HO338.out)) k_ hk, Kd.freshB (g := gb327) (o := .cells #[.int .i64 a0_0, .int .i64 a0_1, .int .i64 a0_2, .int .i64 a0_3, .int .i64 a0_4, .int .i64 a0_5, .int .i64 a0_6, .int .i64 a0_7] 25 (0, 0)) (by (with_reducible repeat (first | refine blk_drewN ?_ _ | refine blk_drew ?_ | refine blk_alloc ?_ _)); exact BK327.out) k_ hk, Kd.freshB (g := gb328) (o := .cells #[.int .i64 a1_0, .int .i64 a1_1, .int .i64 a1_2, .int .i64 a1_3, .int .i64 a1_4, .int .i64 a1_5, .int .i64 a1_6, .int .i64 a1_7] 25 (0, 0)) (by (with_reducible repeat (first | refine blk_drewN ?_ _ | refine blk_drew ?_ | refine blk_alloc ?_ _)); exact BK328.out) k_ hk, Kd.freshB (g := gb335) (o := .cells #[.bool t330, .slice Ao23 t331.length co23, .string t334] 32 (0, 0)) (by (with_reducible repeat (first | refine blk_drewN ?_ _ | refine blk_drew ?_ | refine blk_alloc ?_ _)); exact BK335.out) k_ hk⟩) _ (Nat.le_refl _)) (Below.refl _ _) (Nat.le_refl _) (by simp) ?_; (case hd => rfl); (case hg => rfl); (case hr => first | (go_simp; done) | (go_simp; rfl)); (case hp => exact (Reps.c3 (show Kd.FK k32 _ _ (⟨t339, t340, t343⟩ : S32) [.bool t339, .slice Ao29 t340.length co29, .string t343] from (k32_mkF _ _ (⟨t339, t340, t343⟩ : S32) (Kd.R_reads' (Kd.R_mono (ok' := (fun k_ => some k_ ≠ (v337 : Value).ownBlock ∧ k_ ≠ gb327 ∧ k_ ≠ gb328 ∧ k_ ≠ gb335)) (Kd.R_types (Kd.R_types (Kd.R_types (Kd.R_apart' (HO342.out) (Kd.N_typed HO338.out) (by decide)) BK327.out (by decide)) BK328.out (by decide)) BK335.out (by decide)) (fun k_ hk => ⟨hk.1.1.1.2, ⟨hk.1.1.2, ⟨hk.1.2, hk.2⟩⟩⟩))).2.1 (Kd.R_F (Kd.R_mono (ok' := (fun k_ => some k_ ≠ (v337 : Value).ownBlock ∧ k_ ≠ gb327 ∧ k_ ≠ gb328 ∧ k_ ≠ gb335)) (Kd.R_types (Kd.R_types (Kd.R_types (Kd.R_apart' (HO342.out) (Kd.N_typed HO338.out) (by decide)) BK327.out (by decide)) BK328.out (by decide)) BK335.out (by decide)) (fun k_ hk => ⟨hk.1.1.1.2, ⟨hk.1.1.2, ⟨hk.1.2, hk.2⟩⟩⟩))))) (Reps.none _ _)))
        intro v345 w30 ho31 hb hg_ hnew_
        clear hg_ hnew_
        (first | rw [← Ny344.out] at ho31 | (simp only [Int.reduceToNat] at ho31; rw [← Ny344.out] at ho31))
        have n0_ := Aside0.mk (Kd.N_elder' (by (with_reducible repeat (first | apply Kd.N_alloc | apply Kd.N_drewN | apply Kd.N_drew)); exact HO338.out) (Kd.N_base ho31) hb)
        have n1_ := Aside0.mk (Kd.N_lower ho31 (below_size (by repeat (first | (with_reducible first | exact HB.out | apply below_alloc | apply pw_below_drewN | apply below_drew1 | refine below_set ?_ GE327.out | refine below_set ?_ GE328.out | refine below_set ?_ GE335.out) | exact HB.out))))
        have n2_ := Aside0.mk (blk_below (g := gb327) (o := .cells #[.int .i64 a0_0, .int .i64 a0_1, .int .i64 a0_2, .int .i64 a0_3, .int .i64 a0_4, .int .i64 a0_5, .int .i64 a0_6, .int .i64 a0_7] 25 (0, 0)) (by (with_reducible repeat (first | refine blk_drewN ?_ _ | refine blk_drew ?_ | refine blk_alloc ?_ _)); exact BK327.out) hb)
        have n3_ := Aside0.mk (blk_below (g := gb328) (o := .cells #[.int .i64 a1_0, .int .i64 a1_1, .int .i64 a1_2, .int .i64 a1_3, .int .i64 a1_4, .int .i64 a1_5, .int .i64 a1_6, .int .i64 a1_7] 25 (0, 0)) (by (with_reducible repeat (first | refine blk_drewN ?_ _ | refine blk_drew ?_ | refine blk_alloc ?_ _)); exact BK328.out) hb)
        have n4_ := Aside0.mk (blk_below (g := gb335) (o := .cells #[.bool t330, .slice Ao23 t331.length co23, .string t334] 32 (0, 0)) (by (with_reducible repeat (first | refine blk_drewN ?_ _ | refine blk_drew ?_ | refine blk_alloc ?_ _)); exact BK335.out) hb)
        have HCX := Aside0.mk (Kd.C_below (by repeat (first | exact HCX.out | (with_reducible refine Kd.C_alloc ?_ _) | (with_reducible refine Kd.C_drewN ?_ _) | (with_reducible refine Kd.C_drew ?_))) hb)
        have n5_ := Aside0.mk (below_step (by repeat (first | (with_reducible first | exact HB.out | apply below_alloc | apply pw_below_drewN | apply below_drew1 | refine below_set ?_ GE327.out | refine below_set ?_ GE328.out | refine below_set ?_ GE335.out) | exact HB.out)) hb)
        clear HO338
        clear BK327
        clear BK328
        clear BK335
        clear HB
        clear HO342
        have HO338 := n0_
        have HO346 := n1_
        have BK327 := n2_
        have BK328 := n3_
        have BK335 := n4_
        have HB := n5_
        clear n0_ n1_ n2_ n3_ n4_ n5_
        clear hb ho31
        refine hK.out _ _ ⟨(blk_cell BK335.out 0).trans rfl, (blk_cell BK335.out 1).trans rfl, (blk_cell BK335.out 2).trans rfl, (blk_cell BK327.out 0).trans rfl, (blk_cell BK327.out 1).trans rfl, (blk_cell BK327.out 2).trans rfl, (blk_cell BK327.out 3).trans rfl, (blk_cell BK327.out 4).trans rfl, (blk_cell BK327.out 5).trans rfl, (blk_cell BK327.out 6).trans rfl, (blk_cell BK327.out 7).trans rfl⟩ (fun hHeld => ?_)
        clear hK K
        refine norm_ (a' := ?_) ?_ ?_
        rotate_left
        ·show Act.put _ (some 16) _ = _
         simp only [Act.put, List.setIfInBounds_toArray, List.set_cons_zero, List.set_cons_succ, i64_w, i32_w]
         rfl
        exact norm_ (by simp only [putAll, Act.put, List.setIfInBounds_toArray, List.set_cons_zero, List.set_cons_succ]) (hCont (v337, .slice Ao29 t340.length co29, v345) _ ⟨hHeld, (by (with_reducible repeat (first | apply Kd.N_alloc | apply Kd.N_drewN | apply Kd.N_drew)); exact Kd.N_mono HO338.out (fun _ hk => ⟨hk.2, ⟨hk.1.2.1, ⟨hk.1.2.2.1, hk.1.2.2.2⟩⟩⟩)), (by (with_reducible repeat (first | apply Kd.N_alloc | apply Kd.N_drewN | apply Kd.N_drew)); exact HO346.out), (by (with_reducible repeat (first | refine blk_drewN ?_ _ | refine blk_drew ?_ | refine blk_alloc ?_ _)); exact BK327.out), (by (with_reducible repeat (first | refine blk_drewN ?_ _ | refine blk_drew ?_ | refine blk_alloc ?_ _)); exact BK328.out), (by (with_reducible repeat (first | refine blk_drewN ?_ _ | refine blk_drew ?_ | refine blk_alloc ?_ _)); exact BK335.out), (by repeat (first | (with_reducible first | exact HB.out | apply below_alloc | apply pw_below_drewN | apply below_drew1 | refine below_set ?_ GE327.out | refine below_set ?_ GE328.out | refine below_set ?_ GE335.out) | exact HB.out)), (by repeat (first | exact HCX.out | (with_reducible refine Kd.C_alloc ?_ _) | (with_reducible refine Kd.C_drewN ?_ _) | (with_reducible refine Kd.C_drew ?_)))⟩)
       ·skip
        obtain ⟨Ao27, co27, eo27⟩ := Kd.R_slice HO342.out
        (first | subst eo27 | (injection eo27 with f1_ f2_ f3_; have f4_ := f1_.symm; have f5_ := f3_.symm; clear f1_ f2_ f3_; subst f4_; subst f5_))
        refine Kd.N_lit_step k32 _ 32 ?hg (N' := 16) ?hd (xs := ([(⟨t339, t340, t343⟩ : S32)] : List (S32))) (inner := [.bool t339, .slice Ao27 t340.length co27, .string t343]) (ok := (fun k_ => some k_ ≠ (.slice Ao23 t331.length co23 : Value).ownBlock ∧ k_ ≠ gb327 ∧ k_ ≠ gb328 ∧ k_ ≠ gb335)) (okp := (fun k_ => some k_ ≠ (.slice Ao23 t331.length co23 : Value).ownBlock ∧ k_ ≠ gb327 ∧ k_ ≠ gb328 ∧ k_ ≠ gb335)) ?hr ?hp (fun _ hk => hk) ((show ∀ k_, w26.heap.size ≤ k_ → (fun k_ => some k_ ≠ (.slice Ao23 t331.length co23 : Value).ownBlock ∧ k_ ≠ gb327 ∧ k_ ≠ gb328 ∧ k_ ≠ gb335) k_ from fun k_ hk => ⟨Kd.fresh' (Kd.R_lt (by (with_reducible repeat (first | apply Kd.R_alloc | apply Kd.R_drewN | apply Kd.R_drew)); exact HO333.out)) k_ hk, Kd.freshB (g := gb327) (o := .cells #[.int .i64 a0_0, .int .i64 a0_1, .int .i64 a0_2, .int .i64 a0_3, .int .i64 a0_4, .int .i64 a0_5, .int .i64 a0_6, .int .i64 a0_7] 25 (0, 0)) (by (with_reducible repeat (first | refine blk_drewN ?_ _ | refine blk_drew ?_ | refine blk_alloc ?_ _)); exact BK327.out) k_ hk, Kd.freshB (g := gb328) (o := .cells #[.int .i64 a1_0, .int .i64 a1_1, .int .i64 a1_2, .int .i64 a1_3, .int .i64 a1_4, .int .i64 a1_5, .int .i64 a1_6, .int .i64 a1_7] 25 (0, 0)) (by (with_reducible repeat (first | refine blk_drewN ?_ _ | refine blk_drew ?_ | refine blk_alloc ?_ _)); exact BK328.out) k_ hk, Kd.freshB (g := gb335) (o := .cells #[.bool t330, .slice Ao23 t331.length co23, .string t334] 32 (0, 0)) (by (with_reducible repeat (first | refine blk_drewN ?_ _ | refine blk_drew ?_ | refine blk_alloc ?_ _)); exact BK335.out) k_ hk⟩) _ (Nat.le_refl _)) (Below.refl _ _) (Nat.le_refl _) (by simp) ?_; (case hd => rfl); (case hg => rfl); (case hr => first | (go_simp; done) | (go_simp; rfl)); (case hp => exact (Reps.c3 (show Kd.FK k32 _ _ (⟨t339, t340, t343⟩ : S32) [.bool t339, .slice Ao27 t340.length co27, .string t343] from (k32_mkF _ _ (⟨t339, t340, t343⟩ : S32) (Kd.R_reads' (Kd.R_mono (ok' := (fun k_ => some k_ ≠ (.slice Ao23 t331.length co23 : Value).ownBlock ∧ k_ ≠ gb327 ∧ k_ ≠ gb328 ∧ k_ ≠ gb335)) (Kd.R_types (Kd.R_types (Kd.R_types (HO342.out) BK327.out (by decide)) BK328.out (by decide)) BK335.out (by decide)) (fun k_ hk => ⟨hk.1.1.1.2, ⟨hk.1.1.2, ⟨hk.1.2, hk.2⟩⟩⟩))).2.1 (Kd.R_F (Kd.R_mono (ok' := (fun k_ => some k_ ≠ (.slice Ao23 t331.length co23 : Value).ownBlock ∧ k_ ≠ gb327 ∧ k_ ≠ gb328 ∧ k_ ≠ gb335)) (Kd.R_types (Kd.R_types (Kd.R_types (HO342.out) BK327.out (by decide)) BK328.out (by decide)) BK335.out (by decide)) (fun k_ hk => ⟨hk.1.1.1.2, ⟨hk.1.1.2, ⟨hk.1.2, hk.2⟩⟩⟩))))) (Reps.none _ _)))
        intro v345 w28 ho29 hb hg_ hnew_
        clear hg_ hnew_
        (first | rw [← Ny344.out] at ho29 | (simp only [Int.reduceToNat] at ho29; rw [← Ny344.out] at ho29))
        have n0_ := Aside0.mk (Kd.R_below (by (with_reducible repeat (first | apply Kd.R_alloc | apply Kd.R_drewN | apply Kd.R_drew)); exact HO333.out) hb)
        have n1_ := Aside0.mk (Kd.N_lower ho29 (below_size (by repeat (first | (with_reducible first | exact HB.out | apply below_alloc | apply pw_below_drewN | apply below_drew1 | refine below_set ?_ GE327.out | refine below_set ?_ GE328.out | refine below_set ?_ GE335.out) | exact HB.out))))
        have n2_ := Aside0.mk (blk_below (g := gb327) (o := .cells #[.int .i64 a0_0, .int .i64 a0_1, .int .i64 a0_2, .int .i64 a0_3, .int .i64 a0_4, .int .i64 a0_5, .int .i64 a0_6, .int .i64 a0_7] 25 (0, 0)) (by (with_reducible repeat (first | refine blk_drewN ?_ _ | refine blk_drew ?_ | refine blk_alloc ?_ _)); exact BK327.out) hb)
        have n3_ := Aside0.mk (blk_below (g := gb328) (o := .cells #[.int .i64 a1_0, .int .i64 a1_1, .int .i64 a1_2, .int .i64 a1_3, .int .i64 a1_4, .int .i64 a1_5, .int .i64 a1_6, .int .i64 a1_7] 25 (0, 0)) (by (with_reducible repeat (first | refine blk_drewN ?_ _ | refine blk_drew ?_ | refine blk_alloc ?_ _)); exact BK328.out) hb)
        have n4_ := Aside0.mk (blk_below (g := gb335) (o := .cells #[.bool t330, .slice Ao23 t331.length co23, .string t334] 32 (0, 0)) (by (with_reducible repeat (first | refine blk_drewN ?_ _ | refine blk_drew ?_ | refine blk_alloc ?_ _)); exact BK335.out) hb)
        have HCX := Aside0.mk (Kd.C_below (by repeat (first | exact HCX.out | (with_reducible refine Kd.C_alloc ?_ _) | (with_reducible refine Kd.C_drewN ?_ _) | (with_reducible refine Kd.C_drew ?_))) hb)
        have n5_ := Aside0.mk (below_step (by repeat (first | (with_reducible first | exact HB.out | apply below_alloc | apply pw_below_drewN | apply below_drew1 | refine below_set ?_ GE327.out | refine below_set ?_ GE328.out | refine below_set ?_ GE335.out) | exact HB.out)) hb)
        clear HO333
        clear BK327
        clear BK328
        clear BK335
        clear HB
        clear HO342
        have HO333 := n0_
        have HO346 := n1_
        have BK327 := n2_
        have BK328 := n3_
        have BK335 := n4_
        have HB := n5_
        clear n0_ n1_ n2_ n3_ n4_ n5_
        clear hb ho29
        refine hK.out _ _ ⟨(blk_cell BK335.out 0).trans rfl, (blk_cell BK335.out 1).trans rfl, (blk_cell BK335.out 2).trans rfl, (blk_cell BK327.out 0).trans rfl, (blk_cell BK327.out 1).trans rfl, (blk_cell BK327.out 2).trans rfl, (blk_cell BK327.out 3).trans rfl, (blk_cell BK327.out 4).trans rfl, (blk_cell BK327.out 5).trans rfl, (blk_cell BK327.out 6).trans rfl, (blk_cell BK327.out 7).trans rfl⟩ (fun hHeld => ?_)
        clear hK K
        refine norm_ (a' := ?_) ?_ ?_
        rotate_left
        ·show Act.put _ (some 16) _ = _
         simp only [Act.put, List.setIfInBounds_toArray, List.set_cons_zero, List.set_cons_succ, i64_w, i32_w]
         rfl
        refine one_ (i := 1) (N := some 13) #[true, true, true, true, true, false, false] rfl rfl (by kernel_rfl) (by decide) (fun K hK => ?_)
        refine Kd.N_lit_step k32 _ 32 ?hg (N' := 13) ?hd (xs := ([(⟨t330, t331, t334⟩ : S32)] : List (S32))) (inner := [.bool t330, .slice Ao23 t331.length co23, .string t334]) (ok := (fun k_ => some k_ ≠ (v345 : Value).ownBlock ∧ k_ ≠ gb327 ∧ k_ ≠ gb328 ∧ k_ ≠ gb335)) (okp := (fun k_ => some k_ ≠ (v345 : Value).ownBlock ∧ k_ ≠ gb327 ∧ k_ ≠ gb328 ∧ k_ ≠ gb335)) ?hr ?hp (fun _ hk => hk) ((show ∀ k_, w28.heap.size ≤ k_ → (fun k_ => some k_ ≠ (v345 : Value).ownBlock ∧ k_ ≠ gb327 ∧ k_ ≠ gb328 ∧ k_ ≠ gb335) k_ from fun k_ hk => ⟨Kd.fresh' (Kd.N_lt (by (with_reducible repeat (first | apply Kd.N_alloc | apply Kd.N_drewN | apply Kd.N_drew)); exact HO346.out)) k_ hk, Kd.freshB (g := gb327) (o := .cells #[.int .i64 a0_0, .int .i64 a0_1, .int .i64 a0_2, .int .i64 a0_3, .int .i64 a0_4, .int .i64 a0_5, .int .i64 a0_6, .int .i64 a0_7] 25 (0, 0)) (by (with_reducible repeat (first | refine blk_drewN ?_ _ | refine blk_drew ?_ | refine blk_alloc ?_ _)); exact BK327.out) k_ hk, Kd.freshB (g := gb328) (o := .cells #[.int .i64 a1_0, .int .i64 a1_1, .int .i64 a1_2, .int .i64 a1_3, .int .i64 a1_4, .int .i64 a1_5, .int .i64 a1_6, .int .i64 a1_7] 25 (0, 0)) (by (with_reducible repeat (first | refine blk_drewN ?_ _ | refine blk_drew ?_ | refine blk_alloc ?_ _)); exact BK328.out) k_ hk, Kd.freshB (g := gb335) (o := .cells #[.bool t330, .slice Ao23 t331.length co23, .string t334] 32 (0, 0)) (by (with_reducible repeat (first | refine blk_drewN ?_ _ | refine blk_drew ?_ | refine blk_alloc ?_ _)); exact BK335.out) k_ hk⟩) _ (Nat.le_refl _)) (Below.refl _ _) (Nat.le_refl _) (by simp) ?_; (case hd => rfl); (case hg => rfl); (case hr => first | (go_simp; done) | (go_simp; rfl)); (case hp => exact (Reps.c3 (show Kd.FK k32 _ _ (⟨t330, t331, t334⟩ : S32) [.bool t330, .slice Ao23 t331.length co23, .string t334] from (k32_mkF _ _ (⟨t330, t331, t334⟩ : S32) (Kd.R_reads' (Kd.R_mono (ok' := (fun k_ => some k_ ≠ (v345 : Value).ownBlock ∧ k_ ≠ gb327 ∧ k_ ≠ gb328 ∧ k_ ≠ gb335)) (Kd.R_types (Kd.R_types (Kd.R_types (Kd.R_apart' (HO333.out) (Kd.N_typed HO346.out) (by decide)) BK327.out (by decide)) BK328.out (by decide)) BK335.out (by decide)) (fun k_ hk => ⟨hk.1.1.1.2, ⟨hk.1.1.2, ⟨hk.1.2, hk.2⟩⟩⟩))).2.1 (Kd.R_F (Kd.R_mono (ok' := (fun k_ => some k_ ≠ (v345 : Value).ownBlock ∧ k_ ≠ gb327 ∧ k_ ≠ gb328 ∧ k_ ≠ gb335)) (Kd.R_types (Kd.R_types (Kd.R_types (Kd.R_apart' (HO333.out) (Kd.N_typed HO346.out) (by decide)) BK327.out (by decide)) BK328.out (by decide)) BK335.out (by decide)) (fun k_ hk => ⟨hk.1.1.1.2, ⟨hk.1.1.2, ⟨hk.1.2, hk.2⟩⟩⟩))))) (Reps.none _ _)))
        intro v337 w30 ho31 hb hg_ hnew_
        clear hg_ hnew_
        (first | rw [← Ny336.out] at ho31 | (simp only [Int.reduceToNat] at ho31; rw [← Ny336.out] at ho31))
        have n0_ := Aside0.mk (Kd.N_elder' (by (with_reducible repeat (first | apply Kd.N_alloc | apply Kd.N_drewN | apply Kd.N_drew)); exact HO346.out) (Kd.N_base ho31) hb)
        have n1_ := Aside0.mk (Kd.N_lower ho31 (below_size (by repeat (first | (with_reducible first | exact HB.out | apply below_alloc | apply pw_below_drewN | apply below_drew1 | refine below_set ?_ GE327.out | refine below_set ?_ GE328.out | refine below_set ?_ GE335.out) | exact HB.out))))
        have n2_ := Aside0.mk (blk_below (g := gb327) (o := .cells #[.int .i64 a0_0, .int .i64 a0_1, .int .i64 a0_2, .int .i64 a0_3, .int .i64 a0_4, .int .i64 a0_5, .int .i64 a0_6, .int .i64 a0_7] 25 (0, 0)) (by (with_reducible repeat (first | refine blk_drewN ?_ _ | refine blk_drew ?_ | refine blk_alloc ?_ _)); exact BK327.out) hb)
        have n3_ := Aside0.mk (blk_below (g := gb328) (o := .cells #[.int .i64 a1_0, .int .i64 a1_1, .int .i64 a1_2, .int .i64 a1_3, .int .i64 a1_4, .int .i64 a1_5, .int .i64 a1_6, .int .i64 a1_7] 25 (0, 0)) (by (with_reducible repeat (first | refine blk_drewN ?_ _ | refine blk_drew ?_ | refine blk_alloc ?_ _)); exact BK328.out) hb)
        have n4_ := Aside0.mk (blk_below (g := gb335) (o := .cells #[.bool t330, .slice Ao23 t331.length co23, .string t334] 32 (0, 0)) (by (with_reducible repeat (first | refine blk_drewN ?_ _ | refine blk_drew ?_ | refine blk_alloc ?_ _)); exact BK335.out) hb)
        have HCX := Aside0.mk (Kd.C_below (by repeat (first | exact HCX.out | (with_reducible refine Kd.C_alloc ?_ _) | (with_reducible refine Kd.C_drewN ?_ _) | (with_reducible refine Kd.C_drew ?_))) hb)
        have n5_ := Aside0.mk (below_step (by repeat (first | (with_reducible first | exact HB.out | apply below_alloc | apply pw_below_drewN | apply below_drew1 | refine below_set ?_ GE327.out | refine below_set ?_ GE328.out | refine below_set ?_ GE335.out) | exact HB.out)) hb)
        clear HO346
        clear BK327
        clear BK328
        clear BK335
        clear HB
        clear HO333
        have HO346 := n0_
        have HO338 := n1_
        have BK327 := n2_
        have BK328 := n3_
        have BK335 := n4_
        have HB := n5_
        clear n0_ n1_ n2_ n3_ n4_ n5_
        clear hb ho31
        refine hK.out _ _ ⟨(blk_cell BK335.out 0).trans rfl, (blk_cell BK335.out 1).trans rfl, (blk_cell BK335.out 2).trans rfl, (blk_cell BK327.out 0).trans rfl, (blk_cell BK327.out 1).trans rfl, (blk_cell BK327.out 2).trans rfl, (blk_cell BK327.out 3).trans rfl, (blk_cell BK327.out 4).trans rfl, (blk_cell BK327.out 5).trans rfl, (blk_cell BK327.out 6).trans rfl, (blk_cell BK327.out 7).trans rfl⟩ (fun hHeld => ?_)
        clear hK K
        refine norm_ (a' := ?_) ?_ ?_
        rotate_left
        ·show Act.put _ (some 13) _ = _
         simp only [Act.put, List.setIfInBounds_toArray, List.set_cons_zero, List.set_cons_succ, i64_w, i32_w]
         rfl
        exact norm_ (by simp only [putAll, Act.put, List.setIfInBounds_toArray, List.set_cons_zero, List.set_cons_succ]) (hCont (v337, .slice Ao27 t340.length co27, v345) _ ⟨hHeld, (by (with_reducible repeat (first | apply Kd.N_alloc | apply Kd.N_drewN | apply Kd.N_drew)); exact HO338.out), (by (with_reducible repeat (first | apply Kd.N_alloc | apply Kd.N_drewN | apply Kd.N_drew)); exact Kd.N_mono HO346.out (fun _ hk => ⟨hk.2, ⟨hk.1.2.1, ⟨hk.1.2.2.1, hk.1.2.2.2⟩⟩⟩)), (by (with_reducible repeat (first | refine blk_drewN ?_ _ | refine blk_drew ?_ | refine blk_alloc ?_ _)); exact BK327.out), (by (with_reducible repeat (first | refine blk_drewN ?_ _ | refine blk_drew ?_ | refine blk_alloc ?_ _)); exact BK328.out), (by (with_reducible repeat (first | refine blk_drewN ?_ _ | refine blk_drew ?_ | refine blk_alloc ?_ _)); exact BK335.out), (by repeat (first | (with_reducible first | exact HB.out | apply below_alloc | apply pw_below_drewN | apply below_drew1 | refine below_set ?_ GE327.out | refine below_set ?_ GE328.out | refine below_set ?_ GE335.out) | exact HB.out)), (by repeat (first | exact HCX.out | (with_reducible refine Kd.C_alloc ?_ _) | (with_reducible refine Kd.C_drewN ?_ _) | (with_reducible refine Kd.C_drew ?_)))⟩)
     rintro ⟨v337, v341, v345⟩ w32 ⟨hS_, h0_, h1_, h2_, h3_, h4_, h5_, hcx_⟩
     have HCX := Aside0.mk hcx_
     clear hcx_
     have n0_ : Aside0 (Kd.N k32 32 w32 w.heap.size (fun k_ => some k_ ≠ (v345 : Value).ownBlock ∧ k_ ≠ gb327 ∧ k_ ≠ gb328 ∧ k_ ≠ gb335) v337 y336) := ⟨h0_⟩
     have n1_ : Aside0 (Kd.N k32 32 w32 w.heap.size (fun k_ => some k_ ≠ (v337 : Value).ownBlock ∧ k_ ≠ gb327 ∧ k_ ≠ gb328 ∧ k_ ≠ gb335) v345 y344) := ⟨h1_⟩
     have n2_ : Aside0 (w32.heap[gb327]? = some (.cells #[.int .i64 a0_0, .int .i64 a0_1, .int .i64 a0_2, .int .i64 a0_3, .int .i64 a0_4, .int .i64 a0_5, .int .i64 a0_6, .int .i64 a0_7] 25 (0, 0))) := ⟨h2_⟩
     have n3_ : Aside0 (w32.heap[gb328]? = some (.cells #[.int .i64 a1_0, .int .i64 a1_1, .int .i64 a1_2, .int .i64 a1_3, .int .i64 a1_4, .int .i64 a1_5, .int .i64 a1_6, .int .i64 a1_7] 25 (0, 0))) := ⟨h3_⟩
     have n4_ : Aside0 (w32.heap[gb335]? = some (.cells #[.bool t330, .slice Ao23 t331.length co23, .string t334] 32 (0, 0))) := ⟨h4_⟩
     have n5_ : Aside0 (Below w.heap.size w w32) := ⟨h5_⟩
     clear HO333
     clear BK327
     clear BK328
     clear BK335
     clear HB
     clear h0_ h1_ h2_ h3_ h4_ h5_
     have HO338 := n0_
     have HO346 := n1_
     have BK327 := n2_
     have BK328 := n3_
     have BK335 := n4_
     have HB := n5_
     clear n0_ n1_ n2_ n3_ n4_ n5_
     have hHeld : w32.cell? ⟨gb335, 0, none⟩ = some (.bool t330) ∧ w32.cell? ⟨gb335, 1, none⟩ = some (.slice Ao23 t331.length co23) ∧ w32.cell? ⟨gb335, 2, none⟩ = some (.string t334) ∧ w32.cell? ⟨gb327, 0, none⟩ = some (.int .i64 a0_0) ∧ w32.cell? ⟨gb327, 1, none⟩ = some (.int .i64 a0_1) ∧ w32.cell? ⟨gb327, 2, none⟩ = some (.int .i64 a0_2) ∧ w32.cell? ⟨gb327, 3, none⟩ = some (.int .i64 a0_3) ∧ w32.cell? ⟨gb327, 4, none⟩ = some (.int .i64 a0_4) ∧ w32.cell? ⟨gb327, 5, none⟩ = some (.int .i64 a0_5) ∧ w32.cell? ⟨gb327, 6, none⟩ = some (.int .i64 a0_6) ∧ w32.cell? ⟨gb327, 7, none⟩ = some (.int .i64 a0_7) := hS_
     obtain ⟨Ao33, co33, eo33⟩ := Kd.N_slice HO338.out
     (first | subst eo33 | (injection eo33 with f1_ f2_ f3_; have f4_ := f1_.symm; have f5_ := f3_.symm; clear f1_ f2_ f3_; subst f4_; subst f5_))
     obtain ⟨Ao34, co34, eo34⟩ := Kd.N_slice HO346.out
     (first | subst eo34 | (injection eo34 with f1_ f2_ f3_; have f4_ := f1_.symm; have f5_ := f3_.symm; clear f1_ f2_ f3_; subst f4_; subst f5_))
     refine norm_ (a' := ?_) ?_ ?_
     rotate_left
     ·simp only [putAll, Act.put, List.setIfInBounds_toArray, List.set_cons_zero, List.set_cons_succ]
      rfl
     refine one_ (i := 5) (N := some 17) #[true, true, true, true, true, true, false] rfl rfl (by kernel_rfl) (by decide) (fun K hK => ?_)
     refine goes_ Try.func19 (by kernel_rfl) rfl #[.slice Ao33 y336.length co33, .slice Ao34 y344.length co34] (by rfl) rfl rfl (by (try simp only [List.map_toArray, List.map_cons, List.map_nil]); first | done | rfl | (simp only [List.length_drop, List.length_take]; rfl)) ?_
     with_reducible refine (swarfref41_Same.calls k _ _ y336 _ _ y344 true _ ?side1 ?side2 ?side3 ?side4 A7.out).mono ?_
     (case side1 => repeat (first | exact (Kd.N_reads' HO338.out).2.2 | (with_reducible refine Kd.C_alloc ?_ _) | (with_reducible refine Kd.C_drewN ?_ _) | (with_reducible refine Kd.C_drew ?_)))
     (case side2 => exact (Kd.N_reads' HO338.out).2.1)
     (case side3 => repeat (first | exact (Kd.N_reads' HO346.out).2.2 | (with_reducible refine Kd.C_alloc ?_ _) | (with_reducible refine Kd.C_drewN ?_ _) | (with_reducible refine Kd.C_drew ?_)))
     (case side4 => exact (Kd.N_reads' HO346.out).2.1)
     rintro e w35 ⟨rfl, hb⟩
     refine ⟨_, rfl, ?_⟩
     have n0_ := Aside0.mk (Kd.N_below (by (with_reducible repeat (first | apply Kd.N_alloc | apply Kd.N_drewN | apply Kd.N_drew)); exact HO338.out) hb)
     have n1_ := Aside0.mk (Kd.N_below (by (with_reducible repeat (first | apply Kd.N_alloc | apply Kd.N_drewN | apply Kd.N_drew)); exact HO346.out) hb)
     have n2_ := Aside0.mk (blk_below (g := gb327) (o := .cells #[.int .i64 a0_0, .int .i64 a0_1, .int .i64 a0_2, .int .i64 a0_3, .int .i64 a0_4, .int .i64 a0_5, .int .i64 a0_6, .int .i64 a0_7] 25 (0, 0)) (by (with_reducible repeat (first | refine blk_drewN ?_ _ | refine blk_drew ?_ | refine blk_alloc ?_ _)); exact BK327.out) hb)
     have n3_ := Aside0.mk (blk_below (g := gb328) (o := .cells #[.int .i64 a1_0, .int .i64 a1_1, .int .i64 a1_2, .int .i64 a1_3, .int .i64 a1_4, .int .i64 a1_5, .int .i64 a1_6, .int .i64 a1_7] 25 (0, 0)) (by (with_reducible repeat (first | refine blk_drewN ?_ _ | refine blk_drew ?_ | refine blk_alloc ?_ _)); exact BK328.out) hb)
     have n4_ := Aside0.mk (blk_below (g := gb335) (o := .cells #[.bool t330, .slice Ao23 t331.length co23, .string t334] 32 (0, 0)) (by (with_reducible repeat (first | refine blk_drewN ?_ _ | refine blk_drew ?_ | refine blk_alloc ?_ _)); exact BK335.out) hb)
     have HCX := Aside0.mk (Kd.C_below (by repeat (first | exact HCX.out | (with_reducible refine Kd.C_alloc ?_ _) | (with_reducible refine Kd.C_drewN ?_ _) | (with_reducible refine Kd.C_drew ?_))) hb)
     have n5_ := Aside0.mk (below_step (by repeat (first | (with_reducible first | exact HB.out | apply below_alloc | apply pw_below_drewN | apply below_drew1 | refine below_set ?_ GE327.out | refine below_set ?_ GE328.out | refine below_set ?_ GE335.out) | exact HB.out)) hb)
     clear HO338
     clear HO346
     clear BK327
     clear BK328
     clear BK335
     clear HB
     have HO338 := n0_
     have HO346 := n1_
     have BK327 := n2_
     have BK328 := n3_
     have BK335 := n4_
     have HB := n5_
     clear n0_ n1_ n2_ n3_ n4_ n5_
     (try clear hb)
     (try clear hb2)
     (try clear hk)
     (try clear hi)
     refine hK.out _ _ ⟨(blk_cell BK335.out 0).trans rfl, (blk_cell BK335.out 1).trans rfl, (blk_cell BK335.out 2).trans rfl, (blk_cell BK327.out 0).trans rfl, (blk_cell BK327.out 1).trans rfl, (blk_cell BK327.out 2).trans rfl, (blk_cell BK327.out 3).trans rfl, (blk_cell BK327.out 4).trans rfl, (blk_cell BK327.out 5).trans rfl, (blk_cell BK327.out 6).trans rfl, (blk_cell BK327.out 7).trans rfl⟩ (fun hHeld => ?_)
     clear hK K
     refine norm_ (a' := ?_) ?_ ?_
     rotate_left
     ·show Act.put _ (some 17) _ = _
      simp only [Act.put, List.setIfInBounds_toArray, List.set_cons_zero, List.set_cons_succ, i64_w, i32_w]
      rfl
     refine pure_ (i := 6) (N := some 18) (v := ?_) (a' := ?_) #[true, true, true, true, true, true, true] rfl rfl (by kernel_rfl) (fun _ _ _ h => h) (Or.inl ⟨by rfl, ?_⟩) ?_ ?_
     rotate_left
     ·intro w'
      go_simp
      with_reducible rfl
     rotate_left
     ·simp only [Act.put, List.setIfInBounds_toArray, List.set_cons_zero, List.set_cons_succ, i64_w, i32_w]
      rfl
     refine done_ (by kernel_rfl) ?_
     have hcz36_0 : w35.cell? ⟨gb328, 0, none⟩ = some (.int .i64 a1_0) := (blk_cell BK328.out 0).trans rfl
     have hcz36_1 : w35.cell? ⟨gb328, 1, none⟩ = some (.int .i64 a1_1) := (blk_cell BK328.out 1).trans rfl
     have hcz36_2 : w35.cell? ⟨gb328, 2, none⟩ = some (.int .i64 a1_2) := (blk_cell BK328.out 2).trans rfl
     have hcz36_3 : w35.cell? ⟨gb328, 3, none⟩ = some (.int .i64 a1_3) := (blk_cell BK328.out 3).trans rfl
     have hcz36_4 : w35.cell? ⟨gb328, 4, none⟩ = some (.int .i64 a1_4) := (blk_cell BK328.out 4).trans rfl
     have hcz36_5 : w35.cell? ⟨gb328, 5, none⟩ = some (.int .i64 a1_5) := (blk_cell BK328.out 5).trans rfl
     have hcz36_6 : w35.cell? ⟨gb328, 6, none⟩ = some (.int .i64 a1_6) := (blk_cell BK328.out 6).trans rfl
     have hcz36_7 : w35.cell? ⟨gb328, 7, none⟩ = some (.int .i64 a1_7) := (blk_cell BK328.out 7).trans rfl
     have hfz36_0 := blk_frozen BK328.out 0
     have hfz36_1 := blk_frozen BK328.out 1
     have hfz36_2 := blk_frozen BK328.out 2
     have hfz36_3 := blk_frozen BK328.out 3
     have hfz36_4 := blk_frozen BK328.out 4
     have hfz36_5 := blk_frozen BK328.out 5
     have hfz36_6 := blk_frozen BK328.out 6
     have hfz36_7 := blk_frozen BK328.out 7
     have hcz37_0 : w35.cell? ⟨gb335, 0, none⟩ = some (.bool t330) := (blk_cell BK335.out 0).trans rfl
     have hcz37_1 : w35.cell? ⟨gb335, 1, none⟩ = some (.slice Ao23 t331.length co23) := (blk_cell BK335.out 1).trans rfl
     have hcz37_2 : w35.cell? ⟨gb335, 2, none⟩ = some (.string t334) := (blk_cell BK335.out 2).trans rfl
     have hfz37_0 := blk_frozen BK335.out 0
     have hfz37_1 := blk_frozen BK335.out 1
     have hfz37_2 := blk_frozen BK335.out 2
     try go_wp2_with (first | ((with_reducible refine gate_callee (f := 21) rfl ?_); refine goesL_ (some 22) rfl rfl Try.func21 (by kernel_rfl) rfl #[.agg #[.int .i64 a1_0, .int .i64 a1_1, .int .i64 a1_2, .int .i64 a1_3, .int .i64 a1_4, .int .i64 a1_5, .int .i64 a1_6, .int .i64 a1_7], .agg #[.bool t330, .slice Ao23 t331.length co23, .string t334]] rfl (by (try simp only [List.map_toArray, List.map_cons, List.map_nil]); first | done | rfl | (simp only [List.length_drop, List.length_take]; rfl)) ?_; (with_reducible refine (modal_Apply.calls k a1_0 a1_1 a1_2 a1_3 a1_4 a1_5 a1_6 a1_7 t330 _ _ t331 t334 t348 t349 t350 t351 t352 t353 t354 t355 t356 _ ?side1 ?side2 A9.out).mono ?_); (case side1 => repeat (first | exact HCX.out | (with_reducible refine Kd.C_alloc ?_ _) | (with_reducible refine Kd.C_drewN ?_ _) | (with_reducible refine Kd.C_drew ?_))); (case side2 => exact HCL.out); rintro e w38 ⟨rfl, hb⟩; refine ⟨_, rfl, ?_⟩; have n0_ := Aside0.mk (Kd.N_below (by (with_reducible repeat (first | apply Kd.N_alloc | apply Kd.N_drewN | apply Kd.N_drew)); exact HO338.out) hb); have n1_ := Aside0.mk (Kd.N_below (by (with_reducible repeat (first | apply Kd.N_alloc | apply Kd.N_drewN | apply Kd.N_drew)); exact HO346.out) hb); have n2_ := Aside0.mk (blk_below (g := gb327) (o := .cells #[.int .i64 a0_0, .int .i64 a0_1, .int .i64 a0_2, .int .i64 a0_3, .int .i64 a0_4, .int .i64 a0_5, .int .i64 a0_6, .int .i64 a0_7] 25 (0, 0)) (by (with_reducible repeat (first | refine blk_drewN ?_ _ | refine blk_drew ?_ | refine blk_alloc ?_ _)); exact BK327.out) hb); have n3_ := Aside0.mk (blk_below (g := gb328) (o := .cells #[.int .i64 a1_0, .int .i64 a1_1, .int .i64 a1_2, .int .i64 a1_3, .int .i64 a1_4, .int .i64 a1_5, .int .i64 a1_6, .int .i64 a1_7] 25 (0, 0)) (by (with_reducible repeat (first | refine blk_drewN ?_ _ | refine blk_drew ?_ | refine blk_alloc ?_ _)); exact BK328.out) hb); have n4_ := Aside0.mk (blk_below (g := gb335) (o := .cells #[.bool t330, .slice Ao23 t331.length co23, .string t334] 32 (0, 0)) (by (with_reducible repeat (first | refine blk_drewN ?_ _ | refine blk_drew ?_ | refine blk_alloc ?_ _)); exact BK335.out) hb); have n5_ := Aside0.mk (below_step (by repeat (first | (with_reducible first | exact HB.out | apply below_alloc | apply pw_below_drewN | apply below_drew1 | refine below_set ?_ GE327.out | refine below_set ?_ GE328.out | refine below_set ?_ GE335.out) | exact HB.out)) hb); clear HO338; clear HO346; clear BK327; clear BK328; clear BK335; clear HB; have HO338 := n0_; have HO346 := n1_; have BK327 := n2_; have BK328 := n3_; have BK335 := n4_; have HB := n5_; clear n0_ n1_ n2_ n3_ n4_ n5_; (try clear hb); (try clear hb2); (try clear hk); (try clear hi)) | ((with_reducible refine gate_dst (N := 6) rfl ?_); refine box_event ?hg (N := 6) ?hd (cs := #[.int .i64 0, .int .i64 0, .int .i64 0, .int .i64 0, .int .i64 0, .int .i64 0, .int .i64 0, .int .i64 0]) (t := 26) ?hr ?_; (case hd => rfl); (case hg => rfl); (case hr => first | (go_simp; done) | (go_simp; rfl)); intro gb357 hg w39 hbox hb; have n0_ := Aside0.mk (Kd.N_below (Kd.N_elderB (by (with_reducible repeat (first | apply Kd.N_alloc | apply Kd.N_drewN | apply Kd.N_drew)); exact HO338.out) gb357 (Nat.le_of_eq hg.symm)) hb); have n1_ := Aside0.mk (Kd.N_below (Kd.N_elderB (by (with_reducible repeat (first | apply Kd.N_alloc | apply Kd.N_drewN | apply Kd.N_drew)); exact HO346.out) gb357 (Nat.le_of_eq hg.symm)) hb); have n2_ := Aside0.mk (blk_below (g := gb327) (o := .cells #[.int .i64 a0_0, .int .i64 a0_1, .int .i64 a0_2, .int .i64 a0_3, .int .i64 a0_4, .int .i64 a0_5, .int .i64 a0_6, .int .i64 a0_7] 25 (0, 0)) (by (with_reducible repeat (first | refine blk_drewN ?_ _ | refine blk_drew ?_ | refine blk_alloc ?_ _)); exact BK327.out) hb); have n3_ := Aside0.mk (blk_below (g := gb328) (o := .cells #[.int .i64 a1_0, .int .i64 a1_1, .int .i64 a1_2, .int .i64 a1_3, .int .i64 a1_4, .int .i64 a1_5, .int .i64 a1_6, .int .i64 a1_7] 25 (0, 0)) (by (with_reducible repeat (first | refine blk_drewN ?_ _ | refine blk_drew ?_ | refine blk_alloc ?_ _)); exact BK328.out) hb); have n4_ := Aside0.mk (blk_below (g := gb335) (o := .cells #[.bool t330, .slice Ao23 t331.length co23, .string t334] 32 (0, 0)) (by (with_reducible repeat (first | refine blk_drewN ?_ _ | refine blk_drew ?_ | refine blk_alloc ?_ _)); exact BK335.out) hb); have n5_ := Aside0.mk (below_step (by repeat (first | (with_reducible first | exact HB.out | apply below_alloc | apply pw_below_drewN | apply below_drew1 | refine below_set ?_ GE327.out | refine below_set ?_ GE328.out | refine below_set ?_ GE335.out) | exact HB.out)) hb); have n6_ := Aside0.mk (hbox); have n7_ := Aside0.mk ((by rw [hg]; exact (below_size (by repeat (first | (with_reducible first | exact HB.out | apply below_alloc | apply pw_below_drewN | apply below_drew1 | refine below_set ?_ GE327.out | refine below_set ?_ GE328.out | refine below_set ?_ GE335.out) | exact HB.out))) : w.heap.size ≤ gb357)); have n8_ := Aside0.mk ((by rw [hg]; exact (below_size (by repeat (first | (with_reducible first | exact HB.out | apply below_alloc | apply pw_below_drewN | apply below_drew1 | refine below_set ?_ GE327.out | refine below_set ?_ GE328.out | refine below_set ?_ GE335.out) | exact HB.out))) : w.heap.size ≤ gb357)); have n9_ := Aside0.mk ((by rw [hg]; exact Nat.ne_of_lt (blk_lt (g := gb327) (o := .cells #[.int .i64 a0_0, .int .i64 a0_1, .int .i64 a0_2, .int .i64 a0_3, .int .i64 a0_4, .int .i64 a0_5, .int .i64 a0_6, .int .i64 a0_7] 25 (0, 0)) (by (with_reducible repeat (first | refine blk_drewN ?_ _ | refine blk_drew ?_ | refine blk_alloc ?_ _)); exact BK327.out)) : gb327 ≠ gb357)); have n10_ := Aside0.mk ((by rw [hg]; exact Nat.ne_of_gt (blk_lt (g := gb327) (o := .cells #[.int .i64 a0_0, .int .i64 a0_1, .int .i64 a0_2, .int .i64 a0_3, .int .i64 a0_4, .int .i64 a0_5, .int .i64 a0_6, .int .i64 a0_7] 25 (0, 0)) (by (with_reducible repeat (first | refine blk_drewN ?_ _ | refine blk_drew ?_ | refine blk_alloc ?_ _)); exact BK327.out)) : gb357 ≠ gb327)); have n11_ := Aside0.mk ((by rw [hg]; exact Nat.ne_of_lt (blk_lt (g := gb328) (o := .cells #[.int .i64 a1_0, .int .i64 a1_1, .int .i64 a1_2, .int .i64 a1_3, .int .i64 a1_4, .int .i64 a1_5, .int .i64 a1_6, .int .i64 a1_7] 25 (0, 0)) (by (with_reducible repeat (first | refine blk_drewN ?_ _ | refine blk_drew ?_ | refine blk_alloc ?_ _)); exact BK328.out)) : gb328 ≠ gb357)); have n12_ := Aside0.mk ((by rw [hg]; exact Nat.ne_of_gt (blk_lt (g := gb328) (o := .cells #[.int .i64 a1_0, .int .i64 a1_1, .int .i64 a1_2, .int .i64 a1_3, .int .i64 a1_4, .int .i64 a1_5, .int .i64 a1_6, .int .i64 a1_7] 25 (0, 0)) (by (with_reducible repeat (first | refine blk_drewN ?_ _ | refine blk_drew ?_ | refine blk_alloc ?_ _)); exact BK328.out)) : gb357 ≠ gb328)); have n13_ := Aside0.mk ((by rw [hg]; exact Nat.ne_of_lt (blk_lt (g := gb335) (o := .cells #[.bool t330, .slice Ao23 t331.length co23, .string t334] 32 (0, 0)) (by (with_reducible repeat (first | refine blk_drewN ?_ _ | refine blk_drew ?_ | refine blk_alloc ?_ _)); exact BK335.out)) : gb335 ≠ gb357)); have n14_ := Aside0.mk ((by rw [hg]; exact Nat.ne_of_gt (blk_lt (g := gb335) (o := .cells #[.bool t330, .slice Ao23 t331.length co23, .string t334] 32 (0, 0)) (by (with_reducible repeat (first | refine blk_drewN ?_ _ | refine blk_drew ?_ | refine blk_alloc ?_ _)); exact BK335.out)) : gb357 ≠ gb335)); clear HO338; clear HO346; clear BK327; clear BK328; clear BK335; clear HB; have HO338 := n0_; have HO346 := n1_; have BK327 := n2_; have BK328 := n3_; have BK335 := n4_; have HB := n5_; have BK357 := n6_; have GW357 := n7_; have GE357 := n8_; have NB327_357 := n9_; have NB357_327 := n10_; have NB328_357 := n11_; have NB357_328 := n12_; have NB335_357 := n13_; have NB357_335 := n14_; clear n0_ n1_ n2_ n3_ n4_ n5_ n6_ n7_ n8_ n9_ n10_ n11_ n12_ n13_ n14_; clear hb hbox hg; have hnb40 := NB357_327.out; have hnc40 := NB327_357.out; have hnb41 := NB357_328.out; have hnc41 := NB328_357.out; have hnb42 := NB357_335.out; have hnc42 := NB335_357.out; have hcz43_0 : w39.cell? ⟨gb357, 0, none⟩ = some (.int .i64 0) := (blk_cell BK357.out 0).trans rfl; have hcz43_1 : w39.cell? ⟨gb357, 1, none⟩ = some (.int .i64 0) := (blk_cell BK357.out 1).trans rfl; have hcz43_2 : w39.cell? ⟨gb357, 2, none⟩ = some (.int .i64 0) := (blk_cell BK357.out 2).trans rfl; have hcz43_3 : w39.cell? ⟨gb357, 3, none⟩ = some (.int .i64 0) := (blk_cell BK357.out 3).trans rfl; have hcz43_4 : w39.cell? ⟨gb357, 4, none⟩ = some (.int .i64 0) := (blk_cell BK357.out 4).trans rfl; have hcz43_5 : w39.cell? ⟨gb357, 5, none⟩ = some (.int .i64 0) := (blk_cell BK357.out 5).trans rfl; have hcz43_6 : w39.cell? ⟨gb357, 6, none⟩ = some (.int .i64 0) := (blk_cell BK357.out 6).trans rfl; have hcz43_7 : w39.cell? ⟨gb357, 7, none⟩ = some (.int .i64 0) := (blk_cell BK357.out 7).trans rfl; have hfz43_0 := blk_frozen BK357.out 0; have hfz43_1 := blk_frozen BK357.out 1; have hfz43_2 := blk_frozen BK357.out 2; have hfz43_3 := blk_frozen BK357.out 3; have hfz43_4 := blk_frozen BK357.out 4; have hfz43_5 := blk_frozen BK357.out 5; have hfz43_6 := blk_frozen BK357.out 6; have hfz43_7 := blk_frozen BK357.out 7; have hcz44_0 : w39.cell? ⟨gb327, 0, none⟩ = some (.int .i64 a0_0) := (blk_cell BK327.out 0).trans rfl; have hcz44_1 : w39.cell? ⟨gb327, 1, none⟩ = some (.int .i64 a0_1) := (blk_cell BK327.out 1).trans rfl; have hcz44_2 : w39.cell? ⟨gb327, 2, none⟩ = some (.int .i64 a0_2) := (blk_cell BK327.out 2).trans rfl; have hcz44_3 : w39.cell? ⟨gb327, 3, none⟩ = some (.int .i64 a0_3) := (blk_cell BK327.out 3).trans rfl; have hcz44_4 : w39.cell? ⟨gb327, 4, none⟩ = some (.int .i64 a0_4) := (blk_cell BK327.out 4).trans rfl; have hcz44_5 : w39.cell? ⟨gb327, 5, none⟩ = some (.int .i64 a0_5) := (blk_cell BK327.out 5).trans rfl; have hcz44_6 : w39.cell? ⟨gb327, 6, none⟩ = some (.int .i64 a0_6) := (blk_cell BK327.out 6).trans rfl; have hcz44_7 : w39.cell? ⟨gb327, 7, none⟩ = some (.int .i64 a0_7) := (blk_cell BK327.out 7).trans rfl; have hfz44_0 := blk_frozen BK327.out 0; have hfz44_1 := blk_frozen BK327.out 1; have hfz44_2 := blk_frozen BK327.out 2; have hfz44_3 := blk_frozen BK327.out 3; have hfz44_4 := blk_frozen BK327.out 4; have hfz44_5 := blk_frozen BK327.out 5; have hfz44_6 := blk_frozen BK327.out 6; have hfz44_7 := blk_frozen BK327.out 7) | ((with_reducible refine gate_callee (f := 22) rfl ?_); refine goesL_ (some 26) rfl rfl Try.func22 (by kernel_rfl) rfl #[.agg #[.int .i64 a0_0, .int .i64 a0_1, .int .i64 a0_2, .int .i64 a0_3, .int .i64 a0_4, .int .i64 a0_5, .int .i64 a0_6, .int .i64 a0_7]] rfl (by (try simp only [List.map_toArray, List.map_cons, List.map_nil]); first | done | rfl | (simp only [List.length_drop, List.length_take]; rfl)) ?_; (with_reducible refine (swarfref42_Regular.calls k a0_0 a0_1 a0_2 a0_3 a0_4 a0_5 a0_6 a0_7 true _ A10.out).mono ?_); rintro e w45 ⟨rfl, hb⟩; refine ⟨_, rfl, ?_⟩; have n0_ := Aside0.mk (Kd.N_below (by (with_reducible repeat (first | apply Kd.N_alloc | apply Kd.N_drewN | apply Kd.N_drew)); exact (Kd.N_mono (Kd.N_far (p := ⟨gb357, 7, none⟩) (Kd.N_far (p := ⟨gb357, 6, none⟩) (Kd.N_far (p := ⟨gb357, 5, none⟩) (Kd.N_far (p := ⟨gb357, 4, none⟩) (Kd.N_far (p := ⟨gb357, 3, none⟩) (Kd.N_far (p := ⟨gb357, 2, none⟩) (Kd.N_far (p := ⟨gb357, 1, none⟩) (Kd.N_far (p := ⟨gb357, 0, none⟩) (Kd.N_mono HO338.out (fun k_ hk => (⟨hk, hk.2⟩ : _ ∧ k_ ≠ gb357))) (fun _ hk => hk.2) (.int .i64 t348)) (fun _ hk => hk.2) (.int .i64 t349)) (fun _ hk => hk.2) (.int .i64 t350)) (fun _ hk => hk.2) (.int .i64 t351)) (fun _ hk => hk.2) (.int .i64 t352)) (fun _ hk => hk.2) (.int .i64 t353)) (fun _ hk => hk.2) (.int .i64 t354)) (fun _ hk => hk.2) (.int .i64 t355)) (fun _ h_ => h_.1))) hb); have n1_ := Aside0.mk (Kd.N_below (by (with_reducible repeat (first | apply Kd.N_alloc | apply Kd.N_drewN | apply Kd.N_drew)); exact (Kd.N_mono (Kd.N_far (p := ⟨gb357, 7, none⟩) (Kd.N_far (p := ⟨gb357, 6, none⟩) (Kd.N_far (p := ⟨gb357, 5, none⟩) (Kd.N_far (p := ⟨gb357, 4, none⟩) (Kd.N_far (p := ⟨gb357, 3, none⟩) (Kd.N_far (p := ⟨gb357, 2, none⟩) (Kd.N_far (p := ⟨gb357, 1, none⟩) (Kd.N_far (p := ⟨gb357, 0, none⟩) (Kd.N_mono HO346.out (fun k_ hk => (⟨hk, hk.2⟩ : _ ∧ k_ ≠ gb357))) (fun _ hk => hk.2) (.int .i64 t348)) (fun _ hk => hk.2) (.int .i64 t349)) (fun _ hk => hk.2) (.int .i64 t350)) (fun _ hk => hk.2) (.int .i64 t351)) (fun _ hk => hk.2) (.int .i64 t352)) (fun _ hk => hk.2) (.int .i64 t353)) (fun _ hk => hk.2) (.int .i64 t354)) (fun _ hk => hk.2) (.int .i64 t355)) (fun _ h_ => h_.1))) hb); have n2_ := Aside0.mk (blk_below (g := gb327) (o := .cells #[.int .i64 a0_0, .int .i64 a0_1, .int .i64 a0_2, .int .i64 a0_3, .int .i64 a0_4, .int .i64 a0_5, .int .i64 a0_6, .int .i64 a0_7] 25 (0, 0)) (by (with_reducible repeat (first | refine blk_drewN ?_ _ | refine blk_drew ?_ | refine blk_alloc ?_ _)); refine blk_far ?_ NB327_357.out _; (with_reducible repeat (first | refine blk_drewN ?_ _ | refine blk_drew ?_ | refine blk_alloc ?_ _)); refine blk_far ?_ NB327_357.out _; (with_reducible repeat (first | refine blk_drewN ?_ _ | refine blk_drew ?_ | refine blk_alloc ?_ _)); refine blk_far ?_ NB327_357.out _; (with_reducible repeat (first | refine blk_drewN ?_ _ | refine blk_drew ?_ | refine blk_alloc ?_ _)); refine blk_far ?_ NB327_357.out _; (with_reducible repeat (first | refine blk_drewN ?_ _ | refine blk_drew ?_ | refine blk_alloc ?_ _)); refine blk_far ?_ NB327_357.out _; (with_reducible repeat (first | refine blk_drewN ?_ _ | refine blk_drew ?_ | refine blk_alloc ?_ _)); refine blk_far ?_ NB327_357.out _; (with_reducible repeat (first | refine blk_drewN ?_ _ | refine blk_drew ?_ | refine blk_alloc ?_ _)); refine blk_far ?_ NB327_357.out _; (with_reducible repeat (first | refine blk_drewN ?_ _ | refine blk_drew ?_ | refine blk_alloc ?_ _)); refine blk_far ?_ NB327_357.out _; (with_reducible repeat (first | refine blk_drewN ?_ _ | refine blk_drew ?_ | refine blk_alloc ?_ _)); exact BK327.out) hb); have n3_ := Aside0.mk (blk_below (g := gb328) (o := .cells #[.int .i64 a1_0, .int .i64 a1_1, .int .i64 a1_2, .int .i64 a1_3, .int .i64 a1_4, .int .i64 a1_5, .int .i64 a1_6, .int .i64 a1_7] 25 (0, 0)) (by (with_reducible repeat (first | refine blk_drewN ?_ _ | refine blk_drew ?_ | refine blk_alloc ?_ _)); refine blk_far ?_ NB328_357.out _; (with_reducible repeat (first | refine blk_drewN ?_ _ | refine blk_drew ?_ | refine blk_alloc ?_ _)); refine blk_far ?_ NB328_357.out _; (with_reducible repeat (first | refine blk_drewN ?_ _ | refine blk_drew ?_ | refine blk_alloc ?_ _)); refine blk_far ?_ NB328_357.out _; (with_reducible repeat (first | refine blk_drewN ?_ _ | refine blk_drew ?_ | refine blk_alloc ?_ _)); refine blk_far ?_ NB328_357.out _; (with_reducible repeat (first | refine blk_drewN ?_ _ | refine blk_drew ?_ | refine blk_alloc ?_ _)); refine blk_far ?_ NB328_357.out _; (with_reducible repeat (first | refine blk_drewN ?_ _ | refine blk_drew ?_ | refine blk_alloc ?_ _)); refine blk_far ?_ NB328_357.out _; (with_reducible repeat (first | refine blk_drewN ?_ _ | refine blk_drew ?_ | refine blk_alloc ?_ _)); refine blk_far ?_ NB328_357.out _; (with_reducible repeat (first | refine blk_drewN ?_ _ | refine blk_drew ?_ | refine blk_alloc ?_ _)); refine blk_far ?_ NB328_357.out _; (with_reducible repeat (first | refine blk_drewN ?_ _ | refine blk_drew ?_ | refine blk_alloc ?_ _)); exact BK328.out) hb); have n4_ := Aside0.mk (blk_below (g := gb335) (o := .cells #[.bool t330, .slice Ao23 t331.length co23, .string t334] 32 (0, 0)) (by (with_reducible repeat (first | refine blk_drewN ?_ _ | refine blk_drew ?_ | refine blk_alloc ?_ _)); refine blk_far ?_ NB335_357.out _; (with_reducible repeat (first | refine blk_drewN ?_ _ | refine blk_drew ?_ | refine blk_alloc ?_ _)); refine blk_far ?_ NB335_357.out _; (with_reducible repeat (first | refine blk_drewN ?_ _ | refine blk_drew ?_ | refine blk_alloc ?_ _)); refine blk_far ?_ NB335_357.out _; (with_reducible repeat (first | refine blk_drewN ?_ _ | refine blk_drew ?_ | refine blk_alloc ?_ _)); refine blk_far ?_ NB335_357.out _; (with_reducible repeat (first | refine blk_drewN ?_ _ | refine blk_drew ?_ | refine blk_alloc ?_ _)); refine blk_far ?_ NB335_357.out _; (with_reducible repeat (first | refine blk_drewN ?_ _ | refine blk_drew ?_ | refine blk_alloc ?_ _)); refine blk_far ?_ NB335_357.out _; (with_reducible repeat (first | refine blk_drewN ?_ _ | refine blk_drew ?_ | refine blk_alloc ?_ _)); refine blk_far ?_ NB335_357.out _; (with_reducible repeat (first | refine blk_drewN ?_ _ | refine blk_drew ?_ | refine blk_alloc ?_ _)); refine blk_far ?_ NB335_357.out _; (with_reducible repeat (first | refine blk_drewN ?_ _ | refine blk_drew ?_ | refine blk_alloc ?_ _)); exact BK335.out) hb); have n5_ := Aside0.mk (blk_below (g := gb357) (o := .cells #[.int .i64 t348, .int .i64 t349, .int .i64 t350, .int .i64 t351, .int .i64 t352, .int .i64 t353, .int .i64 t354, .int .i64 t355] 26 (0, 0)) (by (with_reducible repeat (first | refine blk_drewN ?_ _ | refine blk_drew ?_ | refine blk_alloc ?_ _)); refine blk_put (cs := #[.int .i64 t348, .int .i64 t349, .int .i64 t350, .int .i64 t351, .int .i64 t352, .int .i64 t353, .int .i64 t354, .int .i64 0]) ?_ 7 _ rfl; (with_reducible repeat (first | refine blk_drewN ?_ _ | refine blk_drew ?_ | refine blk_alloc ?_ _)); refine blk_put (cs := #[.int .i64 t348, .int .i64 t349, .int .i64 t350, .int .i64 t351, .int .i64 t352, .int .i64 t353, .int .i64 0, .int .i64 0]) ?_ 6 _ rfl; (with_reducible repeat (first | refine blk_drewN ?_ _ | refine blk_drew ?_ | refine blk_alloc ?_ _)); refine blk_put (cs := #[.int .i64 t348, .int .i64 t349, .int .i64 t350, .int .i64 t351, .int .i64 t352, .int .i64 0, .int .i64 0, .int .i64 0]) ?_ 5 _ rfl; (with_reducible repeat (first | refine blk_drewN ?_ _ | refine blk_drew ?_ | refine blk_alloc ?_ _)); refine blk_put (cs := #[.int .i64 t348, .int .i64 t349, .int .i64 t350, .int .i64 t351, .int .i64 0, .int .i64 0, .int .i64 0, .int .i64 0]) ?_ 4 _ rfl; (with_reducible repeat (first | refine blk_drewN ?_ _ | refine blk_drew ?_ | refine blk_alloc ?_ _)); refine blk_put (cs := #[.int .i64 t348, .int .i64 t349, .int .i64 t350, .int .i64 0, .int .i64 0, .int .i64 0, .int .i64 0, .int .i64 0]) ?_ 3 _ rfl; (with_reducible repeat (first | refine blk_drewN ?_ _ | refine blk_drew ?_ | refine blk_alloc ?_ _)); refine blk_put (cs := #[.int .i64 t348, .int .i64 t349, .int .i64 0, .int .i64 0, .int .i64 0, .int .i64 0, .int .i64 0, .int .i64 0]) ?_ 2 _ rfl; (with_reducible repeat (first | refine blk_drewN ?_ _ | refine blk_drew ?_ | refine blk_alloc ?_ _)); refine blk_put (cs := #[.int .i64 t348, .int .i64 0, .int .i64 0, .int .i64 0, .int .i64 0, .int .i64 0, .int .i64 0, .int .i64 0]) ?_ 1 _ rfl; (with_reducible repeat (first | refine blk_drewN ?_ _ | refine blk_drew ?_ | refine blk_alloc ?_ _)); refine blk_put (cs := #[.int .i64 0, .int .i64 0, .int .i64 0, .int .i64 0, .int .i64 0, .int .i64 0, .int .i64 0, .int .i64 0]) ?_ 0 _ rfl; (with_reducible repeat (first | refine blk_drewN ?_ _ | refine blk_drew ?_ | refine blk_alloc ?_ _)); exact BK357.out) hb); have n6_ := Aside0.mk (below_step (by repeat (first | (with_reducible first | exact HB.out | apply below_alloc | apply pw_below_drewN | apply below_drew1 | refine below_set ?_ GE327.out | refine below_set ?_ GE328.out | refine below_set ?_ GE335.out | refine below_set ?_ GE357.out) | exact HB.out)) hb); clear HO338; clear HO346; clear BK327; clear BK328; clear BK335; clear BK357; clear HB; have HO338 := n0_; have HO346 := n1_; have BK327 := n2_; have BK328 := n3_; have BK335 := n4_; have BK357 := n5_; have HB := n6_; clear n0_ n1_ n2_ n3_ n4_ n5_ n6_; (try clear hb); (try clear hb2); (try clear hk); (try clear hi); have hcz46_0 : w45.cell? ⟨gb357, 0, none⟩ = some (.int .i64 t348) := (blk_cell BK357.out 0).trans rfl; have hcz46_1 : w45.cell? ⟨gb357, 1, none⟩ = some (.int .i64 t349) := (blk_cell BK357.out 1).trans rfl; have hcz46_2 : w45.cell? ⟨gb357, 2, none⟩ = some (.int .i64 t350) := (blk_cell BK357.out 2).trans rfl; have hcz46_3 : w45.cell? ⟨gb357, 3, none⟩ = some (.int .i64 t351) := (blk_cell BK357.out 3).trans rfl; have hcz46_4 : w45.cell? ⟨gb357, 4, none⟩ = some (.int .i64 t352) := (blk_cell BK357.out 4).trans rfl; have hcz46_5 : w45.cell? ⟨gb357, 5, none⟩ = some (.int .i64 t353) := (blk_cell BK357.out 5).trans rfl; have hcz46_6 : w45.cell? ⟨gb357, 6, none⟩ = some (.int .i64 t354) := (blk_cell BK357.out 6).trans rfl; have hcz46_7 : w45.cell? ⟨gb357, 7, none⟩ = some (.int .i64 t355) := (blk_cell BK357.out 7).trans rfl; have hfz46_0 := blk_frozen BK357.out 0; have hfz46_1 := blk_frozen BK357.out 1; have hfz46_2 := blk_frozen BK357.out 2; have hfz46_3 := blk_frozen BK357.out 3; have hfz46_4 := blk_frozen BK357.out 4; have hfz46_5 := blk_frozen BK357.out 5; have hfz46_6 := blk_frozen BK357.out 6; have hfz46_7 := blk_frozen BK357.out 7; have hcz47_0 : w45.cell? ⟨gb327, 0, none⟩ = some (.int .i64 a0_0) := (blk_cell BK327.out 0).trans rfl; have hcz47_1 : w45.cell? ⟨gb327, 1, none⟩ = some (.int .i64 a0_1) := (blk_cell BK327.out 1).trans rfl; have hcz47_2 : w45.cell? ⟨gb327, 2, none⟩ = some (.int .i64 a0_2) := (blk_cell BK327.out 2).trans rfl; have hcz47_3 : w45.cell? ⟨gb327, 3, none⟩ = some (.int .i64 a0_3) := (blk_cell BK327.out 3).trans rfl; have hcz47_4 : w45.cell? ⟨gb327, 4, none⟩ = some (.int .i64 a0_4) := (blk_cell BK327.out 4).trans rfl; have hcz47_5 : w45.cell? ⟨gb327, 5, none⟩ = some (.int .i64 a0_5) := (blk_cell BK327.out 5).trans rfl; have hcz47_6 : w45.cell? ⟨gb327, 6, none⟩ = some (.int .i64 a0_6) := (blk_cell BK327.out 6).trans rfl; have hcz47_7 : w45.cell? ⟨gb327, 7, none⟩ = some (.int .i64 a0_7) := (blk_cell BK327.out 7).trans rfl; have hfz47_0 := blk_frozen BK327.out 0; have hfz47_1 := blk_frozen BK327.out 1; have hfz47_2 := blk_frozen BK327.out 2; have hfz47_3 := blk_frozen BK327.out 3; have hfz47_4 := blk_frozen BK327.out 4; have hfz47_5 := blk_frozen BK327.out 5; have hfz47_6 := blk_frozen BK327.out 6; have hfz47_7 := blk_frozen BK327.out 7))
     go_ret
     exact ⟨by first | rfl | (simp [errW_none, errW_some] <;> rfl) | (simp [*, errW_none, errW_some] <;> rfl), by repeat (first | (with_reducible first | exact HB.out | apply below_alloc | apply pw_below_drewN | apply below_drew1 | refine below_set ?_ GE327.out | refine below_set ?_ GE328.out | refine below_set ?_ GE335.out | refine below_set ?_ GE357.out) | exact HB.out)⟩
    ·rw [if_neg c12] at H
     exact absurd H (by simp)
   ·replace c11 := Bool.eq_false_iff.mpr c11
    subst c11
    have H1 : (some true) = some r := by rw [if_neg (show ¬ (false = true) by decide)] at H; exact H
    clear H
    have H := H1
    clear H1
    obtain rfl := Option.some.inj H
    go_enter Try.func4, Try.ntmps4
    try go_wp2_with (first | ((with_reducible refine gate_dst (N := 2) rfl ?_); refine box_event ?hg (N := 2) ?hd (cs := #[.int .i64 a0_0, .int .i64 a0_1, .int .i64 a0_2, .int .i64 a0_3, .int .i64 a0_4, .int .i64 a0_5, .int .i64 a0_6, .int .i64 a0_7]) (t := 25) ?hr ?_; (case hd => rfl); (case hg => rfl); (case hr => first | (go_simp; done) | (go_simp; rfl)); intro gb327 hg w48 hbox hb; have n0_ := Aside0.mk (below_step (by repeat (first | (with_reducible first | exact HB.out | apply below_alloc | apply pw_below_drewN | apply below_drew1) | exact HB.out)) hb); have n1_ := Aside0.mk (hbox); have n2_ := Aside0.mk ((by rw [hg]; exact (below_size (by repeat (first | (with_reducible first | exact HB.out | apply below_alloc | apply pw_below_drewN | apply below_drew1) | exact HB.out))) : w.heap.size ≤ gb327)); have n3_ := Aside0.mk ((by rw [hg]; exact (below_size (by repeat (first | (with_reducible first | exact HB.out | apply below_alloc | apply pw_below_drewN | apply below_drew1) | exact HB.out))) : w.heap.size ≤ gb327)); clear HB; have HB := n0_; have BK327 := n1_; have GW327 := n2_; have GE327 := n3_; clear n0_ n1_ n2_ n3_; clear hb hbox hg) | ((with_reducible refine gate_dst (N := 3) rfl ?_); refine box_event ?hg (N := 3) ?hd (cs := #[.int .i64 a1_0, .int .i64 a1_1, .int .i64 a1_2, .int .i64 a1_3, .int .i64 a1_4, .int .i64 a1_5, .int .i64 a1_6, .int .i64 a1_7]) (t := 25) ?hr ?_; (case hd => rfl); (case hg => rfl); (case hr => first | (go_simp; done) | (go_simp; rfl)); intro gb328 hg w49 hbox hb; have n0_ := Aside0.mk (blk_below (g := gb327) (o := .cells #[.int .i64 a0_0, .int .i64 a0_1, .int .i64 a0_2, .int .i64 a0_3, .int .i64 a0_4, .int .i64 a0_5, .int .i64 a0_6, .int .i64 a0_7] 25 (0, 0)) (by (with_reducible repeat (first | refine blk_drewN ?_ _ | refine blk_drew ?_ | refine blk_alloc ?_ _)); exact BK327.out) hb); have n1_ := Aside0.mk (below_step (by repeat (first | (with_reducible first | exact HB.out | apply below_alloc | apply pw_below_drewN | apply below_drew1 | refine below_set ?_ GE327.out) | exact HB.out)) hb); have n2_ := Aside0.mk (hbox); have n3_ := Aside0.mk ((by rw [hg]; exact (below_size (by repeat (first | (with_reducible first | exact HB.out | apply below_alloc | apply pw_below_drewN | apply below_drew1 | refine below_set ?_ GE327.out) | exact HB.out))) : w.heap.size ≤ gb328)); have n4_ := Aside0.mk ((by rw [hg]; exact (below_size (by repeat (first | (with_reducible first | exact HB.out | apply below_alloc | apply pw_below_drewN | apply below_drew1 | refine below_set ?_ GE327.out) | exact HB.out))) : w.heap.size ≤ gb328)); have n5_ := Aside0.mk ((by rw [hg]; exact Nat.ne_of_lt (blk_lt (g := gb327) (o := .cells #[.int .i64 a0_0, .int .i64 a0_1, .int .i64 a0_2, .int .i64 a0_3, .int .i64 a0_4, .int .i64 a0_5, .int .i64 a0_6, .int .i64 a0_7] 25 (0, 0)) (by (with_reducible repeat (first | refine blk_drewN ?_ _ | refine blk_drew ?_ | refine blk_alloc ?_ _)); exact BK327.out)) : gb327 ≠ gb328)); have n6_ := Aside0.mk ((by rw [hg]; exact Nat.ne_of_gt (blk_lt (g := gb327) (o := .cells #[.int .i64 a0_0, .int .i64 a0_1, .int .i64 a0_2, .int .i64 a0_3, .int .i64 a0_4, .int .i64 a0_5, .int .i64 a0_6, .int .i64 a0_7] 25 (0, 0)) (by (with_reducible repeat (first | refine blk_drewN ?_ _ | refine blk_drew ?_ | refine blk_alloc ?_ _)); exact BK327.out)) : gb328 ≠ gb327)); clear BK327; clear HB; have BK327 := n0_; have HB := n1_; have BK328 := n2_; have GW328 := n3_; have GE328 := n4_; have NB327_328 := n5_; have NB328_327 := n6_; clear n0_ n1_ n2_ n3_ n4_ n5_ n6_; clear hb hbox hg) | ((with_reducible refine gate_callee (f := 13) rfl ?_); refine goesL_ (some 8) rfl rfl Try.func13 (by kernel_rfl) rfl #[] rfl (by (try simp only [List.map_toArray, List.map_cons, List.map_nil]); first | done | rfl | (simp only [List.length_drop, List.length_take]; rfl)) ?_; (with_reducible refine (swarflaw42_awake.calls k  true _ A3.out).mono ?_); rintro e w50 ⟨rfl, hb⟩; refine ⟨_, rfl, ?_⟩; have n0_ := Aside0.mk (blk_below (g := gb327) (o := .cells #[.int .i64 a0_0, .int .i64 a0_1, .int .i64 a0_2, .int .i64 a0_3, .int .i64 a0_4, .int .i64 a0_5, .int .i64 a0_6, .int .i64 a0_7] 25 (0, 0)) (by (with_reducible repeat (first | refine blk_drewN ?_ _ | refine blk_drew ?_ | refine blk_alloc ?_ _)); exact BK327.out) hb); have n1_ := Aside0.mk (blk_below (g := gb328) (o := .cells #[.int .i64 a1_0, .int .i64 a1_1, .int .i64 a1_2, .int .i64 a1_3, .int .i64 a1_4, .int .i64 a1_5, .int .i64 a1_6, .int .i64 a1_7] 25 (0, 0)) (by (with_reducible repeat (first | refine blk_drewN ?_ _ | refine blk_drew ?_ | refine blk_alloc ?_ _)); exact BK328.out) hb); have n2_ := Aside0.mk (below_step (by repeat (first | (with_reducible first | exact HB.out | apply below_alloc | apply pw_below_drewN | apply below_drew1 | refine below_set ?_ GE327.out | refine below_set ?_ GE328.out) | exact HB.out)) hb); clear BK327; clear BK328; clear HB; have BK327 := n0_; have BK328 := n1_; have HB := n2_; clear n0_ n1_ n2_; (try clear hb); (try clear hb2); (try clear hk); (try clear hi); have hnb51 := NB327_328.out; have hnc51 := NB328_327.out; have hcz52_0 : w50.cell? ⟨gb327, 0, none⟩ = some (.int .i64 a0_0) := (blk_cell BK327.out 0).trans rfl; have hcz52_1 : w50.cell? ⟨gb327, 1, none⟩ = some (.int .i64 a0_1) := (blk_cell BK327.out 1).trans rfl; have hcz52_2 : w50.cell? ⟨gb327, 2, none⟩ = some (.int .i64 a0_2) := (blk_cell BK327.out 2).trans rfl; have hcz52_3 : w50.cell? ⟨gb327, 3, none⟩ = some (.int .i64 a0_3) := (blk_cell BK327.out 3).trans rfl; have hcz52_4 : w50.cell? ⟨gb327, 4, none⟩ = some (.int .i64 a0_4) := (blk_cell BK327.out 4).trans rfl; have hcz52_5 : w50.cell? ⟨gb327, 5, none⟩ = some (.int .i64 a0_5) := (blk_cell BK327.out 5).trans rfl; have hcz52_6 : w50.cell? ⟨gb327, 6, none⟩ = some (.int .i64 a0_6) := (blk_cell BK327.out 6).trans rfl; have hcz52_7 : w50.cell? ⟨gb327, 7, none⟩ = some (.int .i64 a0_7) := (blk_cell BK327.out 7).trans rfl; have hfz52_0 := blk_frozen BK327.out 0; have hfz52_1 := blk_frozen BK327.out 1; have hfz52_2 := blk_frozen BK327.out 2; have hfz52_3 := blk_frozen BK327.out 3; have hfz52_4 := blk_frozen BK327.out 4; have hfz52_5 := blk_frozen BK327.out 5; have hfz52_6 := blk_frozen BK327.out 6; have hfz52_7 := blk_frozen BK327.out 7) | ((with_reducible refine gate_callee (f := 18) rfl ?_); refine goesL_ (some 11) rfl rfl Try.func18 (by kernel_rfl) rfl #[.agg #[.int .i64 a0_0, .int .i64 a0_1, .int .i64 a0_2, .int .i64 a0_3, .int .i64 a0_4, .int .i64 a0_5, .int .i64 a0_6, .int .i64 a0_7]] rfl (by (try simp only [List.map_toArray, List.map_cons, List.map_nil]); first | done | rfl | (simp only [List.length_drop, List.length_take]; rfl)) ?_; (with_reducible refine (modal_Line.calls k a0_0 a0_1 a0_2 a0_3 a0_4 a0_5 a0_6 a0_7 t330 t331 t334 _ A5.out).mono ?_); rintro e w53 ⟨v332, rfl, ho0, hb⟩; refine ⟨_, rfl, ?_⟩; have n0_ := Aside0.mk (Kd.R_lower ho0 (below_size (by repeat (first | (with_reducible first | exact HB.out | apply below_alloc | apply pw_below_drewN | apply below_drew1 | refine below_set ?_ GE327.out | refine below_set ?_ GE328.out) | exact HB.out)))); have n1_ := Aside0.mk (blk_below (g := gb327) (o := .cells #[.int .i64 a0_0, .int .i64 a0_1, .int .i64 a0_2, .int .i64 a0_3, .int .i64 a0_4, .int .i64 a0_5, .int .i64 a0_6, .int .i64 a0_7] 25 (0, 0)) (by (with_reducible repeat (first | refine blk_drewN ?_ _ | refine blk_drew ?_ | refine blk_alloc ?_ _)); exact BK327.out) hb); have n2_ := Aside0.mk (blk_below (g := gb328) (o := .cells #[.int .i64 a1_0, .int .i64 a1_1, .int .i64 a1_2, .int .i64 a1_3, .int .i64 a1_4, .int .i64 a1_5, .int .i64 a1_6, .int .i64 a1_7] 25 (0, 0)) (by (with_reducible repeat (first | refine blk_drewN ?_ _ | refine blk_drew ?_ | refine blk_alloc ?_ _)); exact BK328.out) hb); have n3_ := Aside0.mk (below_step (by repeat (first | (with_reducible first | exact HB.out | apply below_alloc | apply pw_below_drewN | apply below_drew1 | refine below_set ?_ GE327.out | refine below_set ?_ GE328.out) | exact HB.out)) hb); clear BK327; clear BK328; clear HB; have HO333 := n0_; have BK327 := n1_; have BK328 := n2_; have HB := n3_; clear n0_ n1_ n2_ n3_; (try clear hb); (try clear hb2); (try clear hk); (try clear hi); (try clear ho0)) | ((with_reducible refine gate_dst (N := 5) rfl ?_); refine box_event ?hg (N := 5) ?hd (cs := #[.bool false, .slice none 0 0, .string (⟨#[]⟩ : ByteArray)]) (t := 32) ?hr ?_; (case hd => rfl); (case hg => rfl); (case hr => first | (go_simp; done) | (go_simp; rfl)); intro gb335 hg w54 hbox hb; have n0_ := Aside0.mk (Kd.R_below (by (with_reducible repeat (first | apply Kd.R_alloc | apply Kd.R_drewN | apply Kd.R_drew)); exact HO333.out) hb); have n1_ := Aside0.mk (blk_below (g := gb327) (o := .cells #[.int .i64 a0_0, .int .i64 a0_1, .int .i64 a0_2, .int .i64 a0_3, .int .i64 a0_4, .int .i64 a0_5, .int .i64 a0_6, .int .i64 a0_7] 25 (0, 0)) (by (with_reducible repeat (first | refine blk_drewN ?_ _ | refine blk_drew ?_ | refine blk_alloc ?_ _)); exact BK327.out) hb); have n2_ := Aside0.mk (blk_below (g := gb328) (o := .cells #[.int .i64 a1_0, .int .i64 a1_1, .int .i64 a1_2, .int .i64 a1_3, .int .i64 a1_4, .int .i64 a1_5, .int .i64 a1_6, .int .i64 a1_7] 25 (0, 0)) (by (with_reducible repeat (first | refine blk_drewN ?_ _ | refine blk_drew ?_ | refine blk_alloc ?_ _)); exact BK328.out) hb); have n3_ := Aside0.mk (below_step (by repeat (first | (with_reducible first | exact HB.out | apply below_alloc | apply pw_below_drewN | apply below_drew1 | refine below_set ?_ GE327.out | refine below_set ?_ GE328.out) | exact HB.out)) hb); have n4_ := Aside0.mk (hbox); have n5_ := Aside0.mk ((by rw [hg]; exact (below_size (by repeat (first | (with_reducible first | exact HB.out | apply below_alloc | apply pw_below_drewN | apply below_drew1 | refine below_set ?_ GE327.out | refine below_set ?_ GE328.out) | exact HB.out))) : w.heap.size ≤ gb335)); have n6_ := Aside0.mk ((by rw [hg]; exact (below_size (by repeat (first | (with_reducible first | exact HB.out | apply below_alloc | apply pw_below_drewN | apply below_drew1 | refine below_set ?_ GE327.out | refine below_set ?_ GE328.out) | exact HB.out))) : w.heap.size ≤ gb335)); have n7_ := Aside0.mk ((by rw [hg]; exact Nat.ne_of_lt (blk_lt (g := gb327) (o := .cells #[.int .i64 a0_0, .int .i64 a0_1, .int .i64 a0_2, .int .i64 a0_3, .int .i64 a0_4, .int .i64 a0_5, .int .i64 a0_6, .int .i64 a0_7] 25 (0, 0)) (by (with_reducible repeat (first | refine blk_drewN ?_ _ | refine blk_drew ?_ | refine blk_alloc ?_ _)); exact BK327.out)) : gb327 ≠ gb335)); have n8_ := Aside0.mk ((by rw [hg]; exact Nat.ne_of_gt (blk_lt (g := gb327) (o := .cells #[.int .i64 a0_0, .int .i64 a0_1, .int .i64 a0_2, .int .i64 a0_3, .int .i64 a0_4, .int .i64 a0_5, .int .i64 a0_6, .int .i64 a0_7] 25 (0, 0)) (by (with_reducible repeat (first | refine blk_drewN ?_ _ | refine blk_drew ?_ | refine blk_alloc ?_ _)); exact BK327.out)) : gb335 ≠ gb327)); have n9_ := Aside0.mk ((by rw [hg]; exact Nat.ne_of_lt (blk_lt (g := gb328) (o := .cells #[.int .i64 a1_0, .int .i64 a1_1, .int .i64 a1_2, .int .i64 a1_3, .int .i64 a1_4, .int .i64 a1_5, .int .i64 a1_6, .int .i64 a1_7] 25 (0, 0)) (by (with_reducible repeat (first | refine blk_drewN ?_ _ | refine blk_drew ?_ | refine blk_alloc ?_ _)); exact BK328.out)) : gb328 ≠ gb335)); have n10_ := Aside0.mk ((by rw [hg]; exact Nat.ne_of_gt (blk_lt (g := gb328) (o := .cells #[.int .i64 a1_0, .int .i64 a1_1, .int .i64 a1_2, .int .i64 a1_3, .int .i64 a1_4, .int .i64 a1_5, .int .i64 a1_6, .int .i64 a1_7] 25 (0, 0)) (by (with_reducible repeat (first | refine blk_drewN ?_ _ | refine blk_drew ?_ | refine blk_alloc ?_ _)); exact BK328.out)) : gb335 ≠ gb328)); clear HO333; clear BK327; clear BK328; clear HB; have HO333 := n0_; have BK327 := n1_; have BK328 := n2_; have HB := n3_; have BK335 := n4_; have GW335 := n5_; have GE335 := n6_; have NB327_335 := n7_; have NB335_327 := n8_; have NB328_335 := n9_; have NB335_328 := n10_; clear n0_ n1_ n2_ n3_ n4_ n5_ n6_ n7_ n8_ n9_ n10_; clear hb hbox hg; have hnb55 := NB335_327.out; have hnc55 := NB327_335.out; have hnb56 := NB335_328.out; have hnc56 := NB328_335.out; have hcz57_0 : w54.cell? ⟨gb335, 0, none⟩ = some (.bool false) := (blk_cell BK335.out 0).trans rfl; have hcz57_1 : w54.cell? ⟨gb335, 1, none⟩ = some (.slice none 0 0) := (blk_cell BK335.out 1).trans rfl; have hcz57_2 : w54.cell? ⟨gb335, 2, none⟩ = some (.string (⟨#[]⟩ : ByteArray)) := (blk_cell BK335.out 2).trans rfl; have hfz57_0 := blk_frozen BK335.out 0; have hfz57_1 := blk_frozen BK335.out 1; have hfz57_2 := blk_frozen BK335.out 2; obtain ⟨Ao58, co58, eo58⟩ := Kd.R_slice HO333.out; subst eo58))
    have n0_ : Aside0 (Kd.R k78 78 (((w54.setCell ⟨gb335, 0, none⟩ (.bool t330)).setCell ⟨gb335, 1, none⟩ (.slice Ao58 t331.length co58)).setCell ⟨gb335, 2, none⟩ (.string t334)) w.heap.size (fun _ => True) (.slice Ao58 t331.length co58) t331) := ⟨by (with_reducible repeat (first | apply Kd.R_alloc | apply Kd.R_drewN | apply Kd.R_drew)); exact Kd.R_mono (Kd.R_far (p := ⟨gb335, 2, none⟩) (Kd.R_far (p := ⟨gb335, 1, none⟩) (Kd.R_far (p := ⟨gb335, 0, none⟩) (Kd.R_types HO333.out BK335.out (by decide)) (fun _ hk => hk.2) (.bool t330)) (fun _ hk => hk.2) (.slice Ao58 t331.length co58)) (fun _ hk => hk.2) (.string t334)) (fun _ hk => trivial)⟩
    have n1_ : Aside0 ((((w54.setCell ⟨gb335, 0, none⟩ (.bool t330)).setCell ⟨gb335, 1, none⟩ (.slice Ao58 t331.length co58)).setCell ⟨gb335, 2, none⟩ (.string t334)).heap[gb327]? = some (.cells #[.int .i64 a0_0, .int .i64 a0_1, .int .i64 a0_2, .int .i64 a0_3, .int .i64 a0_4, .int .i64 a0_5, .int .i64 a0_6, .int .i64 a0_7] 25 (0, 0))) := ⟨by (with_reducible repeat (first | refine blk_drewN ?_ _ | refine blk_drew ?_ | refine blk_alloc ?_ _)); refine blk_far ?_ NB327_335.out _; (with_reducible repeat (first | refine blk_drewN ?_ _ | refine blk_drew ?_ | refine blk_alloc ?_ _)); refine blk_far ?_ NB327_335.out _; (with_reducible repeat (first | refine blk_drewN ?_ _ | refine blk_drew ?_ | refine blk_alloc ?_ _)); refine blk_far ?_ NB327_335.out _; (with_reducible repeat (first | refine blk_drewN ?_ _ | refine blk_drew ?_ | refine blk_alloc ?_ _)); exact BK327.out⟩
    have n2_ : Aside0 ((((w54.setCell ⟨gb335, 0, none⟩ (.bool t330)).setCell ⟨gb335, 1, none⟩ (.slice Ao58 t331.length co58)).setCell ⟨gb335, 2, none⟩ (.string t334)).heap[gb328]? = some (.cells #[.int .i64 a1_0, .int .i64 a1_1, .int .i64 a1_2, .int .i64 a1_3, .int .i64 a1_4, .int .i64 a1_5, .int .i64 a1_6, .int .i64 a1_7] 25 (0, 0))) := ⟨by (with_reducible repeat (first | refine blk_drewN ?_ _ | refine blk_drew ?_ | refine blk_alloc ?_ _)); refine blk_far ?_ NB328_335.out _; (with_reducible repeat (first | refine blk_drewN ?_ _ | refine blk_drew ?_ | refine blk_alloc ?_ _)); refine blk_far ?_ NB328_335.out _; (with_reducible repeat (first | refine blk_drewN ?_ _ | refine blk_drew ?_ | refine blk_alloc ?_ _)); refine blk_far ?_ NB328_335.out _; (with_reducible repeat (first | refine blk_drewN ?_ _ | refine blk_drew ?_ | refine blk_alloc ?_ _)); exact BK328.out⟩
    have n3_ : Aside0 ((((w54.setCell ⟨gb335, 0, none⟩ (.bool t330)).setCell ⟨gb335, 1, none⟩ (.slice Ao58 t331.length co58)).setCell ⟨gb335, 2, none⟩ (.string t334)).heap[gb335]? = some (.cells #[.bool t330, .slice Ao58 t331.length co58, .string t334] 32 (0, 0))) := ⟨by (with_reducible repeat (first | refine blk_drewN ?_ _ | refine blk_drew ?_ | refine blk_alloc ?_ _)); refine blk_put (cs := #[.bool t330, .slice Ao58 t331.length co58, .string (⟨#[]⟩ : ByteArray)]) ?_ 2 _ rfl; (with_reducible repeat (first | refine blk_drewN ?_ _ | refine blk_drew ?_ | refine blk_alloc ?_ _)); refine blk_put (cs := #[.bool t330, .slice none 0 0, .string (⟨#[]⟩ : ByteArray)]) ?_ 1 _ rfl; (with_reducible repeat (first | refine blk_drewN ?_ _ | refine blk_drew ?_ | refine blk_alloc ?_ _)); refine blk_put (cs := #[.bool false, .slice none 0 0, .string (⟨#[]⟩ : ByteArray)]) ?_ 0 _ rfl; (with_reducible repeat (first | refine blk_drewN ?_ _ | refine blk_drew ?_ | refine blk_alloc ?_ _)); exact BK335.out⟩
    have n4_ : Aside0 (Below w.heap.size w (((w54.setCell ⟨gb335, 0, none⟩ (.bool t330)).setCell ⟨gb335, 1, none⟩ (.slice Ao58 t331.length co58)).setCell ⟨gb335, 2, none⟩ (.string t334))) := ⟨by repeat (first | (with_reducible first | exact HB.out | apply below_alloc | apply pw_below_drewN | apply below_drew1 | refine below_set ?_ GE327.out | refine below_set ?_ GE328.out | refine below_set ?_ GE335.out) | exact HB.out)⟩
    (try clear HO333)
    (try clear BK327)
    (try clear BK328)
    (try clear BK335)
    (try clear HB)
    generalize (((w54.setCell ⟨gb335, 0, none⟩ (.bool t330)).setCell ⟨gb335, 1, none⟩ (.slice Ao58 t331.length co58)).setCell ⟨gb335, 2, none⟩ (.string t334)) = w59 at n0_ n1_ n2_ n3_ n4_ ⊢
    have HO333 := n0_
    have BK327 := n1_
    have BK328 := n2_
    have BK335 := n3_
    have HB := n4_
    clear n0_ n1_ n2_ n3_ n4_
    have n0_ := Aside0.mk (Kd.R_drew HO333.out)
    have n1_ := Aside0.mk (blk_drew BK327.out)
    have n2_ := Aside0.mk (blk_drew BK328.out)
    have n3_ := Aside0.mk (blk_drew BK335.out)
    have n4_ := Aside0.mk (below_drew1 HB.out)
    clear HO333
    clear BK327
    clear BK328
    clear BK335
    clear HB
    have HO333 := n0_
    have BK327 := n1_
    have BK328 := n2_
    have BK335 := n3_
    have HB := n4_
    clear n0_ n1_ n2_ n3_ n4_
    refine start_ (n := 7) (S := fun w' => w'.cell? ⟨gb335, 0, none⟩ = some (.bool t330) ∧ w'.cell? ⟨gb335, 1, none⟩ = some (.slice Ao58 t331.length co58) ∧ w'.cell? ⟨gb335, 2, none⟩ = some (.string t334) ∧ w'.cell? ⟨gb327, 0, none⟩ = some (.int .i64 a0_0) ∧ w'.cell? ⟨gb327, 1, none⟩ = some (.int .i64 a0_1) ∧ w'.cell? ⟨gb327, 2, none⟩ = some (.int .i64 a0_2) ∧ w'.cell? ⟨gb327, 3, none⟩ = some (.int .i64 a0_3) ∧ w'.cell? ⟨gb327, 4, none⟩ = some (.int .i64 a0_4) ∧ w'.cell? ⟨gb327, 5, none⟩ = some (.int .i64 a0_5) ∧ w'.cell? ⟨gb327, 6, none⟩ = some (.int .i64 a0_6) ∧ w'.cell? ⟨gb327, 7, none⟩ = some (.int .i64 a0_7)) (ds := []) #[false, false, false, false, false, false, false] (by kernel_rfl) rfl rfl ⟨(blk_cell BK335.out 0).trans rfl, (blk_cell BK335.out 1).trans rfl, (blk_cell BK335.out 2).trans rfl, (blk_cell BK327.out 0).trans rfl, (blk_cell BK327.out 1).trans rfl, (blk_cell BK327.out 2).trans rfl, (blk_cell BK327.out 3).trans rfl, (blk_cell BK327.out 4).trans rfl, (blk_cell BK327.out 5).trans rfl, (blk_cell BK327.out 6).trans rfl, (blk_cell BK327.out 7).trans rfl⟩ (fun hHeld => ?_)
    generalize w59.drew = w60 at HO333 BK327 BK328 BK335 HB hHeld ⊢
    have HCX := Aside0.mk (Kd.R_reads' HO333.out).2.2
    have HCL := Aside0.mk (Kd.R_reads' HO333.out).2.1
    refine take_ (i := 0) (N := some 12) (v := ?_) (a' := ?_) #[true, false, false, false, false, false, false] rfl rfl (by kernel_rfl) (fun _ _ _ h => h) (Or.inl ⟨by rfl, ?_⟩) hHeld ?_ ?_
    rotate_left
    ·rintro w' ⟨s0, s1, s2, s3, s4, s5, s6, s7, s8, s9, s10⟩
     go_simp
     with_reducible rfl
    rotate_left
    ·simp only [Act.put, List.setIfInBounds_toArray, List.set_cons_zero, List.set_cons_succ, i64_w, i32_w]
     rfl
    refine take_ (i := 2) (N := some 14) (v := ?_) (a' := ?_) #[true, false, true, false, false, false, false] rfl rfl (by kernel_rfl) (fun _ _ _ h => h) (Or.inl ⟨by rfl, ?_⟩) hHeld ?_ ?_
    rotate_left
    ·rintro w' ⟨s0, s1, s2, s3, s4, s5, s6, s7, s8, s9, s10⟩
     go_simp
     with_reducible rfl
    rotate_left
    ·simp only [Act.put, List.setIfInBounds_toArray, List.set_cons_zero, List.set_cons_succ, i64_w, i32_w]
     rfl
    refine join_ (σ := Value × Value × Value) 2 #[true, true, true, true, true, false, false] (fun s_ => [(13, s_.1), (15, .agg #[.bool t339, s_.2.1, .string t343]), (16, s_.2.2)]) (fun s_ w' => (w'.cell? ⟨gb335, 0, none⟩ = some (.bool t330) ∧ w'.cell? ⟨gb335, 1, none⟩ = some (.slice Ao58 t331.length co58) ∧ w'.cell? ⟨gb335, 2, none⟩ = some (.string t334) ∧ w'.cell? ⟨gb327, 0, none⟩ = some (.int .i64 a0_0) ∧ w'.cell? ⟨gb327, 1, none⟩ = some (.int .i64 a0_1) ∧ w'.cell? ⟨gb327, 2, none⟩ = some (.int .i64 a0_2) ∧ w'.cell? ⟨gb327, 3, none⟩ = some (.int .i64 a0_3) ∧ w'.cell? ⟨gb327, 4, none⟩ = some (.int .i64 a0_4) ∧ w'.cell? ⟨gb327, 5, none⟩ = some (.int .i64 a0_5) ∧ w'.cell? ⟨gb327, 6, none⟩ = some (.int .i64 a0_6) ∧ w'.cell? ⟨gb327, 7, none⟩ = some (.int .i64 a0_7)) ∧ (Kd.N k32 32 w' w.heap.size (fun k_ => some k_ ≠ (s_.2.2 : Value).ownBlock ∧ k_ ≠ gb327 ∧ k_ ≠ gb328 ∧ k_ ≠ gb335) s_.1 y336) ∧ (Kd.N k32 32 w' w.heap.size (fun k_ => some k_ ≠ (s_.1 : Value).ownBlock ∧ k_ ≠ gb327 ∧ k_ ≠ gb328 ∧ k_ ≠ gb335) s_.2.2 y344) ∧ (w'.heap[gb327]? = some (.cells #[.int .i64 a0_0, .int .i64 a0_1, .int .i64 a0_2, .int .i64 a0_3, .int .i64 a0_4, .int .i64 a0_5, .int .i64 a0_6, .int .i64 a0_7] 25 (0, 0))) ∧ (w'.heap[gb328]? = some (.cells #[.int .i64 a1_0, .int .i64 a1_1, .int .i64 a1_2, .int .i64 a1_3, .int .i64 a1_4, .int .i64 a1_5, .int .i64 a1_6, .int .i64 a1_7] 25 (0, 0))) ∧ (w'.heap[gb335]? = some (.cells #[.bool t330, .slice Ao58 t331.length co58, .string t334] 32 (0, 0))) ∧ (Below w.heap.size w w') ∧ Kd.C k78 w' Ao58 t331.length t331) ?_ ?_
    rotate_left
    ·intro hCont
     refine two_ (i := 1) (j := 3) (Ni := some 13) (Nj := some 15) #[true, true, true, false, false, false, false] #[true, false, true, true, false, false, false] rfl rfl rfl rfl (by kernel_rfl) (by decide) (by decide) (fun K hK => ?_) (fun K hK => ?_)
     ·skip
      refine Kd.N_lit_step k32 _ 32 ?hg (N' := 13) ?hd (xs := ([(⟨t330, t331, t334⟩ : S32)] : List (S32))) (inner := [.bool t330, .slice Ao58 t331.length co58, .string t334]) (ok := (fun k_ => k_ ≠ gb327 ∧ k_ ≠ gb328 ∧ k_ ≠ gb335)) (okp := (fun k_ => k_ ≠ gb327 ∧ k_ ≠ gb328 ∧ k_ ≠ gb335)) ?hr ?hp (fun _ hk => hk) ((show ∀ k_, w60.heap.size ≤ k_ → (fun k_ => k_ ≠ gb327 ∧ k_ ≠ gb328 ∧ k_ ≠ gb335) k_ from fun k_ hk => ⟨Kd.freshB (g := gb327) (o := .cells #[.int .i64 a0_0, .int .i64 a0_1, .int .i64 a0_2, .int .i64 a0_3, .int .i64 a0_4, .int .i64 a0_5, .int .i64 a0_6, .int .i64 a0_7] 25 (0, 0)) (by (with_reducible repeat (first | refine blk_drewN ?_ _ | refine blk_drew ?_ | refine blk_alloc ?_ _)); exact BK327.out) k_ hk, Kd.freshB (g := gb328) (o := .cells #[.int .i64 a1_0, .int .i64 a1_1, .int .i64 a1_2, .int .i64 a1_3, .int .i64 a1_4, .int .i64 a1_5, .int .i64 a1_6, .int .i64 a1_7] 25 (0, 0)) (by (with_reducible repeat (first | refine blk_drewN ?_ _ | refine blk_drew ?_ | refine blk_alloc ?_ _)); exact BK328.out) k_ hk, Kd.freshB (g := gb335) (o := .cells #[.bool t330, .slice Ao58 t331.length co58, .string t334] 32 (0, 0)) (by (with_reducible repeat (first | refine blk_drewN ?_ _ | refine blk_drew ?_ | refine blk_alloc ?_ _)); exact BK335.out) k_ hk⟩) _ (Nat.le_refl _)) (Below.refl _ _) (Nat.le_refl _) (by simp) ?_; (case hd => rfl); (case hg => rfl); (case hr => first | (go_simp; done) | (go_simp; rfl)); (case hp => exact (Reps.c3 (show Kd.FK k32 _ _ (⟨t330, t331, t334⟩ : S32) [.bool t330, .slice Ao58 t331.length co58, .string t334] from (k32_mkF _ _ (⟨t330, t331, t334⟩ : S32) (Kd.R_reads' (Kd.R_mono (ok' := (fun k_ => k_ ≠ gb327 ∧ k_ ≠ gb328 ∧ k_ ≠ gb335)) (Kd.R_types (Kd.R_types (Kd.R_types (HO333.out) BK327.out (by decide)) BK328.out (by decide)) BK335.out (by decide)) (fun k_ hk => ⟨hk.1.1.2, ⟨hk.1.2, hk.2⟩⟩))).2.1 (Kd.R_F (Kd.R_mono (ok' := (fun k_ => k_ ≠ gb327 ∧ k_ ≠ gb328 ∧ k_ ≠ gb335)) (Kd.R_types (Kd.R_types (Kd.R_types (HO333.out) BK327.out (by decide)) BK328.out (by decide)) BK335.out (by decide)) (fun k_ hk => ⟨hk.1.1.2, ⟨hk.1.2, hk.2⟩⟩))))) (Reps.none _ _)))
      intro v337 w61 ho62 hb hg_ hnew_
      clear hg_ hnew_
      (first | rw [← Ny336.out] at ho62 | (simp only [Int.reduceToNat] at ho62; rw [← Ny336.out] at ho62))
      have n0_ := Aside0.mk (Kd.N_lower ho62 (below_size (by repeat (first | (with_reducible first | exact HB.out | apply below_alloc | apply pw_below_drewN | apply below_drew1 | refine below_set ?_ GE327.out | refine below_set ?_ GE328.out | refine below_set ?_ GE335.out) | exact HB.out))))
      have n1_ := Aside0.mk (blk_below (g := gb327) (o := .cells #[.int .i64 a0_0, .int .i64 a0_1, .int .i64 a0_2, .int .i64 a0_3, .int .i64 a0_4, .int .i64 a0_5, .int .i64 a0_6, .int .i64 a0_7] 25 (0, 0)) (by (with_reducible repeat (first | refine blk_drewN ?_ _ | refine blk_drew ?_ | refine blk_alloc ?_ _)); exact BK327.out) hb)
      have n2_ := Aside0.mk (blk_below (g := gb328) (o := .cells #[.int .i64 a1_0, .int .i64 a1_1, .int .i64 a1_2, .int .i64 a1_3, .int .i64 a1_4, .int .i64 a1_5, .int .i64 a1_6, .int .i64 a1_7] 25 (0, 0)) (by (with_reducible repeat (first | refine blk_drewN ?_ _ | refine blk_drew ?_ | refine blk_alloc ?_ _)); exact BK328.out) hb)
      have n3_ := Aside0.mk (blk_below (g := gb335) (o := .cells #[.bool t330, .slice Ao58 t331.length co58, .string t334] 32 (0, 0)) (by (with_reducible repeat (first | refine blk_drewN ?_ _ | refine blk_drew ?_ | refine blk_alloc ?_ _)); exact BK335.out) hb)
      have HCX := Aside0.mk (Kd.C_below (by repeat (first | exact HCX.out | (with_reducible refine Kd.C_alloc ?_ _) | (with_reducible refine Kd.C_drewN ?_ _) | (with_reducible refine Kd.C_drew ?_))) hb)
      have n4_ := Aside0.mk (below_step (by repeat (first | (with_reducible first | exact HB.out | apply below_alloc | apply pw_below_drewN | apply below_drew1 | refine below_set ?_ GE327.out | refine below_set ?_ GE328.out | refine below_set ?_ GE335.out) | exact HB.out)) hb)
      clear BK327
      clear BK328
      clear BK335
      clear HB
      clear HO333
      have HO338 := n0_
      have BK327 := n1_
      have BK328 := n2_
      have BK335 := n3_
      have HB := n4_
      clear n0_ n1_ n2_ n3_ n4_
      clear hb ho62
      refine hK.out _ _ ⟨(blk_cell BK335.out 0).trans rfl, (blk_cell BK335.out 1).trans rfl, (blk_cell BK335.out 2).trans rfl, (blk_cell BK327.out 0).trans rfl, (blk_cell BK327.out 1).trans rfl, (blk_cell BK327.out 2).trans rfl, (blk_cell BK327.out 3).trans rfl, (blk_cell BK327.out 4).trans rfl, (blk_cell BK327.out 5).trans rfl, (blk_cell BK327.out 6).trans rfl, (blk_cell BK327.out 7).trans rfl⟩ (fun hHeld => ?_)
      clear hK K
      refine norm_ (a' := ?_) ?_ ?_
      rotate_left
      ·show Act.put _ (some 13) _ = _
       simp only [Act.put, List.setIfInBounds_toArray, List.set_cons_zero, List.set_cons_succ, i64_w, i32_w]
       rfl
      refine one_ (i := 3) (N := some 15) #[true, true, true, true, false, false, false] rfl rfl (by kernel_rfl) (by decide) (fun K hK => ?_)
      refine goes_ Try.func20 (by kernel_rfl) rfl #[.agg #[.int .i64 a0_0, .int .i64 a0_1, .int .i64 a0_2, .int .i64 a0_3, .int .i64 a0_4, .int .i64 a0_5, .int .i64 a0_6, .int .i64 a0_7]] (by rfl) rfl rfl (by (try simp only [List.map_toArray, List.map_cons, List.map_nil]); first | done | rfl | (simp only [List.length_drop, List.length_take]; rfl)) ?_
      with_reducible refine (swarfref42_Line.calls a0_0 a0_1 a0_2 a0_3 a0_4 a0_5 a0_6 a0_7 t339 t340 t343 _ A6.out).mono ?_
      rintro e w63 ⟨v341, rfl, ho0, hb⟩
      refine ⟨_, rfl, ?_⟩
      have n0_ := Aside0.mk (Kd.N_elder' (by (with_reducible repeat (first | apply Kd.N_alloc | apply Kd.N_drewN | apply Kd.N_drew)); exact HO338.out) (Kd.R_base ho0) hb)
      have n1_ := Aside0.mk (Kd.R_lower ho0 (below_size (by repeat (first | (with_reducible first | exact HB.out | apply below_alloc | apply pw_below_drewN | apply below_drew1 | refine below_set ?_ GE327.out | refine below_set ?_ GE328.out | refine below_set ?_ GE335.out) | exact HB.out))))
      have n2_ := Aside0.mk (blk_below (g := gb327) (o := .cells #[.int .i64 a0_0, .int .i64 a0_1, .int .i64 a0_2, .int .i64 a0_3, .int .i64 a0_4, .int .i64 a0_5, .int .i64 a0_6, .int .i64 a0_7] 25 (0, 0)) (by (with_reducible repeat (first | refine blk_drewN ?_ _ | refine blk_drew ?_ | refine blk_alloc ?_ _)); exact BK327.out) hb)
      have n3_ := Aside0.mk (blk_below (g := gb328) (o := .cells #[.int .i64 a1_0, .int .i64 a1_1, .int .i64 a1_2, .int .i64 a1_3, .int .i64 a1_4, .int .i64 a1_5, .int .i64 a1_6, .int .i64 a1_7] 25 (0, 0)) (by (with_reducible repeat (first | refine blk_drewN ?_ _ | refine blk_drew ?_ | refine blk_alloc ?_ _)); exact BK328.out) hb)
      have n4_ := Aside0.mk (blk_below (g := gb335) (o := .cells #[.bool t330, .slice Ao58 t331.length co58, .string t334] 32 (0, 0)) (by (with_reducible repeat (first | refine blk_drewN ?_ _ | refine blk_drew ?_ | refine blk_alloc ?_ _)); exact BK335.out) hb)
      have HCX := Aside0.mk (Kd.C_below (by repeat (first | exact HCX.out | (with_reducible refine Kd.C_alloc ?_ _) | (with_reducible refine Kd.C_drewN ?_ _) | (with_reducible refine Kd.C_drew ?_))) hb)
      have n5_ := Aside0.mk (below_step (by repeat (first | (with_reducible first | exact HB.out | apply below_alloc | apply pw_below_drewN | apply below_drew1 | refine below_set ?_ GE327.out | refine below_set ?_ GE328.out | refine below_set ?_ GE335.out) | exact HB.out)) hb)
      clear HO338
      clear BK327
      clear BK328
      clear BK335
      clear HB
      have HO338 := n0_
      have HO342 := n1_
      have BK327 := n2_
      have BK328 := n3_
      have BK335 := n4_
      have HB := n5_
      clear n0_ n1_ n2_ n3_ n4_ n5_
      (try clear hb)
      (try clear hb2)
      (try clear hk)
      (try clear hi)
      (try clear ho0)
      obtain ⟨Ao64, co64, eo64⟩ := Kd.R_slice HO342.out
      (first | subst eo64 | (injection eo64 with f1_ f2_ f3_; have f4_ := f1_.symm; have f5_ := f3_.symm; clear f1_ f2_ f3_; subst f4_; subst f5_))
      refine hK.out _ _ ⟨(blk_cell BK335.out 0).trans rfl, (blk_cell BK335.out 1).trans rfl, (blk_cell BK335.out 2).trans rfl, (blk_cell BK327.out 0).trans rfl, (blk_cell BK327.out 1).trans rfl, (blk_cell BK327.out 2).trans rfl, (blk_cell BK327.out 3).trans rfl, (blk_cell BK327.out 4).trans rfl, (blk_cell BK327.out 5).trans rfl, (blk_cell BK327.out 6).trans rfl, (blk_cell BK327.out 7).trans rfl⟩ (fun hHeld => ?_)
      clear hK K
      refine norm_ (a' := ?_) ?_ ?_
      rotate_left
      ·show Act.put _ (some 15) _ = _
       simp only [Act.put, List.setIfInBounds_toArray, List.set_cons_zero, List.set_cons_succ, i64_w, i32_w]
       rfl
      refine one_ (i := 4) (N := some 16) #[true, true, true, true, true, false, false] rfl rfl (by kernel_rfl) (by decide) (fun K hK => ?_)
      refine Kd.N_lit_step k32 _ 32 ?hg (N' := 16) ?hd (xs := ([(⟨t339, t340, t343⟩ : S32)] : List (S32))) (inner := [.bool t339, .slice Ao64 t340.length co64, .string t343]) (ok := (fun k_ => some k_ ≠ (v337 : Value).ownBlock ∧ k_ ≠ gb327 ∧ k_ ≠ gb328 ∧ k_ ≠ gb335)) (okp := (fun k_ => some k_ ≠ (v337 : Value).ownBlock ∧ k_ ≠ gb327 ∧ k_ ≠ gb328 ∧ k_ ≠ gb335)) ?hr ?hp (fun _ hk => hk) ((show ∀ k_, w63.heap.size ≤ k_ → (fun k_ => some k_ ≠ (v337 : Value).ownBlock ∧ k_ ≠ gb327 ∧ k_ ≠ gb328 ∧ k_ ≠ gb335) k_ from fun k_ hk => ⟨Kd.fresh' (Kd.N_lt (by (with_reducible repeat (first | apply Kd.N_alloc | apply Kd.N_drewN | apply Kd.N_drew)); exact HO338.out)) k_ hk, Kd.freshB (g := gb327) (o := .cells #[.int .i64 a0_0, .int .i64 a0_1, .int .i64 a0_2, .int .i64 a0_3, .int .i64 a0_4, .int .i64 a0_5, .int .i64 a0_6, .int .i64 a0_7] 25 (0, 0)) (by (with_reducible repeat (first | refine blk_drewN ?_ _ | refine blk_drew ?_ | refine blk_alloc ?_ _)); exact BK327.out) k_ hk, Kd.freshB (g := gb328) (o := .cells #[.int .i64 a1_0, .int .i64 a1_1, .int .i64 a1_2, .int .i64 a1_3, .int .i64 a1_4, .int .i64 a1_5, .int .i64 a1_6, .int .i64 a1_7] 25 (0, 0)) (by (with_reducible repeat (first | refine blk_drewN ?_ _ | refine blk_drew ?_ | refine blk_alloc ?_ _)); exact BK328.out) k_ hk, Kd.freshB (g := gb335) (o := .cells #[.bool t330, .slice Ao58 t331.length co58, .string t334] 32 (0, 0)) (by (with_reducible repeat (first | refine blk_drewN ?_ _ | refine blk_drew ?_ | refine blk_alloc ?_ _)); exact BK335.out) k_ hk⟩) _ (Nat.le_refl _)) (Below.refl _ _) (Nat.le_refl _) (by simp) ?_; (case hd => rfl); (case hg => rfl); (case hr => first | (go_simp; done) | (go_simp; rfl)); (case hp => exact (Reps.c3 (show Kd.FK k32 _ _ (⟨t339, t340, t343⟩ : S32) [.bool t339, .slice Ao64 t340.length co64, .string t343] from (k32_mkF _ _ (⟨t339, t340, t343⟩ : S32) (Kd.R_reads' (Kd.R_mono (ok' := (fun k_ => some k_ ≠ (v337 : Value).ownBlock ∧ k_ ≠ gb327 ∧ k_ ≠ gb328 ∧ k_ ≠ gb335)) (Kd.R_types (Kd.R_types (Kd.R_types (Kd.R_apart' (HO342.out) (Kd.N_typed HO338.out) (by decide)) BK327.out (by decide)) BK328.out (by decide)) BK335.out (by decide)) (fun k_ hk => ⟨hk.1.1.1.2, ⟨hk.1.1.2, ⟨hk.1.2, hk.2⟩⟩⟩))).2.1 (Kd.R_F (Kd.R_mono (ok' := (fun k_ => some k_ ≠ (v337 : Value).ownBlock ∧ k_ ≠ gb327 ∧ k_ ≠ gb328 ∧ k_ ≠ gb335)) (Kd.R_types (Kd.R_types (Kd.R_types (Kd.R_apart' (HO342.out) (Kd.N_typed HO338.out) (by decide)) BK327.out (by decide)) BK328.out (by decide)) BK335.out (by decide)) (fun k_ hk => ⟨hk.1.1.1.2, ⟨hk.1.1.2, ⟨hk.1.2, hk.2⟩⟩⟩))))) (Reps.none _ _)))
      intro v345 w65 ho66 hb hg_ hnew_
      clear hg_ hnew_
      (first | rw [← Ny344.out] at ho66 | (simp only [Int.reduceToNat] at ho66; rw [← Ny344.out] at ho66))
      have n0_ := Aside0.mk (Kd.N_elder' (by (with_reducible repeat (first | apply Kd.N_alloc | apply Kd.N_drewN | apply Kd.N_drew)); exact HO338.out) (Kd.N_base ho66) hb)
      have n1_ := Aside0.mk (Kd.N_lower ho66 (below_size (by repeat (first | (with_reducible first | exact HB.out | apply below_alloc | apply pw_below_drewN | apply below_drew1 | refine below_set ?_ GE327.out | refine below_set ?_ GE328.out | refine below_set ?_ GE335.out) | exact HB.out))))
      have n2_ := Aside0.mk (blk_below (g := gb327) (o := .cells #[.int .i64 a0_0, .int .i64 a0_1, .int .i64 a0_2, .int .i64 a0_3, .int .i64 a0_4, .int .i64 a0_5, .int .i64 a0_6, .int .i64 a0_7] 25 (0, 0)) (by (with_reducible repeat (first | refine blk_drewN ?_ _ | refine blk_drew ?_ | refine blk_alloc ?_ _)); exact BK327.out) hb)
      have n3_ := Aside0.mk (blk_below (g := gb328) (o := .cells #[.int .i64 a1_0, .int .i64 a1_1, .int .i64 a1_2, .int .i64 a1_3, .int .i64 a1_4, .int .i64 a1_5, .int .i64 a1_6, .int .i64 a1_7] 25 (0, 0)) (by (with_reducible repeat (first | refine blk_drewN ?_ _ | refine blk_drew ?_ | refine blk_alloc ?_ _)); exact BK328.out) hb)
      have n4_ := Aside0.mk (blk_below (g := gb335) (o := .cells #[.bool t330, .slice Ao58 t331.length co58, .string t334] 32 (0, 0)) (by (with_reducible repeat (first | refine blk_drewN ?_ _ | refine blk_drew ?_ | refine blk_alloc ?_ _)); exact BK335.out) hb)
      have HCX := Aside0.mk (Kd.C_below (by repeat (first | exact HCX.out | (with_reducible refine Kd.C_alloc ?_ _) | (with_reducible refine Kd.C_drewN ?_ _) | (with_reducible refine Kd.C_drew ?_))) hb)
      have n5_ := Aside0.mk (below_step (by repeat (first | (with_reducible first | exact HB.out | apply below_alloc | apply pw_below_drewN | apply below_drew1 | refine below_set ?_ GE327.out | refine below_set ?_ GE328.out | refine below_set ?_ GE335.out) | exact HB.out)) hb)
      clear HO338
      clear BK327
      clear BK328
      clear BK335
      clear HB
      clear HO342
      have HO338 := n0_
      have HO346 := n1_
      have BK327 := n2_
      have BK328 := n3_
      have BK335 := n4_
      have HB := n5_
      clear n0_ n1_ n2_ n3_ n4_ n5_
      clear hb ho66
      refine hK.out _ _ ⟨(blk_cell BK335.out 0).trans rfl, (blk_cell BK335.out 1).trans rfl, (blk_cell BK335.out 2).trans rfl, (blk_cell BK327.out 0).trans rfl, (blk_cell BK327.out 1).trans rfl, (blk_cell BK327.out 2).trans rfl, (blk_cell BK327.out 3).trans rfl, (blk_cell BK327.out 4).trans rfl, (blk_cell BK327.out 5).trans rfl, (blk_cell BK327.out 6).trans rfl, (blk_cell BK327.out 7).trans rfl⟩ (fun hHeld => ?_)
      clear hK K
      refine norm_ (a' := ?_) ?_ ?_
      rotate_left
      ·show Act.put _ (some 16) _ = _
       simp only [Act.put, List.setIfInBounds_toArray, List.set_cons_zero, List.set_cons_succ, i64_w, i32_w]
       rfl
      exact norm_ (by simp only [putAll, Act.put, List.setIfInBounds_toArray, List.set_cons_zero, List.set_cons_succ]) (hCont (v337, .slice Ao64 t340.length co64, v345) _ ⟨hHeld, (by (with_reducible repeat (first | apply Kd.N_alloc | apply Kd.N_drewN | apply Kd.N_drew)); exact Kd.N_mono HO338.out (fun _ hk => ⟨hk.2, ⟨hk.1.1.1, ⟨hk.1.1.2.1, hk.1.1.2.2⟩⟩⟩)), (by (with_reducible repeat (first | apply Kd.N_alloc | apply Kd.N_drewN | apply Kd.N_drew)); exact HO346.out), (by (with_reducible repeat (first | refine blk_drewN ?_ _ | refine blk_drew ?_ | refine blk_alloc ?_ _)); exact BK327.out), (by (with_reducible repeat (first | refine blk_drewN ?_ _ | refine blk_drew ?_ | refine blk_alloc ?_ _)); exact BK328.out), (by (with_reducible repeat (first | refine blk_drewN ?_ _ | refine blk_drew ?_ | refine blk_alloc ?_ _)); exact BK335.out), (by repeat (first | (with_reducible first | exact HB.out | apply below_alloc | apply pw_below_drewN | apply below_drew1 | refine below_set ?_ GE327.out | refine below_set ?_ GE328.out | refine below_set ?_ GE335.out) | exact HB.out)), (by repeat (first | exact HCX.out | (with_reducible refine Kd.C_alloc ?_ _) | (with_reducible refine Kd.C_drewN ?_ _) | (with_reducible refine Kd.C_drew ?_)))⟩)
     ·skip
      refine goes_ Try.func20 (by kernel_rfl) rfl #[.agg #[.int .i64 a0_0, .int .i64 a0_1, .int .i64 a0_2, .int .i64 a0_3, .int .i64 a0_4, .int .i64 a0_5, .int .i64 a0_6, .int .i64 a0_7]] (by rfl) rfl rfl (by (try simp only [List.map_toArray, List.map_cons, List.map_nil]); first | done | rfl | (simp only [List.length_drop, List.length_take]; rfl)) ?_
      with_reducible refine (swarfref42_Line.calls a0_0 a0_1 a0_2 a0_3 a0_4 a0_5 a0_6 a0_7 t339 t340 t343 _ A6.out).mono ?_
      rintro e w61 ⟨v341, rfl, ho0, hb⟩
      refine ⟨_, rfl, ?_⟩
      have n0_ := Aside0.mk (Kd.R_elder' (by (with_reducible repeat (first | apply Kd.R_alloc | apply Kd.R_drewN | apply Kd.R_drew)); exact HO333.out) (Kd.R_base ho0) hb)
      have n1_ := Aside0.mk (Kd.R_lower (Kd.R_new' ho0 (Kd.R_lt (by (with_reducible repeat (first | apply Kd.R_alloc | apply Kd.R_drewN | apply Kd.R_drew)); exact HO333.out))) (below_size (by repeat (first | (with_reducible first | exact HB.out | apply below_alloc | apply pw_below_drewN | apply below_drew1 | refine below_set ?_ GE327.out | refine below_set ?_ GE328.out | refine below_set ?_ GE335.out) | exact HB.out))))
      have n2_ := Aside0.mk (blk_below (g := gb327) (o := .cells #[.int .i64 a0_0, .int .i64 a0_1, .int .i64 a0_2, .int .i64 a0_3, .int .i64 a0_4, .int .i64 a0_5, .int .i64 a0_6, .int .i64 a0_7] 25 (0, 0)) (by (with_reducible repeat (first | refine blk_drewN ?_ _ | refine blk_drew ?_ | refine blk_alloc ?_ _)); exact BK327.out) hb)
      have n3_ := Aside0.mk (blk_below (g := gb328) (o := .cells #[.int .i64 a1_0, .int .i64 a1_1, .int .i64 a1_2, .int .i64 a1_3, .int .i64 a1_4, .int .i64 a1_5, .int .i64 a1_6, .int .i64 a1_7] 25 (0, 0)) (by (with_reducible repeat (first | refine blk_drewN ?_ _ | refine blk_drew ?_ | refine blk_alloc ?_ _)); exact BK328.out) hb)
      have n4_ := Aside0.mk (blk_below (g := gb335) (o := .cells #[.bool t330, .slice Ao58 t331.length co58, .string t334] 32 (0, 0)) (by (with_reducible repeat (first | refine blk_drewN ?_ _ | refine blk_drew ?_ | refine blk_alloc ?_ _)); exact BK335.out) hb)
      have HCX := Aside0.mk (Kd.C_below (by repeat (first | exact HCX.out | (with_reducible refine Kd.C_alloc ?_ _) | (with_reducible refine Kd.C_drewN ?_ _) | (with_reducible refine Kd.C_drew ?_))) hb)
      have n5_ := Aside0.mk (below_step (by repeat (first | (with_reducible first | exact HB.out | apply below_alloc | apply pw_below_drewN | apply below_drew1 | refine below_set ?_ GE327.out | refine below_set ?_ GE328.out | refine below_set ?_ GE335.out) | exact HB.out)) hb)
      clear HO333
      clear BK327
      clear BK328
      clear BK335
      clear HB
      have HO333 := n0_
      have HO342 := n1_
      have BK327 := n2_
      have BK328 := n3_
      have BK335 := n4_
      have HB := n5_
      clear n0_ n1_ n2_ n3_ n4_ n5_
      (try clear hb)
      (try clear hb2)
      (try clear hk)
      (try clear hi)
      (try clear ho0)
      refine hK.out _ _ ⟨(blk_cell BK335.out 0).trans rfl, (blk_cell BK335.out 1).trans rfl, (blk_cell BK335.out 2).trans rfl, (blk_cell BK327.out 0).trans rfl, (blk_cell BK327.out 1).trans rfl, (blk_cell BK327.out 2).trans rfl, (blk_cell BK327.out 3).trans rfl, (blk_cell BK327.out 4).trans rfl, (blk_cell BK327.out 5).trans rfl, (blk_cell BK327.out 6).trans rfl, (blk_cell BK327.out 7).trans rfl⟩ (fun hHeld => ?_)
      clear hK K
      refine norm_ (a' := ?_) ?_ ?_
      rotate_left
      ·show Act.put _ (some 15) _ = _
       simp only [Act.put, List.setIfInBounds_toArray, List.set_cons_zero, List.set_cons_succ, i64_w, i32_w]
       rfl
      refine two_ (i := 1) (j := 4) (Ni := some 13) (Nj := some 16) #[true, true, true, true, false, false, false] #[true, false, true, true, true, false, false] rfl rfl rfl rfl (by kernel_rfl) (by decide) (by decide) (fun K hK => ?_) (fun K hK => ?_)
      ·skip
       refine Kd.N_lit_step k32 _ 32 ?hg (N' := 13) ?hd (xs := ([(⟨t330, t331, t334⟩ : S32)] : List (S32))) (inner := [.bool t330, .slice Ao58 t331.length co58, .string t334]) (ok := (fun k_ => some k_ ≠ (v341 : Value).ownBlock ∧ k_ ≠ gb327 ∧ k_ ≠ gb328 ∧ k_ ≠ gb335)) (okp := (fun k_ => some k_ ≠ (v341 : Value).ownBlock ∧ k_ ≠ gb327 ∧ k_ ≠ gb328 ∧ k_ ≠ gb335)) ?hr ?hp (fun _ hk => hk) ((show ∀ k_, w61.heap.size ≤ k_ → (fun k_ => some k_ ≠ (v341 : Value).ownBlock ∧ k_ ≠ gb327 ∧ k_ ≠ gb328 ∧ k_ ≠ gb335) k_ from fun k_ hk => ⟨Kd.fresh' (Kd.R_lt (by (with_reducible repeat (first | apply Kd.R_alloc | apply Kd.R_drewN | apply Kd.R_drew)); exact HO342.out)) k_ hk, Kd.freshB (g := gb327) (o := .cells #[.int .i64 a0_0, .int .i64 a0_1, .int .i64 a0_2, .int .i64 a0_3, .int .i64 a0_4, .int .i64 a0_5, .int .i64 a0_6, .int .i64 a0_7] 25 (0, 0)) (by (with_reducible repeat (first | refine blk_drewN ?_ _ | refine blk_drew ?_ | refine blk_alloc ?_ _)); exact BK327.out) k_ hk, Kd.freshB (g := gb328) (o := .cells #[.int .i64 a1_0, .int .i64 a1_1, .int .i64 a1_2, .int .i64 a1_3, .int .i64 a1_4, .int .i64 a1_5, .int .i64 a1_6, .int .i64 a1_7] 25 (0, 0)) (by (with_reducible repeat (first | refine blk_drewN ?_ _ | refine blk_drew ?_ | refine blk_alloc ?_ _)); exact BK328.out) k_ hk, Kd.freshB (g := gb335) (o := .cells #[.bool t330, .slice Ao58 t331.length co58, .string t334] 32 (0, 0)) (by (with_reducible repeat (first | refine blk_drewN ?_ _ | refine blk_drew ?_ | refine blk_alloc ?_ _)); exact BK335.out) k_ hk⟩) _ (Nat.le_refl _)) (Below.refl _ _) (Nat.le_refl _) (by simp) ?_; (case hd => rfl); (case hg => rfl); (case hr => first | (go_simp; done) | (go_simp; rfl)); (case hp => exact (Reps.c3 (show Kd.FK k32 _ _ (⟨t330, t331, t334⟩ : S32) [.bool t330, .slice Ao58 t331.length co58, .string t334] from (k32_mkF _ _ (⟨t330, t331, t334⟩ : S32) (Kd.R_reads' (Kd.R_mono (ok' := (fun k_ => some k_ ≠ (v341 : Value).ownBlock ∧ k_ ≠ gb327 ∧ k_ ≠ gb328 ∧ k_ ≠ gb335)) (Kd.R_types (Kd.R_types (Kd.R_types (HO333.out) BK327.out (by decide)) BK328.out (by decide)) BK335.out (by decide)) (fun k_ hk => ⟨hk.1.1.1.2, ⟨hk.1.1.2, ⟨hk.1.2, hk.2⟩⟩⟩))).2.1 (Kd.R_F (Kd.R_mono (ok' := (fun k_ => some k_ ≠ (v341 : Value).ownBlock ∧ k_ ≠ gb327 ∧ k_ ≠ gb328 ∧ k_ ≠ gb335)) (Kd.R_types (Kd.R_types (Kd.R_types (HO333.out) BK327.out (by decide)) BK328.out (by decide)) BK335.out (by decide)) (fun k_ hk => ⟨hk.1.1.1.2, ⟨hk.1.1.2, ⟨hk.1.2, hk.2⟩⟩⟩))))) (Reps.none _ _)))
       intro v337 w62 ho63 hb hg_ hnew_
       clear hg_ hnew_
       (first | rw [← Ny336.out] at ho63 | (simp only [Int.reduceToNat] at ho63; rw [← Ny336.out] at ho63))
       have n0_ := Aside0.mk (Kd.R_below (by (with_reducible repeat (first | apply Kd.R_alloc | apply Kd.R_drewN | apply Kd.R_drew)); exact HO342.out) hb)
       have n1_ := Aside0.mk (Kd.N_lower ho63 (below_size (by repeat (first | (with_reducible first | exact HB.out | apply below_alloc | apply pw_below_drewN | apply below_drew1 | refine below_set ?_ GE327.out | refine below_set ?_ GE328.out | refine below_set ?_ GE335.out) | exact HB.out))))
       have n2_ := Aside0.mk (blk_below (g := gb327) (o := .cells #[.int .i64 a0_0, .int .i64 a0_1, .int .i64 a0_2, .int .i64 a0_3, .int .i64 a0_4, .int .i64 a0_5, .int .i64 a0_6, .int .i64 a0_7] 25 (0, 0)) (by (with_reducible repeat (first | refine blk_drewN ?_ _ | refine blk_drew ?_ | refine blk_alloc ?_ _)); exact BK327.out) hb)
       have n3_ := Aside0.mk (blk_below (g := gb328) (o := .cells #[.int .i64 a1_0, .int .i64 a1_1, .int .i64 a1_2, .int .i64 a1_3, .int .i64 a1_4, .int .i64 a1_5, .int .i64 a1_6, .int .i64 a1_7] 25 (0, 0)) (by (with_reducible repeat (first | refine blk_drewN ?_ _ | refine blk_drew ?_ | refine blk_alloc ?_ _)); exact BK328.out) hb)
       have n4_ := Aside0.mk (blk_below (g := gb335) (o := .cells #[.bool t330, .slice Ao58 t331.length co58, .string t334] 32 (0, 0)) (by (with_reducible repeat (first | refine blk_drewN ?_ _ | refine blk_drew ?_ | refine blk_alloc ?_ _)); exact BK335.out) hb)
       have HCX := Aside0.mk (Kd.C_below (by repeat (first | exact HCX.out | (with_reducible refine Kd.C_alloc ?_ _) | (with_reducible refine Kd.C_drewN ?_ _) | (with_reducible refine Kd.C_drew ?_))) hb)
       have n5_ := Aside0.mk (below_step (by repeat (first | (with_reducible first | exact HB.out | apply below_alloc | apply pw_below_drewN | apply below_drew1 | refine below_set ?_ GE327.out | refine below_set ?_ GE328.out | refine below_set ?_ GE335.out) | exact HB.out)) hb)
       clear HO342
       clear BK327
       clear BK328
       clear BK335
       clear HB
       clear HO333
       have HO342 := n0_
       have HO338 := n1_
       have BK327 := n2_
       have BK328 := n3_
       have BK335 := n4_
       have HB := n5_
       clear n0_ n1_ n2_ n3_ n4_ n5_
       clear hb ho63
       obtain ⟨Ao64, co64, eo64⟩ := Kd.R_slice HO342.out
       (first | subst eo64 | (injection eo64 with f1_ f2_ f3_; have f4_ := f1_.symm; have f5_ := f3_.symm; clear f1_ f2_ f3_; subst f4_; subst f5_))
       refine hK.out _ _ ⟨(blk_cell BK335.out 0).trans rfl, (blk_cell BK335.out 1).trans rfl, (blk_cell BK335.out 2).trans rfl, (blk_cell BK327.out 0).trans rfl, (blk_cell BK327.out 1).trans rfl, (blk_cell BK327.out 2).trans rfl, (blk_cell BK327.out 3).trans rfl, (blk_cell BK327.out 4).trans rfl, (blk_cell BK327.out 5).trans rfl, (blk_cell BK327.out 6).trans rfl, (blk_cell BK327.out 7).trans rfl⟩ (fun hHeld => ?_)
       clear hK K
       refine norm_ (a' := ?_) ?_ ?_
       rotate_left
       ·show Act.put _ (some 13) _ = _
        simp only [Act.put, List.setIfInBounds_toArray, List.set_cons_zero, List.set_cons_succ, i64_w, i32_w]
        rfl
       refine one_ (i := 4) (N := some 16) #[true, true, true, true, true, false, false] rfl rfl (by kernel_rfl) (by decide) (fun K hK => ?_)
       refine Kd.N_lit_step k32 _ 32 ?hg (N' := 16) ?hd (xs := ([(⟨t339, t340, t343⟩ : S32)] : List (S32))) (inner := [.bool t339, .slice Ao64 t340.length co64, .string t343]) (ok := (fun k_ => some k_ ≠ (v337 : Value).ownBlock ∧ k_ ≠ gb327 ∧ k_ ≠ gb328 ∧ k_ ≠ gb335)) (okp := (fun k_ => some k_ ≠ (v337 : Value).ownBlock ∧ k_ ≠ gb327 ∧ k_ ≠ gb328 ∧ k_ ≠ gb335)) ?hr ?hp (fun _ hk => hk) ((show ∀ k_, w62.heap.size ≤ k_ → (fun k_ => some k_ ≠ (v337 : Value).ownBlock ∧ k_ ≠ gb327 ∧ k_ ≠ gb328 ∧ k_ ≠ gb335) k_ from fun k_ hk => ⟨Kd.fresh' (Kd.N_lt (by (with_reducible repeat (first | apply Kd.N_alloc | apply Kd.N_drewN | apply Kd.N_drew)); exact HO338.out)) k_ hk, Kd.freshB (g := gb327) (o := .cells #[.int .i64 a0_0, .int .i64 a0_1, .int .i64 a0_2, .int .i64 a0_3, .int .i64 a0_4, .int .i64 a0_5, .int .i64 a0_6, .int .i64 a0_7] 25 (0, 0)) (by (with_reducible repeat (first | refine blk_drewN ?_ _ | refine blk_drew ?_ | refine blk_alloc ?_ _)); exact BK327.out) k_ hk, Kd.freshB (g := gb328) (o := .cells #[.int .i64 a1_0, .int .i64 a1_1, .int .i64 a1_2, .int .i64 a1_3, .int .i64 a1_4, .int .i64 a1_5, .int .i64 a1_6, .int .i64 a1_7] 25 (0, 0)) (by (with_reducible repeat (first | refine blk_drewN ?_ _ | refine blk_drew ?_ | refine blk_alloc ?_ _)); exact BK328.out) k_ hk, Kd.freshB (g := gb335) (o := .cells #[.bool t330, .slice Ao58 t331.length co58, .string t334] 32 (0, 0)) (by (with_reducible repeat (first | refine blk_drewN ?_ _ | refine blk_drew ?_ | refine blk_alloc ?_ _)); exact BK335.out) k_ hk⟩) _ (Nat.le_refl _)) (Below.refl _ _) (Nat.le_refl _) (by simp) ?_; (case hd => rfl); (case hg => rfl); (case hr => first | (go_simp; done) | (go_simp; rfl)); (case hp => exact (Reps.c3 (show Kd.FK k32 _ _ (⟨t339, t340, t343⟩ : S32) [.bool t339, .slice Ao64 t340.length co64, .string t343] from (k32_mkF _ _ (⟨t339, t340, t343⟩ : S32) (Kd.R_reads' (Kd.R_mono (ok' := (fun k_ => some k_ ≠ (v337 : Value).ownBlock ∧ k_ ≠ gb327 ∧ k_ ≠ gb328 ∧ k_ ≠ gb335)) (Kd.R_types (Kd.R_types (Kd.R_types (Kd.R_apart' (HO342.out) (Kd.N_typed HO338.out) (by decide)) BK327.out (by decide)) BK328.out (by decide)) BK335.out (by decide)) (fun k_ hk => ⟨hk.1.1.1.2, ⟨hk.1.1.2, ⟨hk.1.2, hk.2⟩⟩⟩))).2.1 (Kd.R_F (Kd.R_mono (ok' := (fun k_ => some k_ ≠ (v337 : Value).ownBlock ∧ k_ ≠ gb327 ∧ k_ ≠ gb328 ∧ k_ ≠ gb335)) (Kd.R_types (Kd.R_types (Kd.R_types (Kd.R_apart' (HO342.out) (Kd.N_typed HO338.out) (by decide)) BK327.out (by decide)) BK328.out (by decide)) BK335.out (by decide)) (fun k_ hk => ⟨hk.1.1.1.2, ⟨hk.1.1.2, ⟨hk.1.2, hk.2⟩⟩⟩))))) (Reps.none _ _)))
       intro v345 w65 ho66 hb hg_ hnew_
       clear hg_ hnew_
       (first | rw [← Ny344.out] at ho66 | (simp only [Int.reduceToNat] at ho66; rw [← Ny344.out] at ho66))
       have n0_ := Aside0.mk (Kd.N_elder' (by (with_reducible repeat (first | apply Kd.N_alloc | apply Kd.N_drewN | apply Kd.N_drew)); exact HO338.out) (Kd.N_base ho66) hb)
       have n1_ := Aside0.mk (Kd.N_lower ho66 (below_size (by repeat (first | (with_reducible first | exact HB.out | apply below_alloc | apply pw_below_drewN | apply below_drew1 | refine below_set ?_ GE327.out | refine below_set ?_ GE328.out | refine below_set ?_ GE335.out) | exact HB.out))))
       have n2_ := Aside0.mk (blk_below (g := gb327) (o := .cells #[.int .i64 a0_0, .int .i64 a0_1, .int .i64 a0_2, .int .i64 a0_3, .int .i64 a0_4, .int .i64 a0_5, .int .i64 a0_6, .int .i64 a0_7] 25 (0, 0)) (by (with_reducible repeat (first | refine blk_drewN ?_ _ | refine blk_drew ?_ | refine blk_alloc ?_ _)); exact BK327.out) hb)
       have n3_ := Aside0.mk (blk_below (g := gb328) (o := .cells #[.int .i64 a1_0, .int .i64 a1_1, .int .i64 a1_2, .int .i64 a1_3, .int .i64 a1_4, .int .i64 a1_5, .int .i64 a1_6, .int .i64 a1_7] 25 (0, 0)) (by (with_reducible repeat (first | refine blk_drewN ?_ _ | refine blk_drew ?_ | refine blk_alloc ?_ _)); exact BK328.out) hb)
       have n4_ := Aside0.mk (blk_below (g := gb335) (o := .cells #[.bool t330, .slice Ao58 t331.length co58, .string t334] 32 (0, 0)) (by (with_reducible repeat (first | refine blk_drewN ?_ _ | refine blk_drew ?_ | refine blk_alloc ?_ _)); exact BK335.out) hb)
       have HCX := Aside0.mk (Kd.C_below (by repeat (first | exact HCX.out | (with_reducible refine Kd.C_alloc ?_ _) | (with_reducible refine Kd.C_drewN ?_ _) | (with_reducible refine Kd.C_drew ?_))) hb)
       have n5_ := Aside0.mk (below_step (by repeat (first | (with_reducible first | exact HB.out | apply below_alloc | apply pw_below_drewN | apply below_drew1 | refine below_set ?_ GE327.out | refine below_set ?_ GE328.out | refine below_set ?_ GE335.out) | exact HB.out)) hb)
       clear HO338
       clear BK327
       clear BK328
       clear BK335
       clear HB
       clear HO342
       have HO338 := n0_
       have HO346 := n1_
       have BK327 := n2_
       have BK328 := n3_
       have BK335 := n4_
       have HB := n5_
       clear n0_ n1_ n2_ n3_ n4_ n5_
       clear hb ho66
       refine hK.out _ _ ⟨(blk_cell BK335.out 0).trans rfl, (blk_cell BK335.out 1).trans rfl, (blk_cell BK335.out 2).trans rfl, (blk_cell BK327.out 0).trans rfl, (blk_cell BK327.out 1).trans rfl, (blk_cell BK327.out 2).trans rfl, (blk_cell BK327.out 3).trans rfl, (blk_cell BK327.out 4).trans rfl, (blk_cell BK327.out 5).trans rfl, (blk_cell BK327.out 6).trans rfl, (blk_cell BK327.out 7).trans rfl⟩ (fun hHeld => ?_)
       clear hK K
       refine norm_ (a' := ?_) ?_ ?_
       rotate_left
       ·show Act.put _ (some 16) _ = _
        simp only [Act.put, List.setIfInBounds_toArray, List.set_cons_zero, List.set_cons_succ, i64_w, i32_w]
        rfl
       exact norm_ (by simp only [putAll, Act.put, List.setIfInBounds_toArray, List.set_cons_zero, List.set_cons_succ]) (hCont (v337, .slice Ao64 t340.length co64, v345) _ ⟨hHeld, (by (with_reducible repeat (first | apply Kd.N_alloc | apply Kd.N_drewN | apply Kd.N_drew)); exact Kd.N_mono HO338.out (fun _ hk => ⟨hk.2, ⟨hk.1.2.1, ⟨hk.1.2.2.1, hk.1.2.2.2⟩⟩⟩)), (by (with_reducible repeat (first | apply Kd.N_alloc | apply Kd.N_drewN | apply Kd.N_drew)); exact HO346.out), (by (with_reducible repeat (first | refine blk_drewN ?_ _ | refine blk_drew ?_ | refine blk_alloc ?_ _)); exact BK327.out), (by (with_reducible repeat (first | refine blk_drewN ?_ _ | refine blk_drew ?_ | refine blk_alloc ?_ _)); exact BK328.out), (by (with_reducible repeat (first | refine blk_drewN ?_ _ | refine blk_drew ?_ | refine blk_alloc ?_ _)); exact BK335.out), (by repeat (first | (with_reducible first | exact HB.out | apply below_alloc | apply pw_below_drewN | apply below_drew1 | refine below_set ?_ GE327.out | refine below_set ?_ GE328.out | refine below_set ?_ GE335.out) | exact HB.out)), (by repeat (first | exact HCX.out | (with_reducible refine Kd.C_alloc ?_ _) | (with_reducible refine Kd.C_drewN ?_ _) | (with_reducible refine Kd.C_drew ?_)))⟩)
      ·skip
       obtain ⟨Ao62, co62, eo62⟩ := Kd.R_slice HO342.out
       (first | subst eo62 | (injection eo62 with f1_ f2_ f3_; have f4_ := f1_.symm; have f5_ := f3_.symm; clear f1_ f2_ f3_; subst f4_; subst f5_))
       refine Kd.N_lit_step k32 _ 32 ?hg (N' := 16) ?hd (xs := ([(⟨t339, t340, t343⟩ : S32)] : List (S32))) (inner := [.bool t339, .slice Ao62 t340.length co62, .string t343]) (ok := (fun k_ => some k_ ≠ (.slice Ao58 t331.length co58 : Value).ownBlock ∧ k_ ≠ gb327 ∧ k_ ≠ gb328 ∧ k_ ≠ gb335)) (okp := (fun k_ => some k_ ≠ (.slice Ao58 t331.length co58 : Value).ownBlock ∧ k_ ≠ gb327 ∧ k_ ≠ gb328 ∧ k_ ≠ gb335)) ?hr ?hp (fun _ hk => hk) ((show ∀ k_, w61.heap.size ≤ k_ → (fun k_ => some k_ ≠ (.slice Ao58 t331.length co58 : Value).ownBlock ∧ k_ ≠ gb327 ∧ k_ ≠ gb328 ∧ k_ ≠ gb335) k_ from fun k_ hk => ⟨Kd.fresh' (Kd.R_lt (by (with_reducible repeat (first | apply Kd.R_alloc | apply Kd.R_drewN | apply Kd.R_drew)); exact HO333.out)) k_ hk, Kd.freshB (g := gb327) (o := .cells #[.int .i64 a0_0, .int .i64 a0_1, .int .i64 a0_2, .int .i64 a0_3, .int .i64 a0_4, .int .i64 a0_5, .int .i64 a0_6, .int .i64 a0_7] 25 (0, 0)) (by (with_reducible repeat (first | refine blk_drewN ?_ _ | refine blk_drew ?_ | refine blk_alloc ?_ _)); exact BK327.out) k_ hk, Kd.freshB (g := gb328) (o := .cells #[.int .i64 a1_0, .int .i64 a1_1, .int .i64 a1_2, .int .i64 a1_3, .int .i64 a1_4, .int .i64 a1_5, .int .i64 a1_6, .int .i64 a1_7] 25 (0, 0)) (by (with_reducible repeat (first | refine blk_drewN ?_ _ | refine blk_drew ?_ | refine blk_alloc ?_ _)); exact BK328.out) k_ hk, Kd.freshB (g := gb335) (o := .cells #[.bool t330, .slice Ao58 t331.length co58, .string t334] 32 (0, 0)) (by (with_reducible repeat (first | refine blk_drewN ?_ _ | refine blk_drew ?_ | refine blk_alloc ?_ _)); exact BK335.out) k_ hk⟩) _ (Nat.le_refl _)) (Below.refl _ _) (Nat.le_refl _) (by simp) ?_; (case hd => rfl); (case hg => rfl); (case hr => first | (go_simp; done) | (go_simp; rfl)); (case hp => exact (Reps.c3 (show Kd.FK k32 _ _ (⟨t339, t340, t343⟩ : S32) [.bool t339, .slice Ao62 t340.length co62, .string t343] from (k32_mkF _ _ (⟨t339, t340, t343⟩ : S32) (Kd.R_reads' (Kd.R_mono (ok' := (fun k_ => some k_ ≠ (.slice Ao58 t331.length co58 : Value).ownBlock ∧ k_ ≠ gb327 ∧ k_ ≠ gb328 ∧ k_ ≠ gb335)) (Kd.R_types (Kd.R_types (Kd.R_types (HO342.out) BK327.out (by decide)) BK328.out (by decide)) BK335.out (by decide)) (fun k_ hk => ⟨hk.1.1.1.2, ⟨hk.1.1.2, ⟨hk.1.2, hk.2⟩⟩⟩))).2.1 (Kd.R_F (Kd.R_mono (ok' := (fun k_ => some k_ ≠ (.slice Ao58 t331.length co58 : Value).ownBlock ∧ k_ ≠ gb327 ∧ k_ ≠ gb328 ∧ k_ ≠ gb335)) (Kd.R_types (Kd.R_types (Kd.R_types (HO342.out) BK327.out (by decide)) BK328.out (by decide)) BK335.out (by decide)) (fun k_ hk => ⟨hk.1.1.1.2, ⟨hk.1.1.2, ⟨hk.1.2, hk.2⟩⟩⟩))))) (Reps.none _ _)))
       intro v345 w63 ho64 hb hg_ hnew_
       clear hg_ hnew_
       (first | rw [← Ny344.out] at ho64 | (simp only [Int.reduceToNat] at ho64; rw [← Ny344.out] at ho64))
       have n0_ := Aside0.mk (Kd.R_below (by (with_reducible repeat (first | apply Kd.R_alloc | apply Kd.R_drewN | apply Kd.R_drew)); exact HO333.out) hb)
       have n1_ := Aside0.mk (Kd.N_lower ho64 (below_size (by repeat (first | (with_reducible first | exact HB.out | apply below_alloc | apply pw_below_drewN | apply below_drew1 | refine below_set ?_ GE327.out | refine below_set ?_ GE328.out | refine below_set ?_ GE335.out) | exact HB.out))))
       have n2_ := Aside0.mk (blk_below (g := gb327) (o := .cells #[.int .i64 a0_0, .int .i64 a0_1, .int .i64 a0_2, .int .i64 a0_3, .int .i64 a0_4, .int .i64 a0_5, .int .i64 a0_6, .int .i64 a0_7] 25 (0, 0)) (by (with_reducible repeat (first | refine blk_drewN ?_ _ | refine blk_drew ?_ | refine blk_alloc ?_ _)); exact BK327.out) hb)
       have n3_ := Aside0.mk (blk_below (g := gb328) (o := .cells #[.int .i64 a1_0, .int .i64 a1_1, .int .i64 a1_2, .int .i64 a1_3, .int .i64 a1_4, .int .i64 a1_5, .int .i64 a1_6, .int .i64 a1_7] 25 (0, 0)) (by (with_reducible repeat (first | refine blk_drewN ?_ _ | refine blk_drew ?_ | refine blk_alloc ?_ _)); exact BK328.out) hb)
       have n4_ := Aside0.mk (blk_below (g := gb335) (o := .cells #[.bool t330, .slice Ao58 t331.length co58, .string t334] 32 (0, 0)) (by (with_reducible repeat (first | refine blk_drewN ?_ _ | refine blk_drew ?_ | refine blk_alloc ?_ _)); exact BK335.out) hb)
       have HCX := Aside0.mk (Kd.C_below (by repeat (first | exact HCX.out | (with_reducible refine Kd.C_alloc ?_ _) | (with_reducible refine Kd.C_drewN ?_ _) | (with_reducible refine Kd.C_drew ?_))) hb)
       have n5_ := Aside0.mk (below_step (by repeat (first | (with_reducible first | exact HB.out | apply below_alloc | apply pw_below_drewN | apply below_drew1 | refine below_set ?_ GE327.out | refine below_set ?_ GE328.out | refine below_set ?_ GE335.out) | exact HB.out)) hb)
       clear HO333
       clear BK327
       clear BK328
       clear BK335
       clear HB
       clear HO342
       have HO333 := n0_
       have HO346 := n1_
       have BK327 := n2_
       have BK328 := n3_
       have BK335 := n4_
       have HB := n5_
       clear n0_ n1_ n2_ n3_ n4_ n5_
       clear hb ho64
       refine hK.out _ _ ⟨(blk_cell BK335.out 0).trans rfl, (blk_cell BK335.out 1).trans rfl, (blk_cell BK335.out 2).trans rfl, (blk_cell BK327.out 0).trans rfl, (blk_cell BK327.out 1).trans rfl, (blk_cell BK327.out 2).trans rfl, (blk_cell BK327.out 3).trans rfl, (blk_cell BK327.out 4).trans rfl, (blk_cell BK327.out 5).trans rfl, (blk_cell BK327.out 6).trans rfl, (blk_cell BK327.out 7).trans rfl⟩ (fun hHeld => ?_)
       clear hK K
       refine norm_ (a' := ?_) ?_ ?_
       rotate_left
       ·show Act.put _ (some 16) _ = _
        simp only [Act.put, List.setIfInBounds_toArray, List.set_cons_zero, List.set_cons_succ, i64_w, i32_w]
        rfl
       refine one_ (i := 1) (N := some 13) #[true, true, true, true, true, false, false] rfl rfl (by kernel_rfl) (by decide) (fun K hK => ?_)
       refine Kd.N_lit_step k32 _ 32 ?hg (N' := 13) ?hd (xs := ([(⟨t330, t331, t334⟩ : S32)] : List (S32))) (inner := [.bool t330, .slice Ao58 t331.length co58, .string t334]) (ok := (fun k_ => some k_ ≠ (v345 : Value).ownBlock ∧ k_ ≠ gb327 ∧ k_ ≠ gb328 ∧ k_ ≠ gb335)) (okp := (fun k_ => some k_ ≠ (v345 : Value).ownBlock ∧ k_ ≠ gb327 ∧ k_ ≠ gb328 ∧ k_ ≠ gb335)) ?hr ?hp (fun _ hk => hk) ((show ∀ k_, w63.heap.size ≤ k_ → (fun k_ => some k_ ≠ (v345 : Value).ownBlock ∧ k_ ≠ gb327 ∧ k_ ≠ gb328 ∧ k_ ≠ gb335) k_ from fun k_ hk => ⟨Kd.fresh' (Kd.N_lt (by (with_reducible repeat (first | apply Kd.N_alloc | apply Kd.N_drewN | apply Kd.N_drew)); exact HO346.out)) k_ hk, Kd.freshB (g := gb327) (o := .cells #[.int .i64 a0_0, .int .i64 a0_1, .int .i64 a0_2, .int .i64 a0_3, .int .i64 a0_4, .int .i64 a0_5, .int .i64 a0_6, .int .i64 a0_7] 25 (0, 0)) (by (with_reducible repeat (first | refine blk_drewN ?_ _ | refine blk_drew ?_ | refine blk_alloc ?_ _)); exact BK327.out) k_ hk, Kd.freshB (g := gb328) (o := .cells #[.int .i64 a1_0, .int .i64 a1_1, .int .i64 a1_2, .int .i64 a1_3, .int .i64 a1_4, .int .i64 a1_5, .int .i64 a1_6, .int .i64 a1_7] 25 (0, 0)) (by (with_reducible repeat (first | refine blk_drewN ?_ _ | refine blk_drew ?_ | refine blk_alloc ?_ _)); exact BK328.out) k_ hk, Kd.freshB (g := gb335) (o := .cells #[.bool t330, .slice Ao58 t331.length co58, .string t334] 32 (0, 0)) (by (with_reducible repeat (first | refine blk_drewN ?_ _ | refine blk_drew ?_ | refine blk_alloc ?_ _)); exact BK335.out) k_ hk⟩) _ (Nat.le_refl _)) (Below.refl _ _) (Nat.le_refl _) (by simp) ?_; (case hd => rfl); (case hg => rfl); (case hr => first | (go_simp; done) | (go_simp; rfl)); (case hp => exact (Reps.c3 (show Kd.FK k32 _ _ (⟨t330, t331, t334⟩ : S32) [.bool t330, .slice Ao58 t331.length co58, .string t334] from (k32_mkF _ _ (⟨t330, t331, t334⟩ : S32) (Kd.R_reads' (Kd.R_mono (ok' := (fun k_ => some k_ ≠ (v345 : Value).ownBlock ∧ k_ ≠ gb327 ∧ k_ ≠ gb328 ∧ k_ ≠ gb335)) (Kd.R_types (Kd.R_types (Kd.R_types (Kd.R_apart' (HO333.out) (Kd.N_typed HO346.out) (by decide)) BK327.out (by decide)) BK328.out (by decide)) BK335.out (by decide)) (fun k_ hk => ⟨hk.1.1.1.2, ⟨hk.1.1.2, ⟨hk.1.2, hk.2⟩⟩⟩))).2.1 (Kd.R_F (Kd.R_mono (ok' := (fun k_ => some k_ ≠ (v345 : Value).ownBlock ∧ k_ ≠ gb327 ∧ k_ ≠ gb328 ∧ k_ ≠ gb335)) (Kd.R_types (Kd.R_types (Kd.R_types (Kd.R_apart' (HO333.out) (Kd.N_typed HO346.out) (by decide)) BK327.out (by decide)) BK328.out (by decide)) BK335.out (by decide)) (fun k_ hk => ⟨hk.1.1.1.2, ⟨hk.1.1.2, ⟨hk.1.2, hk.2⟩⟩⟩))))) (Reps.none _ _)))
       intro v337 w65 ho66 hb hg_ hnew_
       clear hg_ hnew_
       (first | rw [← Ny336.out] at ho66 | (simp only [Int.reduceToNat] at ho66; rw [← Ny336.out] at ho66))
       have n0_ := Aside0.mk (Kd.N_elder' (by (with_reducible repeat (first | apply Kd.N_alloc | apply Kd.N_drewN | apply Kd.N_drew)); exact HO346.out) (Kd.N_base ho66) hb)
       have n1_ := Aside0.mk (Kd.N_lower ho66 (below_size (by repeat (first | (with_reducible first | exact HB.out | apply below_alloc | apply pw_below_drewN | apply below_drew1 | refine below_set ?_ GE327.out | refine below_set ?_ GE328.out | refine below_set ?_ GE335.out) | exact HB.out))))
       have n2_ := Aside0.mk (blk_below (g := gb327) (o := .cells #[.int .i64 a0_0, .int .i64 a0_1, .int .i64 a0_2, .int .i64 a0_3, .int .i64 a0_4, .int .i64 a0_5, .int .i64 a0_6, .int .i64 a0_7] 25 (0, 0)) (by (with_reducible repeat (first | refine blk_drewN ?_ _ | refine blk_drew ?_ | refine blk_alloc ?_ _)); exact BK327.out) hb)
       have n3_ := Aside0.mk (blk_below (g := gb328) (o := .cells #[.int .i64 a1_0, .int .i64 a1_1, .int .i64 a1_2, .int .i64 a1_3, .int .i64 a1_4, .int .i64 a1_5, .int .i64 a1_6, .int .i64 a1_7] 25 (0, 0)) (by (with_reducible repeat (first | refine blk_drewN ?_ _ | refine blk_drew ?_ | refine blk_alloc ?_ _)); exact BK328.out) hb)
       have n4_ := Aside0.mk (blk_below (g := gb335) (o := .cells #[.bool t330, .slice Ao58 t331.length co58, .string t334] 32 (0, 0)) (by (with_reducible repeat (first | refine blk_drewN ?_ _ | refine blk_drew ?_ | refine blk_alloc ?_ _)); exact BK335.out) hb)
       have HCX := Aside0.mk (Kd.C_below (by repeat (first | exact HCX.out | (with_reducible refine Kd.C_alloc ?_ _) | (with_reducible refine Kd.C_drewN ?_ _) | (with_reducible refine Kd.C_drew ?_))) hb)
       have n5_ := Aside0.mk (below_step (by repeat (first | (with_reducible first | exact HB.out | apply below_alloc | apply pw_below_drewN | apply below_drew1 | refine below_set ?_ GE327.out | refine below_set ?_ GE328.out | refine below_set ?_ GE335.out) | exact HB.out)) hb)
       clear HO346
       clear BK327
       clear BK328
       clear BK335
       clear HB
       clear HO333
       have HO346 := n0_
       have HO338 := n1_
       have BK327 := n2_
       have BK328 := n3_
       have BK335 := n4_
       have HB := n5_
       clear n0_ n1_ n2_ n3_ n4_ n5_
       clear hb ho66
       refine hK.out _ _ ⟨(blk_cell BK335.out 0).trans rfl, (blk_cell BK335.out 1).trans rfl, (blk_cell BK335.out 2).trans rfl, (blk_cell BK327.out 0).trans rfl, (blk_cell BK327.out 1).trans rfl, (blk_cell BK327.out 2).trans rfl, (blk_cell BK327.out 3).trans rfl, (blk_cell BK327.out 4).trans rfl, (blk_cell BK327.out 5).trans rfl, (blk_cell BK327.out 6).trans rfl, (blk_cell BK327.out 7).trans rfl⟩ (fun hHeld => ?_)
       clear hK K
       refine norm_ (a' := ?_) ?_ ?_
       rotate_left
       ·show Act.put _ (some 13) _ = _
        simp only [Act.put, List.setIfInBounds_toArray, List.set_cons_zero, List.set_cons_succ, i64_w, i32_w]
        rfl
       exact norm_ (by simp only [putAll, Act.put, List.setIfInBounds_toArray, List.set_cons_zero, List.set_cons_succ]) (hCont (v337, .slice Ao62 t340.length co62, v345) _ ⟨hHeld, (by (with_reducible repeat (first | apply Kd.N_alloc | apply Kd.N_drewN | apply Kd.N_drew)); exact HO338.out), (by (with_reducible repeat (first | apply Kd.N_alloc | apply Kd.N_drewN | apply Kd.N_drew)); exact Kd.N_mono HO346.out (fun _ hk => ⟨hk.2, ⟨hk.1.2.1, ⟨hk.1.2.2.1, hk.1.2.2.2⟩⟩⟩)), (by (with_reducible repeat (first | refine blk_drewN ?_ _ | refine blk_drew ?_ | refine blk_alloc ?_ _)); exact BK327.out), (by (with_reducible repeat (first | refine blk_drewN ?_ _ | refine blk_drew ?_ | refine blk_alloc ?_ _)); exact BK328.out), (by (with_reducible repeat (first | refine blk_drewN ?_ _ | refine blk_drew ?_ | refine blk_alloc ?_ _)); exact BK335.out), (by repeat (first | (with_reducible first | exact HB.out | apply below_alloc | apply pw_below_drewN | apply below_drew1 | refine below_set ?_ GE327.out | refine below_set ?_ GE328.out | refine below_set ?_ GE335.out) | exact HB.out)), (by repeat (first | exact HCX.out | (with_reducible refine Kd.C_alloc ?_ _) | (with_reducible refine Kd.C_drewN ?_ _) | (with_reducible refine Kd.C_drew ?_)))⟩)
    rintro ⟨v337, v341, v345⟩ w67 ⟨hS_, h0_, h1_, h2_, h3_, h4_, h5_, hcx_⟩
    have HCX := Aside0.mk hcx_
    clear hcx_
    have n0_ : Aside0 (Kd.N k32 32 w67 w.heap.size (fun k_ => some k_ ≠ (v345 : Value).ownBlock ∧ k_ ≠ gb327 ∧ k_ ≠ gb328 ∧ k_ ≠ gb335) v337 y336) := ⟨h0_⟩
    have n1_ : Aside0 (Kd.N k32 32 w67 w.heap.size (fun k_ => some k_ ≠ (v337 : Value).ownBlock ∧ k_ ≠ gb327 ∧ k_ ≠ gb328 ∧ k_ ≠ gb335) v345 y344) := ⟨h1_⟩
    have n2_ : Aside0 (w67.heap[gb327]? = some (.cells #[.int .i64 a0_0, .int .i64 a0_1, .int .i64 a0_2, .int .i64 a0_3, .int .i64 a0_4, .int .i64 a0_5, .int .i64 a0_6, .int .i64 a0_7] 25 (0, 0))) := ⟨h2_⟩
    have n3_ : Aside0 (w67.heap[gb328]? = some (.cells #[.int .i64 a1_0, .int .i64 a1_1, .int .i64 a1_2, .int .i64 a1_3, .int .i64 a1_4, .int .i64 a1_5, .int .i64 a1_6, .int .i64 a1_7] 25 (0, 0))) := ⟨h3_⟩
    have n4_ : Aside0 (w67.heap[gb335]? = some (.cells #[.bool t330, .slice Ao58 t331.length co58, .string t334] 32 (0, 0))) := ⟨h4_⟩
    have n5_ : Aside0 (Below w.heap.size w w67) := ⟨h5_⟩
    clear HO333
    clear BK327
    clear BK328
    clear BK335
    clear HB
    clear h0_ h1_ h2_ h3_ h4_ h5_
    have HO338 := n0_
    have HO346 := n1_
    have BK327 := n2_
    have BK328 := n3_
    have BK335 := n4_
    have HB := n5_
    clear n0_ n1_ n2_ n3_ n4_ n5_
    have hHeld : w67.cell? ⟨gb335, 0, none⟩ = some (.bool t330) ∧ w67.cell? ⟨gb335, 1, none⟩ = some (.slice Ao58 t331.length co58) ∧ w67.cell? ⟨gb335, 2, none⟩ = some (.string t334) ∧ w67.cell? ⟨gb327, 0, none⟩ = some (.int .i64 a0_0) ∧ w67.cell? ⟨gb327, 1, none⟩ = some (.int .i64 a0_1) ∧ w67.cell? ⟨gb327, 2, none⟩ = some (.int .i64 a0_2) ∧ w67.cell? ⟨gb327, 3, none⟩ = some (.int .i64 a0_3) ∧ w67.cell? ⟨gb327, 4, none⟩ = some (.int .i64 a0_4) ∧ w67.cell? ⟨gb327, 5, none⟩ = some (.int .i64 a0_5) ∧ w67.cell? ⟨gb327, 6, none⟩ = some (.int .i64 a0_6) ∧ w67.cell? ⟨gb327, 7, none⟩ = some (.int .i64 a0_7) := hS_
    obtain ⟨Ao68, co68, eo68⟩ := Kd.N_slice HO338.out
    (first | subst eo68 | (injection eo68 with f1_ f2_ f3_; have f4_ := f1_.symm; have f5_ := f3_.symm; clear f1_ f2_ f3_; subst f4_; subst f5_))
    obtain ⟨Ao69, co69, eo69⟩ := Kd.N_slice HO346.out
    (first | subst eo69 | (injection eo69 with f1_ f2_ f3_; have f4_ := f1_.symm; have f5_ := f3_.symm; clear f1_ f2_ f3_; subst f4_; subst f5_))
    refine norm_ (a' := ?_) ?_ ?_
    rotate_left
    ·simp only [putAll, Act.put, List.setIfInBounds_toArray, List.set_cons_zero, List.set_cons_succ]
     rfl
    refine one_ (i := 5) (N := some 17) #[true, true, true, true, true, true, false] rfl rfl (by kernel_rfl) (by decide) (fun K hK => ?_)
    refine goes_ Try.func19 (by kernel_rfl) rfl #[.slice Ao68 y336.length co68, .slice Ao69 y344.length co69] (by rfl) rfl rfl (by (try simp only [List.map_toArray, List.map_cons, List.map_nil]); first | done | rfl | (simp only [List.length_drop, List.length_take]; rfl)) ?_
    with_reducible refine (swarfref41_Same.calls k _ _ y336 _ _ y344 true _ ?side1 ?side2 ?side3 ?side4 A7.out).mono ?_
    (case side1 => repeat (first | exact (Kd.N_reads' HO338.out).2.2 | (with_reducible refine Kd.C_alloc ?_ _) | (with_reducible refine Kd.C_drewN ?_ _) | (with_reducible refine Kd.C_drew ?_)))
    (case side2 => exact (Kd.N_reads' HO338.out).2.1)
    (case side3 => repeat (first | exact (Kd.N_reads' HO346.out).2.2 | (with_reducible refine Kd.C_alloc ?_ _) | (with_reducible refine Kd.C_drewN ?_ _) | (with_reducible refine Kd.C_drew ?_)))
    (case side4 => exact (Kd.N_reads' HO346.out).2.1)
    rintro e w70 ⟨rfl, hb⟩
    refine ⟨_, rfl, ?_⟩
    have n0_ := Aside0.mk (Kd.N_below (by (with_reducible repeat (first | apply Kd.N_alloc | apply Kd.N_drewN | apply Kd.N_drew)); exact HO338.out) hb)
    have n1_ := Aside0.mk (Kd.N_below (by (with_reducible repeat (first | apply Kd.N_alloc | apply Kd.N_drewN | apply Kd.N_drew)); exact HO346.out) hb)
    have n2_ := Aside0.mk (blk_below (g := gb327) (o := .cells #[.int .i64 a0_0, .int .i64 a0_1, .int .i64 a0_2, .int .i64 a0_3, .int .i64 a0_4, .int .i64 a0_5, .int .i64 a0_6, .int .i64 a0_7] 25 (0, 0)) (by (with_reducible repeat (first | refine blk_drewN ?_ _ | refine blk_drew ?_ | refine blk_alloc ?_ _)); exact BK327.out) hb)
    have n3_ := Aside0.mk (blk_below (g := gb328) (o := .cells #[.int .i64 a1_0, .int .i64 a1_1, .int .i64 a1_2, .int .i64 a1_3, .int .i64 a1_4, .int .i64 a1_5, .int .i64 a1_6, .int .i64 a1_7] 25 (0, 0)) (by (with_reducible repeat (first | refine blk_drewN ?_ _ | refine blk_drew ?_ | refine blk_alloc ?_ _)); exact BK328.out) hb)
    have n4_ := Aside0.mk (blk_below (g := gb335) (o := .cells #[.bool t330, .slice Ao58 t331.length co58, .string t334] 32 (0, 0)) (by (with_reducible repeat (first | refine blk_drewN ?_ _ | refine blk_drew ?_ | refine blk_alloc ?_ _)); exact BK335.out) hb)
    have HCX := Aside0.mk (Kd.C_below (by repeat (first | exact HCX.out | (with_reducible refine Kd.C_alloc ?_ _) | (with_reducible refine Kd.C_drewN ?_ _) | (with_reducible refine Kd.C_drew ?_))) hb)
    have n5_ := Aside0.mk (below_step (by repeat (first | (with_reducible first | exact HB.out | apply below_alloc | apply pw_below_drewN | apply below_drew1 | refine below_set ?_ GE327.out | refine below_set ?_ GE328.out | refine below_set ?_ GE335.out) | exact HB.out)) hb)
    clear HO338
    clear HO346
    clear BK327
    clear BK328
    clear BK335
    clear HB
    have HO338 := n0_
    have HO346 := n1_
    have BK327 := n2_
    have BK328 := n3_
    have BK335 := n4_
    have HB := n5_
    clear n0_ n1_ n2_ n3_ n4_ n5_
    (try clear hb)
    (try clear hb2)
    (try clear hk)
    (try clear hi)
    refine hK.out _ _ ⟨(blk_cell BK335.out 0).trans rfl, (blk_cell BK335.out 1).trans rfl, (blk_cell BK335.out 2).trans rfl, (blk_cell BK327.out 0).trans rfl, (blk_cell BK327.out 1).trans rfl, (blk_cell BK327.out 2).trans rfl, (blk_cell BK327.out 3).trans rfl, (blk_cell BK327.out 4).trans rfl, (blk_cell BK327.out 5).trans rfl, (blk_cell BK327.out 6).trans rfl, (blk_cell BK327.out 7).trans rfl⟩ (fun hHeld => ?_)
    clear hK K
    refine norm_ (a' := ?_) ?_ ?_
    rotate_left
    ·show Act.put _ (some 17) _ = _
     simp only [Act.put, List.setIfInBounds_toArray, List.set_cons_zero, List.set_cons_succ, i64_w, i32_w]
     rfl
    refine pure_ (i := 6) (N := some 18) (v := ?_) (a' := ?_) #[true, true, true, true, true, true, true] rfl rfl (by kernel_rfl) (fun _ _ _ h => h) (Or.inl ⟨by rfl, ?_⟩) ?_ ?_
    rotate_left
    ·intro w'
     go_simp
     with_reducible rfl
    rotate_left
    ·simp only [Act.put, List.setIfInBounds_toArray, List.set_cons_zero, List.set_cons_succ, i64_w, i32_w]
     rfl
    refine done_ (by kernel_rfl) ?_
    have hcz71_0 : w70.cell? ⟨gb328, 0, none⟩ = some (.int .i64 a1_0) := (blk_cell BK328.out 0).trans rfl
    have hcz71_1 : w70.cell? ⟨gb328, 1, none⟩ = some (.int .i64 a1_1) := (blk_cell BK328.out 1).trans rfl
    have hcz71_2 : w70.cell? ⟨gb328, 2, none⟩ = some (.int .i64 a1_2) := (blk_cell BK328.out 2).trans rfl
    have hcz71_3 : w70.cell? ⟨gb328, 3, none⟩ = some (.int .i64 a1_3) := (blk_cell BK328.out 3).trans rfl
    have hcz71_4 : w70.cell? ⟨gb328, 4, none⟩ = some (.int .i64 a1_4) := (blk_cell BK328.out 4).trans rfl
    have hcz71_5 : w70.cell? ⟨gb328, 5, none⟩ = some (.int .i64 a1_5) := (blk_cell BK328.out 5).trans rfl
    have hcz71_6 : w70.cell? ⟨gb328, 6, none⟩ = some (.int .i64 a1_6) := (blk_cell BK328.out 6).trans rfl
    have hcz71_7 : w70.cell? ⟨gb328, 7, none⟩ = some (.int .i64 a1_7) := (blk_cell BK328.out 7).trans rfl
    have hfz71_0 := blk_frozen BK328.out 0
    have hfz71_1 := blk_frozen BK328.out 1
    have hfz71_2 := blk_frozen BK328.out 2
    have hfz71_3 := blk_frozen BK328.out 3
    have hfz71_4 := blk_frozen BK328.out 4
    have hfz71_5 := blk_frozen BK328.out 5
    have hfz71_6 := blk_frozen BK328.out 6
    have hfz71_7 := blk_frozen BK328.out 7
    have hcz72_0 : w70.cell? ⟨gb335, 0, none⟩ = some (.bool t330) := (blk_cell BK335.out 0).trans rfl
    have hcz72_1 : w70.cell? ⟨gb335, 1, none⟩ = some (.slice Ao58 t331.length co58) := (blk_cell BK335.out 1).trans rfl
    have hcz72_2 : w70.cell? ⟨gb335, 2, none⟩ = some (.string t334) := (blk_cell BK335.out 2).trans rfl
    have hfz72_0 := blk_frozen BK335.out 0
    have hfz72_1 := blk_frozen BK335.out 1
    have hfz72_2 := blk_frozen BK335.out 2
    try go_wp2_with (first | ((with_reducible refine gate_callee (f := 21) rfl ?_); refine goesL_ (some 22) rfl rfl Try.func21 (by kernel_rfl) rfl #[.agg #[.int .i64 a1_0, .int .i64 a1_1, .int .i64 a1_2, .int .i64 a1_3, .int .i64 a1_4, .int .i64 a1_5, .int .i64 a1_6, .int .i64 a1_7], .agg #[.bool t330, .slice Ao58 t331.length co58, .string t334]] rfl (by (try simp only [List.map_toArray, List.map_cons, List.map_nil]); first | done | rfl | (simp only [List.length_drop, List.length_take]; rfl)) ?_; (with_reducible refine (modal_Apply.calls k a1_0 a1_1 a1_2 a1_3 a1_4 a1_5 a1_6 a1_7 t330 _ _ t331 t334 t348 t349 t350 t351 t352 t353 t354 t355 t356 _ ?side1 ?side2 A9.out).mono ?_); (case side1 => repeat (first | exact HCX.out | (with_reducible refine Kd.C_alloc ?_ _) | (with_reducible refine Kd.C_drewN ?_ _) | (with_reducible refine Kd.C_drew ?_))); (case side2 => exact HCL.out); rintro e w73 ⟨rfl, hb⟩; refine ⟨_, rfl, ?_⟩; have n0_ := Aside0.mk (Kd.N_below (by (with_reducible repeat (first | apply Kd.N_alloc | apply Kd.N_drewN | apply Kd.N_drew)); exact HO338.out) hb); have n1_ := Aside0.mk (Kd.N_below (by (with_reducible repeat (first | apply Kd.N_alloc | apply Kd.N_drewN | apply Kd.N_drew)); exact HO346.out) hb); have n2_ := Aside0.mk (blk_below (g := gb327) (o := .cells #[.int .i64 a0_0, .int .i64 a0_1, .int .i64 a0_2, .int .i64 a0_3, .int .i64 a0_4, .int .i64 a0_5, .int .i64 a0_6, .int .i64 a0_7] 25 (0, 0)) (by (with_reducible repeat (first | refine blk_drewN ?_ _ | refine blk_drew ?_ | refine blk_alloc ?_ _)); exact BK327.out) hb); have n3_ := Aside0.mk (blk_below (g := gb328) (o := .cells #[.int .i64 a1_0, .int .i64 a1_1, .int .i64 a1_2, .int .i64 a1_3, .int .i64 a1_4, .int .i64 a1_5, .int .i64 a1_6, .int .i64 a1_7] 25 (0, 0)) (by (with_reducible repeat (first | refine blk_drewN ?_ _ | refine blk_drew ?_ | refine blk_alloc ?_ _)); exact BK328.out) hb); have n4_ := Aside0.mk (blk_below (g := gb335) (o := .cells #[.bool t330, .slice Ao58 t331.length co58, .string t334] 32 (0, 0)) (by (with_reducible repeat (first | refine blk_drewN ?_ _ | refine blk_drew ?_ | refine blk_alloc ?_ _)); exact BK335.out) hb); have n5_ := Aside0.mk (below_step (by repeat (first | (with_reducible first | exact HB.out | apply below_alloc | apply pw_below_drewN | apply below_drew1 | refine below_set ?_ GE327.out | refine below_set ?_ GE328.out | refine below_set ?_ GE335.out) | exact HB.out)) hb); clear HO338; clear HO346; clear BK327; clear BK328; clear BK335; clear HB; have HO338 := n0_; have HO346 := n1_; have BK327 := n2_; have BK328 := n3_; have BK335 := n4_; have HB := n5_; clear n0_ n1_ n2_ n3_ n4_ n5_; (try clear hb); (try clear hb2); (try clear hk); (try clear hi)) | ((with_reducible refine gate_dst (N := 6) rfl ?_); refine box_event ?hg (N := 6) ?hd (cs := #[.int .i64 0, .int .i64 0, .int .i64 0, .int .i64 0, .int .i64 0, .int .i64 0, .int .i64 0, .int .i64 0]) (t := 26) ?hr ?_; (case hd => rfl); (case hg => rfl); (case hr => first | (go_simp; done) | (go_simp; rfl)); intro gb357 hg w74 hbox hb; have n0_ := Aside0.mk (Kd.N_below (Kd.N_elderB (by (with_reducible repeat (first | apply Kd.N_alloc | apply Kd.N_drewN | apply Kd.N_drew)); exact HO338.out) gb357 (Nat.le_of_eq hg.symm)) hb); have n1_ := Aside0.mk (Kd.N_below (Kd.N_elderB (by (with_reducible repeat (first | apply Kd.N_alloc | apply Kd.N_drewN | apply Kd.N_drew)); exact HO346.out) gb357 (Nat.le_of_eq hg.symm)) hb); have n2_ := Aside0.mk (blk_below (g := gb327) (o := .cells #[.int .i64 a0_0, .int .i64 a0_1, .int .i64 a0_2, .int .i64 a0_3, .int .i64 a0_4, .int .i64 a0_5, .int .i64 a0_6, .int .i64 a0_7] 25 (0, 0)) (by (with_reducible repeat (first | refine blk_drewN ?_ _ | refine blk_drew ?_ | refine blk_alloc ?_ _)); exact BK327.out) hb); have n3_ := Aside0.mk (blk_below (g := gb328) (o := .cells #[.int .i64 a1_0, .int .i64 a1_1, .int .i64 a1_2, .int .i64 a1_3, .int .i64 a1_4, .int .i64 a1_5, .int .i64 a1_6, .int .i64 a1_7] 25 (0, 0)) (by (with_reducible repeat (first | refine blk_drewN ?_ _ | refine blk_drew ?_ | refine blk_alloc ?_ _)); exact BK328.out) hb); have n4_ := Aside0.mk (blk_below (g := gb335) (o := .cells #[.bool t330, .slice Ao58 t331.length co58, .string t334] 32 (0, 0)) (by (with_reducible repeat (first | refine blk_drewN ?_ _ | refine blk_drew ?_ | refine blk_alloc ?_ _)); exact BK335.out) hb); have n5_ := Aside0.mk (below_step (by repeat (first | (with_reducible first | exact HB.out | apply below_alloc | apply pw_below_drewN | apply below_drew1 | refine below_set ?_ GE327.out | refine below_set ?_ GE328.out | refine below_set ?_ GE335.out) | exact HB.out)) hb); have n6_ := Aside0.mk (hbox); have n7_ := Aside0.mk ((by rw [hg]; exact (below_size (by repeat (first | (with_reducible first | exact HB.out | apply below_alloc | apply pw_below_drewN | apply below_drew1 | refine below_set ?_ GE327.out | refine below_set ?_ GE328.out | refine below_set ?_ GE335.out) | exact HB.out))) : w.heap.size ≤ gb357)); have n8_ := Aside0.mk ((by rw [hg]; exact (below_size (by repeat (first | (with_reducible first | exact HB.out | apply below_alloc | apply pw_below_drewN | apply below_drew1 | refine below_set ?_ GE327.out | refine below_set ?_ GE328.out | refine below_set ?_ GE335.out) | exact HB.out))) : w.heap.size ≤ gb357)); have n9_ := Aside0.mk ((by rw [hg]; exact Nat.ne_of_lt (blk_lt (g := gb327) (o := .cells #[.int .i64 a0_0, .int .i64 a0_1, .int .i64 a0_2, .int .i64 a0_3, .int .i64 a0_4, .int .i64 a0_5, .int .i64 a0_6, .int .i64 a0_7] 25 (0, 0)) (by (with_reducible repeat (first | refine blk_drewN ?_ _ | refine blk_drew ?_ | refine blk_alloc ?_ _)); exact BK327.out)) : gb327 ≠ gb357)); have n10_ := Aside0.mk ((by rw [hg]; exact Nat.ne_of_gt (blk_lt (g := gb327) (o := .cells #[.int .i64 a0_0, .int .i64 a0_1, .int .i64 a0_2, .int .i64 a0_3, .int .i64 a0_4, .int .i64 a0_5, .int .i64 a0_6, .int .i64 a0_7] 25 (0, 0)) (by (with_reducible repeat (first | refine blk_drewN ?_ _ | refine blk_drew ?_ | refine blk_alloc ?_ _)); exact BK327.out)) : gb357 ≠ gb327)); have n11_ := Aside0.mk ((by rw [hg]; exact Nat.ne_of_lt (blk_lt (g := gb328) (o := .cells #[.int .i64 a1_0, .int .i64 a1_1, .int .i64 a1_2, .int .i64 a1_3, .int .i64 a1_4, .int .i64 a1_5, .int .i64 a1_6, .int .i64 a1_7] 25 (0, 0)) (by (with_reducible repeat (first | refine blk_drewN ?_ _ | refine blk_drew ?_ | refine blk_alloc ?_ _)); exact BK328.out)) : gb328 ≠ gb357)); have n12_ := Aside0.mk ((by rw [hg]; exact Nat.ne_of_gt (blk_lt (g := gb328) (o := .cells #[.int .i64 a1_0, .int .i64 a1_1, .int .i64 a1_2, .int .i64 a1_3, .int .i64 a1_4, .int .i64 a1_5, .int .i64 a1_6, .int .i64 a1_7] 25 (0, 0)) (by (with_reducible repeat (first | refine blk_drewN ?_ _ | refine blk_drew ?_ | refine blk_alloc ?_ _)); exact BK328.out)) : gb357 ≠ gb328)); have n13_ := Aside0.mk ((by rw [hg]; exact Nat.ne_of_lt (blk_lt (g := gb335) (o := .cells #[.bool t330, .slice Ao58 t331.length co58, .string t334] 32 (0, 0)) (by (with_reducible repeat (first | refine blk_drewN ?_ _ | refine blk_drew ?_ | refine blk_alloc ?_ _)); exact BK335.out)) : gb335 ≠ gb357)); have n14_ := Aside0.mk ((by rw [hg]; exact Nat.ne_of_gt (blk_lt (g := gb335) (o := .cells #[.bool t330, .slice Ao58 t331.length co58, .string t334] 32 (0, 0)) (by (with_reducible repeat (first | refine blk_drewN ?_ _ | refine blk_drew ?_ | refine blk_alloc ?_ _)); exact BK335.out)) : gb357 ≠ gb335)); clear HO338; clear HO346; clear BK327; clear BK328; clear BK335; clear HB; have HO338 := n0_; have HO346 := n1_; have BK327 := n2_; have BK328 := n3_; have BK335 := n4_; have HB := n5_; have BK357 := n6_; have GW357 := n7_; have GE357 := n8_; have NB327_357 := n9_; have NB357_327 := n10_; have NB328_357 := n11_; have NB357_328 := n12_; have NB335_357 := n13_; have NB357_335 := n14_; clear n0_ n1_ n2_ n3_ n4_ n5_ n6_ n7_ n8_ n9_ n10_ n11_ n12_ n13_ n14_; clear hb hbox hg; have hnb75 := NB357_327.out; have hnc75 := NB327_357.out; have hnb76 := NB357_328.out; have hnc76 := NB328_357.out; have hnb77 := NB357_335.out; have hnc77 := NB335_357.out; have hcz78_0 : w74.cell? ⟨gb357, 0, none⟩ = some (.int .i64 0) := (blk_cell BK357.out 0).trans rfl; have hcz78_1 : w74.cell? ⟨gb357, 1, none⟩ = some (.int .i64 0) := (blk_cell BK357.out 1).trans rfl; have hcz78_2 : w74.cell? ⟨gb357, 2, none⟩ = some (.int .i64 0) := (blk_cell BK357.out 2).trans rfl; have hcz78_3 : w74.cell? ⟨gb357, 3, none⟩ = some (.int .i64 0) := (blk_cell BK357.out 3).trans rfl; have hcz78_4 : w74.cell? ⟨gb357, 4, none⟩ = some (.int .i64 0) := (blk_cell BK357.out 4).trans rfl; have hcz78_5 : w74.cell? ⟨gb357, 5, none⟩ = some (.int .i64 0) := (blk_cell BK357.out 5).trans rfl; have hcz78_6 : w74.cell? ⟨gb357, 6, none⟩ = some (.int .i64 0) := (blk_cell BK357.out 6).trans rfl; have hcz78_7 : w74.cell? ⟨gb357, 7, none⟩ = some (.int .i64 0) := (blk_cell BK357.out 7).trans rfl; have hfz78_0 := blk_frozen BK357.out 0; have hfz78_1 := blk_frozen BK357.out 1; have hfz78_2 := blk_frozen BK357.out 2; have hfz78_3 := blk_frozen BK357.out 3; have hfz78_4 := blk_frozen BK357.out 4; have hfz78_5 := blk_frozen BK357.out 5; have hfz78_6 := blk_frozen BK357.out 6; have hfz78_7 := blk_frozen BK357.out 7; have hcz79_0 : w74.cell? ⟨gb327, 0, none⟩ = some (.int .i64 a0_0) := (blk_cell BK327.out 0).trans rfl; have hcz79_1 : w74.cell? ⟨gb327, 1, none⟩ = some (.int .i64 a0_1) := (blk_cell BK327.out 1).trans rfl; have hcz79_2 : w74.cell? ⟨gb327, 2, none⟩ = some (.int .i64 a0_2) := (blk_cell BK327.out 2).trans rfl; have hcz79_3 : w74.cell? ⟨gb327, 3, none⟩ = some (.int .i64 a0_3) := (blk_cell BK327.out 3).trans rfl; have hcz79_4 : w74.cell? ⟨gb327, 4, none⟩ = some (.int .i64 a0_4) := (blk_cell BK327.out 4).trans rfl; have hcz79_5 : w74.cell? ⟨gb327, 5, none⟩ = some (.int .i64 a0_5) := (blk_cell BK327.out 5).trans rfl; have hcz79_6 : w74.cell? ⟨gb327, 6, none⟩ = some (.int .i64 a0_6) := (blk_cell BK327.out 6).trans rfl; have hcz79_7 : w74.cell? ⟨gb327, 7, none⟩ = some (.int .i64 a0_7) := (blk_cell BK327.out 7).trans rfl; have hfz79_0 := blk_frozen BK327.out 0; have hfz79_1 := blk_frozen BK327.out 1; have hfz79_2 := blk_frozen BK327.out 2; have hfz79_3 := blk_frozen BK327.out 3; have hfz79_4 := blk_frozen BK327.out 4; have hfz79_5 := blk_frozen BK327.out 5; have hfz79_6 := blk_frozen BK327.out 6; have hfz79_7 := blk_frozen BK327.out 7) | ((with_reducible refine gate_callee (f := 22) rfl ?_); refine goesL_ (some 26) rfl rfl Try.func22 (by kernel_rfl) rfl #[.agg #[.int .i64 a0_0, .int .i64 a0_1, .int .i64 a0_2, .int .i64 a0_3, .int .i64 a0_4, .int .i64 a0_5, .int .i64 a0_6, .int .i64 a0_7]] rfl (by (try simp only [List.map_toArray, List.map_cons, List.map_nil]); first | done | rfl | (simp only [List.length_drop, List.length_take]; rfl)) ?_; (with_reducible refine (swarfref42_Regular.calls k a0_0 a0_1 a0_2 a0_3 a0_4 a0_5 a0_6 a0_7 false _ A10.out).mono ?_); rintro e w80 ⟨rfl, hb⟩; refine ⟨_, rfl, ?_⟩; have n0_ := Aside0.mk (Kd.N_below (by (with_reducible repeat (first | apply Kd.N_alloc | apply Kd.N_drewN | apply Kd.N_drew)); exact (Kd.N_mono (Kd.N_far (p := ⟨gb357, 7, none⟩) (Kd.N_far (p := ⟨gb357, 6, none⟩) (Kd.N_far (p := ⟨gb357, 5, none⟩) (Kd.N_far (p := ⟨gb357, 4, none⟩) (Kd.N_far (p := ⟨gb357, 3, none⟩) (Kd.N_far (p := ⟨gb357, 2, none⟩) (Kd.N_far (p := ⟨gb357, 1, none⟩) (Kd.N_far (p := ⟨gb357, 0, none⟩) (Kd.N_mono HO338.out (fun k_ hk => (⟨hk, hk.2⟩ : _ ∧ k_ ≠ gb357))) (fun _ hk => hk.2) (.int .i64 t348)) (fun _ hk => hk.2) (.int .i64 t349)) (fun _ hk => hk.2) (.int .i64 t350)) (fun _ hk => hk.2) (.int .i64 t351)) (fun _ hk => hk.2) (.int .i64 t352)) (fun _ hk => hk.2) (.int .i64 t353)) (fun _ hk => hk.2) (.int .i64 t354)) (fun _ hk => hk.2) (.int .i64 t355)) (fun _ h_ => h_.1))) hb); have n1_ := Aside0.mk (Kd.N_below (by (with_reducible repeat (first | apply Kd.N_alloc | apply Kd.N_drewN | apply Kd.N_drew)); exact (Kd.N_mono (Kd.N_far (p := ⟨gb357, 7, none⟩) (Kd.N_far (p := ⟨gb357, 6, none⟩) (Kd.N_far (p := ⟨gb357, 5, none⟩) (Kd.N_far (p := ⟨gb357, 4, none⟩) (Kd.N_far (p := ⟨gb357, 3, none⟩) (Kd.N_far (p := ⟨gb357, 2, none⟩) (Kd.N_far (p := ⟨gb357, 1, none⟩) (Kd.N_far (p := ⟨gb357, 0, none⟩) (Kd.N_mono HO346.out (fun k_ hk => (⟨hk, hk.2⟩ : _ ∧ k_ ≠ gb357))) (fun _ hk => hk.2) (.int .i64 t348)) (fun _ hk => hk.2) (.int .i64 t349)) (fun _ hk => hk.2) (.int .i64 t350)) (fun _ hk => hk.2) (.int .i64 t351)) (fun _ hk => hk.2) (.int .i64 t352)) (fun _ hk => hk.2) (.int .i64 t353)) (fun _ hk => hk.2) (.int .i64 t354)) (fun _ hk => hk.2) (.int .i64 t355)) (fun _ h_ => h_.1))) hb); have n2_ := Aside0.mk (blk_below (g := gb327) (o := .cells #[.int .i64 a0_0, .int .i64 a0_1, .int .i64 a0_2, .int .i64 a0_3, .int .i64 a0_4, .int .i64 a0_5, .int .i64 a0_6, .int .i64 a0_7] 25 (0, 0)) (by (with_reducible repeat (first | refine blk_drewN ?_ _ | refine blk_drew ?_ | refine blk_alloc ?_ _)); refine blk_far ?_ NB327_357.out _; (with_reducible repeat (first | refine blk_drewN ?_ _ | refine blk_drew ?_ | refine blk_alloc ?_ _)); refine blk_far ?_ NB327_357.out _; (with_reducible repeat (first | refine blk_drewN ?_ _ | refine blk_drew ?_ | refine blk_alloc ?_ _)); refine blk_far ?_ NB327_357.out _; (with_reducible repeat (first | refine blk_drewN ?_ _ | refine blk_drew ?_ | refine blk_alloc ?_ _)); refine blk_far ?_ NB327_357.out _; (with_reducible repeat (first | refine blk_drewN ?_ _ | refine blk_drew ?_ | refine blk_alloc ?_ _)); refine blk_far ?_ NB327_357.out _; (with_reducible repeat (first | refine blk_drewN ?_ _ | refine blk_drew ?_ | refine blk_alloc ?_ _)); refine blk_far ?_ NB327_357.out _; (with_reducible repeat (first | refine blk_drewN ?_ _ | refine blk_drew ?_ | refine blk_alloc ?_ _)); refine blk_far ?_ NB327_357.out _; (with_reducible repeat (first | refine blk_drewN ?_ _ | refine blk_drew ?_ | refine blk_alloc ?_ _)); refine blk_far ?_ NB327_357.out _; (with_reducible repeat (first | refine blk_drewN ?_ _ | refine blk_drew ?_ | refine blk_alloc ?_ _)); exact BK327.out) hb); have n3_ := Aside0.mk (blk_below (g := gb328) (o := .cells #[.int .i64 a1_0, .int .i64 a1_1, .int .i64 a1_2, .int .i64 a1_3, .int .i64 a1_4, .int .i64 a1_5, .int .i64 a1_6, .int .i64 a1_7] 25 (0, 0)) (by (with_reducible repeat (first | refine blk_drewN ?_ _ | refine blk_drew ?_ | refine blk_alloc ?_ _)); refine blk_far ?_ NB328_357.out _; (with_reducible repeat (first | refine blk_drewN ?_ _ | refine blk_drew ?_ | refine blk_alloc ?_ _)); refine blk_far ?_ NB328_357.out _; (with_reducible repeat (first | refine blk_drewN ?_ _ | refine blk_drew ?_ | refine blk_alloc ?_ _)); refine blk_far ?_ NB328_357.out _; (with_reducible repeat (first | refine blk_drewN ?_ _ | refine blk_drew ?_ | refine blk_alloc ?_ _)); refine blk_far ?_ NB328_357.out _; (with_reducible repeat (first | refine blk_drewN ?_ _ | refine blk_drew ?_ | refine blk_alloc ?_ _)); refine blk_far ?_ NB328_357.out _; (with_reducible repeat (first | refine blk_drewN ?_ _ | refine blk_drew ?_ | refine blk_alloc ?_ _)); refine blk_far ?_ NB328_357.out _; (with_reducible repeat (first | refine blk_drewN ?_ _ | refine blk_drew ?_ | refine blk_alloc ?_ _)); refine blk_far ?_ NB328_357.out _; (with_reducible repeat (first | refine blk_drewN ?_ _ | refine blk_drew ?_ | refine blk_alloc ?_ _)); refine blk_far ?_ NB328_357.out _; (with_reducible repeat (first | refine blk_drewN ?_ _ | refine blk_drew ?_ | refine blk_alloc ?_ _)); exact BK328.out) hb); have n4_ := Aside0.mk (blk_below (g := gb335) (o := .cells #[.bool t330, .slice Ao58 t331.length co58, .string t334] 32 (0, 0)) (by (with_reducible repeat (first | refine blk_drewN ?_ _ | refine blk_drew ?_ | refine blk_alloc ?_ _)); refine blk_far ?_ NB335_357.out _; (with_reducible repeat (first | refine blk_drewN ?_ _ | refine blk_drew ?_ | refine blk_alloc ?_ _)); refine blk_far ?_ NB335_357.out _; (with_reducible repeat (first | refine blk_drewN ?_ _ | refine blk_drew ?_ | refine blk_alloc ?_ _)); refine blk_far ?_ NB335_357.out _; (with_reducible repeat (first | refine blk_drewN ?_ _ | refine blk_drew ?_ | refine blk_alloc ?_ _)); refine blk_far ?_ NB335_357.out _; (with_reducible repeat (first | refine blk_drewN ?_ _ | refine blk_drew ?_ | refine blk_alloc ?_ _)); refine blk_far ?_ NB335_357.out _; (with_reducible repeat (first | refine blk_drewN ?_ _ | refine blk_drew ?_ | refine blk_alloc ?_ _)); refine blk_far ?_ NB335_357.out _; (with_reducible repeat (first | refine blk_drewN ?_ _ | refine blk_drew ?_ | refine blk_alloc ?_ _)); refine blk_far ?_ NB335_357.out _; (with_reducible repeat (first | refine blk_drewN ?_ _ | refine blk_drew ?_ | refine blk_alloc ?_ _)); refine blk_far ?_ NB335_357.out _; (with_reducible repeat (first | refine blk_drewN ?_ _ | refine blk_drew ?_ | refine blk_alloc ?_ _)); exact BK335.out) hb); have n5_ := Aside0.mk (blk_below (g := gb357) (o := .cells #[.int .i64 t348, .int .i64 t349, .int .i64 t350, .int .i64 t351, .int .i64 t352, .int .i64 t353, .int .i64 t354, .int .i64 t355] 26 (0, 0)) (by (with_reducible repeat (first | refine blk_drewN ?_ _ | refine blk_drew ?_ | refine blk_alloc ?_ _)); refine blk_put (cs := #[.int .i64 t348, .int .i64 t349, .int .i64 t350, .int .i64 t351, .int .i64 t352, .int .i64 t353, .int .i64 t354, .int .i64 0]) ?_ 7 _ rfl; (with_reducible repeat (first | refine blk_drewN ?_ _ | refine blk_drew ?_ | refine blk_alloc ?_ _)); refine blk_put (cs := #[.int .i64 t348, .int .i64 t349, .int .i64 t350, .int .i64 t351, .int .i64 t352, .int .i64 t353, .int .i64 0, .int .i64 0]) ?_ 6 _ rfl; (with_reducible repeat (first | refine blk_drewN ?_ _ | refine blk_drew ?_ | refine blk_alloc ?_ _)); refine blk_put (cs := #[.int .i64 t348, .int .i64 t349, .int .i64 t350, .int .i64 t351, .int .i64 t352, .int .i64 0, .int .i64 0, .int .i64 0]) ?_ 5 _ rfl; (with_reducible repeat (first | refine blk_drewN ?_ _ | refine blk_drew ?_ | refine blk_alloc ?_ _)); refine blk_put (cs := #[.int .i64 t348, .int .i64 t349, .int .i64 t350, .int .i64 t351, .int .i64 0, .int .i64 0, .int .i64 0, .int .i64 0]) ?_ 4 _ rfl; (with_reducible repeat (first | refine blk_drewN ?_ _ | refine blk_drew ?_ | refine blk_alloc ?_ _)); refine blk_put (cs := #[.int .i64 t348, .int .i64 t349, .int .i64 t350, .int .i64 0, .int .i64 0, .int .i64 0, .int .i64 0, .int .i64 0]) ?_ 3 _ rfl; (with_reducible repeat (first | refine blk_drewN ?_ _ | refine blk_drew ?_ | refine blk_alloc ?_ _)); refine blk_put (cs := #[.int .i64 t348, .int .i64 t349, .int .i64 0, .int .i64 0, .int .i64 0, .int .i64 0, .int .i64 0, .int .i64 0]) ?_ 2 _ rfl; (with_reducible repeat (first | refine blk_drewN ?_ _ | refine blk_drew ?_ | refine blk_alloc ?_ _)); refine blk_put (cs := #[.int .i64 t348, .int .i64 0, .int .i64 0, .int .i64 0, .int .i64 0, .int .i64 0, .int .i64 0, .int .i64 0]) ?_ 1 _ rfl; (with_reducible repeat (first | refine blk_drewN ?_ _ | refine blk_drew ?_ | refine blk_alloc ?_ _)); refine blk_put (cs := #[.int .i64 0, .int .i64 0, .int .i64 0, .int .i64 0, .int .i64 0, .int .i64 0, .int .i64 0, .int .i64 0]) ?_ 0 _ rfl; (with_reducible repeat (first | refine blk_drewN ?_ _ | refine blk_drew ?_ | refine blk_alloc ?_ _)); exact BK357.out) hb); have n6_ := Aside0.mk (below_step (by repeat (first | (with_reducible first | exact HB.out | apply below_alloc | apply pw_below_drewN | apply below_drew1 | refine below_set ?_ GE327.out | refine below_set ?_ GE328.out | refine below_set ?_ GE335.out | refine below_set ?_ GE357.out) | exact HB.out)) hb); clear HO338; clear HO346; clear BK327; clear BK328; clear BK335; clear BK357; clear HB; have HO338 := n0_; have HO346 := n1_; have BK327 := n2_; have BK328 := n3_; have BK335 := n4_; have BK357 := n5_; have HB := n6_; clear n0_ n1_ n2_ n3_ n4_ n5_ n6_; (try clear hb); (try clear hb2); (try clear hk); (try clear hi)))
    go_ret
    exact ⟨by first | rfl | (simp [errW_none, errW_some] <;> rfl) | (simp [*, errW_none, errW_some] <;> rfl), by repeat (first | (with_reducible first | exact HB.out | apply below_alloc | apply pw_below_drewN | apply below_drew1 | refine below_set ?_ GE327.out | refine below_set ?_ GE328.out | refine below_set ?_ GE335.out | refine below_set ?_ GE357.out) | exact HB.out)⟩
  ·replace c8 := Bool.eq_false_iff.mpr c8
   subst c8
   have H1 : (none) = some r := by rw [if_neg (show ¬ (false = true) by decide)] at H; exact H
   clear H
   have H := H1
   clear H1
   exact absurd H (by simp)
 ·replace c4 := Bool.eq_false_iff.mpr c4
  subst c4
  have H1 : (none) = some r := by rw [if_neg (show ¬ (false = true) by decide)] at H; exact H
  clear H
  have H := H1
  clear H1
  exact absurd H (by simp)
end Go.Proofs.Ytehkhbnhmehobaa.P
namespace Go.Proofs.Ytehkhbnhmehobaa.P
open Go.RowKit Go.Proofs.YtehkhbnhmehobaaW.PrintWords Go.Proofs.YtehkhbnhmehobaaW.PrintLast Go.Proofs.YtehkhbnhmehobaaW.PrintMore
set_option linter.unusedVariables false
theorem ref_Group_ev (c : Int) : Ev (fun k => swarfref42_Group.f k c) (groupS c) := Ev.mono (fun k => swarfref42_Group.mono c k) (ref_Group_f c)
def lineS (s0 s1 s2 s3 s4 s5 s6 s7 : Int) : List S78 := [⟨71, s0⟩, ⟨71, s1⟩, ⟨71, s2⟩, ⟨71, s3⟩, ⟨71, s4⟩, ⟨70, s5⟩, ⟨84, s6⟩, ⟨72, s7⟩]
theorem Line_ev (s0 s1 s2 s3 s4 s5 s6 s7 : Int) : Ev (fun k => modal_Line.f k s0 s1 s2 s3 s4 s5 s6 s7) (false, lineS s0 s1 s2 s3 s4 s5 s6 s7, ⟨#[]⟩) := Ev.mono (k0 := 20) (fun k => modal_Line.mono _ _ _ _ _ _ _ _ k) (by kernel_rfl)
theorem awake42_ev : Ev (fun k => swarflaw42_awake.f k) true := Ev.mono (fun k => swarflaw42_awake.mono k) awake42
def putF (s : Int × Int × Int × Int × Int × Int × Int × Int) (x : S78) : Option (Int × Int × Int × Int × Int × Int × Int × Int) := modal_put.f s.1 s.2.1 s.2.2.1 s.2.2.2.1 s.2.2.2.2.1 s.2.2.2.2.2.1 s.2.2.2.2.2.2.1 s.2.2.2.2.2.2.2 x.f0 x.f1
theorem Apply_l0_ev (l : List S78) (hm : l.length < 9223372036854775807) : ∀ (n j : Nat) (s r : Int × Int × Int × Int × Int × Int × Int × Int), j + n = l.length → (l.drop j).foldlM putF s = some r →
    Ev (fun k => modal_Apply.l0 k l (l.length : Int) (j : Int) s.1 s.2.1 s.2.2.1 s.2.2.2.1 s.2.2.2.2.1 s.2.2.2.2.2.1 s.2.2.2.2.2.2.1 s.2.2.2.2.2.2.2) (r.1, r.2.1, r.2.2.1, r.2.2.2.1, r.2.2.2.2.1, r.2.2.2.2.2.1, r.2.2.2.2.2.2.1, r.2.2.2.2.2.2.2, 0) := by
  intro n
  induction n with
  | zero =>
    intro j s r hj h
    rw [List.drop_eq_nil_of_le (by omega)] at h
    obtain rfl := Option.some.inj h
    refine Ev.step (fun k => by rw [modal_Apply.l0]) ?_
    exact Ev.neg (by omega) Ev.some
  | succ n ih =>
    intro j s r hj h
    rw [List.drop_eq_getElem_cons (show j < l.length by omega), List.foldlM_cons] at h
    obtain ⟨s', h1, h2⟩ := Option.bind_eq_some_iff.mp h
    refine Ev.step (fun k => by rw [modal_Apply.l0]) ?_
    refine Ev.pos (by omega) (Ev.pos (by omega) (Ev.pos (by omega) ?_))
    rw [rd_T78_at (show j < l.length by omega)]
    refine Ev.bind (Ev.of (fun k => h1)) ?_
    rw [wrapI (by omega)]
    exact ih (j + 1) s' r (by omega) h2
theorem put_some (s : Int × Int × Int × Int × Int × Int × Int × Int) (x : S78) (h : x.f0 = 71 → groupS x.f1 ≠ 0) : ∃ r, putF s x = some r := by
  unfold putF modal_put.f
  have := groupS_range x.f1
  by_cases h0 : x.f0 = 71
  · have h1 := h h0
    have : groupS x.f1 = 1 ∨ groupS x.f1 = 2 ∨ groupS x.f1 = 3 ∨ groupS x.f1 = 4 ∨ groupS x.f1 = 5 := by omega
    rcases this with g | g | g | g | g <;> simp [h0, g]
  · rw [if_neg h0]
    split
    · exact ⟨_, rfl⟩
    split
    · exact ⟨_, rfl⟩
    split
    · exact ⟨_, rfl⟩
    exact ⟨_, rfl⟩
theorem puts_some : ∀ (l : List S78) (s : Int × Int × Int × Int × Int × Int × Int × Int), (∀ x ∈ l, x.f0 = 71 → groupS x.f1 ≠ 0) → ∃ r, l.foldlM putF s = some r
  | [], s, _ => ⟨s, rfl⟩
  | x :: l, s, h => by
    obtain ⟨s', h1⟩ := put_some s x (h x List.mem_cons_self)
    obtain ⟨r, h2⟩ := puts_some l s' (fun y hy => h y (List.mem_cons_of_mem _ hy))
    exact ⟨r, by rw [List.foldlM_cons, h1]; exact h2⟩
theorem chk_zero : ∀ (l : List S78) (L G : Int → Bool), chkS l L G = 0 → ∀ x ∈ l, x.f0 = 71 → groupS x.f1 ≠ 0
  | [], _, _, _, x, hx => by simp at hx
  | y :: l, L, G, h, x, hx => by
    unfold chkS at h
    intro h71 h0
    rcases List.mem_cons.mp hx with rfl | hx
    · simp [h71, h0] at h
    · split at h
      · split at h
        · simp at h
        · split at h
          · simp at h
          · exact chk_zero l _ _ h x hx h71 h0
      · split at h
        · simp at h
        · split at h
          · simp at h
          · split at h
            · simp at h
            · exact chk_zero l _ _ h x hx h71 h0
theorem Apply_ev (s : Int × Int × Int × Int × Int × Int × Int × Int) (b : Bool) (l : List S78) (c : ByteArray) (hm : l.length < 9223372036854775807) (hb : bytesW l) :
    ∃ r : Int × Int × Int × Int × Int × Int × Int × Int, ∃ e, Ev (fun k => modal_Apply.f k s.1 s.2.1 s.2.2.1 s.2.2.2.1 s.2.2.2.2.1 s.2.2.2.2.2.1 s.2.2.2.2.2.2.1 s.2.2.2.2.2.2.2 b l c) (r.1, r.2.1, r.2.2.1, r.2.2.2.1, r.2.2.2.2.1, r.2.2.2.2.2.1, r.2.2.2.2.2.2.1, r.2.2.2.2.2.2.2, e) ∧ e = chkS l (fun _ => false) (fun _ => false) ∧ (e = 0 → l.foldlM putF s = some r) := by
  unfold modal_Apply.f
  have hc : modal_Check.f b l c = some (chkS l (fun _ => false) (fun _ => false)) := by unfold modal_Check.f; rw [if_pos hb]
  by_cases h0 : chkS l (fun _ => false) (fun _ => false) = 0
  · obtain ⟨r, hr⟩ := puts_some l s (chk_zero l _ _ h0)
    refine ⟨r, 0, Ev.bind (Ev.of (fun _ => hc)) (Ev.pos h0 ?_), h0.symm, fun _ => hr⟩
    exact Apply_l0_ev l hm l.length 0 s r (by omega) (by rw [List.drop_zero]; exact hr)
  · exact ⟨(0, 0, 0, 0, 0, 0, 0, 0), _, Ev.bind (Ev.of (fun _ => hc)) (Ev.neg h0 Ev.some), rfl, fun h => absurd h h0⟩
def clsR (x : S78) : Int := if x.f0 = 71 then groupS x.f1 else wrap64 (10 + wrap64 x.f0)
def wholeR (x : S78) : Bool := if x.f0 = 70 then decide (x.f1 ≥ 0) else if x.f0 = 84 ∨ x.f0 = 72 then decide (x.f1 ≥ 0) && (Int.tmod x.f1 1000 == 0) else true
theorem class_ev (x : S78) : Ev (fun k => swarfref42_class.f k x.f0 x.f1) (clsR x) := by
  unfold swarfref42_class.f clsR
  by_cases h : x.f0 = 71
  · rw [if_pos h]
    exact Ev.pos h (Ev.bind (ref_Group_ev _) Ev.some)
  · rw [if_neg h]
    exact Ev.neg h Ev.some
theorem whole_ev (x : S78) : swarfref42_whole.f x.f0 x.f1 = some (wholeR x) := by
  unfold swarfref42_whole.f wholeR
  by_cases h : x.f0 = 70
  · simp [h]
  by_cases h1 : x.f0 = 84
  · by_cases h2 : x.f1 ≥ 0 <;> simp [h1, h2]
  by_cases h1 : x.f0 = 72
  · by_cases h2 : x.f1 ≥ 0 <;> simp [h1, h2]
  simp [*]
def chkR : List S78 → List S78 → Int
  | _, [] => 0
  | p, x :: l => if clsR x = 0 ∨ wholeR x = false then 1 else if clsR x ∈ p.map clsR then 1 else chkR (p ++ [x]) l
theorem refCheck_l1 (b : Bool) (l : List S78) (c : ByteArray) (hm : l.length < 9223372036854775807) (i : Nat) (hi : i < l.length) (cl v : Int) (hv : Ev (fun k => swarfref42_Check.l0 k ((i + 1 : Nat) : Int) b l c) v) :
    ∀ (n j : Nat), j + n = i → Ev (fun k => swarfref42_Check.l1 k (i : Int) cl (j : Int) b l c) (if cl ∈ ((l.take i).drop j).map clsR then 1 else v) := by
  intro n
  induction n with
  | zero =>
    intro j hj
    refine Ev.step (fun k => by rw [swarfref42_Check.l1]) ?_
    refine Ev.neg (by omega) ?_
    rw [List.drop_eq_nil_of_le (by simp; omega), List.map_nil, if_neg (by simp), wrapI (by omega)]
    exact hv
  | succ n ih =>
    intro j hj
    refine Ev.step (fun k => by rw [swarfref42_Check.l1]) ?_
    refine Ev.pos (by omega) (Ev.pos (by omega) (Ev.pos (by omega) ?_))
    rw [rd_T78_at (show j < l.length by omega)]
    refine Ev.bind (class_ev _) ?_
    have hlt : j < (l.take i).length := by simp; omega
    rw [List.drop_eq_getElem_cons hlt, List.map_cons, List.getElem_take]
    by_cases he : clsR (l[j]'(by omega)) = cl
    · refine Ev.pos he ?_
      rw [if_pos (by rw [he]; exact List.mem_cons_self)]
      exact Ev.some
    · refine Ev.neg he ?_
      have := ih (j + 1) (by omega)
      rw [wrapI (by omega)]
      have hmm : (cl ∈ clsR (l[j]'(by omega)) :: List.map clsR (List.drop (j + 1) (List.take i l))) ↔ (cl ∈ List.map clsR (List.drop (j + 1) (List.take i l))) := by
        rw [List.mem_cons]
        exact ⟨fun h => h.resolve_left (fun e => he e.symm), .inr⟩
      simp only [hmm]
      exact this
theorem refCheck_l0 (b : Bool) (l : List S78) (c : ByteArray) (hm : l.length < 9223372036854775807) : ∀ (n i : Nat), i + n = l.length → Ev (fun k => swarfref42_Check.l0 k (i : Int) b l c) (chkR (l.take i) (l.drop i)) := by
  intro n
  induction n with
  | zero =>
    intro i hi
    refine Ev.step (fun k => by rw [swarfref42_Check.l0]) ?_
    rw [List.drop_eq_nil_of_le (by omega)]
    exact Ev.neg (by omega) Ev.some
  | succ n ih =>
    intro i hi
    have hlt : i < l.length := by omega
    have hnext := ih (i + 1) (by omega)
    refine Ev.step (fun k => by rw [swarfref42_Check.l0]) ?_
    refine Ev.pos (by omega) (Ev.pos (by omega) ?_)
    rw [rd_T78_at hlt, List.drop_eq_getElem_cons hlt]
    refine Ev.bind (class_ev _) ?_
    unfold chkR
    have hj : ∀ t : Bool, Ev (fun k => swarfref42_Check.j1 k (i : Int) (clsR l[i]) t b l c) (if t = true then 1 else if clsR l[i] ∈ (l.take i).map clsR then 1 else chkR (l.take (i + 1)) (l.drop (i + 1))) := by
      intro t
      refine Ev.step (fun k => by rw [swarfref42_Check.j1]) ?_
      by_cases ht : t = true
      · rw [if_pos ht]
        exact Ev.pos ht Ev.some
      · rw [if_neg ht]
        have := refCheck_l1 b l c hm i hlt (clsR l[i]) _ hnext i 0 (by omega)
        rw [List.drop_zero] at this
        exact Ev.neg ht this
    rw [List.take_succ_eq_append_getElem hlt] at hj
    by_cases h0 : clsR l[i] = 0
    · rw [if_pos (.inl h0)]
      refine Ev.pos h0 ?_
      have := hj true
      simpa using this
    · refine Ev.neg h0 (Ev.bind (Ev.of (fun _ => whole_ev _)) ?_)
      have := hj (!wholeR l[i])
      cases hw : wholeR l[i] <;> simp only [hw] at this ⊢ <;> simpa [h0] using this
theorem refCheck_ev (b : Bool) (l : List S78) (c : ByteArray) (hm : l.length < 9223372036854775807) : Ev (fun k => swarfref42_Check.f k b l c) (chkR [] l) := by
  have := refCheck_l0 b l c hm l.length 0 (by omega)
  simpa [swarfref42_Check.f] using this
def regS (s0 s1 s2 s3 s4 s5 s6 s7 : Int) : Bool := decide (groupS s0 = 1) && decide (groupS s1 = 2) && decide (groupS s2 = 3) && decide (groupS s3 = 4) && decide (groupS s4 = 5) && decide (chkR [] (lineS s0 s1 s2 s3 s4 s5 s6 s7) = 0)
theorem Regular_ev (s0 s1 s2 s3 s4 s5 s6 s7 : Int) : Ev (fun k => swarfref42_Regular.f k s0 s1 s2 s3 s4 s5 s6 s7) (regS s0 s1 s2 s3 s4 s5 s6 s7) := by
  unfold swarfref42_Regular.f
  have last : Ev (fun k => swarfref42_Regular.l0 k [s0, s1, s2, s3, s4] 5 s0 s1 s2 s3 s4 s5 s6 s7) (decide (chkR [] (lineS s0 s1 s2 s3 s4 s5 s6 s7) = 0)) := by
    refine Ev.step (fun k => by rw [swarfref42_Regular.l0]) ?_
    refine Ev.neg (by omega) (Ev.bind (Ev.of (fun _ => rfl)) ?_)
    refine Ev.bind (refCheck_ev _ _ _ (by simp)) ?_
    exact Ev.of (fun _ => rfl)
  have step : ∀ (i : Nat) (g : Int) (v : Bool), i < 5 → rd [s0, s1, s2, s3, s4] (i : Int) = g → Ev (fun k => swarfref42_Regular.l0 k [s0, s1, s2, s3, s4] ((i + 1 : Nat) : Int) s0 s1 s2 s3 s4 s5 s6 s7) v →
      Ev (fun k => swarfref42_Regular.l0 k [s0, s1, s2, s3, s4] (i : Int) s0 s1 s2 s3 s4 s5 s6 s7) (decide (groupS g = (i : Int) + 1) && v) := by
    intro i g v hi hg hv
    refine Ev.step (fun k => by rw [swarfref42_Regular.l0]) ?_
    refine Ev.pos (by omega) (Ev.pos (by omega) (Ev.pos (by simp; omega) ?_))
    rw [hg]
    refine Ev.bind (ref_Group_ev g) ?_
    rw [wrapI (by omega)]
    by_cases h : groupS g = (i : Int) + 1
    · refine Ev.pos (by omega) ?_
      rw [decide_eq_true h, Bool.true_and]
      exact hv
    · refine Ev.neg (by omega) ?_
      rw [decide_eq_false h, Bool.false_and]
      exact Ev.some
  have h4 := step 4 s4 _ (by omega) rfl last
  have h3 := step 3 s3 _ (by omega) rfl h4
  have h2 := step 2 s2 _ (by omega) rfl h3
  have h1 := step 1 s1 _ (by omega) rfl h2
  have h0 := step 0 s0 _ (by omega) rfl h1
  have : regS s0 s1 s2 s3 s4 s5 s6 s7 = (decide (groupS s0 = ((0 : Nat) : Int) + 1) && (decide (groupS s1 = ((1 : Nat) : Int) + 1) && (decide (groupS s2 = ((2 : Nat) : Int) + 1) && (decide (groupS s3 = ((3 : Nat) : Int) + 1) && (decide (groupS s4 = ((4 : Nat) : Int) + 1) && decide (chkR [] (lineS s0 s1 s2 s3 s4 s5 s6 s7) = 0)))))) := by
    unfold regS
    simp only [Bool.and_assoc]
    rfl
  rw [this]
  exact h0
theorem reg_line (t : Int × Int × Int × Int × Int × Int × Int × Int) (s0 s1 s2 s3 s4 s5 s6 s7 : Int) (h : regS s0 s1 s2 s3 s4 s5 s6 s7 = true) :
    chkS (lineS s0 s1 s2 s3 s4 s5 s6 s7) (fun _ => false) (fun _ => false) = 0 ∧ (lineS s0 s1 s2 s3 s4 s5 s6 s7).foldlM putF t = some (s0, s1, s2, s3, s4, s5, s6, s7) := by
  simp only [regS, Bool.and_eq_true, decide_eq_true_eq] at h
  obtain ⟨⟨⟨⟨⟨h0, h1⟩, h2⟩, h3⟩, h4⟩, hc⟩ := h
  have h5 : 0 ≤ s5 := by
    apply Decidable.byContradiction; intro hn
    simp [lineS, chkR, clsR, wholeR, h0, h1, h2, h3, h4, hn, wrap64] at hc
  have h6 : 0 ≤ s6 ∧ Int.tmod s6 1000 = 0 := by
    apply Decidable.byContradiction; intro hn
    simp [lineS, chkR, clsR, wholeR, h0, h1, h2, h3, h4, h5, wrap64] at hc
    exact hn ⟨by omega, by omega⟩
  have h7 : 0 ≤ s7 ∧ Int.tmod s7 1000 = 0 := by
    apply Decidable.byContradiction; intro hn
    simp [lineS, chkR, clsR, wholeR, h0, h1, h2, h3, h4, h5, h6, wrap64] at hc
    exact hn ⟨by omega, by omega⟩
  constructor
  · simp [lineS, chkS, h0, h1, h2, h3, h4, h6, h7]
    omega
  · simp [lineS, putF, modal_put.f, h0, h1, h2, h3, h4]
theorem pure_ModalLine (s0 s1 s2 s3 s4 s5 s6 s7 t0 t1 t2 t3 t4 t5 t6 t7 : Int) (u0 : I64 s0) (u1 : I64 s1) (u2 : I64 s2) (u3 : I64 s3) (u4 : I64 s4) (u5 : I64 s5) (u6 : I64 s6) (u7 : I64 s7) (v0 : I64 t0) (v1 : I64 t1) (v2 : I64 t2) (v3 : I64 t3) (v4 : I64 t4) (v5 : I64 t5) (v6 : I64 t6) (v7 : I64 t7) :
    ∃ k, swarflaw42_ModalLine.f k s0 s1 s2 s3 s4 s5 s6 s7 t0 t1 t2 t3 t4 t5 t6 t7 = some true := by
  refine Ev.get (g := fun k => swarflaw42_ModalLine.f k s0 s1 s2 s3 s4 s5 s6 s7 t0 t1 t2 t3 t4 t5 t6 t7) ?_
  unfold swarflaw42_ModalLine.f
  refine Ev.bind awake42_ev (Ev.pos rfl ?_)
  refine Ev.bind (Line_ev s0 s1 s2 s3 s4 s5 s6 s7) (Ev.bind (Ev.of (fun _ => rfl)) ?_)
  have hsame := Same_f [(⟨false, lineS s0 s1 s2 s3 s4 s5 s6 s7, ⟨#[]⟩⟩ : S32)] [(⟨false, lineS s0 s1 s2 s3 s4 s5 s6 s7, ⟨#[]⟩⟩ : S32)] (by simp) (by intro b hb; simp at hb; subst hb; simp [lineS])
  rw [decide_eq_true rfl] at hsame
  refine Ev.bind hsame (Ev.pos rfl ?_)
  obtain ⟨r, e, h1, h2, h3⟩ := Apply_ev (t0, t1, t2, t3, t4, t5, t6, t7) false (lineS s0 s1 s2 s3 s4 s5 s6 s7) ⟨#[]⟩ (by simp [lineS]) (by simp [lineS, bytesW])
  refine Ev.bind h1 (Ev.bind (Regular_ev s0 s1 s2 s3 s4 s5 s6 s7) ?_)
  by_cases hr : regS s0 s1 s2 s3 s4 s5 s6 s7 = true
  · refine Ev.pos hr ?_
    obtain ⟨h4, h5⟩ := reg_line (t0, t1, t2, t3, t4, t5, t6, t7) s0 s1 s2 s3 s4 s5 s6 s7 hr
    have he : e = 0 := h2.trans h4
    have hr2 := (h3 he).symm.trans h5
    obtain rfl := Option.some.inj hr2
    refine Ev.pos he (Ev.of (fun _ => ?_))
    simp
  · exact Ev.neg hr Ev.some
end Go.Proofs.Ytehkhbnhmehobaa.P
namespace Go.Proofs.Ytehkhbnhmehobaa.P
open Go.RowKit Go.ChangeShapes Go.WideShapes Go.Proofs.YtehkhbnhmehobaaW.PrintWords Go.Proofs.YtehkhbnhmehobaaW.PrintLast Go.Proofs.YtehkhbnhmehobaaW.PrintMore
set_option linter.unusedVariables false
def kInts8 : Kd (Int × Int × Int × Int × Int × Int × Int × Int) := Kd.pair (Kd.int .i64) (Kd.pair (Kd.int .i64) (Kd.pair (Kd.int .i64) (Kd.pair (Kd.int .i64) (Kd.pair (Kd.int .i64) (Kd.pair (Kd.int .i64) (Kd.pair (Kd.int .i64) (Kd.int .i64)))))))
theorem opens_State : Opens Try.prog 25 kInts8 (fun x => I64 x.1 ∧ I64 x.2.1 ∧ I64 x.2.2.1 ∧ I64 x.2.2.2.1 ∧ I64 x.2.2.2.2.1 ∧ I64 x.2.2.2.2.2.1 ∧ I64 x.2.2.2.2.2.2.1 ∧ I64 x.2.2.2.2.2.2.2) := by
  have hi : Opens Try.prog 2 (Kd.int .i64) I64 := opens_int (k := .i64) (by kernel_rfl)
  have h := opens_struct Try.underlying25 (by kernel_rfl) (opensF_cons rfl (by kernel_rfl) hi (opensF_cons rfl (by kernel_rfl) hi (opensF_cons rfl (by kernel_rfl) hi (opensF_cons rfl (by kernel_rfl) hi (opensF_cons rfl (by kernel_rfl) hi (opensF_cons rfl (by kernel_rfl) hi (opensF_cons rfl (by kernel_rfl) hi (opensF_one rfl (by kernel_rfl) hi))))))))
  exact ⟨fun hx => h.of hx⟩
section
variable {H : Type} {enc : TypeId × Value → H} {w : World} {base : Nat} {spare : Nat → Bool} {held : Bool} {r : Reach} {b0 : Nat} {v : Value} {d : DataW H} {p : List MemPlace}
set_option maxRecDepth 100000 in
theorem arg_State (hv : Value.okWide Try.prog w r b0 25 v) (h : DataW.Trod enc Try.prog w base spare held 25 v d p) :
    ∃ a0 a1 a2 a3 a4 a5 a6 a7 : Int, v = .agg #[.int .i64 a0, .int .i64 a1, .int .i64 a2, .int .i64 a3, .int .i64 a4, .int .i64 a5, .int .i64 a6, .int .i64 a7] ∧ I64 a0 ∧ I64 a1 ∧ I64 a2 ∧ I64 a3 ∧ I64 a4 ∧ I64 a5 ∧ I64 a6 ∧ I64 a7 := by
  obtain ⟨fuel, hf⟩ := h
  obtain ⟨⟨a0, a1, a2, a3, a4, a5, a6, a7⟩, hk, hw⟩ := opens_State.of hf
  obtain ⟨cs, rfl, _⟩ := okWide_struct Try.underlying25 hv
  refine ⟨a0, a1, a2, a3, a4, a5, a6, a7, ?_, hw⟩
  obtain ⟨_, _, he, rfl, _, _, rfl, rfl, _, _, rfl, rfl, _, _, rfl, rfl, _, _, rfl, rfl, _, _, rfl, rfl, _, _, rfl, rfl, rfl⟩ := hk
  have : cs.toList = [.int .i64 a0, .int .i64 a1, .int .i64 a2, .int .i64 a3, .int .i64 a4, .int .i64 a5, .int .i64 a6, .int .i64 a7] := by simpa [Value.cells] using he
  rw [← Array.toArray_toList (xs := cs), this]
end
end Go.Proofs.Ytehkhbnhmehobaa.P
namespace Go.Proofs.Ytehkhbnhmehobaa.modalLine
open Go.ChangeShapes Go.WideShapes Go.ChangeAt Go.RowKit
open Go.ChangeMaps (open_string shut_string)
set_option linter.unusedVariables false
theorem own : ownKnob Try.prog.godebug = none := by kernel_rfl
theorem laidOut : laidOutB Try.prog = true := by kernel_rfl
set_option maxRecDepth 100000 in
theorem lifted (os : Os) (started : os.Started) (H : Type) (enc : TypeId × Value → H) :
    ReturnsInHanded {} Try.checked os 4 .any (Rows.modalLineSpec.pre6 enc Try.prog Try.f4 Rows.modalLineRow.domain false) (Rows.modalLineSpec.post enc Try.prog Try.f4 false true false false) := by
  refine returnsInHanded_of_change_sized (C := Try.checked) own started (by kernel_rfl) Try.func4
    (ChangeSpec.witness6 (enc := enc) (C := Try.checked) false ⟨#[], #[.agg #[.int .i64 0, .int .i64 0, .int .i64 0, .int .i64 0, .int .i64 0, .int .i64 0, .int .i64 0, .int .i64 0], .agg #[.int .i64 0, .int .i64 0, .int .i64 0, .int .i64 0, .int .i64 0, .int .i64 0, .int .i64 0, .int .i64 0]], []⟩ 8 (by kernel_rfl) (by kernel_rfl) (by kernel_rfl) (by kernel_rfl)) ?_
  intro W base args ds gs before hval0 hW hcnd hsz0 _
  have hsz : (DataW.weightsEach Try.prog (Try.f4.params.toList ++ Rows.modalLineSpec.plain.varTypes Try.prog) (ds ++ gs)).all (· ≤ reachBytes) = true := hsz0
  have hval : ∀ (j : Nat) t v, Try.f4.params[j]? = some t → args[j]? = some v → Value.okWide Try.prog W .any base t v := hval0
  have hW' := hW
  obtain ⟨p, q, hA0, hV, rfl, hfz, hnd⟩ := hW
  have hA : DataW.TrodAll enc Try.prog W 0 (fun _ => true) true Try.f4.params.toList args.toList ds p := hA0
  rw [Try.params4] at hA hval hsz
  obtain ⟨v0, vs0, d0, ds0, p0, q0, hargs, rfl, rfl, h0, r0⟩ := trodAll_cons hA
  obtain ⟨v1, vs1, d1, ds1, p1, q1, rfl, rfl, rfl, h1, r1⟩ := trodAll_cons r0
  obtain ⟨rfl, rfl, rfl⟩ := trodAll_nil r1
  obtain rfl : args = #[v0, v1] := by cases args; simp_all
  obtain ⟨rfl, rfl⟩ := trodVars_none hV
  have k0 := h0
  have lt0 : ∀ x ∈ p0, x.block < W.heap.size := by obtain ⟨m, hm⟩ := k0; exact DataW.trod_lt m _ _ _ hm
  obtain ⟨s0_0, s0_1, s0_2, s0_3, s0_4, s0_5, s0_6, s0_7, rfl, u0_0, u0_1, u0_2, u0_3, u0_4, u0_5, u0_6, u0_7⟩ := P.arg_State (hval 0 25 v0 rfl rfl) h0
  have k1 := h1
  have lt1 : ∀ x ∈ p1, x.block < W.heap.size := by obtain ⟨m, hm⟩ := k1; exact DataW.trod_lt m _ _ _ hm
  obtain ⟨s1_0, s1_1, s1_2, s1_3, s1_4, s1_5, s1_6, s1_7, rfl, u1_0, u1_1, u1_2, u1_3, u1_4, u1_5, u1_6, u1_7⟩ := P.arg_State (hval 1 25 v1 rfl rfl) h1
  clear hA0 hval0 hsz0 hsz
  obtain ⟨k_, pure_⟩ := P.pure_ModalLine s0_0 s0_1 s0_2 s0_3 s0_4 s0_5 s0_6 s0_7 s1_0 s1_1 s1_2 s1_3 s1_4 s1_5 s1_6 s1_7 u0_0 u0_1 u0_2 u0_3 u0_4 u0_5 u0_6 u0_7 u1_0 u1_1 u1_2 u1_3 u1_4 u1_5 u1_6 u1_7
  refine (P.swarflaw42_ModalLine.calls k_ s0_0 s0_1 s0_2 s0_3 s0_4 s0_5 s0_6 s0_7 s1_0 s1_1 s1_2 s1_3 s1_4 s1_5 s1_6 s1_7 true W  pure_).mono fun e W' ⟨he, bel⟩ => ?_
  subst he
  exact ⟨_, rfl, _, _, _, [], _, [], hW', trodAll_mk1 (shut_bool Try.underlying4 _), (trodAll_cons_mk (Below.trod laidOut (by kernel_rfl) (of_decide_eq_true (by kernel_rfl)) k0 bel lt0) (trodAll_cons_mk (Below.trod laidOut (by kernel_rfl) (of_decide_eq_true (by kernel_rfl)) k1 bel lt1) trodAll_mk0)), rfl, bel.frame _, fun h => by cases h⟩
theorem over : Rows.modalLineRow.holds Try.pinned (OpenSpec.ofChange Rows.modalLineSpec) :=
  OpenClaim.holds_of_wide 4 Try.f4 rfl rfl rfl rfl rfl rfl rfl ⟨rfl, rfl, rfl, rfl, rfl⟩ rfl rfl rfl rfl rfl (by kernel_rfl) Try.func4 (by kernel_rfl)
    (of_decide_eq_true (by kernel_rfl)) (by unfold Func.isWrapper; first | (rw [if_pos (by decide +kernel)]; kernel_rfl) | (rw [if_neg (by decide +kernel)]; exact ⟨rfl, rfl⟩))
    (fun os started H enc _ => lifted os started H enc)
theorem proved : Rows.ModalLineSaid := over
#print axioms proved
end Go.Proofs.Ytehkhbnhmehobaa.modalLine
namespace Go.Proofs.Ytehkhbnhmehobaa
theorem modalLine_holds : Rows.ModalLineSaid := modalLine.proved
end Go.Proofs.Ytehkhbnhmehobaa
