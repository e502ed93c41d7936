/- A part of the proof of SubprogramFold. -/
import Derived.StillTailTactics
import Derived.Test.YtehkhbnhmehobaaCSubprogramFold1
import Derived.Test.YtehkhbnhmehobaaCSubprogramFold2
import Derived.Test.YtehkhbnhmehobaaCSubprogramFold3
import Derived.Test.YtehkhbnhmehobaaCSubprogramFold4
namespace Go.Proofs.Ytehkhbnhmehobaa.P
open Go.RowKit Go.Proofs.YtehkhbnhmehobaaW.PrintWords Go.Proofs.YtehkhbnhmehobaaW.PrintLast Go.Proofs.YtehkhbnhmehobaaW.PrintMore
attribute [local go_sem] max2_int min2_int max_two min_two max_three min_three max_four min_four
set_option linter.unusedVariables false
set_option linter.unusedSimpArgs false
def subprogram_Split_2.f (k : Nat) (a0_0 : Bool) (l0_1 : List (S78)) (a0_2 : ByteArray) : Option (Bool) := (subprogram_plain.f a0_0 l0_1 a0_2).bind fun t992 => (if t992 = true then ((subprogram_has.f k a0_0 l0_1 a0_2 77 99000).bind fun t993 => (some t993)) else (some false))
theorem subprogram_Split_2.mono : ∀ a0 a1 a2 k, LeO (subprogram_Split_2.f k a0 a1 a2) (subprogram_Split_2.f (k + 1) a0 a1 a2) := by
 intro a0 a1 a2 k
 unfold subprogram_Split_2.f
 repeat' first
   | (with_reducible exact subprogram_has.mono _ _ _ _ _ _)
   | (with_reducible exact LeO.refl _)
   | (with_reducible exact LeO.none _)
   | (with_reducible refine LeO.ite ?_ ?_)
   | (with_reducible refine LeO.bind ?_ (fun _ => ?_))
   | exact subprogram_has.mono _ _ _ _ _ _
   | exact LeO.none _
   | refine LeO.ite ?_ ?_
   | refine LeO.bind ?_ (fun _ => ?_)
set_option maxHeartbeats 8000000 in
set_option maxRecDepth 100000 in
theorem subprogram_Split_2.calls (k : Nat) (a0_0 : Bool) (A0_1 : Option Addr) (c0_1 : Nat) (l0_1 : List (S78)) (a0_2 : ByteArray) (r : Bool) (w : World) (hr0_1 : Kd.C k78 w A0_1 l0_1.length l0_1) (hc0_1 : l0_1.length ≤ c0_1) (h : subprogram_Split_2.f k a0_0 l0_1 a0_2 = some r) :
  Calls Try.prog 77 #[.agg #[.bool a0_0, .slice A0_1 l0_1.length c0_1, .string a0_2]] w fun e w' => e = .returned (.bool r) ∧ Below w.heap.size w w' := by
 have hu32 := Try.underlying32
 have HR0_1 := Aside0.mk hr0_1
 have HC0_1 := Aside0.mk hc0_1
 clear hr0_1 hc0_1
 have HB := Aside0.mk (Below.refl w.heap.size w)
 have H : ((subprogram_plain.f a0_0 l0_1 a0_2).bind fun t992 => (if t992 = true then ((subprogram_has.f k a0_0 l0_1 a0_2 77 99000).bind fun t993 => (some t993)) else (some false))) = some r := h
 clear h
 replace H := Option.bind_eq_some_iff.mp H
 obtain ⟨t992, A20, H⟩ := H
 replace H : (if t992 = true then ((subprogram_has.f k a0_0 l0_1 a0_2 77 99000).bind fun t993 => (some t993)) else (some false)) = some r := H
 have A2 := Aside0.mk A20
 clear A20
 by_cases c3 : t992 = true
 ·subst c3
  have H1 : ((subprogram_has.f k a0_0 l0_1 a0_2 77 99000).bind fun t993 => (some t993)) = some r := by rw [if_pos rfl] at H; exact H
  clear H
  have H := H1
  clear H1
  replace H := Option.bind_eq_some_iff.mp H
  obtain ⟨t993, A40, H⟩ := H
  replace H : (some t993) = some r := H
  have A4 := Aside0.mk A40
  clear A40
  obtain rfl := Option.some.inj H
  go_enter Try.func77, Try.ntmps77
  go_wp2_with (first | ((with_reducible refine gate_dst (N := 1) rfl ?_); refine box_event ?hg (N := 1) ?hd (cs := #[.bool a0_0, .slice A0_1 l0_1.length c0_1, .string a0_2]) (t := 32) ?hr ?_; (case hd => rfl); (case hg => rfl); (case hr => first | (go_simp; done) | (go_simp; rfl)); intro gb991 hg w5 hbox hb; have n0_ := Aside0.mk (below_step yB hb); have n1_ := Aside0.mk (hbox); have n2_ := Aside0.mk ((yG hg : w.heap.size ≤ gb991)); have n3_ := Aside0.mk ((yG hg : w.heap.size ≤ gb991)); clear HB; have HB := n0_; have BK991 := n1_; have GW991 := n2_; have GE991 := n3_; clear n0_ n1_ n2_ n3_; clear hb hbox hg; have hcz6_0 : w5.cell? ⟨gb991, 0, none⟩ = some (.bool a0_0) := (blk_cell BK991.out 0).trans rfl; have hcz6_1 : w5.cell? ⟨gb991, 1, none⟩ = some (.slice A0_1 l0_1.length c0_1) := (blk_cell BK991.out 1).trans rfl; have hcz6_2 : w5.cell? ⟨gb991, 2, none⟩ = some (.string a0_2) := (blk_cell BK991.out 2).trans rfl; have hfz6_0 := blk_frozen BK991.out 0; have hfz6_1 := blk_frozen BK991.out 1; have hfz6_2 := blk_frozen BK991.out 2) | ((with_reducible refine gate_callee (f := 78) rfl ?_); refine goesL_ (some 4) rfl rfl Try.func78 (by kernel_rfl) rfl #[.agg #[.bool a0_0, .slice A0_1 l0_1.length c0_1, .string a0_2]] rfl yQ ?_; (with_reducible refine (subprogram_plain.calls a0_0 _ _ l0_1 a0_2 true _ ?side1 ?side2 A2.out).mono ?_); (case side1 => exact yC HR0_1.out); (case side2 => exact HC0_1.out); rintro e w7 ⟨rfl, hb⟩; refine ⟨_, rfl, ?_⟩; have n0_ := Aside0.mk (blk_below (g := gb991) (o := .cells #[.bool a0_0, .slice A0_1 l0_1.length c0_1, .string a0_2] 32 (0, 0)) yK hb); have n1_ := Aside0.mk (below_step yB hb); clear BK991; clear HB; have BK991 := n0_; have HB := n1_; clear n0_ n1_; (try clear hb); (try clear hb2); (try clear hk); (try clear hi); have hcz8_0 : w7.cell? ⟨gb991, 0, none⟩ = some (.bool a0_0) := (blk_cell BK991.out 0).trans rfl; have hcz8_1 : w7.cell? ⟨gb991, 1, none⟩ = some (.slice A0_1 l0_1.length c0_1) := (blk_cell BK991.out 1).trans rfl; have hcz8_2 : w7.cell? ⟨gb991, 2, none⟩ = some (.string a0_2) := (blk_cell BK991.out 2).trans rfl; have hfz8_0 := blk_frozen BK991.out 0; have hfz8_1 := blk_frozen BK991.out 1; have hfz8_2 := blk_frozen BK991.out 2) | (go_at_call 58; (with_reducible refine (subprogram_has.calls k a0_0 _ _ l0_1 a0_2 77 99000 t993 _ ?side1 ?side2 A4.out).mono ?_); (case side1 => exact yC HR0_1.out); (case side2 => exact HC0_1.out); rintro e w9 ⟨rfl, hb⟩; have n0_ := Aside0.mk (blk_below (g := gb991) (o := .cells #[.bool a0_0, .slice A0_1 l0_1.length c0_1, .string a0_2] 32 (0, 0)) yK hb); have n1_ := Aside0.mk (below_step yB hb); clear BK991; clear HB; have BK991 := n0_; have HB := n1_; clear n0_ n1_; (try clear hb); (try clear hb2); (try clear hk); (try clear hi)))
  go_ret
  exact ⟨by first | rfl | (simp [errW_none, errW_some] <;> rfl) | (simp [*, errW_none, errW_some] <;> rfl), yB⟩
 ·replace c3 := Bool.eq_false_iff.mpr c3
  subst c3
  have H1 : (some false) = some r := by rw [if_neg (show ¬ (false = true) by decide)] at H; exact H
  clear H
  have H := H1
  clear H1
  obtain rfl := Option.some.inj H
  go_enter Try.func77, Try.ntmps77
  go_wp2_with (first | ((with_reducible refine gate_dst (N := 1) rfl ?_); refine box_event ?hg (N := 1) ?hd (cs := #[.bool a0_0, .slice A0_1 l0_1.length c0_1, .string a0_2]) (t := 32) ?hr ?_; (case hd => rfl); (case hg => rfl); (case hr => first | (go_simp; done) | (go_simp; rfl)); intro gb991 hg w10 hbox hb; have n0_ := Aside0.mk (below_step yB hb); have n1_ := Aside0.mk (hbox); have n2_ := Aside0.mk ((yG hg : w.heap.size ≤ gb991)); have n3_ := Aside0.mk ((yG hg : w.heap.size ≤ gb991)); clear HB; have HB := n0_; have BK991 := n1_; have GW991 := n2_; have GE991 := n3_; clear n0_ n1_ n2_ n3_; clear hb hbox hg; have hcz11_0 : w10.cell? ⟨gb991, 0, none⟩ = some (.bool a0_0) := (blk_cell BK991.out 0).trans rfl; have hcz11_1 : w10.cell? ⟨gb991, 1, none⟩ = some (.slice A0_1 l0_1.length c0_1) := (blk_cell BK991.out 1).trans rfl; have hcz11_2 : w10.cell? ⟨gb991, 2, none⟩ = some (.string a0_2) := (blk_cell BK991.out 2).trans rfl; have hfz11_0 := blk_frozen BK991.out 0; have hfz11_1 := blk_frozen BK991.out 1; have hfz11_2 := blk_frozen BK991.out 2) | ((with_reducible refine gate_callee (f := 78) rfl ?_); refine goesL_ (some 4) rfl rfl Try.func78 (by kernel_rfl) rfl #[.agg #[.bool a0_0, .slice A0_1 l0_1.length c0_1, .string a0_2]] rfl yQ ?_; (with_reducible refine (subprogram_plain.calls a0_0 _ _ l0_1 a0_2 false _ ?side1 ?side2 A2.out).mono ?_); (case side1 => exact yC HR0_1.out); (case side2 => exact HC0_1.out); rintro e w12 ⟨rfl, hb⟩; refine ⟨_, rfl, ?_⟩; have n0_ := Aside0.mk (blk_below (g := gb991) (o := .cells #[.bool a0_0, .slice A0_1 l0_1.length c0_1, .string a0_2] 32 (0, 0)) yK hb); have n1_ := Aside0.mk (below_step yB hb); clear BK991; clear HB; have BK991 := n0_; have HB := n1_; clear n0_ n1_; (try clear hb); (try clear hb2); (try clear hk); (try clear hi)))
  go_ret
  exact ⟨by first | rfl | (simp [errW_none, errW_some] <;> rfl) | (simp [*, errW_none, errW_some] <;> rfl), yB⟩
end Go.Proofs.Ytehkhbnhmehobaa.P
namespace Go.Proofs.Ytehkhbnhmehobaa.P
open Go.RowKit Go.Proofs.YtehkhbnhmehobaaW.PrintWords Go.Proofs.YtehkhbnhmehobaaW.PrintLast Go.Proofs.YtehkhbnhmehobaaW.PrintMore
set_option linter.unusedVariables false
def idxF {α : Type} (p : α → Option Bool) : List α → Int → Option Int
  | [], _ => some (-1)
  | x :: l, i => (p x).bind fun b => if b = true then some i else idxF p l (i + 1)
theorem idxF_step {α : Type} {p : α → Option Bool} {l : List α} {j : Nat} {r : Int} (hj : j < l.length) (h : idxF p (l.drop j) (j : Int) = some r) :
    ∃ b, p (l[j]) = some b ∧ (if b = true then r = (j : Int) else idxF p (l.drop (j + 1)) ((j + 1 : Nat) : Int) = some r) := by
  rw [List.drop_eq_getElem_cons hj] at h
  simp only [idxF] at h
  obtain ⟨b, hb, h⟩ := Option.bind_eq_some_iff.mp h
  refine ⟨b, hb, ?_⟩
  cases b with
  | true => simp at h; simp [← h]
  | false =>
    simp at h ⊢
    exact h
theorem idxF_mono {α : Type} {p q : α → Option Bool} (h : ∀ x, LeO (p x) (q x)) : ∀ (l : List α) (i : Int), LeO (idxF p l i) (idxF q l i)
  | [], _ => LeO.refl _
  | x :: l, i => by
    simp only [idxF]
    exact LeO.bind (h x) (fun b => LeO.ite (LeO.refl _) (idxF_mono h l (i + 1)))
set_option maxHeartbeats 1000000 in
set_option maxRecDepth 100000 in
theorem IndexFunc_any (g : Nat) (fn : Func) (hf : Try.prog.funcs[g]? = some fn) (hname : (fn.name == "runtime.NumGoroutine") = false) (hbody : fn.body.isSome = true) (caps : Array Value) (p : S32 → Option Bool) (w : World)
    (hp : Aside0 (∀ (x : S32) (A1 : Option Addr) (c1 : Nat) (b : Bool) (W : World), Below w.heap.size w W → Kd.C k78 W A1 x.f1.length x.f1 → x.f1.length ≤ c1 → p x = some b →
      Calls Try.prog g (#[.agg #[.bool x.f0, .slice A1 x.f1.length c1, .string x.f2]] ++ caps) W fun e W' => e = .returned (.bool b) ∧ Below W.heap.size W W'))
    (A0 : Option Addr) (c0 : Nat) (l0 : List S32) (r : Int) (hr0 : Kd.C k32 w A0 l0.length l0) (hc0 : l0.length ≤ c0) (h : idxF p l0 0 = some r) :
    Calls Try.prog 73 #[.slice A0 l0.length c0, .func (.func g) #[] caps] w fun e w' => e = .returned (.int .i64 r) ∧ Below w.heap.size w w' := by
  have hu := Try.underlying32
  have HR0 := Aside0.mk hr0
  have HM := Aside0.mk (Kd.C_max hr0)
  have H := Aside0.mk h
  clear hr0 h
  go_enter Try.func73, Try.ntmps73
  go_wp2
  go_loopw [8] (fun i w' => ∃ j : Nat, i = .int .i64 j ∧ Aside0 (j ≤ l0.length) ∧ Aside0 (idxF p (l0.drop j) (j : Int) = some r) ∧ Aside0 (Below w.heap.size w w')) (fun i _ => l0.length - (intOf i).toNat)
  case atStart => exact ⟨0, rfl, ⟨Nat.zero_le _⟩, ⟨H.out⟩, ⟨Below.refl _ _⟩⟩
  case round =>
    obtain ⟨j, rfl, HJ, HI, HB⟩ := hrel
    by_cases hlt : j < l0.length
    · obtain ⟨b, hb, hI⟩ := idxF_step hlt HI.out
      obtain ⟨ad, A1, c1, e, hx0, hx1, hx2, hl1, hi1⟩ := at_T32 (Kd.C_below HR0.out HB.out) (j : Int) (by omega) (by omega)
      cases e
      have hrd : rd_T32 l0 (j : Int) = l0[j] := by simp [rd_T32, hlt]
      rw [hrd] at hx0 hx1 hx2 hl1 hi1
      generalize l0[j] = x at *
      clear hrd
      simp only [Int.toNat_natCast] at hx0 hx1 hx2
      have hlt' : decide ((j : Int) < (l0.length : Int)) = true := by simp; omega
      have HI2 := Aside0.mk hI
      have HL1 := Aside0.mk hl1
      have HI1 := Aside0.mk hi1
      have HP := Aside0.mk hb
      clear hI hl1 hi1 hb
      go_wp2_with ((with_reducible refine gate_dst (N := 16) rfl ?_); refine goesV_ (some 16) rfl rfl (caps := caps) rfl hf hname hbody (#[.agg #[.bool x.f0, .slice A1 x.f1.length c1, .string x.f2]] ++ caps) rfl (congrArg (fun z => z ++ caps) (by (try simp only [List.map_toArray, List.map_cons, List.map_nil]); rfl)) ?_; (with_reducible refine (hp.out x A1 c1 b _ HB.out HI1.out HL1.out HP.out).mono ?_); rintro e w2 ⟨rfl, hb2⟩; refine ⟨_, rfl, ?_⟩; have HB2 := Aside0.mk (below_then HB.out HB.out.size hb2); clear hb2)
      · have hbt : b = true := by assumption
        have hI3 := HI2.out
        rw [if_pos hbt] at hI3
        subst hI3
        go_ret
        exact ⟨rfl, HB2.out⟩
      · have hbf : ¬ b = true := by simpa using (show b = false by assumption)
        have hI3 := HI2.out
        rw [if_neg hbf] at hI3
        have HI3 := Aside0.mk hI3
        clear hI3
        go_roundw
        case rel => exact ⟨j + 1, by rw [wrap_succ hlt HM.out], ⟨by omega⟩, ⟨HI3.out⟩, ⟨HB2.out⟩⟩
        case measure => rw [wrap_succ hlt HM.out]; simp only [intOf, Int.toNat_natCast]; omega
    · have hlt' : decide ((j : Int) < (l0.length : Int)) = false := by simp; omega
      have hI := HI.out
      rw [List.drop_eq_nil_of_le (by omega)] at hI
      simp only [idxF, Option.some.injEq] at hI
      subst hI
      go_wp2
      go_ret
      exact ⟨rfl, HB.out⟩
set_option maxHeartbeats 1000000 in
set_option maxRecDepth 100000 in
theorem IndexFuncSub_any (g : Nat) (fn : Func) (hf : Try.prog.funcs[g]? = some fn) (hname : (fn.name == "runtime.NumGoroutine") = false) (hbody : fn.body.isSome = true) (caps : Array Value) (p : S81 → Option Bool) (w : World)
    (hp : Aside0 (∀ (x : S81) (A1 : Option Addr) (c1 : Nat) (b : Bool) (W : World), Below w.heap.size w W → Kd.C k32 W A1 x.f1.length x.f1 → x.f1.length ≤ c1 → p x = some b →
      Calls Try.prog g (#[.agg #[.int .i64 x.f0, .slice A1 x.f1.length c1]] ++ caps) W fun e W' => e = .returned (.bool b) ∧ Below W.heap.size W W'))
    (A0 : Option Addr) (c0 : Nat) (l0 : List S81) (r : Int) (hr0 : Kd.C k81 w A0 l0.length l0) (hc0 : l0.length ≤ c0) (h : idxF p l0 0 = some r) :
    Calls Try.prog 113 #[.slice A0 l0.length c0, .func (.func g) #[] caps] w fun e w' => e = .returned (.int .i64 r) ∧ Below w.heap.size w w' := by
  have hu := Try.underlying81
  have HR0 := Aside0.mk hr0
  have HM := Aside0.mk (Kd.C_max hr0)
  have H := Aside0.mk h
  clear hr0 h
  go_enter Try.func113, Try.ntmps113
  go_wp2
  go_loopw [8] (fun i w' => ∃ j : Nat, i = .int .i64 j ∧ Aside0 (j ≤ l0.length) ∧ Aside0 (idxF p (l0.drop j) (j : Int) = some r) ∧ Aside0 (Below w.heap.size w w')) (fun i _ => l0.length - (intOf i).toNat)
  case atStart => exact ⟨0, rfl, ⟨Nat.zero_le _⟩, ⟨H.out⟩, ⟨Below.refl _ _⟩⟩
  case round =>
    obtain ⟨j, rfl, HJ, HI, HB⟩ := hrel
    by_cases hlt : j < l0.length
    · obtain ⟨b, hb, hI⟩ := idxF_step hlt HI.out
      obtain ⟨ad, A1, c1, e, hx0, hx1, hl1, hi1⟩ := at_T81 (Kd.C_below HR0.out HB.out) (j : Int) (by omega) (by omega)
      cases e
      have hrd : rd_T81 l0 (j : Int) = l0[j] := by simp [rd_T81, hlt]
      rw [hrd] at hx0 hx1 hl1 hi1
      generalize l0[j] = x at *
      clear hrd
      simp only [Int.toNat_natCast] at hx0 hx1
      have hlt' : decide ((j : Int) < (l0.length : Int)) = true := by simp; omega
      have HI2 := Aside0.mk hI
      have HL1 := Aside0.mk hl1
      have HI1 := Aside0.mk hi1
      have HP := Aside0.mk hb
      clear hI hl1 hi1 hb
      go_wp2_with ((with_reducible refine gate_dst (N := 16) rfl ?_); refine goesV_ (some 16) rfl rfl (caps := caps) rfl hf hname hbody (#[.agg #[.int .i64 x.f0, .slice A1 x.f1.length c1]] ++ caps) rfl (congrArg (fun z => z ++ caps) (by (try simp only [List.map_toArray, List.map_cons, List.map_nil]); rfl)) ?_; (with_reducible refine (hp.out x A1 c1 b _ HB.out HI1.out HL1.out HP.out).mono ?_); rintro e w2 ⟨rfl, hb2⟩; refine ⟨_, rfl, ?_⟩; have HB2 := Aside0.mk (below_then HB.out HB.out.size hb2); clear hb2)
      · have hbt : b = true := by assumption
        have hI3 := HI2.out
        rw [if_pos hbt] at hI3
        subst hI3
        go_ret
        exact ⟨rfl, HB2.out⟩
      · have hbf : ¬ b = true := by simpa using (show b = false by assumption)
        have hI3 := HI2.out
        rw [if_neg hbf] at hI3
        have HI3 := Aside0.mk hI3
        clear hI3
        go_roundw
        case rel => exact ⟨j + 1, by rw [wrap_succ hlt HM.out], ⟨by omega⟩, ⟨HI3.out⟩, ⟨HB2.out⟩⟩
        case measure => rw [wrap_succ hlt HM.out]; simp only [intOf, Int.toNat_natCast]; omega
    · have hlt' : decide ((j : Int) < (l0.length : Int)) = false := by simp; omega
      have hI := HI.out
      rw [List.drop_eq_nil_of_le (by omega)] at hI
      simp only [idxF, Option.some.injEq] at hI
      subst hI
      go_wp2
      go_ret
      exact ⟨rfl, HB.out⟩
set_option maxRecDepth 100000 in
theorem ContainsFunc_any (g : Nat) (fn : Func) (hf : Try.prog.funcs[g]? = some fn) (hname : (fn.name == "runtime.NumGoroutine") = false) (hbody : fn.body.isSome = true) (caps : Array Value) (p : S32 → Option Bool) (w : World)
    (hp : Aside0 (∀ (x : S32) (A1 : Option Addr) (c1 : Nat) (b : Bool) (W : World), Below w.heap.size w W → Kd.C k78 W A1 x.f1.length x.f1 → x.f1.length ≤ c1 → p x = some b →
      Calls Try.prog g (#[.agg #[.bool x.f0, .slice A1 x.f1.length c1, .string x.f2]] ++ caps) W fun e W' => e = .returned (.bool b) ∧ Below W.heap.size W W'))
    (A0 : Option Addr) (c0 : Nat) (l0 : List S32) (r : Bool) (hr0 : Kd.C k32 w A0 l0.length l0) (hc0 : l0.length ≤ c0) (h : (idxF p l0 0).map (fun i => decide (i ≥ 0)) = some r) :
    Calls Try.prog 38 #[.slice A0 l0.length c0, .func (.func g) #[] caps] w fun e w' => e = .returned (.bool r) ∧ Below w.heap.size w w' := by
  obtain ⟨i, hi, hr⟩ := Option.map_eq_some_iff.mp h
  have HR0 := Aside0.mk hr0
  have HC0 := Aside0.mk hc0
  have H := Aside0.mk hi
  have HE := Aside0.mk hr
  clear hr0 h hi hc0 hr
  go_enter Try.func38, Try.ntmps38
  go_wp2_with (go_at_call 73; (with_reducible refine (IndexFunc_any g fn hf hname hbody caps p _ hp A0 c0 l0 i HR0.out HC0.out H.out).mono ?_); rintro e w2 ⟨rfl, hb2⟩; have HB2 := Aside0.mk hb2; clear hb2)
  go_ret
  exact ⟨by rw [← HE.out]; rfl, HB2.out⟩
set_option maxRecDepth 100000 in
theorem ContainsFuncSub_any (g : Nat) (fn : Func) (hf : Try.prog.funcs[g]? = some fn) (hname : (fn.name == "runtime.NumGoroutine") = false) (hbody : fn.body.isSome = true) (caps : Array Value) (p : S81 → Option Bool) (w : World)
    (hp : Aside0 (∀ (x : S81) (A1 : Option Addr) (c1 : Nat) (b : Bool) (W : World), Below w.heap.size w W → Kd.C k32 W A1 x.f1.length x.f1 → x.f1.length ≤ c1 → p x = some b →
      Calls Try.prog g (#[.agg #[.int .i64 x.f0, .slice A1 x.f1.length c1]] ++ caps) W fun e W' => e = .returned (.bool b) ∧ Below W.heap.size W W'))
    (A0 : Option Addr) (c0 : Nat) (l0 : List S81) (r : Bool) (hr0 : Kd.C k81 w A0 l0.length l0) (hc0 : l0.length ≤ c0) (h : (idxF p l0 0).map (fun i => decide (i ≥ 0)) = some r) :
    Calls Try.prog 101 #[.slice A0 l0.length c0, .func (.func g) #[] caps] w fun e w' => e = .returned (.bool r) ∧ Below w.heap.size w w' := by
  obtain ⟨i, hi, hr⟩ := Option.map_eq_some_iff.mp h
  have HR0 := Aside0.mk hr0
  have HC0 := Aside0.mk hc0
  have H := Aside0.mk hi
  have HE := Aside0.mk hr
  clear hr0 h hi hc0 hr
  go_enter Try.func101, Try.ntmps101
  go_wp2_with (go_at_call 113; (with_reducible refine (IndexFuncSub_any g fn hf hname hbody caps p _ hp A0 c0 l0 i HR0.out HC0.out H.out).mono ?_); rintro e w2 ⟨rfl, hb2⟩; have HB2 := Aside0.mk hb2; clear hb2)
  go_ret
  exact ⟨by rw [← HE.out]; rfl, HB2.out⟩
def IndexFunc_end.f (k : Nat) (l0 : List S32) : Option Int := idxF (fun x => subprogram_Split_1.f k x.f0 x.f1 x.f2) l0 0
theorem IndexFunc_end.mono : ∀ l0 k, LeO (IndexFunc_end.f k l0) (IndexFunc_end.f (k + 1) l0) := by
  intro l0 k
  unfold IndexFunc_end.f
  exact idxF_mono (fun x => subprogram_Split_1.mono _ _ _ _) l0 0
theorem IndexFunc_end.calls (k : Nat) (A0 : Option Addr) (c0 : Nat) (l0 : List S32) (r : Int) (w : World) (hr0 : Kd.C k32 w A0 l0.length l0) (hc0 : l0.length ≤ c0) (h : IndexFunc_end.f k l0 = some r) :
    Calls Try.prog 73 #[.slice A0 l0.length c0, .func (.func 75) #[] #[]] w fun e w' => e = .returned (.int .i64 r) ∧ Below w.heap.size w w' :=
  IndexFunc_any 75 _ Try.func75 (by kernel_rfl) rfl #[] (fun x => subprogram_Split_1.f k x.f0 x.f1 x.f2) w ⟨fun x A1 c1 b W _ hk hc hb => subprogram_Split_1.calls k x.f0 A1 c1 x.f1 x.f2 b W hk hc hb⟩ A0 c0 l0 r hr0 hc0 h
def IndexFunc_back.f (k : Nat) (l0 : List S32) : Option Int := idxF (fun x => subprogram_Split_2.f k x.f0 x.f1 x.f2) l0 0
theorem IndexFunc_back.mono : ∀ l0 k, LeO (IndexFunc_back.f k l0) (IndexFunc_back.f (k + 1) l0) := by
  intro l0 k
  unfold IndexFunc_back.f
  exact idxF_mono (fun x => subprogram_Split_2.mono _ _ _ _) l0 0
theorem IndexFunc_back.calls (k : Nat) (A0 : Option Addr) (c0 : Nat) (l0 : List S32) (r : Int) (w : World) (hr0 : Kd.C k32 w A0 l0.length l0) (hc0 : l0.length ≤ c0) (h : IndexFunc_back.f k l0 = some r) :
    Calls Try.prog 73 #[.slice A0 l0.length c0, .func (.func 77) #[] #[]] w fun e w' => e = .returned (.int .i64 r) ∧ Below w.heap.size w w' :=
  IndexFunc_any 77 _ Try.func77 (by kernel_rfl) rfl #[] (fun x => subprogram_Split_2.f k x.f0 x.f1 x.f2) w ⟨fun x A1 c1 b W _ hk hc hb => subprogram_Split_2.calls k x.f0 A1 c1 x.f1 x.f2 b W hk hc hb⟩ A0 c0 l0 r hr0 hc0 h
def ContainsFunc_marked.f (k : Nat) (l0 : List S32) : Option Bool := (idxF (fun x => subprogram_marked.f k x.f0 x.f1 x.f2) l0 0).map (fun i => decide (i ≥ 0))
theorem ContainsFunc_marked.mono : ∀ l0 k, LeO (ContainsFunc_marked.f k l0) (ContainsFunc_marked.f (k + 1) l0) := by
  intro l0 k
  unfold ContainsFunc_marked.f
  exact LeO.map _ (idxF_mono (fun x => subprogram_marked.mono _ _ _ _) l0 0)
theorem ContainsFunc_marked.calls (k : Nat) (A0 : Option Addr) (c0 : Nat) (l0 : List S32) (r : Bool) (w : World) (hr0 : Kd.C k32 w A0 l0.length l0) (hc0 : l0.length ≤ c0) (h : ContainsFunc_marked.f k l0 = some r) :
    Calls Try.prog 38 #[.slice A0 l0.length c0, .func (.func 100) #[] #[]] w fun e w' => e = .returned (.bool r) ∧ Below w.heap.size w w' :=
  ContainsFunc_any 100 _ Try.func100 (by kernel_rfl) rfl #[] (fun x => subprogram_marked.f k x.f0 x.f1 x.f2) w ⟨fun x A1 c1 b W _ hk hc hb => subprogram_marked.calls k x.f0 A1 c1 x.f1 x.f2 b W hk hc hb⟩ A0 c0 l0 r hr0 hc0 h
end Go.Proofs.Ytehkhbnhmehobaa.P
namespace Go.Proofs.Ytehkhbnhmehobaa.P
open Go.RowKit Go.Proofs.YtehkhbnhmehobaaW.PrintWords Go.Proofs.YtehkhbnhmehobaaW.PrintLast Go.Proofs.YtehkhbnhmehobaaW.PrintMore
attribute [local go_sem] max2_int min2_int max_two min_two max_three min_three max_four min_four
set_option linter.unusedVariables false
set_option linter.unusedSimpArgs false
def subprogram_ordered_1.f (k : Nat) (a0_0 : Int) (l0_1 : List (S32)) : Option (Bool) := (ContainsFunc_marked.f k l0_1).bind fun t995 => (some t995)
theorem subprogram_ordered_1.mono : ∀ a0 a1 k, LeO (subprogram_ordered_1.f k a0 a1) (subprogram_ordered_1.f (k + 1) a0 a1) := by
 intro a0 a1 k
 unfold subprogram_ordered_1.f
 repeat' first
   | (with_reducible exact ContainsFunc_marked.mono _ _)
   | (with_reducible exact LeO.refl _)
   | (with_reducible exact LeO.none _)
   | (with_reducible refine LeO.ite ?_ ?_)
   | (with_reducible refine LeO.bind ?_ (fun _ => ?_))
   | exact ContainsFunc_marked.mono _ _
   | exact LeO.none _
   | refine LeO.ite ?_ ?_
   | refine LeO.bind ?_ (fun _ => ?_)
set_option maxHeartbeats 8000000 in
set_option maxRecDepth 100000 in
theorem subprogram_ordered_1.calls (k : Nat) (a0_0 : Int) (A0_1 : Option Addr) (c0_1 : Nat) (l0_1 : List (S32)) (r : Bool) (w : World) (hr0_1 : Kd.C k32 w A0_1 l0_1.length l0_1) (hc0_1 : l0_1.length ≤ c0_1) (h : subprogram_ordered_1.f k a0_0 l0_1 = some r) :
  Calls Try.prog 102 #[.agg #[.int .i64 a0_0, .slice A0_1 l0_1.length c0_1]] w fun e w' => e = .returned (.bool r) ∧ Below w.heap.size w w' := by
 have hu81 := Try.underlying81
 have HR0_1 := Aside0.mk hr0_1
 have HC0_1 := Aside0.mk hc0_1
 clear hr0_1 hc0_1
 have HB := Aside0.mk (Below.refl w.heap.size w)
 have H : ((ContainsFunc_marked.f k l0_1).bind fun t995 => (some t995)) = some r := h
 clear h
 replace H := Option.bind_eq_some_iff.mp H
 obtain ⟨t995, A20, H⟩ := H
 replace H : (some t995) = some r := H
 have A2 := Aside0.mk A20
 clear A20
 obtain rfl := Option.some.inj H
 go_enter Try.func102, Try.ntmps102
 go_wp2_with (first | ((with_reducible refine gate_dst (N := 1) rfl ?_); refine box_event ?hg (N := 1) ?hd (cs := #[.int .i64 a0_0, .slice A0_1 l0_1.length c0_1]) (t := 81) ?hr ?_; (case hd => rfl); (case hg => rfl); (case hr => first | (go_simp; done) | (go_simp; rfl)); intro gb994 hg w3 hbox hb; have n0_ := Aside0.mk (below_step yB hb); have n1_ := Aside0.mk (hbox); have n2_ := Aside0.mk ((yG hg : w.heap.size ≤ gb994)); have n3_ := Aside0.mk ((yG hg : w.heap.size ≤ gb994)); clear HB; have HB := n0_; have BK994 := n1_; have GW994 := n2_; have GE994 := n3_; clear n0_ n1_ n2_ n3_; clear hb hbox hg; have hcz4_0 : w3.cell? ⟨gb994, 0, none⟩ = some (.int .i64 a0_0) := (blk_cell BK994.out 0).trans rfl; have hcz4_1 : w3.cell? ⟨gb994, 1, none⟩ = some (.slice A0_1 l0_1.length c0_1) := (blk_cell BK994.out 1).trans rfl; have hfz4_0 := blk_frozen BK994.out 0; have hfz4_1 := blk_frozen BK994.out 1) | ((with_reducible refine gate_callee (f := 38) rfl ?_); refine goesL_ (some 5) rfl rfl Try.func38 (by kernel_rfl) rfl #[.slice A0_1 l0_1.length c0_1, .func (.func 100) #[] #[]] rfl yQ ?_; (with_reducible refine (ContainsFunc_marked.calls k _ _ l0_1  t995 _ ?side1 ?side2 A2.out).mono ?_); (case side1 => exact yC HR0_1.out); (case side2 => exact HC0_1.out); rintro e w5 ⟨rfl, hb⟩; refine ⟨_, rfl, ?_⟩; have n0_ := Aside0.mk (blk_below (g := gb994) (o := .cells #[.int .i64 a0_0, .slice A0_1 l0_1.length c0_1] 81 (0, 0)) yK hb); have n1_ := Aside0.mk (below_step yB hb); clear BK994; clear HB; have BK994 := n0_; have HB := n1_; clear n0_ n1_; (try clear hb); (try clear hb2); (try clear hk); (try clear hi)))
 go_ret
 exact ⟨by first | rfl | (simp [errW_none, errW_some] <;> rfl) | (simp [*, errW_none, errW_some] <;> rfl), yB⟩
end Go.Proofs.Ytehkhbnhmehobaa.P
namespace Go.Proofs.Ytehkhbnhmehobaa.P
open Go.RowKit Go.Proofs.YtehkhbnhmehobaaW.PrintWords Go.Proofs.YtehkhbnhmehobaaW.PrintLast Go.Proofs.YtehkhbnhmehobaaW.PrintMore
set_option linter.unusedVariables false
def ContainsFunc_ordered.f (k : Nat) (l0 : List S81) : Option Bool := (idxF (fun x => subprogram_ordered_1.f k x.f0 x.f1) l0 0).map (fun i => decide (i ≥ 0))
theorem ContainsFunc_ordered.mono : ∀ l0 k, LeO (ContainsFunc_ordered.f k l0) (ContainsFunc_ordered.f (k + 1) l0) := by
  intro l0 k
  unfold ContainsFunc_ordered.f
  exact LeO.map _ (idxF_mono (fun x => subprogram_ordered_1.mono _ _ _) l0 0)
theorem ContainsFunc_ordered.calls (k : Nat) (A0 : Option Addr) (c0 : Nat) (l0 : List S81) (r : Bool) (w : World) (hr0 : Kd.C k81 w A0 l0.length l0) (hc0 : l0.length ≤ c0) (h : ContainsFunc_ordered.f k l0 = some r) :
    Calls Try.prog 101 #[.slice A0 l0.length c0, .func (.func 102) #[] #[]] w fun e w' => e = .returned (.bool r) ∧ Below w.heap.size w w' :=
  ContainsFuncSub_any 102 _ Try.func102 (by kernel_rfl) rfl #[] (fun x => subprogram_ordered_1.f k x.f0 x.f1) w ⟨fun x A1 c1 b W _ hk hc hb => subprogram_ordered_1.calls k x.f0 A1 c1 x.f1 b W hk hc hb⟩ A0 c0 l0 r hr0 hc0 h
end Go.Proofs.Ytehkhbnhmehobaa.P
namespace Go.Proofs.Ytehkhbnhmehobaa.P
open Go.RowKit Go.Proofs.YtehkhbnhmehobaaW.PrintWords Go.Proofs.YtehkhbnhmehobaaW.PrintLast Go.Proofs.YtehkhbnhmehobaaW.PrintMore
attribute [local go_sem] max2_int min2_int max_two min_two max_three min_three max_four min_four
set_option linter.unusedVariables false
set_option linter.unusedSimpArgs false
def subprogram_ordered.f (k : Nat) (l0_0 : List (S32)) (l0_1 : List (S81)) : Option (Bool) := if (wrap64 ((l0_0.length : Int) - 1)) < 0 then (some false) else (if 0 ≤ (wrap64 ((l0_0.length : Int) - 1)) then (if (wrap64 ((l0_0.length : Int) - 1)) < (l0_0.length : Int) then ((subprogram_has.f k ((rd_T32 l0_0 (wrap64 ((l0_0.length : Int) - 1))).f0) ((rd_T32 l0_0 (wrap64 ((l0_0.length : Int) - 1))).f1) ((rd_T32 l0_0 (wrap64 ((l0_0.length : Int) - 1))).f2) 77 30000).bind fun t380 => (if t380 = true then ((block_Codes.f k ((rd_T32 l0_0 (wrap64 ((l0_0.length : Int) - 1))).f0) ((rd_T32 l0_0 (wrap64 ((l0_0.length : Int) - 1))).f1) ((rd_T32 l0_0 (wrap64 ((l0_0.length : Int) - 1))).f2) 79).bind fun t382 => (if (t382.length : Int) > 0 then (some false) else ((subprogram_has.f k ((rd_T32 l0_0 (wrap64 ((l0_0.length : Int) - 1))).f0) ((rd_T32 l0_0 (wrap64 ((l0_0.length : Int) - 1))).f1) ((rd_T32 l0_0 (wrap64 ((l0_0.length : Int) - 1))).f2) 77 99000).bind fun t386 => (if t386 = true then (some false) else (if (wrap64 ((l0_0.length : Int) - 1)) ≤ (l0_0.length : Int) then ((ContainsFunc_marked.f k (l0_0.take ((wrap64 ((l0_0.length : Int) - 1)) : Int).toNat)).bind fun t391 => (if t391 = true then (some false) else ((ContainsFunc_ordered.f k l0_1).bind fun t392 => (some (!t392))))) else (none)))))) else (some false))) else (none)) else (none))
theorem subprogram_ordered.mono : ∀ a0 a1 k, LeO (subprogram_ordered.f k a0 a1) (subprogram_ordered.f (k + 1) a0 a1) := by
 intro a0 a1 k
 unfold subprogram_ordered.f
 repeat' first
   | (with_reducible exact ContainsFunc_marked.mono _ _)
   | (with_reducible exact ContainsFunc_ordered.mono _ _)
   | (with_reducible exact block_Codes.mono _ _ _ _ _)
   | (with_reducible exact subprogram_has.mono _ _ _ _ _ _)
   | (with_reducible exact LeO.refl _)
   | (with_reducible exact LeO.none _)
   | (with_reducible refine LeO.ite ?_ ?_)
   | (with_reducible refine LeO.bind ?_ (fun _ => ?_))
   | exact ContainsFunc_marked.mono _ _
   | exact ContainsFunc_ordered.mono _ _
   | exact block_Codes.mono _ _ _ _ _
   | exact subprogram_has.mono _ _ _ _ _ _
   | exact LeO.none _
   | refine LeO.ite ?_ ?_
   | refine LeO.bind ?_ (fun _ => ?_)
set_option maxHeartbeats 8000000 in
set_option maxRecDepth 100000 in
theorem subprogram_ordered.calls (k : Nat) (A0_0 : Option Addr) (c0_0 : Nat) (l0_0 : List (S32)) (A0_1 : Option Addr) (c0_1 : Nat) (l0_1 : List (S81)) (r : Bool) (w : World) (hr0_0 : Kd.C k32 w A0_0 l0_0.length l0_0) (hc0_0 : l0_0.length ≤ c0_0) (hr0_1 : Kd.C k81 w A0_1 l0_1.length l0_1) (hc0_1 : l0_1.length ≤ c0_1) (h : subprogram_ordered.f k l0_0 l0_1 = some r) :
  Calls Try.prog 79 #[.agg #[.slice A0_0 l0_0.length c0_0, .slice A0_1 l0_1.length c0_1]] w fun e w' => e = .returned (.bool r) ∧ Below w.heap.size w w' := by
 have hu54 := Try.underlying54
 have hu32 := Try.underlying32
 have HR0_0 := Aside0.mk hr0_0
 have HC0_0 := Aside0.mk hc0_0
 clear hr0_0 hc0_0
 have HR0_1 := Aside0.mk hr0_1
 have HC0_1 := Aside0.mk hc0_1
 clear hr0_1 hc0_1
 have HB := Aside0.mk (Below.refl w.heap.size w)
 have H : (if (wrap64 ((l0_0.length : Int) - 1)) < 0 then (some false) else (if 0 ≤ (wrap64 ((l0_0.length : Int) - 1)) then (if (wrap64 ((l0_0.length : Int) - 1)) < (l0_0.length : Int) then ((subprogram_has.f k ((rd_T32 l0_0 (wrap64 ((l0_0.length : Int) - 1))).f0) ((rd_T32 l0_0 (wrap64 ((l0_0.length : Int) - 1))).f1) ((rd_T32 l0_0 (wrap64 ((l0_0.length : Int) - 1))).f2) 77 30000).bind fun t380 => (if t380 = true then ((block_Codes.f k ((rd_T32 l0_0 (wrap64 ((l0_0.length : Int) - 1))).f0) ((rd_T32 l0_0 (wrap64 ((l0_0.length : Int) - 1))).f1) ((rd_T32 l0_0 (wrap64 ((l0_0.length : Int) - 1))).f2) 79).bind fun t382 => (if (t382.length : Int) > 0 then (some false) else ((subprogram_has.f k ((rd_T32 l0_0 (wrap64 ((l0_0.length : Int) - 1))).f0) ((rd_T32 l0_0 (wrap64 ((l0_0.length : Int) - 1))).f1) ((rd_T32 l0_0 (wrap64 ((l0_0.length : Int) - 1))).f2) 77 99000).bind fun t386 => (if t386 = true then (some false) else (if (wrap64 ((l0_0.length : Int) - 1)) ≤ (l0_0.length : Int) then ((ContainsFunc_marked.f k (l0_0.take ((wrap64 ((l0_0.length : Int) - 1)) : Int).toNat)).bind fun t391 => (if t391 = true then (some false) else ((ContainsFunc_ordered.f k l0_1).bind fun t392 => (some (!t392))))) else (none)))))) else (some false))) else (none)) else (none))) = some r := h
 clear h
 by_cases c2 : (wrap64 ((l0_0.length : Int) - 1)) < 0
 ·rw [if_pos c2] at H
  have c2b0 : decide ((wrap64 ((l0_0.length : Int) - 1)) < 0) = true := decide_eq_true c2
  clear c2
  obtain rfl := Option.some.inj H
  go_enter Try.func79, Try.ntmps79
  go_wp2_with (first | ((with_reducible refine gate_dst (N := 1) rfl ?_); (try (refine gate_guard (by rfl) ?_; dsimp only)); refine box_event ?hg (N := 1) ?hd (cs := #[.slice A0_0 l0_0.length c0_0, .slice A0_1 l0_1.length c0_1]) (t := 54) ?hr ?_; (case hd => rfl); (case hg => rfl); (case hr => first | (go_simp; done) | (go_simp; rfl)); intro gb378 hg w3 hbox hb; have n0_ := Aside0.mk (below_step yB hb); have n1_ := Aside0.mk (hbox); have n2_ := Aside0.mk ((yG hg : w.heap.size ≤ gb378)); have n3_ := Aside0.mk ((yG hg : w.heap.size ≤ gb378)); clear HB; have HB := n0_; have BK378 := n1_; have GW378 := n2_; have GE378 := n3_; clear n0_ n1_ n2_ n3_; clear hb hbox hg; have hcz4_0 : w3.cell? ⟨gb378, 0, none⟩ = some (.slice A0_0 l0_0.length c0_0) := (blk_cell BK378.out 0).trans rfl; have hcz4_1 : w3.cell? ⟨gb378, 1, none⟩ = some (.slice A0_1 l0_1.length c0_1) := (blk_cell BK378.out 1).trans rfl; have hfz4_0 := blk_frozen BK378.out 0; have hfz4_1 := blk_frozen BK378.out 1))
  go_ret
  exact ⟨by first | rfl | (simp [errW_none, errW_some] <;> rfl) | (simp [*, errW_none, errW_some] <;> rfl), yB⟩
 ·rw [if_neg c2] at H
  have c2b0 : decide ((wrap64 ((l0_0.length : Int) - 1)) < 0) = false := decide_eq_false c2
  clear c2
  obtain ⟨ji5, hji5⟩ : ∃ j_ : Int, (wrap64 ((l0_0.length : Int) - 1)) = j_ := ⟨_, rfl⟩
  replace H : (if 0 ≤ (ji5) then (if (ji5) < (l0_0.length : Int) then ((subprogram_has.f k ((rd_T32 l0_0 (ji5)).f0) ((rd_T32 l0_0 (ji5)).f1) ((rd_T32 l0_0 (ji5)).f2) 77 30000).bind fun t380 => (if t380 = true then ((block_Codes.f k ((rd_T32 l0_0 (ji5)).f0) ((rd_T32 l0_0 (ji5)).f1) ((rd_T32 l0_0 (ji5)).f2) 79).bind fun t382 => (if (t382.length : Int) > 0 then (some false) else ((subprogram_has.f k ((rd_T32 l0_0 (ji5)).f0) ((rd_T32 l0_0 (ji5)).f1) ((rd_T32 l0_0 (ji5)).f2) 77 99000).bind fun t386 => (if t386 = true then (some false) else (if (ji5) ≤ (l0_0.length : Int) then ((ContainsFunc_marked.f k (l0_0.take ((ji5) : Int).toNat)).bind fun t391 => (if t391 = true then (some false) else ((ContainsFunc_ordered.f k l0_1).bind fun t392 => (some (!t392))))) else (none)))))) else (some false))) else (none)) else (none)) = some r := by first | (rw [hji5] at H; exact H) | (simp only [hji5] at H ⊢; exact H)
  (try rw [hji5] at c2b0)
  have hji5w : (IntKind.i64.wrap ((l0_0.length : Int) - 1)) = ji5 := (i64_w _).trans hji5
  by_cases c6 : 0 ≤ (ji5)
  ·rw [if_pos c6] at H
   have c6b0 : decide (0 ≤ (ji5)) = true := decide_eq_true c6
   clear c6
   by_cases c7 : (ji5) < (l0_0.length : Int)
   ·rw [if_pos c7] at H
    have c7b0 : decide ((ji5) < (l0_0.length : Int)) = true := decide_eq_true c7
    clear c7
    replace H := Option.bind_eq_some_iff.mp H
    obtain ⟨t380, A80, H⟩ := H
    replace H : (if t380 = true then ((block_Codes.f k ((rd_T32 l0_0 (ji5)).f0) ((rd_T32 l0_0 (ji5)).f1) ((rd_T32 l0_0 (ji5)).f2) 79).bind fun t382 => (if (t382.length : Int) > 0 then (some false) else ((subprogram_has.f k ((rd_T32 l0_0 (ji5)).f0) ((rd_T32 l0_0 (ji5)).f1) ((rd_T32 l0_0 (ji5)).f2) 77 99000).bind fun t386 => (if t386 = true then (some false) else (if (ji5) ≤ (l0_0.length : Int) then ((ContainsFunc_marked.f k (l0_0.take ((ji5) : Int).toNat)).bind fun t391 => (if t391 = true then (some false) else ((ContainsFunc_ordered.f k l0_1).bind fun t392 => (some (!t392))))) else (none)))))) else (some false)) = some r := H
    have A8 := Aside0.mk A80
    clear A80
    by_cases c9 : t380 = true
    ·subst c9
     have H1 : ((block_Codes.f k ((rd_T32 l0_0 (ji5)).f0) ((rd_T32 l0_0 (ji5)).f1) ((rd_T32 l0_0 (ji5)).f2) 79).bind fun t382 => (if (t382.length : Int) > 0 then (some false) else ((subprogram_has.f k ((rd_T32 l0_0 (ji5)).f0) ((rd_T32 l0_0 (ji5)).f1) ((rd_T32 l0_0 (ji5)).f2) 77 99000).bind fun t386 => (if t386 = true then (some false) else (if (ji5) ≤ (l0_0.length : Int) then ((ContainsFunc_marked.f k (l0_0.take ((ji5) : Int).toNat)).bind fun t391 => (if t391 = true then (some false) else ((ContainsFunc_ordered.f k l0_1).bind fun t392 => (some (!t392))))) else (none)))))) = some r := by rw [if_pos rfl] at H; exact H
     clear H
     have H := H1
     clear H1
     replace H := Option.bind_eq_some_iff.mp H
     obtain ⟨t382, A100, H⟩ := H
     replace H : (if (t382.length : Int) > 0 then (some false) else ((subprogram_has.f k ((rd_T32 l0_0 (ji5)).f0) ((rd_T32 l0_0 (ji5)).f1) ((rd_T32 l0_0 (ji5)).f2) 77 99000).bind fun t386 => (if t386 = true then (some false) else (if (ji5) ≤ (l0_0.length : Int) then ((ContainsFunc_marked.f k (l0_0.take ((ji5) : Int).toNat)).bind fun t391 => (if t391 = true then (some false) else ((ContainsFunc_ordered.f k l0_1).bind fun t392 => (some (!t392))))) else (none))))) = some r := H
     have A10 := Aside0.mk A100
     clear A100
     by_cases c11 : (t382.length : Int) > 0
     ·rw [if_pos c11] at H
      have c11b0 : decide (0 < (t382.length : Int)) = true := decide_eq_true c11
      have c11b1 : decide (0 < t382.length) = true := decide_eq_true (by omega)
      clear c11
      obtain rfl := Option.some.inj H
      go_enter Try.func79, Try.ntmps79
      go_wp2_with (first | ((with_reducible refine gate_dst (N := 1) rfl ?_); (try (refine gate_guard (by rfl) ?_; dsimp only)); refine box_event ?hg (N := 1) ?hd (cs := #[.slice A0_0 l0_0.length c0_0, .slice A0_1 l0_1.length c0_1]) (t := 54) ?hr ?_; (case hd => rfl); (case hg => rfl); (case hr => first | (go_simp; done) | (go_simp; rfl)); intro gb378 hg w12 hbox hb; have n0_ := Aside0.mk (below_step yB hb); have n1_ := Aside0.mk (hbox); have n2_ := Aside0.mk ((yG hg : w.heap.size ≤ gb378)); have n3_ := Aside0.mk ((yG hg : w.heap.size ≤ gb378)); clear HB; have HB := n0_; have BK378 := n1_; have GW378 := n2_; have GE378 := n3_; clear n0_ n1_ n2_ n3_; clear hb hbox hg; have hcz13_0 : w12.cell? ⟨gb378, 0, none⟩ = some (.slice A0_0 l0_0.length c0_0) := (blk_cell BK378.out 0).trans rfl; have hcz13_1 : w12.cell? ⟨gb378, 1, none⟩ = some (.slice A0_1 l0_1.length c0_1) := (blk_cell BK378.out 1).trans rfl; have hfz13_0 := blk_frozen BK378.out 0; have hfz13_1 := blk_frozen BK378.out 1; have p379 : 0 ≤ ((ji5) : Int) := of_decide_eq_true yP; have q379 : (ji5) < (l0_0.length : Int) := of_decide_eq_true yP; obtain ⟨ad379, A379_1, c379_1, e379, hx379_0, hx379_1, hx379_2, hl379_1, hi379_1⟩ := at_T32 HR0_0.out (ji5) p379 q379; cases e379; replace hx379_0 := (HB.out.cell (yL hx379_0)).trans hx379_0; replace hx379_1 := (HB.out.cell (yL hx379_1)).trans hx379_1; replace hx379_2 := (HB.out.cell (yL hx379_2)).trans hx379_2; have HR379_1 := Aside0.mk hi379_1; have HC379_1 := Aside0.mk hl379_1; clear hi379_1 hl379_1; replace p379 := eq_true p379; replace q379 := eq_true q379) | (go_at_call 58; (with_reducible refine (subprogram_has.calls k ((rd_T32 l0_0 (ji5)).f0) _ _ ((rd_T32 l0_0 (ji5)).f1) ((rd_T32 l0_0 (ji5)).f2) 77 30000 true _ ?side1 ?side2 A8.out).mono ?_); (case side1 => exact yC HR379_1.out); (case side2 => exact HC379_1.out); rintro e w14 ⟨rfl, hb⟩; have n0_ := Aside0.mk (blk_below (g := gb378) (o := .cells #[.slice (some ad379) l0_0.length c0_0, .slice A0_1 l0_1.length c0_1] 54 (0, 0)) yK hb); have n1_ := Aside0.mk (below_step yB hb); clear BK378; clear HB; have BK378 := n0_; have HB := n1_; clear n0_ n1_; (try clear hb); (try clear hb2); (try clear hk); (try clear hi); have hcz15_0 : w14.cell? ⟨gb378, 0, none⟩ = some (.slice (some ad379) l0_0.length c0_0) := (blk_cell BK378.out 0).trans rfl; have hcz15_1 : w14.cell? ⟨gb378, 1, none⟩ = some (.slice A0_1 l0_1.length c0_1) := (blk_cell BK378.out 1).trans rfl; have hfz15_0 := blk_frozen BK378.out 0; have hfz15_1 := blk_frozen BK378.out 1; have p381 : 0 ≤ ((ji5) : Int) := of_decide_eq_true yP; have q381 : (ji5) < (l0_0.length : Int) := of_decide_eq_true yP; obtain ⟨ad381, A381_1, c381_1, e381, hx381_0, hx381_1, hx381_2, hl381_1, hi381_1⟩ := at_T32 HR0_0.out (ji5) p381 q381; obtain rfl : ad379 = ad381 := (by injection e381); replace hx381_0 := (HB.out.cell (yL hx381_0)).trans hx381_0; replace hx381_1 := (HB.out.cell (yL hx381_1)).trans hx381_1; replace hx381_2 := (HB.out.cell (yL hx381_2)).trans hx381_2; have HR381_1 := Aside0.mk hi381_1; have HC381_1 := Aside0.mk hl381_1; clear hi381_1 hl381_1; replace p381 := eq_true p381; replace q381 := eq_true q381) | (go_at_call 93; (with_reducible refine (block_Codes.calls k ((rd_T32 l0_0 (ji5)).f0) _ _ ((rd_T32 l0_0 (ji5)).f1) ((rd_T32 l0_0 (ji5)).f2) 79 t382 _ ?side1 ?side2 A10.out).mono ?_); (case side1 => exact yC HR381_1.out); (case side2 => exact HC381_1.out); rintro e w16 ⟨v383, rfl, ho0, hb⟩; have n0_ := Aside0.mk (Kd.R_lower ho0 (below_size yB)); have n1_ := Aside0.mk (blk_below (g := gb378) (o := .cells #[.slice (some ad379) l0_0.length c0_0, .slice A0_1 l0_1.length c0_1] 54 (0, 0)) yK hb); have n2_ := Aside0.mk (below_step yB hb); clear BK378; clear HB; have HO384 := n0_; have BK378 := n1_; have HB := n2_; clear n0_ n1_ n2_; (try clear hb); (try clear hb2); (try clear hk); (try clear hi); (try clear ho0); obtain ⟨Ao17, co17, eo17⟩ := Kd.R_slice HO384.out; subst eo17))
      go_ret
      exact ⟨by first | rfl | (simp [errW_none, errW_some] <;> rfl) | (simp only [← hji5]; first | rfl | (simp [errW_none, errW_some] <;> rfl)) | (simp [*, errW_none, errW_some] <;> rfl), yB⟩
     ·rw [if_neg c11] at H
      have c11b0 : decide (0 < (t382.length : Int)) = false := decide_eq_false c11
      have c11b1 : decide (0 < t382.length) = false := decide_eq_false (by omega)
      clear c11
      replace H := Option.bind_eq_some_iff.mp H
      obtain ⟨t386, A180, H⟩ := H
      replace H : (if t386 = true then (some false) else (if (ji5) ≤ (l0_0.length : Int) then ((ContainsFunc_marked.f k (l0_0.take ((ji5) : Int).toNat)).bind fun t391 => (if t391 = true then (some false) else ((ContainsFunc_ordered.f k l0_1).bind fun t392 => (some (!t392))))) else (none))) = some r := H
      have A18 := Aside0.mk A180
      clear A180
      by_cases c19 : t386 = true
      ·subst c19
       have H1 : (some false) = some r := by rw [if_pos rfl] at H; exact H
       clear H
       have H := H1
       clear H1
       obtain rfl := Option.some.inj H
       go_enter Try.func79, Try.ntmps79
       go_wp2_with (first | ((with_reducible refine gate_dst (N := 1) rfl ?_); (try (refine gate_guard (by rfl) ?_; dsimp only)); refine box_event ?hg (N := 1) ?hd (cs := #[.slice A0_0 l0_0.length c0_0, .slice A0_1 l0_1.length c0_1]) (t := 54) ?hr ?_; (case hd => rfl); (case hg => rfl); (case hr => first | (go_simp; done) | (go_simp; rfl)); intro gb378 hg w20 hbox hb; have n0_ := Aside0.mk (below_step yB hb); have n1_ := Aside0.mk (hbox); have n2_ := Aside0.mk ((yG hg : w.heap.size ≤ gb378)); have n3_ := Aside0.mk ((yG hg : w.heap.size ≤ gb378)); clear HB; have HB := n0_; have BK378 := n1_; have GW378 := n2_; have GE378 := n3_; clear n0_ n1_ n2_ n3_; clear hb hbox hg; have hcz21_0 : w20.cell? ⟨gb378, 0, none⟩ = some (.slice A0_0 l0_0.length c0_0) := (blk_cell BK378.out 0).trans rfl; have hcz21_1 : w20.cell? ⟨gb378, 1, none⟩ = some (.slice A0_1 l0_1.length c0_1) := (blk_cell BK378.out 1).trans rfl; have hfz21_0 := blk_frozen BK378.out 0; have hfz21_1 := blk_frozen BK378.out 1; have p379 : 0 ≤ ((ji5) : Int) := of_decide_eq_true yP; have q379 : (ji5) < (l0_0.length : Int) := of_decide_eq_true yP; obtain ⟨ad379, A379_1, c379_1, e379, hx379_0, hx379_1, hx379_2, hl379_1, hi379_1⟩ := at_T32 HR0_0.out (ji5) p379 q379; cases e379; replace hx379_0 := (HB.out.cell (yL hx379_0)).trans hx379_0; replace hx379_1 := (HB.out.cell (yL hx379_1)).trans hx379_1; replace hx379_2 := (HB.out.cell (yL hx379_2)).trans hx379_2; have HR379_1 := Aside0.mk hi379_1; have HC379_1 := Aside0.mk hl379_1; clear hi379_1 hl379_1; replace p379 := eq_true p379; replace q379 := eq_true q379) | (go_at_call 58; (with_reducible refine (subprogram_has.calls k ((rd_T32 l0_0 (ji5)).f0) _ _ ((rd_T32 l0_0 (ji5)).f1) ((rd_T32 l0_0 (ji5)).f2) 77 30000 true _ ?side1 ?side2 A8.out).mono ?_); (case side1 => exact yC HR379_1.out); (case side2 => exact HC379_1.out); rintro e w22 ⟨rfl, hb⟩; have n0_ := Aside0.mk (blk_below (g := gb378) (o := .cells #[.slice (some ad379) l0_0.length c0_0, .slice A0_1 l0_1.length c0_1] 54 (0, 0)) yK hb); have n1_ := Aside0.mk (below_step yB hb); clear BK378; clear HB; have BK378 := n0_; have HB := n1_; clear n0_ n1_; (try clear hb); (try clear hb2); (try clear hk); (try clear hi); have hcz23_0 : w22.cell? ⟨gb378, 0, none⟩ = some (.slice (some ad379) l0_0.length c0_0) := (blk_cell BK378.out 0).trans rfl; have hcz23_1 : w22.cell? ⟨gb378, 1, none⟩ = some (.slice A0_1 l0_1.length c0_1) := (blk_cell BK378.out 1).trans rfl; have hfz23_0 := blk_frozen BK378.out 0; have hfz23_1 := blk_frozen BK378.out 1; have p381 : 0 ≤ ((ji5) : Int) := of_decide_eq_true yP; have q381 : (ji5) < (l0_0.length : Int) := of_decide_eq_true yP; obtain ⟨ad381, A381_1, c381_1, e381, hx381_0, hx381_1, hx381_2, hl381_1, hi381_1⟩ := at_T32 HR0_0.out (ji5) p381 q381; obtain rfl : ad379 = ad381 := (by injection e381); replace hx381_0 := (HB.out.cell (yL hx381_0)).trans hx381_0; replace hx381_1 := (HB.out.cell (yL hx381_1)).trans hx381_1; replace hx381_2 := (HB.out.cell (yL hx381_2)).trans hx381_2; have HR381_1 := Aside0.mk hi381_1; have HC381_1 := Aside0.mk hl381_1; clear hi381_1 hl381_1; replace p381 := eq_true p381; replace q381 := eq_true q381) | (go_at_call 93; (with_reducible refine (block_Codes.calls k ((rd_T32 l0_0 (ji5)).f0) _ _ ((rd_T32 l0_0 (ji5)).f1) ((rd_T32 l0_0 (ji5)).f2) 79 t382 _ ?side1 ?side2 A10.out).mono ?_); (case side1 => exact yC HR381_1.out); (case side2 => exact HC381_1.out); rintro e w24 ⟨v383, rfl, ho0, hb⟩; have n0_ := Aside0.mk (Kd.R_lower ho0 (below_size yB)); have n1_ := Aside0.mk (blk_below (g := gb378) (o := .cells #[.slice (some ad379) l0_0.length c0_0, .slice A0_1 l0_1.length c0_1] 54 (0, 0)) yK hb); have n2_ := Aside0.mk (below_step yB hb); clear BK378; clear HB; have HO384 := n0_; have BK378 := n1_; have HB := n2_; clear n0_ n1_ n2_; (try clear hb); (try clear hb2); (try clear hk); (try clear hi); (try clear ho0); obtain ⟨Ao25, co25, eo25⟩ := Kd.R_slice HO384.out; subst eo25; have hcz26_0 : w24.cell? ⟨gb378, 0, none⟩ = some (.slice (some ad379) l0_0.length c0_0) := (blk_cell BK378.out 0).trans rfl; have hcz26_1 : w24.cell? ⟨gb378, 1, none⟩ = some (.slice A0_1 l0_1.length c0_1) := (blk_cell BK378.out 1).trans rfl; have hfz26_0 := blk_frozen BK378.out 0; have hfz26_1 := blk_frozen BK378.out 1; have p385 : 0 ≤ ((ji5) : Int) := of_decide_eq_true yP; have q385 : (ji5) < (l0_0.length : Int) := of_decide_eq_true yP; obtain ⟨ad385, A385_1, c385_1, e385, hx385_0, hx385_1, hx385_2, hl385_1, hi385_1⟩ := at_T32 HR0_0.out (ji5) p385 q385; obtain rfl : ad379 = ad385 := (by injection e385); replace hx385_0 := (HB.out.cell (yL hx385_0)).trans hx385_0; replace hx385_1 := (HB.out.cell (yL hx385_1)).trans hx385_1; replace hx385_2 := (HB.out.cell (yL hx385_2)).trans hx385_2; have HR385_1 := Aside0.mk hi385_1; have HC385_1 := Aside0.mk hl385_1; clear hi385_1 hl385_1; replace p385 := eq_true p385; replace q385 := eq_true q385) | (go_at_call 58; (with_reducible refine (subprogram_has.calls k ((rd_T32 l0_0 (ji5)).f0) _ _ ((rd_T32 l0_0 (ji5)).f1) ((rd_T32 l0_0 (ji5)).f2) 77 99000 true _ ?side1 ?side2 A18.out).mono ?_); (case side1 => exact yC HR385_1.out); (case side2 => exact HC385_1.out); rintro e w27 ⟨rfl, hb⟩; have n0_ := Aside0.mk (Kd.R_below (by (with_reducible repeat (first | apply Kd.R_alloc | apply Kd.R_drewN | apply Kd.R_drew)); exact HO384.out) hb); have n1_ := Aside0.mk (blk_below (g := gb378) (o := .cells #[.slice (some ad379) l0_0.length c0_0, .slice A0_1 l0_1.length c0_1] 54 (0, 0)) yK hb); have n2_ := Aside0.mk (below_step yB hb); clear HO384; clear BK378; clear HB; have HO384 := n0_; have BK378 := n1_; have HB := n2_; clear n0_ n1_ n2_; (try clear hb); (try clear hb2); (try clear hk); (try clear hi)))
       go_ret
       exact ⟨by first | rfl | (simp [errW_none, errW_some] <;> rfl) | (simp only [← hji5]; first | rfl | (simp [errW_none, errW_some] <;> rfl)) | (simp [*, errW_none, errW_some] <;> rfl), yB⟩
      ·replace c19 := Bool.eq_false_iff.mpr c19
       subst c19
       have H1 : (if (ji5) ≤ (l0_0.length : Int) then ((ContainsFunc_marked.f k (l0_0.take ((ji5) : Int).toNat)).bind fun t391 => (if t391 = true then (some false) else ((ContainsFunc_ordered.f k l0_1).bind fun t392 => (some (!t392))))) else (none)) = some r := by rw [if_neg (show ¬ (false = true) by decide)] at H; exact H
       clear H
       have H := H1
       clear H1
       have c28b0 := eq_true (of_decide_eq_true yP : 0 ≤ (ji5))
       by_cases c29 : (ji5) ≤ (l0_0.length : Int)
       ·rw [if_pos c29] at H
        have c29b0 := eq_true c29
        have c29b1 : decide ((ji5) ≤ (l0_0.length : Int)) = true := decide_eq_true c29
        clear c29
        obtain ⟨y387, hy387⟩ : ∃ y_ : List (S32), y_ = (l0_0.take ((ji5) : Int).toNat) := ⟨_, rfl⟩
        replace H : ((ContainsFunc_marked.f k y387).bind fun t391 => (if t391 = true then (some false) else ((ContainsFunc_ordered.f k l0_1).bind fun t392 => (some (!t392))))) = some r := by first | (rw [hy387]; with_reducible exact H) | (have H2_ := (Option.bind_some _ _).symm.trans H; rw [hy387]; with_reducible exact H2_) | (have H2_ := (Option.bind_some _ _).symm.trans H; with_reducible exact H2_) | with_reducible exact H | (rw [hy387]; exact H) | exact H
        have Ny387 := Aside0.mk hy387
        clear hy387
        replace H := Option.bind_eq_some_iff.mp H
        obtain ⟨t391, A300, H⟩ := H
        replace H : (if t391 = true then (some false) else ((ContainsFunc_ordered.f k l0_1).bind fun t392 => (some (!t392)))) = some r := H
        have A30 := Aside0.mk A300
        clear A300
        by_cases c31 : t391 = true
        ·subst c31
         have H1 : (some false) = some r := by rw [if_pos rfl] at H; exact H
         clear H
         have H := H1
         clear H1
         obtain rfl := Option.some.inj H
         go_enter Try.func79, Try.ntmps79
         go_wp2_with (first | ((with_reducible refine gate_dst (N := 1) rfl ?_); (try (refine gate_guard (by rfl) ?_; dsimp only)); refine box_event ?hg (N := 1) ?hd (cs := #[.slice A0_0 l0_0.length c0_0, .slice A0_1 l0_1.length c0_1]) (t := 54) ?hr ?_; (case hd => rfl); (case hg => rfl); (case hr => first | (go_simp; done) | (go_simp; rfl)); intro gb378 hg w32 hbox hb; have n0_ := Aside0.mk (below_step yB hb); have n1_ := Aside0.mk (hbox); have n2_ := Aside0.mk ((yG hg : w.heap.size ≤ gb378)); have n3_ := Aside0.mk ((yG hg : w.heap.size ≤ gb378)); clear HB; have HB := n0_; have BK378 := n1_; have GW378 := n2_; have GE378 := n3_; clear n0_ n1_ n2_ n3_; clear hb hbox hg; have hcz33_0 : w32.cell? ⟨gb378, 0, none⟩ = some (.slice A0_0 l0_0.length c0_0) := (blk_cell BK378.out 0).trans rfl; have hcz33_1 : w32.cell? ⟨gb378, 1, none⟩ = some (.slice A0_1 l0_1.length c0_1) := (blk_cell BK378.out 1).trans rfl; have hfz33_0 := blk_frozen BK378.out 0; have hfz33_1 := blk_frozen BK378.out 1; have p379 : 0 ≤ ((ji5) : Int) := of_decide_eq_true yP; have q379 : (ji5) < (l0_0.length : Int) := of_decide_eq_true yP; obtain ⟨ad379, A379_1, c379_1, e379, hx379_0, hx379_1, hx379_2, hl379_1, hi379_1⟩ := at_T32 HR0_0.out (ji5) p379 q379; cases e379; replace hx379_0 := (HB.out.cell (yL hx379_0)).trans hx379_0; replace hx379_1 := (HB.out.cell (yL hx379_1)).trans hx379_1; replace hx379_2 := (HB.out.cell (yL hx379_2)).trans hx379_2; have HR379_1 := Aside0.mk hi379_1; have HC379_1 := Aside0.mk hl379_1; clear hi379_1 hl379_1; replace p379 := eq_true p379; replace q379 := eq_true q379) | (go_at_call 58; (with_reducible refine (subprogram_has.calls k ((rd_T32 l0_0 (ji5)).f0) _ _ ((rd_T32 l0_0 (ji5)).f1) ((rd_T32 l0_0 (ji5)).f2) 77 30000 true _ ?side1 ?side2 A8.out).mono ?_); (case side1 => exact yC HR379_1.out); (case side2 => exact HC379_1.out); rintro e w34 ⟨rfl, hb⟩; have n0_ := Aside0.mk (blk_below (g := gb378) (o := .cells #[.slice (some ad379) l0_0.length c0_0, .slice A0_1 l0_1.length c0_1] 54 (0, 0)) yK hb); have n1_ := Aside0.mk (below_step yB hb); clear BK378; clear HB; have BK378 := n0_; have HB := n1_; clear n0_ n1_; (try clear hb); (try clear hb2); (try clear hk); (try clear hi); have hcz35_0 : w34.cell? ⟨gb378, 0, none⟩ = some (.slice (some ad379) l0_0.length c0_0) := (blk_cell BK378.out 0).trans rfl; have hcz35_1 : w34.cell? ⟨gb378, 1, none⟩ = some (.slice A0_1 l0_1.length c0_1) := (blk_cell BK378.out 1).trans rfl; have hfz35_0 := blk_frozen BK378.out 0; have hfz35_1 := blk_frozen BK378.out 1; have p381 : 0 ≤ ((ji5) : Int) := of_decide_eq_true yP; have q381 : (ji5) < (l0_0.length : Int) := of_decide_eq_true yP; obtain ⟨ad381, A381_1, c381_1, e381, hx381_0, hx381_1, hx381_2, hl381_1, hi381_1⟩ := at_T32 HR0_0.out (ji5) p381 q381; obtain rfl : ad379 = ad381 := (by injection e381); replace hx381_0 := (HB.out.cell (yL hx381_0)).trans hx381_0; replace hx381_1 := (HB.out.cell (yL hx381_1)).trans hx381_1; replace hx381_2 := (HB.out.cell (yL hx381_2)).trans hx381_2; have HR381_1 := Aside0.mk hi381_1; have HC381_1 := Aside0.mk hl381_1; clear hi381_1 hl381_1; replace p381 := eq_true p381; replace q381 := eq_true q381) | (go_at_call 93; (with_reducible refine (block_Codes.calls k ((rd_T32 l0_0 (ji5)).f0) _ _ ((rd_T32 l0_0 (ji5)).f1) ((rd_T32 l0_0 (ji5)).f2) 79 t382 _ ?side1 ?side2 A10.out).mono ?_); (case side1 => exact yC HR381_1.out); (case side2 => exact HC381_1.out); rintro e w36 ⟨v383, rfl, ho0, hb⟩; have n0_ := Aside0.mk (Kd.R_lower ho0 (below_size yB)); have n1_ := Aside0.mk (blk_below (g := gb378) (o := .cells #[.slice (some ad379) l0_0.length c0_0, .slice A0_1 l0_1.length c0_1] 54 (0, 0)) yK hb); have n2_ := Aside0.mk (below_step yB hb); clear BK378; clear HB; have HO384 := n0_; have BK378 := n1_; have HB := n2_; clear n0_ n1_ n2_; (try clear hb); (try clear hb2); (try clear hk); (try clear hi); (try clear ho0); obtain ⟨Ao37, co37, eo37⟩ := Kd.R_slice HO384.out; subst eo37; have hcz38_0 : w36.cell? ⟨gb378, 0, none⟩ = some (.slice (some ad379) l0_0.length c0_0) := (blk_cell BK378.out 0).trans rfl; have hcz38_1 : w36.cell? ⟨gb378, 1, none⟩ = some (.slice A0_1 l0_1.length c0_1) := (blk_cell BK378.out 1).trans rfl; have hfz38_0 := blk_frozen BK378.out 0; have hfz38_1 := blk_frozen BK378.out 1; have p385 : 0 ≤ ((ji5) : Int) := of_decide_eq_true yP; have q385 : (ji5) < (l0_0.length : Int) := of_decide_eq_true yP; obtain ⟨ad385, A385_1, c385_1, e385, hx385_0, hx385_1, hx385_2, hl385_1, hi385_1⟩ := at_T32 HR0_0.out (ji5) p385 q385; obtain rfl : ad379 = ad385 := (by injection e385); replace hx385_0 := (HB.out.cell (yL hx385_0)).trans hx385_0; replace hx385_1 := (HB.out.cell (yL hx385_1)).trans hx385_1; replace hx385_2 := (HB.out.cell (yL hx385_2)).trans hx385_2; have HR385_1 := Aside0.mk hi385_1; have HC385_1 := Aside0.mk hl385_1; clear hi385_1 hl385_1; replace p385 := eq_true p385; replace q385 := eq_true q385) | (go_at_call 58; (with_reducible refine (subprogram_has.calls k ((rd_T32 l0_0 (ji5)).f0) _ _ ((rd_T32 l0_0 (ji5)).f1) ((rd_T32 l0_0 (ji5)).f2) 77 99000 false _ ?side1 ?side2 A18.out).mono ?_); (case side1 => exact yC HR385_1.out); (case side2 => exact HC385_1.out); rintro e w39 ⟨rfl, hb⟩; have n0_ := Aside0.mk (Kd.R_below (by (with_reducible repeat (first | apply Kd.R_alloc | apply Kd.R_drewN | apply Kd.R_drew)); exact HO384.out) hb); have n1_ := Aside0.mk (blk_below (g := gb378) (o := .cells #[.slice (some ad379) l0_0.length c0_0, .slice A0_1 l0_1.length c0_1] 54 (0, 0)) yK hb); have n2_ := Aside0.mk (below_step yB hb); clear HO384; clear BK378; clear HB; have HO384 := n0_; have BK378 := n1_; have HB := n2_; clear n0_ n1_ n2_; (try clear hb); (try clear hb2); (try clear hk); (try clear hi); have hcz40_0 : w39.cell? ⟨gb378, 0, none⟩ = some (.slice (some ad379) l0_0.length c0_0) := (blk_cell BK378.out 0).trans rfl; have hcz40_1 : w39.cell? ⟨gb378, 1, none⟩ = some (.slice A0_1 l0_1.length c0_1) := (blk_cell BK378.out 1).trans rfl; have hfz40_0 := blk_frozen BK378.out 0; have hfz40_1 := blk_frozen BK378.out 1; have q41 : ((ji5) : Int) ≤ ((l0_0.length : Int) : Int) := of_decide_eq_true yP; obtain ⟨i041, hi041, _, hsz41, _⟩ := info_parts info32; have hroom41 : l0_0.length ≤ c0_0 := HC0_0.out; have hC41 : Kd.C k32 _ (some ad379) l0_0.length l0_0 := HR0_0.out; have hcut41 := cut_to (P := Try.prog) 35 32 .i64 Try.underlying35 hi041 (some ad379) l0_0.length c0_0 (ji5) (of_decide_eq_true yP) q41 hroom41; have hr41 := Kd.C_take (m := ((ji5) : Int).toNat) hC41 (by omega); have hy41 : y387.length = ((ji5) : Int).toNat := (by rw [Ny387.out, List.length_take]; omega); rw [← Ny387.out] at hr41; rw [← hy41] at hcut41; have HR390 := Aside0.mk hr41; have HC390 := Aside0.mk (show y387.length ≤ c0_0 from by omega); clear hr41 hC41 hroom41 hi041 hsz41; have KY41 := Aside0.mk hy41; clear hy41; replace q41 := eq_true q41) | (go_at_call 38; (with_reducible refine (ContainsFunc_marked.calls k _ _ y387  true _ ?side1 ?side2 A30.out).mono ?_); (case side1 => exact yC HR390.out); (case side2 => exact HC390.out); rintro e w42 ⟨rfl, hb⟩; have n0_ := Aside0.mk (Kd.R_below (by (with_reducible repeat (first | apply Kd.R_alloc | apply Kd.R_drewN | apply Kd.R_drew)); exact HO384.out) hb); have n1_ := Aside0.mk (blk_below (g := gb378) (o := .cells #[.slice (some ad379) l0_0.length c0_0, .slice A0_1 l0_1.length c0_1] 54 (0, 0)) yK hb); have n2_ := Aside0.mk (below_step yB hb); clear HO384; clear BK378; clear HB; have HO384 := n0_; have BK378 := n1_; have HB := n2_; clear n0_ n1_ n2_; (try clear hb); (try clear hb2); (try clear hk); (try clear hi)))
         go_ret
         exact ⟨by first | rfl | (simp [errW_none, errW_some] <;> rfl) | (simp only [← hji5]; first | rfl | (simp [errW_none, errW_some] <;> rfl)) | (simp [*, errW_none, errW_some] <;> rfl), yB⟩
        ·replace c31 := Bool.eq_false_iff.mpr c31
         subst c31
         have H1 : ((ContainsFunc_ordered.f k l0_1).bind fun t392 => (some (!t392))) = some r := by rw [if_neg (show ¬ (false = true) by decide)] at H; exact H
         clear H
         have H := H1
         clear H1
         replace H := Option.bind_eq_some_iff.mp H
         obtain ⟨t392, A430, H⟩ := H
         replace H : (some (!t392)) = some r := H
         have A43 := Aside0.mk A430
         clear A430
         obtain rfl := Option.some.inj H
         go_enter Try.func79, Try.ntmps79
         go_wp2_with (first | ((with_reducible refine gate_dst (N := 1) rfl ?_); (try (refine gate_guard (by rfl) ?_; dsimp only)); refine box_event ?hg (N := 1) ?hd (cs := #[.slice A0_0 l0_0.length c0_0, .slice A0_1 l0_1.length c0_1]) (t := 54) ?hr ?_; (case hd => rfl); (case hg => rfl); (case hr => first | (go_simp; done) | (go_simp; rfl)); intro gb378 hg w44 hbox hb; have n0_ := Aside0.mk (below_step yB hb); have n1_ := Aside0.mk (hbox); have n2_ := Aside0.mk ((yG hg : w.heap.size ≤ gb378)); have n3_ := Aside0.mk ((yG hg : w.heap.size ≤ gb378)); clear HB; have HB := n0_; have BK378 := n1_; have GW378 := n2_; have GE378 := n3_; clear n0_ n1_ n2_ n3_; clear hb hbox hg; have hcz45_0 : w44.cell? ⟨gb378, 0, none⟩ = some (.slice A0_0 l0_0.length c0_0) := (blk_cell BK378.out 0).trans rfl; have hcz45_1 : w44.cell? ⟨gb378, 1, none⟩ = some (.slice A0_1 l0_1.length c0_1) := (blk_cell BK378.out 1).trans rfl; have hfz45_0 := blk_frozen BK378.out 0; have hfz45_1 := blk_frozen BK378.out 1; have p379 : 0 ≤ ((ji5) : Int) := of_decide_eq_true yP; have q379 : (ji5) < (l0_0.length : Int) := of_decide_eq_true yP; obtain ⟨ad379, A379_1, c379_1, e379, hx379_0, hx379_1, hx379_2, hl379_1, hi379_1⟩ := at_T32 HR0_0.out (ji5) p379 q379; cases e379; replace hx379_0 := (HB.out.cell (yL hx379_0)).trans hx379_0; replace hx379_1 := (HB.out.cell (yL hx379_1)).trans hx379_1; replace hx379_2 := (HB.out.cell (yL hx379_2)).trans hx379_2; have HR379_1 := Aside0.mk hi379_1; have HC379_1 := Aside0.mk hl379_1; clear hi379_1 hl379_1; replace p379 := eq_true p379; replace q379 := eq_true q379) | (go_at_call 58; (with_reducible refine (subprogram_has.calls k ((rd_T32 l0_0 (ji5)).f0) _ _ ((rd_T32 l0_0 (ji5)).f1) ((rd_T32 l0_0 (ji5)).f2) 77 30000 true _ ?side1 ?side2 A8.out).mono ?_); (case side1 => exact yC HR379_1.out); (case side2 => exact HC379_1.out); rintro e w46 ⟨rfl, hb⟩; have n0_ := Aside0.mk (blk_below (g := gb378) (o := .cells #[.slice (some ad379) l0_0.length c0_0, .slice A0_1 l0_1.length c0_1] 54 (0, 0)) yK hb); have n1_ := Aside0.mk (below_step yB hb); clear BK378; clear HB; have BK378 := n0_; have HB := n1_; clear n0_ n1_; (try clear hb); (try clear hb2); (try clear hk); (try clear hi); have hcz47_0 : w46.cell? ⟨gb378, 0, none⟩ = some (.slice (some ad379) l0_0.length c0_0) := (blk_cell BK378.out 0).trans rfl; have hcz47_1 : w46.cell? ⟨gb378, 1, none⟩ = some (.slice A0_1 l0_1.length c0_1) := (blk_cell BK378.out 1).trans rfl; have hfz47_0 := blk_frozen BK378.out 0; have hfz47_1 := blk_frozen BK378.out 1; have p381 : 0 ≤ ((ji5) : Int) := of_decide_eq_true yP; have q381 : (ji5) < (l0_0.length : Int) := of_decide_eq_true yP; obtain ⟨ad381, A381_1, c381_1, e381, hx381_0, hx381_1, hx381_2, hl381_1, hi381_1⟩ := at_T32 HR0_0.out (ji5) p381 q381; obtain rfl : ad379 = ad381 := (by injection e381); replace hx381_0 := (HB.out.cell (yL hx381_0)).trans hx381_0; replace hx381_1 := (HB.out.cell (yL hx381_1)).trans hx381_1; replace hx381_2 := (HB.out.cell (yL hx381_2)).trans hx381_2; have HR381_1 := Aside0.mk hi381_1; have HC381_1 := Aside0.mk hl381_1; clear hi381_1 hl381_1; replace p381 := eq_true p381; replace q381 := eq_true q381) | (go_at_call 93; (with_reducible refine (block_Codes.calls k ((rd_T32 l0_0 (ji5)).f0) _ _ ((rd_T32 l0_0 (ji5)).f1) ((rd_T32 l0_0 (ji5)).f2) 79 t382 _ ?side1 ?side2 A10.out).mono ?_); (case side1 => exact yC HR381_1.out); (case side2 => exact HC381_1.out); rintro e w48 ⟨v383, rfl, ho0, hb⟩; have n0_ := Aside0.mk (Kd.R_lower ho0 (below_size yB)); have n1_ := Aside0.mk (blk_below (g := gb378) (o := .cells #[.slice (some ad379) l0_0.length c0_0, .slice A0_1 l0_1.length c0_1] 54 (0, 0)) yK hb); have n2_ := Aside0.mk (below_step yB hb); clear BK378; clear HB; have HO384 := n0_; have BK378 := n1_; have HB := n2_; clear n0_ n1_ n2_; (try clear hb); (try clear hb2); (try clear hk); (try clear hi); (try clear ho0); obtain ⟨Ao49, co49, eo49⟩ := Kd.R_slice HO384.out; subst eo49; have hcz50_0 : w48.cell? ⟨gb378, 0, none⟩ = some (.slice (some ad379) l0_0.length c0_0) := (blk_cell BK378.out 0).trans rfl; have hcz50_1 : w48.cell? ⟨gb378, 1, none⟩ = some (.slice A0_1 l0_1.length c0_1) := (blk_cell BK378.out 1).trans rfl; have hfz50_0 := blk_frozen BK378.out 0; have hfz50_1 := blk_frozen BK378.out 1; have p385 : 0 ≤ ((ji5) : Int) := of_decide_eq_true yP; have q385 : (ji5) < (l0_0.length : Int) := of_decide_eq_true yP; obtain ⟨ad385, A385_1, c385_1, e385, hx385_0, hx385_1, hx385_2, hl385_1, hi385_1⟩ := at_T32 HR0_0.out (ji5) p385 q385; obtain rfl : ad379 = ad385 := (by injection e385); replace hx385_0 := (HB.out.cell (yL hx385_0)).trans hx385_0; replace hx385_1 := (HB.out.cell (yL hx385_1)).trans hx385_1; replace hx385_2 := (HB.out.cell (yL hx385_2)).trans hx385_2; have HR385_1 := Aside0.mk hi385_1; have HC385_1 := Aside0.mk hl385_1; clear hi385_1 hl385_1; replace p385 := eq_true p385; replace q385 := eq_true q385) | (go_at_call 58; (with_reducible refine (subprogram_has.calls k ((rd_T32 l0_0 (ji5)).f0) _ _ ((rd_T32 l0_0 (ji5)).f1) ((rd_T32 l0_0 (ji5)).f2) 77 99000 false _ ?side1 ?side2 A18.out).mono ?_); (case side1 => exact yC HR385_1.out); (case side2 => exact HC385_1.out); rintro e w51 ⟨rfl, hb⟩; have n0_ := Aside0.mk (Kd.R_below (by (with_reducible repeat (first | apply Kd.R_alloc | apply Kd.R_drewN | apply Kd.R_drew)); exact HO384.out) hb); have n1_ := Aside0.mk (blk_below (g := gb378) (o := .cells #[.slice (some ad379) l0_0.length c0_0, .slice A0_1 l0_1.length c0_1] 54 (0, 0)) yK hb); have n2_ := Aside0.mk (below_step yB hb); clear HO384; clear BK378; clear HB; have HO384 := n0_; have BK378 := n1_; have HB := n2_; clear n0_ n1_ n2_; (try clear hb); (try clear hb2); (try clear hk); (try clear hi); have hcz52_0 : w51.cell? ⟨gb378, 0, none⟩ = some (.slice (some ad379) l0_0.length c0_0) := (blk_cell BK378.out 0).trans rfl; have hcz52_1 : w51.cell? ⟨gb378, 1, none⟩ = some (.slice A0_1 l0_1.length c0_1) := (blk_cell BK378.out 1).trans rfl; have hfz52_0 := blk_frozen BK378.out 0; have hfz52_1 := blk_frozen BK378.out 1; have q53 : ((ji5) : Int) ≤ ((l0_0.length : Int) : Int) := of_decide_eq_true yP; obtain ⟨i053, hi053, _, hsz53, _⟩ := info_parts info32; have hroom53 : l0_0.length ≤ c0_0 := HC0_0.out; have hC53 : Kd.C k32 _ (some ad379) l0_0.length l0_0 := HR0_0.out; have hcut53 := cut_to (P := Try.prog) 35 32 .i64 Try.underlying35 hi053 (some ad379) l0_0.length c0_0 (ji5) (of_decide_eq_true yP) q53 hroom53; have hr53 := Kd.C_take (m := ((ji5) : Int).toNat) hC53 (by omega); have hy53 : y387.length = ((ji5) : Int).toNat := (by rw [Ny387.out, List.length_take]; omega); rw [← Ny387.out] at hr53; rw [← hy53] at hcut53; have HR390 := Aside0.mk hr53; have HC390 := Aside0.mk (show y387.length ≤ c0_0 from by omega); clear hr53 hC53 hroom53 hi053 hsz53; have KY53 := Aside0.mk hy53; clear hy53; replace q53 := eq_true q53) | (go_at_call 38; (with_reducible refine (ContainsFunc_marked.calls k _ _ y387  false _ ?side1 ?side2 A30.out).mono ?_); (case side1 => exact yC HR390.out); (case side2 => exact HC390.out); rintro e w54 ⟨rfl, hb⟩; have n0_ := Aside0.mk (Kd.R_below (by (with_reducible repeat (first | apply Kd.R_alloc | apply Kd.R_drewN | apply Kd.R_drew)); exact HO384.out) hb); have n1_ := Aside0.mk (blk_below (g := gb378) (o := .cells #[.slice (some ad379) l0_0.length c0_0, .slice A0_1 l0_1.length c0_1] 54 (0, 0)) yK hb); have n2_ := Aside0.mk (below_step yB hb); clear HO384; clear BK378; clear HB; have HO384 := n0_; have BK378 := n1_; have HB := n2_; clear n0_ n1_ n2_; (try clear hb); (try clear hb2); (try clear hk); (try clear hi); have hcz55_0 : w54.cell? ⟨gb378, 0, none⟩ = some (.slice (some ad379) l0_0.length c0_0) := (blk_cell BK378.out 0).trans rfl; have hcz55_1 : w54.cell? ⟨gb378, 1, none⟩ = some (.slice A0_1 l0_1.length c0_1) := (blk_cell BK378.out 1).trans rfl; have hfz55_0 := blk_frozen BK378.out 0; have hfz55_1 := blk_frozen BK378.out 1) | ((with_reducible refine gate_callee (f := 101) rfl ?_); refine goesL_ (some 46) rfl rfl Try.func101 (by kernel_rfl) rfl #[.slice A0_1 l0_1.length c0_1, .func (.func 102) #[] #[]] rfl yQ ?_; (with_reducible refine (ContainsFunc_ordered.calls k _ _ l0_1  t392 _ ?side1 ?side2 A43.out).mono ?_); (case side1 => exact yC HR0_1.out); (case side2 => exact HC0_1.out); rintro e w56 ⟨rfl, hb⟩; refine ⟨_, rfl, ?_⟩; have n0_ := Aside0.mk (Kd.R_below (by (with_reducible repeat (first | apply Kd.R_alloc | apply Kd.R_drewN | apply Kd.R_drew)); exact HO384.out) hb); have n1_ := Aside0.mk (blk_below (g := gb378) (o := .cells #[.slice (some ad379) l0_0.length c0_0, .slice A0_1 l0_1.length c0_1] 54 (0, 0)) yK hb); have n2_ := Aside0.mk (below_step yB hb); clear HO384; clear BK378; clear HB; have HO384 := n0_; have BK378 := n1_; have HB := n2_; clear n0_ n1_ n2_; (try clear hb); (try clear hb2); (try clear hk); (try clear hi)))
         go_ret
         exact ⟨by first | rfl | (simp [errW_none, errW_some] <;> rfl) | (simp only [← hji5]; first | rfl | (simp [errW_none, errW_some] <;> rfl)) | (simp [*, errW_none, errW_some] <;> rfl), yB⟩
       ·rw [if_neg c29] at H
        exact absurd H (by simp)
    ·replace c9 := Bool.eq_false_iff.mpr c9
     subst c9
     have H1 : (some false) = some r := by rw [if_neg (show ¬ (false = true) by decide)] at H; exact H
     clear H
     have H := H1
     clear H1
     obtain rfl := Option.some.inj H
     go_enter Try.func79, Try.ntmps79
     go_wp2_with (first | ((with_reducible refine gate_dst (N := 1) rfl ?_); (try (refine gate_guard (by rfl) ?_; dsimp only)); refine box_event ?hg (N := 1) ?hd (cs := #[.slice A0_0 l0_0.length c0_0, .slice A0_1 l0_1.length c0_1]) (t := 54) ?hr ?_; (case hd => rfl); (case hg => rfl); (case hr => first | (go_simp; done) | (go_simp; rfl)); intro gb378 hg w57 hbox hb; have n0_ := Aside0.mk (below_step yB hb); have n1_ := Aside0.mk (hbox); have n2_ := Aside0.mk ((yG hg : w.heap.size ≤ gb378)); have n3_ := Aside0.mk ((yG hg : w.heap.size ≤ gb378)); clear HB; have HB := n0_; have BK378 := n1_; have GW378 := n2_; have GE378 := n3_; clear n0_ n1_ n2_ n3_; clear hb hbox hg; have hcz58_0 : w57.cell? ⟨gb378, 0, none⟩ = some (.slice A0_0 l0_0.length c0_0) := (blk_cell BK378.out 0).trans rfl; have hcz58_1 : w57.cell? ⟨gb378, 1, none⟩ = some (.slice A0_1 l0_1.length c0_1) := (blk_cell BK378.out 1).trans rfl; have hfz58_0 := blk_frozen BK378.out 0; have hfz58_1 := blk_frozen BK378.out 1; have p379 : 0 ≤ ((ji5) : Int) := of_decide_eq_true yP; have q379 : (ji5) < (l0_0.length : Int) := of_decide_eq_true yP; obtain ⟨ad379, A379_1, c379_1, e379, hx379_0, hx379_1, hx379_2, hl379_1, hi379_1⟩ := at_T32 HR0_0.out (ji5) p379 q379; cases e379; replace hx379_0 := (HB.out.cell (yL hx379_0)).trans hx379_0; replace hx379_1 := (HB.out.cell (yL hx379_1)).trans hx379_1; replace hx379_2 := (HB.out.cell (yL hx379_2)).trans hx379_2; have HR379_1 := Aside0.mk hi379_1; have HC379_1 := Aside0.mk hl379_1; clear hi379_1 hl379_1; replace p379 := eq_true p379; replace q379 := eq_true q379) | (go_at_call 58; (with_reducible refine (subprogram_has.calls k ((rd_T32 l0_0 (ji5)).f0) _ _ ((rd_T32 l0_0 (ji5)).f1) ((rd_T32 l0_0 (ji5)).f2) 77 30000 false _ ?side1 ?side2 A8.out).mono ?_); (case side1 => exact yC HR379_1.out); (case side2 => exact HC379_1.out); rintro e w59 ⟨rfl, hb⟩; have n0_ := Aside0.mk (blk_below (g := gb378) (o := .cells #[.slice (some ad379) l0_0.length c0_0, .slice A0_1 l0_1.length c0_1] 54 (0, 0)) yK hb); have n1_ := Aside0.mk (below_step yB hb); clear BK378; clear HB; have BK378 := n0_; have HB := n1_; clear n0_ n1_; (try clear hb); (try clear hb2); (try clear hk); (try clear hi)))
     go_ret
     exact ⟨by first | rfl | (simp [errW_none, errW_some] <;> rfl) | (simp only [← hji5]; first | rfl | (simp [errW_none, errW_some] <;> rfl)) | (simp [*, errW_none, errW_some] <;> rfl), yB⟩
   ·rw [if_neg c7] at H
    exact absurd H (by simp)
  ·rw [if_neg c6] at H
   exact absurd H (by simp)
end Go.Proofs.Ytehkhbnhmehobaa.P
namespace Go.Proofs.Ytehkhbnhmehobaa.P
open Go.RowKit Go.Proofs.YtehkhbnhmehobaaW.PrintWords Go.Proofs.YtehkhbnhmehobaaW.PrintLast Go.Proofs.YtehkhbnhmehobaaW.PrintMore
set_option linter.unusedVariables false
set_option linter.unusedSimpArgs false
def repL : List S81 → List S81 → Bool
  | _, [] => false
  | p, x :: l => if p.any (fun y => x.f0 == y.f0) = true then true else repL (p ++ [x]) l
def subprogram_repeated.f (l0 : List (S81)) : Option (Bool) := some (repL [] l0)
theorem idx_any (n : Int) : ∀ (l : List S81) (i : Int), 0 ≤ i → (idxF (fun y => some (n == y.f0)) l i).map (fun i => decide (i ≥ 0)) = some (l.any (fun y => n == y.f0))
  | [], i, _ => rfl
  | x :: l, i, hi => by
    simp only [idxF, Option.bind_some, List.any_cons]
    cases h : (n == x.f0) with
    | true => simp [hi]
    | false =>
      simp only [Bool.false_eq_true, if_false, Bool.false_or]
      exact idx_any n l (i + 1) (by omega)
theorem alloc_at2 (w : World) (o : Obj) : (w.alloc o).heap[w.heap.size]? = some o := by
  show (w.heap.push o)[w.heap.size]? = _
  simp
set_option maxHeartbeats 1000000 in
set_option maxRecDepth 100000 in
theorem repeated_closure (x y : S81) (v : Value) (g : Nat) (A1 : Option Addr) (c1 : Nat) (w : World) (hbox : w.heap[g]? = some (.cells #[.int .i64 x.f0, v] 81 (0, 0))) :
    Calls Try.prog 103 (#[.agg #[.int .i64 y.f0, .slice A1 y.f1.length c1]] ++ #[.pointer (some ⟨g, 0, none⟩)]) w fun e w' => e = .returned (.bool (x.f0 == y.f0)) ∧ Below w.heap.size w w' := by
  have hu1 := Try.underlying81
  have hcz0 : w.cell? ⟨g, 0, none⟩ = some (.int .i64 x.f0) := (blk_cell hbox 0).trans rfl
  have BK := Aside0.mk hbox
  clear hbox
  show Calls Try.prog 103 #[.agg #[.int .i64 y.f0, .slice A1 y.f1.length c1], .pointer (some ⟨g, 0, none⟩)] w _
  go_enter Try.func103, Try.ntmps103
  go_wp2_with ((with_reducible refine gate_dst (N := 2) rfl ?_); refine box_event ?hg (N := 2) ?hd (cs := #[.int .i64 y.f0, .slice A1 y.f1.length c1]) (t := 81) ?hr ?_; (case hd => rfl); (case hg => rfl); (case hr => first | (go_simp; done) | (go_simp; rfl)); intro gb hg w1 hbox hb; have HB := Aside0.mk hb; have BKt := Aside0.mk (blk_below BK.out hb); have hx0 : w1.cell? ⟨gb, 0, none⟩ = some (.int .i64 y.f0) := (blk_cell hbox 0).trans rfl; have hx1 : w1.cell? ⟨g, 0, none⟩ = some (.int .i64 x.f0) := (blk_cell BKt.out 0).trans rfl; clear hb hbox hg hcz0)
  go_ret
  exact ⟨rfl, HB.out⟩
theorem repL_step {l : List S81} {j : Nat} (h : j < l.length) : repL (l.take j) (l.drop j) = if (l.take j).any (fun y => l[j].f0 == y.f0) = true then true else repL (l.take (j + 1)) (l.drop (j + 1)) := by
  rw [List.drop_eq_getElem_cons h, repL, List.take_succ_eq_append_getElem h]
set_option maxHeartbeats 2000000 in
set_option maxRecDepth 100000 in
theorem subprogram_repeated.calls (A0 : Option Addr) (c0 : Nat) (l0 : List (S81)) (r : Bool) (w : World) (hr0 : Kd.C k81 w A0 l0.length l0) (hc0 : l0.length ≤ c0) (h : subprogram_repeated.f l0 = some r) :
    Calls Try.prog 80 #[.slice A0 l0.length c0] w fun e w' => e = .returned (.bool r) ∧ Below w.heap.size w w' := by
  have H := Aside0.mk (Option.some.inj h)
  have hu81 := Try.underlying81
  have HR := Aside0.mk hr0
  have HC := Aside0.mk hc0
  have HM := Aside0.mk (Kd.C_max hr0)
  clear hr0 h hc0
  go_enter Try.func80, Try.ntmps80
  go_wp2
  go_loopw [7] (fun i w' => ∃ j : Nat, i = .int .i64 j ∧ Aside0 (j ≤ l0.length) ∧ Aside0 (repL (l0.take j) (l0.drop j) = r) ∧ Aside0 (Below w.heap.size w w')) (fun i _ => l0.length - (intOf i).toNat)
  case atStart => exact ⟨0, rfl, ⟨Nat.zero_le _⟩, ⟨H.out⟩, ⟨Below.refl _ _⟩⟩
  case round =>
    obtain ⟨j, rfl, HJ, HI, HB⟩ := hrel
    by_cases hlt : j < l0.length
    · obtain ⟨ad, A1, c1, e, hx0, hx1, hl1, hk1⟩ := at_T81 (Kd.C_below HR.out HB.out) (j : Int) (by omega) (by omega)
      cases e
      have hrd : rd_T81 l0 (j : Int) = l0[j] := by simp [rd_T81, hlt]
      rw [hrd] at hx0 hx1 hl1 hk1
      have HI2 := Aside0.mk ((repL_step hlt).symm.trans HI.out)
      have HTK := Aside0.mk (show Kd.C k81 wr (some ad) (l0.take j).length (l0.take j) from Kd.C_take (Kd.C_below HR.out HB.out) (m := j) (by omega))
      have HLT := Aside0.mk (show (l0.take j).length = j from by rw [List.length_take, Nat.min_eq_left (by omega)])
      clear hrd
      generalize l0[j] = x at *
      generalize l0.take j = pj at *
      simp only [Int.toNat_natCast] at hx0 hx1
      have hlt' : decide ((j : Int) < (l0.length : Int)) = true := by simp; omega
      have hj0 : (0 : Int) ≤ (j : Int) := by omega
      have hj1 : j ≤ l0.length := by omega
      have hj2 : j ≤ c0 := by have := HC.out; omega
      have CF : ∀ (W : World), W.heap[wr.heap.size]? = some (.cells #[.int .i64 x.f0, .slice A1 x.f1.length c1] 81 (0, 0)) → Below wr.heap.size wr W → Calls Try.prog 101 #[.slice (some ad) j c0, .func (.func 103) #[] #[.pointer (some ⟨wr.heap.size, 0, none⟩)]] W fun e w' => e = .returned (.bool (pj.any (fun y => x.f0 == y.f0))) ∧ Below W.heap.size W w' := by
        intro W hW hb
        have := ContainsFuncSub_any 103 _ Try.func103 (by kernel_rfl) rfl #[.pointer (some ⟨wr.heap.size, 0, none⟩)] (fun y => some (x.f0 == y.f0)) W ⟨fun y A2 c2 b W2 hb2 _ _ he => by obtain rfl := Option.some.inj he; exact repeated_closure x y _ wr.heap.size A2 c2 W2 (blk_below hW hb2)⟩ (some ad) c0 pj _ (Kd.C_below HTK.out hb) (by rw [HLT.out]; exact hj2) (idx_any x.f0 pj 0 (Int.le_refl 0))
        rw [HLT.out] at this
        exact this
      have CF := Aside0.mk CF
      cases ca : pj.any (fun y => x.f0 == y.f0) with
      | true =>
        have HI3 := HI2.out
        rw [if_pos ca] at HI3
        subst HI3
        rw [ca] at CF
        go_wp2_with (go_at_call 101; (with_reducible refine (CF.out _ (alloc_at2 wr _) (below_alloc (Below.refl _ _) _)).mono ?_); rintro e w4 ⟨rfl, hb4⟩; have HB4 := Aside0.mk (below_then (below_alloc HB.out _) (Nat.le_trans HB.out.size (below_alloc (Below.refl _ _) _).size) hb4); clear hb4)
        go_ret
        exact ⟨rfl, HB4.out⟩
      | false =>
        have HI3 := HI2.out
        rw [if_neg (by rw [ca]; decide)] at HI3
        have HI3 := Aside0.mk HI3
        rw [ca] at CF
        go_wp2_with (go_at_call 101; (with_reducible refine (CF.out _ (alloc_at2 wr _) (below_alloc (Below.refl _ _) _)).mono ?_); rintro e w4 ⟨rfl, hb4⟩; have HB4 := Aside0.mk (below_then (below_alloc HB.out _) (Nat.le_trans HB.out.size (below_alloc (Below.refl _ _) _).size) hb4); clear hb4)
        go_roundw
        case rel => exact ⟨j + 1, by rw [wrap_succ hlt HM.out], ⟨by omega⟩, ⟨HI3.out⟩, ⟨HB4.out⟩⟩
        case measure => rw [wrap_succ hlt HM.out]; simp only [intOf, Int.toNat_natCast]; omega
    · have hlt' : decide ((j : Int) < (l0.length : Int)) = false := by simp; omega
      have hI := HI.out
      rw [List.drop_eq_nil_of_le (by omega), repL] at hI
      subst hI
      go_wp2
      go_ret
      exact ⟨rfl, HB.out⟩
end Go.Proofs.Ytehkhbnhmehobaa.P
namespace Go.Proofs.Ytehkhbnhmehobaa.P
open Go.RowKit Go.Proofs.YtehkhbnhmehobaaW.PrintWords Go.Proofs.YtehkhbnhmehobaaW.PrintLast Go.Proofs.YtehkhbnhmehobaaW.PrintMore
attribute [local go_sem] max2_int min2_int max_two min_two max_three min_three max_four min_four
set_option linter.unusedVariables false
set_option linter.unusedSimpArgs false
def subprogram_proper.l0 : Nat → List (S81) → Int → Int → List (S32) → List (S81) → Option (Bool)
 | 0, _, _, _, _, _ => none
 | k + 1, x6, x7, x8, x394000, x394001 => if x8 < x7 then (if 0 ≤ x8 then (if x8 < (x6.length : Int) then (if ((rd_T81 x6 x8).f0) < 1 then (some false) else (if ((rd_T81 x6 x8).f0) > 9999 then (some false) else (subprogram_proper.l0 k x6 x7 (wrap64 (x8 + 1)) x394000 x394001))) else (none)) else (none)) else ((subprogram_ordered.f k x394000 x394001).bind fun t396 => (if t396 = true then ((subprogram_repeated.f x394001).bind fun t397 => (some (!t397))) else (some false)))
def subprogram_proper.f (k : Nat) (l0_0 : List (S32)) (l0_1 : List (S81)) : Option (Bool) := subprogram_proper.l0 k l0_1 (l0_1.length : Int) 0 l0_0 l0_1
theorem subprogram_proper.mono_l : ∀ k, (∀ y0 y1 y2 y3 y4, LeO (subprogram_proper.l0 k y0 y1 y2 y3 y4) (subprogram_proper.l0 (k + 1) y0 y1 y2 y3 y4))
 | 0 => fun _ _ _ _ _ r h => by simp [subprogram_proper.l0] at h
 | k + 1 => by
  have ih0 := subprogram_proper.mono_l k
  ·intro y0 y1 y2 y3 y4
   unfold subprogram_proper.l0
   repeat' first
   | (with_reducible exact ih0 _ _ _ _ _)
   | (with_reducible exact subprogram_ordered.mono _ _ _)
   | (with_reducible exact LeO.refl _)
   | (with_reducible exact LeO.none _)
   | (with_reducible refine LeO.ite ?_ ?_)
   | (with_reducible refine LeO.bind ?_ (fun _ => ?_))
   | exact ih0 _ _ _ _ _
   | exact subprogram_ordered.mono _ _ _
   | exact LeO.none _
   | refine LeO.ite ?_ ?_
   | refine LeO.bind ?_ (fun _ => ?_)
theorem subprogram_proper.mono : ∀ a0 a1 k, LeO (subprogram_proper.f k a0 a1) (subprogram_proper.f (k + 1) a0 a1) := by
 intro a0 a1 k
 have ih0 := subprogram_proper.mono_l k
 unfold subprogram_proper.f
 repeat' first
   | (with_reducible exact ih0 _ _ _ _ _)
   | (with_reducible exact subprogram_ordered.mono _ _ _)
   | (with_reducible exact LeO.refl _)
   | (with_reducible exact LeO.none _)
   | (with_reducible refine LeO.ite ?_ ?_)
   | (with_reducible refine LeO.bind ?_ (fun _ => ?_))
   | exact ih0 _ _ _ _ _
   | exact subprogram_ordered.mono _ _ _
   | exact LeO.none _
   | refine LeO.ite ?_ ?_
   | refine LeO.bind ?_ (fun _ => ?_)
set_option maxHeartbeats 8000000 in
set_option maxRecDepth 100000 in
theorem subprogram_proper.calls (k : Nat) (A0_0 : Option Addr) (c0_0 : Nat) (l0_0 : List (S32)) (A0_1 : Option Addr) (c0_1 : Nat) (l0_1 : List (S81)) (r : Bool) (w : World) (hr0_0 : Kd.C k32 w A0_0 l0_0.length l0_0) (hc0_0 : l0_0.length ≤ c0_0) (hr0_1 : Kd.C k81 w A0_1 l0_1.length l0_1) (hc0_1 : l0_1.length ≤ c0_1) (h : subprogram_proper.f k l0_0 l0_1 = some r) :
  Calls Try.prog 110 #[.agg #[.slice A0_0 l0_0.length c0_0, .slice A0_1 l0_1.length c0_1]] w fun e w' => e = .returned (.bool r) ∧ Below w.heap.size w w' := by
 have hu54 := Try.underlying54
 have hu81 := Try.underlying81
 have HR0_0 := Aside0.mk hr0_0
 have HC0_0 := Aside0.mk hc0_0
 clear hr0_0 hc0_0
 have HR0_1 := Aside0.mk hr0_1
 have HC0_1 := Aside0.mk hc0_1
 clear hr0_1 hc0_1
 have HB := Aside0.mk (Below.refl w.heap.size w)
 have H : (subprogram_proper.l0 k l0_1 (l0_1.length : Int) 0 l0_0 l0_1) = some r := h
 clear h
 have H' := Aside0.mk H
 clear H
 go_enter Try.func110, Try.ntmps110
 go_wp2_with (first | ((with_reducible refine gate_dst (N := 1) rfl ?_); refine box_event ?hg (N := 1) ?hd (cs := #[.slice A0_0 l0_0.length c0_0, .slice A0_1 l0_1.length c0_1]) (t := 54) ?hr ?_; (case hd => rfl); (case hg => rfl); (case hr => first | (go_simp; done) | (go_simp; rfl)); intro gb393 hg w2 hbox hb; have n0_ := Aside0.mk (below_step yB hb); have n1_ := Aside0.mk (hbox); have n2_ := Aside0.mk ((yG hg : w.heap.size ≤ gb393)); have n3_ := Aside0.mk ((yG hg : w.heap.size ≤ gb393)); clear HB; have HB := n0_; have BK393 := n1_; have GW393 := n2_; have GE393 := n3_; clear n0_ n1_ n2_ n3_; clear hb hbox hg; have hcz3_0 : w2.cell? ⟨gb393, 0, none⟩ = some (.slice A0_0 l0_0.length c0_0) := (blk_cell BK393.out 0).trans rfl; have hcz3_1 : w2.cell? ⟨gb393, 1, none⟩ = some (.slice A0_1 l0_1.length c0_1) := (blk_cell BK393.out 1).trans rfl; have hfz3_0 := blk_frozen BK393.out 0; have hfz3_1 := blk_frozen BK393.out 1))
 go_loopg [8] k (fun kq v8 w' => ∃ (x8_1 : Int), v8 = .int .i64 x8_1 ∧ Aside0 (subprogram_proper.l0 kq l0_1 (l0_1.length : Int) x8_1 l0_0 l0_1 = some r) ∧ Aside0 (kq ≤ k) ∧ Aside0 (w'.heap[gb393]? = some (.cells #[(.slice A0_0 l0_0.length c0_0), (.slice A0_1 l0_1.length c0_1)] 54 (0, 0))) ∧ Aside0 (Below w.heap.size w w'))
 case atStart => exact ⟨(0), yS, H', ⟨Nat.le_refl _⟩, ⟨by (with_reducible repeat (first | refine blk_drewN ?_ _ | refine blk_drew ?_ | refine blk_alloc ?_ _)); exact BK393.out⟩, ⟨yB⟩⟩
 case round =>
  clear H'
  try clear c1
  try clear p2
  try clear hcz3_0
  try clear hcz3_1
  try clear hfz3_0
  try clear hfz3_1
  obtain ⟨x8_1, rfl, HA, HK1, BK393, HB⟩ := hrel
  cases gk with
  | zero => exact absurd HA.out (by simp [subprogram_proper.l0])
  | succ k1 =>
   have H := HA.out
   clear HA
   simp only [subprogram_proper.l0] at H
   by_cases c4 : x8_1 < (l0_1.length : Int)
   ·rw [if_pos c4] at H
    have c4b0 : decide (x8_1 < (l0_1.length : Int)) = true := decide_eq_true c4
    clear c4
    by_cases c5 : 0 ≤ x8_1
    ·rw [if_pos c5] at H
     have c5b0 : decide (0 ≤ x8_1) = true := decide_eq_true c5
     clear c5
     by_cases c6 : x8_1 < (l0_1.length : Int)
     ·rw [if_pos c6] at H
      have c6b0 : decide (x8_1 < (l0_1.length : Int)) = true := decide_eq_true c6
      clear c6
      by_cases c7 : ((rd_T81 l0_1 x8_1).f0) < 1
      ·rw [if_pos c7] at H
       have c7b0 : decide (((rd_T81 l0_1 x8_1).f0) < 1) = true := decide_eq_true c7
       clear c7
       obtain rfl := Option.some.inj H
       have p394 : 0 ≤ (x8_1 : Int) := of_decide_eq_true yP
       have q394 : x8_1 < (l0_1.length : Int) := of_decide_eq_true yP
       obtain ⟨ad394, A394_1, c394_1, e394, hx394_0, hx394_1, hl394_1, hi394_1⟩ := at_T81 HR0_1.out x8_1 p394 q394
       cases e394
       replace hx394_0 := (HB.out.cell (yL hx394_0)).trans hx394_0
       replace hx394_1 := (HB.out.cell (yL hx394_1)).trans hx394_1
       have HR394_1 := Aside0.mk hi394_1
       have HC394_1 := Aside0.mk hl394_1
       clear hi394_1 hl394_1
       replace p394 := eq_true p394
       replace q394 := eq_true q394
       go_wp2_with (first | ((with_reducible refine gate_dst (N := 4) rfl ?_); refine box_event ?hg (N := 4) ?hd (cs := #[.int .i64 0, .slice none 0 0]) (t := 81) ?hr ?_; (case hd => rfl); (case hg => rfl); (case hr => first | (go_simp; done) | (go_simp; rfl)); intro gb395 hg w8 hbox hb; have n0_ := Aside0.mk (blk_below (g := gb393) (o := .cells #[.slice A0_0 l0_0.length c0_0, .slice (some ad394) l0_1.length c0_1] 54 (0, 0)) yK hb); have n1_ := Aside0.mk (below_step yB hb); have n2_ := Aside0.mk (hbox); have n3_ := Aside0.mk ((yG hg : w.heap.size ≤ gb395)); have n4_ := Aside0.mk ((yG hg : w.heap.size ≤ gb395)); have n5_ := Aside0.mk ((by rw [hg]; exact Nat.ne_of_lt (blk_lt (g := gb393) (o := .cells #[.slice A0_0 l0_0.length c0_0, .slice (some ad394) l0_1.length c0_1] 54 (0, 0)) yK) : gb393 ≠ gb395)); have n6_ := Aside0.mk ((by rw [hg]; exact Nat.ne_of_gt (blk_lt (g := gb393) (o := .cells #[.slice A0_0 l0_0.length c0_0, .slice (some ad394) l0_1.length c0_1] 54 (0, 0)) yK) : gb395 ≠ gb393)); clear BK393; clear HB; have BK393 := n0_; have HB := n1_; have BK395 := n2_; have GW395 := n3_; have GE395 := n4_; have NB393_395 := n5_; have NB395_393 := n6_; clear n0_ n1_ n2_ n3_ n4_ n5_ n6_; clear hb hbox hg; have hnb9 := NB395_393.out; have hnc9 := NB393_395.out; have hcz10_0 : w8.cell? ⟨gb395, 0, none⟩ = some (.int .i64 0) := (blk_cell BK395.out 0).trans rfl; have hcz10_1 : w8.cell? ⟨gb395, 1, none⟩ = some (.slice none 0 0) := (blk_cell BK395.out 1).trans rfl; have hfz10_0 := blk_frozen BK395.out 0; have hfz10_1 := blk_frozen BK395.out 1))
       go_ret
       exact ⟨by first | rfl | (simp [errW_none, errW_some] <;> rfl) | (simp [*, errW_none, errW_some] <;> rfl), yB⟩
      ·rw [if_neg c7] at H
       have c7b0 : decide (((rd_T81 l0_1 x8_1).f0) < 1) = false := decide_eq_false c7
       clear c7
       by_cases c11 : ((rd_T81 l0_1 x8_1).f0) > 9999
       ·rw [if_pos c11] at H
        have c11b0 : decide (9999 < ((rd_T81 l0_1 x8_1).f0)) = true := decide_eq_true c11
        clear c11
        obtain rfl := Option.some.inj H
        have p394 : 0 ≤ (x8_1 : Int) := of_decide_eq_true yP
        have q394 : x8_1 < (l0_1.length : Int) := of_decide_eq_true yP
        obtain ⟨ad394, A394_1, c394_1, e394, hx394_0, hx394_1, hl394_1, hi394_1⟩ := at_T81 HR0_1.out x8_1 p394 q394
        cases e394
        replace hx394_0 := (HB.out.cell (yL hx394_0)).trans hx394_0
        replace hx394_1 := (HB.out.cell (yL hx394_1)).trans hx394_1
        have HR394_1 := Aside0.mk hi394_1
        have HC394_1 := Aside0.mk hl394_1
        clear hi394_1 hl394_1
        replace p394 := eq_true p394
        replace q394 := eq_true q394
        go_wp2_with (first | ((with_reducible refine gate_dst (N := 4) rfl ?_); refine box_event ?hg (N := 4) ?hd (cs := #[.int .i64 0, .slice none 0 0]) (t := 81) ?hr ?_; (case hd => rfl); (case hg => rfl); (case hr => first | (go_simp; done) | (go_simp; rfl)); intro gb395 hg w12 hbox hb; have n0_ := Aside0.mk (blk_below (g := gb393) (o := .cells #[.slice A0_0 l0_0.length c0_0, .slice (some ad394) l0_1.length c0_1] 54 (0, 0)) yK hb); have n1_ := Aside0.mk (below_step yB hb); have n2_ := Aside0.mk (hbox); have n3_ := Aside0.mk ((yG hg : w.heap.size ≤ gb395)); have n4_ := Aside0.mk ((yG hg : w.heap.size ≤ gb395)); have n5_ := Aside0.mk ((by rw [hg]; exact Nat.ne_of_lt (blk_lt (g := gb393) (o := .cells #[.slice A0_0 l0_0.length c0_0, .slice (some ad394) l0_1.length c0_1] 54 (0, 0)) yK) : gb393 ≠ gb395)); have n6_ := Aside0.mk ((by rw [hg]; exact Nat.ne_of_gt (blk_lt (g := gb393) (o := .cells #[.slice A0_0 l0_0.length c0_0, .slice (some ad394) l0_1.length c0_1] 54 (0, 0)) yK) : gb395 ≠ gb393)); clear BK393; clear HB; have BK393 := n0_; have HB := n1_; have BK395 := n2_; have GW395 := n3_; have GE395 := n4_; have NB393_395 := n5_; have NB395_393 := n6_; clear n0_ n1_ n2_ n3_ n4_ n5_ n6_; clear hb hbox hg; have hnb13 := NB395_393.out; have hnc13 := NB393_395.out; have hcz14_0 : w12.cell? ⟨gb395, 0, none⟩ = some (.int .i64 0) := (blk_cell BK395.out 0).trans rfl; have hcz14_1 : w12.cell? ⟨gb395, 1, none⟩ = some (.slice none 0 0) := (blk_cell BK395.out 1).trans rfl; have hfz14_0 := blk_frozen BK395.out 0; have hfz14_1 := blk_frozen BK395.out 1))
        go_ret
        exact ⟨by first | rfl | (simp [errW_none, errW_some] <;> rfl) | (simp [*, errW_none, errW_some] <;> rfl), yB⟩
       ·rw [if_neg c11] at H
        have c11b0 : decide (9999 < ((rd_T81 l0_1 x8_1).f0)) = false := decide_eq_false c11
        clear c11
        have H' := Aside0.mk H
        clear H
        have p394 : 0 ≤ (x8_1 : Int) := of_decide_eq_true yP
        have q394 : x8_1 < (l0_1.length : Int) := of_decide_eq_true yP
        obtain ⟨ad394, A394_1, c394_1, e394, hx394_0, hx394_1, hl394_1, hi394_1⟩ := at_T81 HR0_1.out x8_1 p394 q394
        cases e394
        replace hx394_0 := (HB.out.cell (yL hx394_0)).trans hx394_0
        replace hx394_1 := (HB.out.cell (yL hx394_1)).trans hx394_1
        have HR394_1 := Aside0.mk hi394_1
        have HC394_1 := Aside0.mk hl394_1
        clear hi394_1 hl394_1
        replace p394 := eq_true p394
        replace q394 := eq_true q394
        go_wp2_with (first | ((with_reducible refine gate_dst (N := 4) rfl ?_); refine box_event ?hg (N := 4) ?hd (cs := #[.int .i64 0, .slice none 0 0]) (t := 81) ?hr ?_; (case hd => rfl); (case hg => rfl); (case hr => first | (go_simp; done) | (go_simp; rfl)); intro gb395 hg w15 hbox hb; have n0_ := Aside0.mk (blk_below (g := gb393) (o := .cells #[.slice A0_0 l0_0.length c0_0, .slice (some ad394) l0_1.length c0_1] 54 (0, 0)) yK hb); have n1_ := Aside0.mk (below_step yB hb); have n2_ := Aside0.mk (hbox); have n3_ := Aside0.mk ((yG hg : w.heap.size ≤ gb395)); have n4_ := Aside0.mk ((yG hg : w.heap.size ≤ gb395)); have n5_ := Aside0.mk ((by rw [hg]; exact Nat.ne_of_lt (blk_lt (g := gb393) (o := .cells #[.slice A0_0 l0_0.length c0_0, .slice (some ad394) l0_1.length c0_1] 54 (0, 0)) yK) : gb393 ≠ gb395)); have n6_ := Aside0.mk ((by rw [hg]; exact Nat.ne_of_gt (blk_lt (g := gb393) (o := .cells #[.slice A0_0 l0_0.length c0_0, .slice (some ad394) l0_1.length c0_1] 54 (0, 0)) yK) : gb395 ≠ gb393)); clear BK393; clear HB; have BK393 := n0_; have HB := n1_; have BK395 := n2_; have GW395 := n3_; have GE395 := n4_; have NB393_395 := n5_; have NB395_393 := n6_; clear n0_ n1_ n2_ n3_ n4_ n5_ n6_; clear hb hbox hg; have hnb16 := NB395_393.out; have hnc16 := NB393_395.out; have hcz17_0 : w15.cell? ⟨gb395, 0, none⟩ = some (.int .i64 0) := (blk_cell BK395.out 0).trans rfl; have hcz17_1 : w15.cell? ⟨gb395, 1, none⟩ = some (.slice none 0 0) := (blk_cell BK395.out 1).trans rfl; have hfz17_0 := blk_frozen BK395.out 0; have hfz17_1 := blk_frozen BK395.out 1))
        go_roundg k1
        case measure => have := HK1.out; omega
        case rel => exact ⟨(wrap64 (x8_1 + 1)), yS, H', ⟨by have := HK1.out; omega⟩, ⟨by (with_reducible repeat (first | refine blk_drewN ?_ _ | refine blk_drew ?_ | refine blk_alloc ?_ _)); refine blk_far ?_ NB393_395.out _; (with_reducible repeat (first | refine blk_drewN ?_ _ | refine blk_drew ?_ | refine blk_alloc ?_ _)); refine blk_far ?_ NB393_395.out _; (with_reducible repeat (first | refine blk_drewN ?_ _ | refine blk_drew ?_ | refine blk_alloc ?_ _)); exact BK393.out⟩, ⟨yB⟩⟩
     ·rw [if_neg c6] at H
      exact absurd H (by simp)
    ·rw [if_neg c5] at H
     exact absurd H (by simp)
   ·rw [if_neg c4] at H
    have c4b0 : decide (x8_1 < (l0_1.length : Int)) = false := decide_eq_false c4
    clear c4
    replace H := Option.bind_eq_some_iff.mp H
    obtain ⟨t396, A180, H⟩ := H
    replace H : (if t396 = true then ((subprogram_repeated.f l0_1).bind fun t397 => (some (!t397))) else (some false)) = some r := H
    have A18 := Aside0.mk A180
    clear A180
    by_cases c19 : t396 = true
    ·subst c19
     have H1 : ((subprogram_repeated.f l0_1).bind fun t397 => (some (!t397))) = some r := by rw [if_pos rfl] at H; exact H
     clear H
     have H := H1
     clear H1
     replace H := Option.bind_eq_some_iff.mp H
     obtain ⟨t397, A200, H⟩ := H
     replace H : (some (!t397)) = some r := H
     have A20 := Aside0.mk A200
     clear A200
     obtain rfl := Option.some.inj H
     have hcz21_0 : wr.cell? ⟨gb393, 0, none⟩ = some (.slice A0_0 l0_0.length c0_0) := (blk_cell BK393.out 0).trans rfl
     have hcz21_1 : wr.cell? ⟨gb393, 1, none⟩ = some (.slice A0_1 l0_1.length c0_1) := (blk_cell BK393.out 1).trans rfl
     have hfz21_0 := blk_frozen BK393.out 0
     have hfz21_1 := blk_frozen BK393.out 1
     go_wp2_with (first | ((with_reducible refine gate_callee (f := 79) rfl ?_); refine goesL_ (some 22) rfl rfl Try.func79 (by kernel_rfl) rfl #[.agg #[.slice A0_0 l0_0.length c0_0, .slice A0_1 l0_1.length c0_1]] rfl yQ ?_; (with_reducible refine (subprogram_ordered.calls k1 _ _ l0_0 _ _ l0_1 true _ ?side1 ?side2 ?side3 ?side4 A18.out).mono ?_); (case side1 => exact yC HR0_0.out); (case side2 => exact HC0_0.out); (case side3 => exact yC HR0_1.out); (case side4 => exact HC0_1.out); rintro e w22 ⟨rfl, hb⟩; refine ⟨_, rfl, ?_⟩; have n0_ := Aside0.mk (blk_below (g := gb393) (o := .cells #[.slice A0_0 l0_0.length c0_0, .slice A0_1 l0_1.length c0_1] 54 (0, 0)) yK hb); have n1_ := Aside0.mk (below_step yB hb); clear BK393; clear HB; have BK393 := n0_; have HB := n1_; clear n0_ n1_; (try clear hb); (try clear hb2); (try clear hk); (try clear hi); have hcz23_0 : w22.cell? ⟨gb393, 0, none⟩ = some (.slice A0_0 l0_0.length c0_0) := (blk_cell BK393.out 0).trans rfl; have hcz23_1 : w22.cell? ⟨gb393, 1, none⟩ = some (.slice A0_1 l0_1.length c0_1) := (blk_cell BK393.out 1).trans rfl; have hfz23_0 := blk_frozen BK393.out 0; have hfz23_1 := blk_frozen BK393.out 1) | (go_at_call 80; (with_reducible refine (subprogram_repeated.calls _ _ l0_1 t397 _ ?side1 ?side2 A20.out).mono ?_); (case side1 => exact yC HR0_1.out); (case side2 => exact HC0_1.out); rintro e w24 ⟨rfl, hb⟩; have n0_ := Aside0.mk (blk_below (g := gb393) (o := .cells #[.slice A0_0 l0_0.length c0_0, .slice A0_1 l0_1.length c0_1] 54 (0, 0)) yK hb); have n1_ := Aside0.mk (below_step yB hb); clear BK393; clear HB; have BK393 := n0_; have HB := n1_; clear n0_ n1_; (try clear hb); (try clear hb2); (try clear hk); (try clear hi)))
     go_ret
     exact ⟨by first | rfl | (simp [errW_none, errW_some] <;> rfl) | (simp [*, errW_none, errW_some] <;> rfl), yB⟩
    ·replace c19 := Bool.eq_false_iff.mpr c19
     subst c19
     have H1 : (some false) = some r := by rw [if_neg (show ¬ (false = true) by decide)] at H; exact H
     clear H
     have H := H1
     clear H1
     obtain rfl := Option.some.inj H
     have hcz25_0 : wr.cell? ⟨gb393, 0, none⟩ = some (.slice A0_0 l0_0.length c0_0) := (blk_cell BK393.out 0).trans rfl
     have hcz25_1 : wr.cell? ⟨gb393, 1, none⟩ = some (.slice A0_1 l0_1.length c0_1) := (blk_cell BK393.out 1).trans rfl
     have hfz25_0 := blk_frozen BK393.out 0
     have hfz25_1 := blk_frozen BK393.out 1
     go_wp2_with (first | ((with_reducible refine gate_callee (f := 79) rfl ?_); refine goesL_ (some 22) rfl rfl Try.func79 (by kernel_rfl) rfl #[.agg #[.slice A0_0 l0_0.length c0_0, .slice A0_1 l0_1.length c0_1]] rfl yQ ?_; (with_reducible refine (subprogram_ordered.calls k1 _ _ l0_0 _ _ l0_1 false _ ?side1 ?side2 ?side3 ?side4 A18.out).mono ?_); (case side1 => exact yC HR0_0.out); (case side2 => exact HC0_0.out); (case side3 => exact yC HR0_1.out); (case side4 => exact HC0_1.out); rintro e w26 ⟨rfl, hb⟩; refine ⟨_, rfl, ?_⟩; have n0_ := Aside0.mk (blk_below (g := gb393) (o := .cells #[.slice A0_0 l0_0.length c0_0, .slice A0_1 l0_1.length c0_1] 54 (0, 0)) yK hb); have n1_ := Aside0.mk (below_step yB hb); clear BK393; clear HB; have BK393 := n0_; have HB := n1_; clear n0_ n1_; (try clear hb); (try clear hb2); (try clear hk); (try clear hi)))
     go_ret
     exact ⟨by first | rfl | (simp [errW_none, errW_some] <;> rfl) | (simp [*, errW_none, errW_some] <;> rfl), yB⟩
end Go.Proofs.Ytehkhbnhmehobaa.P
namespace Go.Proofs.Ytehkhbnhmehobaa.P
open Go.RowKit Go.Proofs.YtehkhbnhmehobaaW.PrintWords Go.Proofs.YtehkhbnhmehobaaW.PrintLast Go.Proofs.YtehkhbnhmehobaaW.PrintMore
set_option linter.unusedVariables false
set_option linter.unusedSimpArgs false
def SubMapO (w0 W : World) (g : Nat) (sb : Int → Option (List S32)) : Prop := ∃ F, MapFew Try.prog 2 .i64 W g F ∧ ∀ y, (F y).isSome = (sb y).isSome ∧ ∃ A c, (F y).getD (.slice none 0 0) = .slice A ((sb y).getD []).length c ∧ ((sb y).getD []).length ≤ c ∧ Kd.C k32 w0 A ((sb y).getD []).length ((sb y).getD [])
theorem SubMapO.sub {w0 W : World} {g : Nat} {sb : Int → Option (List S32)} (h : SubMapO w0 W g sb) : SubMap w0 W g (fun y => (sb y).getD []) := by
  obtain ⟨F, hm, hf⟩ := h
  exact ⟨F, hm, fun y => (hf y).2⟩
def subsO : List S81 → (Int → Option (List S32)) → Int → Option (List S32)
  | [], M => M
  | x :: l, M => subsO l (fun y => if y = x.f0 then some x.f1 else M y)
def foundL (k : Nat) : List S32 → List Int → Option (List Int × Int)
  | [], acc => some (acc, 0)
  | b :: l, acc => (callF k b).bind fun r => if r.2.2.2 = 0 then (if r.2.2.1 = true then (if IN r.1 ∧ acc.length < 1000000 then foundL k l (acc ++ [r.1]) else none) else foundL k l acc) else some (acc, r.2.2.2)
def haveL (sb : Int → Option (List S32)) (l : List Int) : Bool := l.all (fun n => (sb n).isSome)
def measAll (subs : Int → List S32) (k : Nat) : List S81 → St3 → Option (Bool × St3)
  | [], S => some (true, S)
  | x :: l, S => if IN x.f0 then (measF subs k k x.f0 S).bind fun m => if m.1 = true then measAll subs k l m.2 else some (false, m.2) else none
def newF (k : Nat) (mainB : List S32) (subsB : List S81) : Option (Int × (Int → Option (List S32)) × St3) :=
  (subprogram_proper.f k mainB subsB).bind fun p => if p = true then (if (subsB.all (fun x => decide (IN x.f0)) && decide (subsB.length < 1000000)) = true then
    (Concat_Block.f k (mainB :: subsB.map (fun x => x.f1))).bind fun al => (foundL k al []).bind fun fo => if fo.2 = 0 then
      (if haveL (subsO subsB (fun _ => none)) fo.1 = true then (measAll (fun y => ((subsO subsB (fun _ => none)) y).getD []) k subsB (fun _ => 0, fun _ => 0, fun _ => 0)).bind fun m =>
        if m.1 = true then some (0, subsO subsB (fun _ => none), m.2) else some (12, subsO subsB (fun _ => none), m.2)
      else some (4, fun _ => none, (fun _ => 0, fun _ => 0, fun _ => 0)))
    else some (fo.2, fun _ => none, (fun _ => 0, fun _ => 0, fun _ => 0))
  else none) else some (1, fun _ => none, (fun _ => 0, fun _ => 0, fun _ => 0))
end Go.Proofs.Ytehkhbnhmehobaa.P
namespace Go.Proofs.Ytehkhbnhmehobaa.P
open Go.RowKit Go.Proofs.YtehkhbnhmehobaaW.PrintWords Go.Proofs.YtehkhbnhmehobaaW.PrintLast Go.Proofs.YtehkhbnhmehobaaW.PrintMore
set_option linter.unusedVariables false
set_option linter.unusedSimpArgs false
abbrev Done := Int → Option (List S32)
def updD (D : Done) (n : Int) (x : List S32) : Done := fun y => if y = n then some x else D y
def rep (t : Int) (x : List S32) : List S32 := (List.replicate t.toNat x).flatten
def expL (kc : Nat) (rec_ : List S32 → Done → Option (List S32 × Done)) (subs : Int → List S32) : List S32 → List S32 → Done → Option (List S32 × Done)
  | [], out, D => some (out, D)
  | b :: l, out, D => (callF kc b).bind fun r => if r.2.2.1 = true then (if IN r.1 then (if IN r.2.1 then
      (match D r.1 with | some x => some (x, D) | none => (rec_ (subs r.1) D).map fun (p : List S32 × Done) => (p.1, updD p.2 r.1 p.1)).bind fun q =>
        if q.1.length = 0 then expL kc rec_ subs l out q.2 else if out.length + r.2.1.toNat * q.1.length ≤ 100000 then expL kc rec_ subs l (out ++ rep r.2.1 q.1) q.2 else none
      else none) else none) else if out.length < 100000 then expL kc rec_ subs l (out ++ [b]) D else none
def expF (kc : Nat) (subs : Int → List S32) : Nat → List S32 → Done → Option (List S32 × Done)
  | 0, _, _ => none
  | k + 1, l, D => expL kc (expF kc subs k) subs l [] D
abbrev VR (W : World) (ok : Nat → Prop) (A : Option Addr) (c : Nat) (l : List S32) : Prop := Kd.V k32 32 W 0 ok (.slice A l.length c) l
def SubMapV (w0 W : World) (g : Nat) (subs : Int → List S32) : Prop := ∃ F, MapFew Try.prog 2 .i64 W g F ∧ ∀ y, ∃ A c, (F y).getD (.slice none 0 0) = .slice A (subs y).length c ∧ VR w0 (fun k => k < w0.heap.size) A c (subs y)
def DoneMap (W : World) (g : Nat) (ok : Nat → Prop) (D : Done) : Prop := ∃ F, MapFew Try.prog 2 .i64 W g F ∧ ∀ y, (F y).isSome = (D y).isSome ∧ ∃ A c, (F y).getD (.slice none 0 0) = .slice A ((D y).getD []).length c ∧ VR W ok A c ((D y).getD [])
structure ExpD (w0 W : World) (gx g0 g1 g2 g3 g4 : Nat) (subs : Int → List S32) (ok : Nat → Prop) (D : Done) : Prop where
  below : Below w0.heap.size w0 W
  exp : ExpIs W gx g0 g1 g2 g3 g4
  sub : SubMapV w0 W g0 subs
  done : DoneMap W g4 ok D
  n04 : g0 ≠ g4
  ge4 : w0.heap.size ≤ g4
  lt4 : g4 < W.heap.size
  ok0 : ∀ k, k < w0.heap.size → ok k
  ok4 : ¬ ok g4
section
variable {w0 W W' : World} {gx g0 g1 g2 g3 g4 : Nat} {subs : Int → List S32} {ok ok' : Nat → Prop} {D : Done} {u v1 : Value}
theorem DoneMap.step {g : Nat} (h : DoneMap W g ok D) (hb : Below W.heap.size W W') : DoneMap W' g ok D := by
  obtain ⟨F, hm, hf⟩ := h
  refine ⟨F, hm.below hb, fun y => ?_⟩
  obtain ⟨h1, A, c, h2, h3⟩ := hf y
  exact ⟨h1, A, c, h2, Kd.V_below h3 hb⟩
theorem DoneMap.mono {g : Nat} (h : DoneMap W g ok D) (hok : ∀ k, ok k → k < W.heap.size → ok' k) : DoneMap W g ok' D := by
  obtain ⟨F, hm, hf⟩ := h
  refine ⟨F, hm, fun y => ?_⟩
  obtain ⟨h1, A, c, h2, h3⟩ := hf y
  exact ⟨h1, A, c, h2, Kd.V_mono (Kd.V_bound h3) (fun k hk => hok k hk.1 hk.2)⟩
theorem ExpD.step (h : ExpD w0 W gx g0 g1 g2 g3 g4 subs ok D) (hb : Below W.heap.size W W') : ExpD w0 W' gx g0 g1 g2 g3 g4 subs ok D :=
  { h with below := below_then h.below h.below.size hb, exp := blk_below h.exp hb, sub := by obtain ⟨F, hm, hf⟩ := h.sub; exact ⟨F, hm.below hb, hf⟩, done := h.done.step hb, lt4 := Nat.lt_of_lt_of_le h.lt4 hb.size }
theorem ExpD.mono (h : ExpD w0 W gx g0 g1 g2 g3 g4 subs ok D) (hok : ∀ k, ok k → k < W.heap.size → ok' k) (h0 : ∀ k, k < w0.heap.size → ok' k) (h4 : ¬ ok' g4) : ExpD w0 W gx g0 g1 g2 g3 g4 subs ok' D :=
  { h with done := h.done.mono hok, ok0 := h0, ok4 := h4 }
theorem ExpD.after (h : ExpD w0 W gx g0 g1 g2 g3 g4 subs (fun k => ok k ∧ some k ≠ u.ownBlock) D) (hb : Below w0.heap.size w0 W') (hg : W.grownBy W' u.ownBlock) (hat : v1.ownBlock = u.ownBlock ∨ ∃ b, v1.ownBlock = some b ∧ W.heap.size ≤ b)
    (hty : ∀ k, u.ownBlock = some k → ∃ cells, W.heap[k]? = some (.cells cells 32 (0, 0))) (hv : ∀ k, v1.ownBlock = some k → w0.heap.size ≤ k) : ExpD w0 W' gx g0 g1 g2 g3 g4 subs (fun k => ok k ∧ some k ≠ v1.ownBlock) D := by
  have hmap : ∀ {g : Nat} {F : Int → Option Value}, MapFew Try.prog 2 .i64 W g F → some g ≠ u.ownBlock := by
    intro g F hm e
    obtain ⟨cells, hc⟩ := hty g e.symm
    obtain ⟨n, hm, _⟩ := hm
    exact hm.ne hc rfl
  have hx : some gx ≠ u.ownBlock := by
    intro e
    obtain ⟨cells, hc⟩ := hty gx e.symm
    have := h.exp
    unfold ExpIs at this
    rw [hc] at this
    injection this with this
    injection this with _ h2 _
    exact absurd h2 (by decide)
  obtain ⟨F, hm, hf⟩ := h.sub
  obtain ⟨F4, hm4, hf4⟩ := h.done
  refine { h with below := hb, exp := (hg.block gx (blk_lt h.exp) hx).trans h.exp, sub := ⟨F, hm.kept hg (hmap hm), hf⟩, done := ⟨F4, hm4.kept hg (hmap hm4), fun y => ?_⟩, lt4 := Nat.lt_of_lt_of_le h.lt4 hg.size, ok0 := fun k hk => ⟨(h.ok0 k hk).1, fun e => ?_⟩, ok4 := fun hk => ?_ }
  · obtain ⟨h1, A, c, h2, h3⟩ := hf4 y
    exact ⟨h1, A, c, h2, Kd.V_after h3 hg hat⟩
  · have := hv k e.symm
    omega
  · refine h.ok4 ⟨hk.1, ?_⟩
    exact hmap hm4
theorem DoneMap.put {g : Nat} {F : Int → Option Value} {n : Int} {A : Option Addr} {c : Nat} {x : List S32} (hf : ∀ y, (F y).isSome = (D y).isSome ∧ ∃ A c, (F y).getD (.slice none 0 0) = .slice A ((D y).getD []).length c ∧ VR W ok A c ((D y).getD []))
    (hm : MapFew Try.prog 2 .i64 W' g (fun y => if y = n then some (.slice A x.length c) else F y)) (hx : VR W ok A c x) (hg : W.grownBy W' (some g)) (hok : ¬ ok g) : DoneMap W' g ok (updD D n x) := by
  have hk : ∀ k, ok k → some k ≠ some g := fun k hk e => by injection e with e; subst e; exact hok hk
  refine ⟨_, hm, fun y => ?_⟩
  unfold updD
  by_cases hy : y = n
  · simp only [hy, if_true]
    exact ⟨rfl, A, c, rfl, Kd.V_grown hx hg hk⟩
  · simp only [hy, if_false]
    obtain ⟨h1, A', c', h2, h3⟩ := hf y
    exact ⟨h1, A', c', h2, Kd.V_grown h3 hg hk⟩
theorem ExpD.put (h : ExpD w0 W gx g0 g1 g2 g3 g4 subs ok D) {D' : Done} (hg : W.grownBy W' (some g4)) (hd : DoneMap W' g4 ok D') : ExpD w0 W' gx g0 g1 g2 g3 g4 subs ok D' := by
  obtain ⟨F, hm, hf⟩ := h.sub
  obtain ⟨F4, ⟨n4, hm4, _⟩, _⟩ := h.done
  exact { h with below := below_row h.below hg h.ge4, exp := h.exp.kept hg (someNe (fun e => hm4.ne h.exp e.symm)), sub := ⟨F, hm.kept hg (someNe h.n04), hf⟩, done := hd, lt4 := Nat.lt_of_lt_of_le h.lt4 hg.size }
end
theorem keep_trans {w w1 w2 : World} {g : Nat} (h : KeepBut w w1 g none) (k : KeepBut w1 w2 g none) : KeepBut w w2 g none :=
  ⟨Nat.le_trans h.1 k.1, fun i hi hg hr => (k.2 i (Nat.lt_of_lt_of_le hi h.1) hg hr).trans (h.2 i hi hg hr)⟩
theorem keep_below {w w1 w2 : World} {g : Nat} (h : KeepBut w w1 g none) (k : Below w1.heap.size w1 w2) : KeepBut w w2 g none := keep_trans h (KeepBut.of_below k g none)
theorem keep_map {w w1 w2 : World} {g : Nat} (h : KeepBut w w1 g none) (k : w1.grownBy w2 (some g)) : KeepBut w w2 g none :=
  ⟨Nat.le_trans h.1 k.size, fun i hi hg hr => (k.block i (Nat.lt_of_lt_of_le hi h.1) (someNe hg)).trans (h.2 i hi hg hr)⟩
theorem keep_own {w w1 w2 : World} {g : Nat} {u : Value} (h : KeepBut w w1 g none) (k : w1.grownBy w2 u.ownBlock) (hu : ∀ b, u.ownBlock = some b → w.heap.size ≤ b) : KeepBut w w2 g none :=
  ⟨Nat.le_trans h.1 k.size, fun i hi hg hr => (k.block i (Nat.lt_of_lt_of_le hi h.1) (fun e => by have := hu i e.symm; omega)).trans (h.2 i hi hg hr)⟩
theorem fresh_after {w W : World} {u v1 : Value} (hle : w.heap.size ≤ W.heap.size) (hu : ∀ b, u.ownBlock = some b → w.heap.size ≤ b) (hat : v1.ownBlock = u.ownBlock ∨ ∃ b, v1.ownBlock = some b ∧ W.heap.size ≤ b) : ∀ b, v1.ownBlock = some b → w.heap.size ≤ b := by
  intro b hb
  rcases hat with h | ⟨c, h, hc⟩
  · exact hu b (h ▸ hb)
  · rw [h] at hb
    injection hb with hb
    omega
end Go.Proofs.Ytehkhbnhmehobaa.P
namespace Go.Proofs.Ytehkhbnhmehobaa.P
open Go.RowKit Go.Proofs.YtehkhbnhmehobaaW.PrintWords Go.Proofs.YtehkhbnhmehobaaW.PrintLast Go.Proofs.YtehkhbnhmehobaaW.PrintMore
set_option linter.unusedVariables false
set_option linter.unusedSimpArgs false
theorem infoRows : (Try.prog.info? 35).map (fun i => (i.zero, i.size, i.bytes)) = some (some (.slice none 0 0), 1, 24) := by kernel_rfl
theorem infoI64 : (Try.prog.info? 2).map (fun i => (i.zero, i.size, i.bytes)) = some (some (.int .i64 0), 1, 8) := by kernel_rfl
structure Pre (w W : World) (A0 : Option Addr) (n0 c0 : Nat) (A1 : Option Addr) (n1 c1 : Nat) (gp gx g0 g1 g2 g3 g4 : Nat) (M : Int → Option (List S32)) : Prop where
  below : Below w.heap.size w W
  bp : W.heap[gp]? = some (.cells #[.slice A0 n0 c0, .slice A1 n1 c1] 54 (0, 0))
  exp : ExpIs W gx g0 g1 g2 g3 g4
  sub : SubMapO w W g0 M
  m1 : MapFew Try.prog 2 .i64 W g1 (fun _ => none)
  m2 : MapFew Try.prog 2 .i64 W g2 (fun _ => none)
  m3 : MapFew Try.prog 2 .i64 W g3 (fun _ => none)
  m4 : MapFew Try.prog 2 .i64 W g4 (fun _ => none)
  ge0 : w.heap.size ≤ g0
  l01 : g0 < g1
  l12 : g1 < g2
  l23 : g2 < g3
  l34 : g3 < g4
section
variable {w W W' : World} {A0 : Option Addr} {n0 c0 : Nat} {A1 : Option Addr} {n1 c1 : Nat} {gp gx g0 g1 g2 g3 g4 : Nat} {M : Int → Option (List S32)}
theorem Pre.step (h : Pre w W A0 n0 c0 A1 n1 c1 gp gx g0 g1 g2 g3 g4 M) (hb : Below W.heap.size W W') : Pre w W' A0 n0 c0 A1 n1 c1 gp gx g0 g1 g2 g3 g4 M :=
  { h with below := below_then h.below h.below.size hb, bp := blk_below h.bp hb, exp := blk_below h.exp hb, sub := by obtain ⟨F, hm, hf⟩ := h.sub; exact ⟨F, hm.below hb, hf⟩, m1 := h.m1.below hb, m2 := h.m2.below hb, m3 := h.m3.below hb, m4 := h.m4.below hb }
theorem Pre.put (h : Pre w W A0 n0 c0 A1 n1 c1 gp gx g0 g1 g2 g3 g4 M) {M' : Int → Option (List S32)} (hg : W.grownBy W' (some g0)) (hs : SubMapO w W' g0 M') : Pre w W' A0 n0 c0 A1 n1 c1 gp gx g0 g1 g2 g3 g4 M' := by
  have hmap : ∀ {g : Nat} {cs : Array Value} {t : TypeId}, W.heap[g]? = some (.cells cs t (0, 0)) → some g ≠ some g0 := by
    intro g cs t hc e
    injection e with e
    obtain ⟨F, ⟨n, hm, _⟩, _⟩ := h.sub
    exact hm.ne hc e.symm
  have l01 := h.l01
  have l12 := h.l12
  have l23 := h.l23
  have l34 := h.l34
  exact { h with below := below_row h.below hg h.ge0, bp := (hg.block gp (blk_lt h.bp) (hmap h.bp)).trans h.bp, exp := h.exp.kept hg (hmap h.exp), sub := hs, m1 := h.m1.kept hg (someNe (by omega)), m2 := h.m2.kept hg (someNe (by omega)), m3 := h.m3.kept hg (someNe (by omega)), m4 := h.m4.kept hg (someNe (by omega)) }
theorem Pre.own (h : Pre w W A0 n0 c0 A1 n1 c1 gp gx g0 g1 g2 g3 g4 M) {e : Nat} {u : Value} (he1 : e ≠ 54) (he2 : e ≠ 139) (hb : Below w.heap.size w W') (hg : W.grownBy W' u.ownBlock) (hty : ∀ k, u.ownBlock = some k → ∃ cells, W.heap[k]? = some (.cells cells e (0, 0))) : Pre w W' A0 n0 c0 A1 n1 c1 gp gx g0 g1 g2 g3 g4 M := by
  have hmap : ∀ {g : Nat} {F : Int → Option Value}, MapFew Try.prog 2 .i64 W g F → some g ≠ u.ownBlock := by
    intro g F hm e
    obtain ⟨cells, hc⟩ := hty g e.symm
    obtain ⟨n, hm, _⟩ := hm
    exact hm.ne hc rfl
  have hblk : ∀ {g t : Nat} {cs : Array Value}, W.heap[g]? = some (.cells cs t (0, 0)) → e ≠ t → some g ≠ u.ownBlock := by
    intro g t cs hc hne e
    obtain ⟨cells, hc2⟩ := hty g e.symm
    rw [hc] at hc2
    injection hc2 with hc2
    injection hc2 with _ h2 _
    exact hne h2.symm
  obtain ⟨F, hm, hf⟩ := h.sub
  exact { h with below := hb, bp := (hg.block gp (blk_lt h.bp) (hblk h.bp he1)).trans h.bp, exp := (hg.block gx (blk_lt h.exp) (hblk h.exp he2)).trans h.exp, sub := ⟨F, hm.kept hg (hmap hm), hf⟩, m1 := h.m1.kept hg (hmap h.m1), m2 := h.m2.kept hg (hmap h.m2), m3 := h.m3.kept hg (hmap h.m3), m4 := h.m4.kept hg (hmap h.m4) }
theorem Pre.expW (h : Pre w W A0 n0 c0 A1 n1 c1 gp gx g0 g1 g2 g3 g4 M) : ExpW w W gx g0 g1 g2 g3 g4 (fun y => (M y).getD []) (fun _ => 0, fun _ => 0, fun _ => 0) := by
  have l01 := h.l01
  have l12 := h.l12
  have l23 := h.l23
  have l34 := h.l34
  have ge0 := h.ge0
  exact { below := h.below, exp := h.exp, sub := h.sub.sub, m1 := ⟨_, h.m1, fun _ => rfl⟩, m2 := ⟨_, h.m2, fun _ => rfl⟩, m3 := ⟨_, h.m3, fun _ => rfl⟩, m4 := h.m4, ge1 := by omega, ge2 := by omega, ge3 := by omega, ge4 := by omega, n01 := by omega, n02 := by omega, n03 := by omega, n04 := by omega, n12 := by omega, n13 := by omega, n14 := by omega, n23 := by omega, n24 := by omega, n34 := by omega }
end
theorem subO_put {w W' : World} {g : Nat} {M : Int → Option (List S32)} {F : Int → Option Value} {n : Int} {A : Option Addr} {c : Nat} {x : List S32} (hf : ∀ y, (F y).isSome = (M y).isSome ∧ ∃ A c, (F y).getD (.slice none 0 0) = .slice A ((M y).getD []).length c ∧ ((M y).getD []).length ≤ c ∧ Kd.C k32 w A ((M y).getD []).length ((M y).getD []))
    (hm : MapFew Try.prog 2 .i64 W' g (fun y => if y = n then some (.slice A x.length c) else F y)) (hl : x.length ≤ c) (hC : Kd.C k32 w A x.length x) : SubMapO w W' g (fun y => if y = n then some x else M y) := by
  refine ⟨_, hm, fun y => ?_⟩
  by_cases hy : y = n
  · simp only [hy, if_true]
    exact ⟨rfl, A, c, rfl, hl, hC⟩
  · simp only [hy, if_false]
    exact hf y
theorem subsO_snoc (x : S81) : ∀ (l : List S81) (M : Int → Option (List S32)), subsO (l ++ [x]) M = fun y => if y = x.f0 then some x.f1 else subsO l M y
  | [], M => rfl
  | z :: l, M => by
    show subsO (l ++ [x]) _ = _
    rw [subsO_snoc x l]
    rfl
theorem found_step {k : Nat} {l : List S32} {j : Nat} (h : j < l.length) {acc : List Int} {r : List Int × Int} (hr : foundL k (l.drop j) acc = some r) :
    ∃ n t is e, callF k l[j] = some (n, t, is, e) ∧ (e = 0 → is = true → (IN n ∧ acc.length < 1000000) ∧ foundL k (l.drop (j + 1)) (acc ++ [n]) = some r) ∧ (e = 0 → is = false → foundL k (l.drop (j + 1)) acc = some r) ∧ (e ≠ 0 → r = (acc, e)) := by
  rw [List.drop_eq_getElem_cons h, foundL] at hr
  obtain ⟨⟨n, t, is, e⟩, h1, h2⟩ := Option.bind_eq_some_iff.mp hr
  refine ⟨n, t, is, e, h1, fun he hi => ?_, fun he hi => ?_, fun he => ?_⟩
  · subst he; subst hi
    simp only [if_true] at h2
    by_cases hb : IN n ∧ acc.length < 1000000
    · rw [if_pos hb] at h2; exact ⟨hb, h2⟩
    · rw [if_neg hb] at h2; cases h2
  · subst he; subst hi
    simpa using h2
  · simp only [if_neg he] at h2
    exact (Option.some.inj h2).symm
theorem measAll_step {subs : Int → List S32} {k : Nat} {l : List S81} {j : Nat} (h : j < l.length) {S : St3} {r : Bool × St3} (hr : measAll subs k (l.drop j) S = some r) :
    IN l[j].f0 ∧ ∃ b S2, measF subs k k l[j].f0 S = some (b, S2) ∧ (b = true → measAll subs k (l.drop (j + 1)) S2 = some r) ∧ (b = false → r = (false, S2)) := by
  rw [List.drop_eq_getElem_cons h, measAll] at hr
  by_cases hn : IN l[j].f0
  · rw [if_pos hn] at hr
    obtain ⟨⟨b, S2⟩, h1, h2⟩ := Option.bind_eq_some_iff.mp hr
    refine ⟨hn, b, S2, h1, fun hb => ?_, fun hb => ?_⟩
    · subst hb; simpa using h2
    · subst hb; simpa using h2.symm
  · rw [if_neg hn] at hr; cases hr
def NewPost (w : World) (er : Int) (M : Int → Option (List S32)) (S : St3) (e : Ending) (w' : World) : Prop := ∃ pp : Option Addr, e = .returned (.tuple #[.pointer pp, .int .i64 er]) ∧ Below w.heap.size w w' ∧ (er = 0 → ∃ gx g0 g1 g2 g3 g4, pp = some ⟨gx, 0, none⟩ ∧ ExpW w w' gx g0 g1 g2 g3 g4 (fun y => (M y).getD []) S)
theorem NewPost.of {w w' : World} {er : Int} {M : Int → Option (List S32)} {S : St3} (pp : Option Addr) (h1 : Below w.heap.size w w') (h2 : er = 0 → ∃ gx g0 g1 g2 g3 g4, pp = some ⟨gx, 0, none⟩ ∧ ExpW w w' gx g0 g1 g2 g3 g4 (fun y => (M y).getD []) S) : NewPost w er M S (.returned (.tuple #[.pointer pp, .int .i64 er])) w' := ⟨pp, rfl, h1, h2⟩
set_option maxHeartbeats 16000000 in
set_option maxRecDepth 100000 in
theorem newExpander_calls (k : Nat) (A0 : Option Addr) (c0 : Nat) (l0 : List S32) (A1 : Option Addr) (c1 : Nat) (l1 : List S81) (er : Int) (M : Int → Option (List S32)) (S : St3) (w : World) (hr0 : Kd.C k32 w A0 l0.length l0) (hc0 : l0.length ≤ c0) (hr1 : Kd.C k81 w A1 l1.length l1) (hc1 : l1.length ≤ c1) (h : newF k l0 l1 = some (er, M, S)) :
    Calls Try.prog 94 #[.agg #[.slice A0 l0.length c0, .slice A1 l1.length c1]] w (NewPost w er M S) := by
  have hu54 := Try.underlying54
  have hu32 := Try.underlying32
  have hu81 := Try.underlying81
  have hu139 := Try.underlying139
  unfold newF at h
  obtain ⟨pb, hp, h2⟩ := Option.bind_eq_some_iff.mp h
  have HR0 := Aside0.mk hr0
  have HC0 := Aside0.mk hc0
  have HR1 := Aside0.mk hr1
  have HC1 := Aside0.mk hc1
  have HM1 := Aside0.mk (Kd.C_max hr1)
  have HPP := Aside0.mk hp
  have H := Aside0.mk h2
  clear hr0 hc0 hr1 hc1 hp h h2
  have HB0 := Aside0.mk (Below.refl w.heap.size w)
  cases pb with
  | false =>
    have H2 := H.out
    simp only [Bool.false_eq_true, if_false, Option.some.injEq, Prod.mk.injEq] at H2
    obtain ⟨rfl, rfl, rfl⟩ := H2
    go_enter Try.func94, Try.ntmps94
    go_wp2_with (first | ((with_reducible refine gate_dst (N := 1) rfl ?_); refine box_event ?hg (N := 1) ?hd (cs := #[.slice A0 l0.length c0, .slice A1 l1.length c1]) (t := 54) ?hr ?_; (case hd => rfl); (case hg => rfl); (case hr => first | (go_simp; done) | (go_simp; rfl)); intro gp hgp w1 hbox hb; have GP := Aside0.mk hgp; have BP1 := Aside0.mk hbox; have HB1 := Aside0.mk hb; clear hgp hbox hb; have hz0_1 : w1.cell? ⟨gp, 0, none⟩ = some (.slice A0 l0.length c0) := (blk_cell BP1.out 0).trans rfl; have hz1_1 : w1.cell? ⟨gp, 1, none⟩ = some (.slice A1 l1.length c1) := (blk_cell BP1.out 1).trans rfl) | (go_at_call 110; (with_reducible refine (subprogram_proper.calls k _ _ l0 _ _ l1 false _ (Kd.C_below HR0.out HB1.out) HC0.out (Kd.C_below HR1.out HB1.out) HC1.out HPP.out).mono ?_); rintro e2 w2 ⟨rfl, hb2⟩; have HB2 := Aside0.mk (below_then HB1.out HB1.out.size hb2); have BP2 := Aside0.mk (blk_below BP1.out hb2); clear hb2 hz0_1 hz1_1 BP1))
    refine bodyPost_ret (results_list (rs := [.tmp 2, .tmp 3]) rfl (by simp) (.tmp (.tmp .nil))) rfl ?_
    exact NewPost.of none HB2.out (fun h => absurd h (by decide))
  | true =>
    have H2 := H.out
    simp only [if_true] at H2
    by_cases hall : (l1.all (fun x => decide (IN x.f0)) && decide (l1.length < 1000000)) = true
    rotate_left
    · rw [if_neg hall] at H2; cases H2
    rw [if_pos hall] at H2
    rw [Bool.and_eq_true] at hall
    have HALL := Aside0.mk (show ∀ x ∈ l1, IN x.f0 from fun x hx => of_decide_eq_true (List.all_eq_true.mp hall.1 x hx))
    have HLL := Aside0.mk (of_decide_eq_true hall.2)
    obtain ⟨al, hal, H2b⟩ := Option.bind_eq_some_iff.mp H2
    obtain ⟨⟨found, fe⟩, hfo, H2c⟩ := Option.bind_eq_some_iff.mp H2b
    have HAL := Aside0.mk hal
    have HFO := Aside0.mk hfo
    have H3 := Aside0.mk H2c
    clear hall hal hfo H2 H2b H2c H
    go_enter Try.func94, Try.ntmps94
    go_wp2_with (first | ((with_reducible refine gate_dst (N := 1) rfl ?_); refine box_event ?hg (N := 1) ?hd (cs := #[.slice A0 l0.length c0, .slice A1 l1.length c1]) (t := 54) ?hr ?_; (case hd => rfl); (case hg => rfl); (case hr => first | (go_simp; done) | (go_simp; rfl)); intro gp hgp w1 hbox hb; have GP := Aside0.mk hgp; have BP1 := Aside0.mk hbox; have HB1 := Aside0.mk hb; clear hgp hbox hb; have hz0_1 : w1.cell? ⟨gp, 0, none⟩ = some (.slice A0 l0.length c0) := (blk_cell BP1.out 0).trans rfl; have hz1_1 : w1.cell? ⟨gp, 1, none⟩ = some (.slice A1 l1.length c1) := (blk_cell BP1.out 1).trans rfl) | (go_at_call 110; (with_reducible refine (subprogram_proper.calls k _ _ l0 _ _ l1 true _ (Kd.C_below HR0.out HB1.out) HC0.out (Kd.C_below HR1.out HB1.out) HC1.out HPP.out).mono ?_); rintro e2 w2 ⟨rfl, hb2⟩; have HB2 := Aside0.mk (below_then HB1.out HB1.out.size hb2); have BP2 := Aside0.mk (blk_below BP1.out hb2); clear hb2 hz0_1 hz1_1 BP1) | ((with_reducible refine gate_dst (N := 24) rfl ?_); refine map_make 24 rfl rfl .i64 2 rfl ?_; intro g0 w3 hgm hm hb; have G0 := Aside0.mk (show w.heap.size ≤ g0 from by rw [hgm]; exact HB2.out.size); have HM0_3 := Aside0.mk (show MapFew Try.prog 2 .i64 w3 g0 (fun _ => none) from ⟨0, hm, Nat.zero_le _⟩); have HB3 := Aside0.mk (below_then HB2.out HB2.out.size hb); have BP3 := Aside0.mk (blk_below BP2.out hb); clear hgm hm hb) | ((with_reducible refine gate_dst (N := 25) rfl ?_); refine map_make 25 rfl rfl .i64 2 rfl ?_; intro g1 w4 hgm hm hb; have HM0_4 := Aside0.mk (HM0_3.out.below hb); have L1 := Aside0.mk (show g0 < g1 from by rw [hgm]; exact HM0_3.out.lt); have HM1_4 := Aside0.mk (show MapFew Try.prog 2 .i64 w4 g1 (fun _ => none) from ⟨0, hm, Nat.zero_le _⟩); have HB4 := Aside0.mk (below_then HB3.out HB3.out.size hb); have BP4 := Aside0.mk (blk_below BP3.out hb); clear hgm hm hb) | ((with_reducible refine gate_dst (N := 26) rfl ?_); refine map_make 26 rfl rfl .i64 2 rfl ?_; intro g2 w5 hgm hm hb; have HM0_5 := Aside0.mk (HM0_4.out.below hb); have HM1_5 := Aside0.mk (HM1_4.out.below hb); have L2 := Aside0.mk (show g1 < g2 from by rw [hgm]; exact HM1_4.out.lt); have HM2_5 := Aside0.mk (show MapFew Try.prog 2 .i64 w5 g2 (fun _ => none) from ⟨0, hm, Nat.zero_le _⟩); have HB5 := Aside0.mk (below_then HB4.out HB4.out.size hb); have BP5 := Aside0.mk (blk_below BP4.out hb); clear hgm hm hb) | ((with_reducible refine gate_dst (N := 27) rfl ?_); refine map_make 27 rfl rfl .i64 2 rfl ?_; intro g3 w6 hgm hm hb; have HM0_6 := Aside0.mk (HM0_5.out.below hb); have HM1_6 := Aside0.mk (HM1_5.out.below hb); have HM2_6 := Aside0.mk (HM2_5.out.below hb); have L3 := Aside0.mk (show g2 < g3 from by rw [hgm]; exact HM2_5.out.lt); have HM3_6 := Aside0.mk (show MapFew Try.prog 2 .i64 w6 g3 (fun _ => none) from ⟨0, hm, Nat.zero_le _⟩); have HB6 := Aside0.mk (below_then HB5.out HB5.out.size hb); have BP6 := Aside0.mk (blk_below BP5.out hb); clear hgm hm hb) | ((with_reducible refine gate_dst (N := 28) rfl ?_); refine map_make 28 rfl rfl .i64 2 rfl ?_; intro g4 w7 hgm hm hb; have HM0_7 := Aside0.mk (HM0_6.out.below hb); have HM1_7 := Aside0.mk (HM1_6.out.below hb); have HM2_7 := Aside0.mk (HM2_6.out.below hb); have HM3_7 := Aside0.mk (HM3_6.out.below hb); have L4 := Aside0.mk (show g3 < g4 from by rw [hgm]; exact HM3_6.out.lt); have HM4_7 := Aside0.mk (show MapFew Try.prog 2 .i64 w7 g4 (fun _ => none) from ⟨0, hm, Nat.zero_le _⟩); have HB7 := Aside0.mk (below_then HB6.out HB6.out.size hb); have BP7 := Aside0.mk (blk_below BP6.out hb); clear hgm hm hb) | ((with_reducible refine gate_dst (N := 30) rfl ?_); refine box_event ?hg (N := 30) ?hd (cs := #[.map (some g0), .map (some g1), .map (some g2), .map (some g3), .map (some g4)]) (t := 139) ?hr ?_; (case hd => rfl); (case hg => rfl); (case hr => first | (go_simp; done) | (go_simp; rfl)); intro gx hgx w8 hbox hb; have PRE := Aside0.mk (show Pre w w8 A0 l0.length c0 A1 l1.length c1 gp gx g0 g1 g2 g3 g4 (fun _ => none) from { below := below_then HB7.out HB7.out.size hb, bp := blk_below BP7.out hb, exp := hbox, sub := ⟨_, HM0_7.out.below hb, fun y => ⟨rfl, none, 0, rfl, Nat.le_refl _, rfl, by simp, fun hlt => by simp at hlt⟩⟩, m1 := HM1_7.out.below hb, m2 := HM2_7.out.below hb, m3 := HM3_7.out.below hb, m4 := HM4_7.out.below hb, ge0 := G0.out, l01 := L1.out, l12 := L2.out, l23 := L3.out, l34 := L4.out }); clear hgx hbox hb; have hz0_8 : w8.cell? ⟨gp, 0, none⟩ = some (.slice A0 l0.length c0) := (blk_cell PRE.out.bp 0).trans rfl) | ((with_reducible refine gate_dst (N := 33) rfl ?_); refine Kd.N_lit (Kd.slice 32 k32) (w0 := w) w.heap.size 35 ?hg (N' := 33) ?hd (xs := [l0]) (inner := [.slice A0 l0.length c0]) (ok := fun k => k ≠ g0) (okp := fun k => k < w.heap.size) ?hr ?hp ?hk ?hf PRE.out.below PRE.out.below.size (by simp) ?_; (case hd => rfl); (case hg => rfl); (case hr => first | (go_simp; done) | (go_simp; rfl)); (case hp => exact ⟨rfl, fun j q hj => by rcases j with _ | j; (simp only [List.getElem?_cons_zero, Option.some.injEq] at hj; subst hj; exact Kd.FK_slice_mk HC0.out (Kd.F_below (Kd.C_F k32_heap HR0.out) PRE.out.below)); (simp at hj)⟩); (case hk => intro k_ hk_ e_; have := PRE.out.ge0; omega); (case hf => intro e_; have h_ := (PRE.out.sub); obtain ⟨F_, hm_, _⟩ := h_; have := hm_.lt; omega); intro v9 w9 ho hb hg hat; have HA9 := Aside0.mk ho; have PRE9 := Aside0.mk (PRE.out.step ⟨hg.os, hg.tape, hg.output, hg.size, fun i_ hi_ => hg.block i_ hi_ (by simp)⟩); clear ho hb hg hat; have hz1_9 : w9.cell? ⟨gp, 1, none⟩ = some (.slice A1 l1.length c1) := (blk_cell PRE9.out.bp 1).trans rfl))
    clear BP2 HB2 HB3 HB4 HB5 HB6 HB7 BP3 BP4 BP5 BP6 BP7 HM0_3 HM0_4 HM0_5 HM0_6 HM0_7 HM1_4 HM1_5 HM1_6 HM1_7 HM2_5 HM2_6 HM2_7 HM3_6 HM3_7 HM4_7 hz0_8 hz1_9 PRE L1 L2 L3 L4 G0
    go_loopw [37, 5] (fun i v w' => ∃ (j : Nat), i = .int .i64 j ∧ Aside0 (j ≤ l1.length) ∧ Aside0 (Pre w w' A0 l0.length c0 A1 l1.length c1 gp gx g0 g1 g2 g3 g4 (subsO (l1.take j) (fun _ => none))) ∧ Aside0 (Kd.N (Kd.slice 32 k32) 35 w' w.heap.size (fun k => k ≠ g0) v (l0 :: (l1.take j).map (fun x => x.f1)))) (fun i _ _ => l1.length - (intOf i).toNat)
    case atStart => exact ⟨0, rfl, ⟨Nat.zero_le _⟩, ⟨PRE9.out⟩, ⟨by simpa using HA9.out⟩⟩
    case round =>
      obtain ⟨j, rfl, HJ, PRE, HA⟩ := hrel
      clear PRE9 HA9
      by_cases hlt : j < l1.length
      · obtain ⟨ad, A2, c2, e, hx0, hx1, hl2, hk2⟩ := at_T81 (Kd.C_below HR1.out PRE.out.below) (j : Int) (by omega) (by omega)
        cases e
        have hrd : rd_T81 l1 (j : Int) = l1[j] := by simp [rd_T81, hlt]
        rw [hrd] at hx0 hx1 hl2 hk2
        have HIN := Aside0.mk (HALL.out l1[j] (List.getElem_mem hlt))
        have TK := Aside0.mk (List.take_succ_eq_append_getElem hlt)
        obtain ⟨ad_, A2_, c2_, e_, hx0_, hx1_, hl2_, hk2_⟩ := at_T81 HR1.out (j : Int) (by omega) (by omega)
        cases e_
        rw [hrd] at hx0_ hx1_ hl2_ hk2_
        have ee := Option.some.inj (hx1_.symm.trans ((PRE.out.below.cell (yL hx1_)).symm.trans hx1))
        injection ee with ea_ en_ ec_
        rw [ea_] at hk2_
        have HL2 := Aside0.mk hl2
        have HK2 := Aside0.mk hk2_
        clear hrd hl2 hk2 hx0_ hx1_ hl2_ hk2_ en_ ea_ ec_
        generalize l1[j] = x at *
        simp only [Int.toNat_natCast] at hx0 hx1
        have hlt' : decide ((j : Int) < (l1.length : Int)) = true := by simp; omega
        go_wp2
        have BK := Aside0.mk (alloc_at wr (.cells #[.int .i64 x.f0, .slice A2 x.f1.length c2] 81 (0, 0)))
        have PREa := Aside0.mk (PRE.out.step (below_alloc (Below.refl _ _) (.cells #[.int .i64 x.f0, .slice A2 x.f1.length c2] 81 (0, 0))))
        have HAa := Aside0.mk (Kd.N_below HA.out (below_alloc (Below.refl _ _) (.cells #[.int .i64 x.f0, .slice A2 x.f1.length c2] 81 (0, 0))))
        generalize hwr : wr.heap.size = gt at *
        generalize wr.alloc (.cells #[.int .i64 x.f0, .slice A2 x.f1.length c2] 81 (0, 0)) = w10 at *
        have BKd := Aside0.mk (show w10.drew.heap[gt]? = _ from BK.out)
        have PREd := Aside0.mk (PREa.out.step (below_drew (Below.refl _ _)))
        have HAd := Aside0.mk (Kd.N_drew HAa.out)
        clear BK PREa HAa hwr hx0 hx1 HA PRE
        have hd0 : w10.drew.cell? ⟨gx, 0, none⟩ = some (.map (some g0)) := (blk_cell PREd.out.exp 0).trans rfl
        have hd1 : w10.drew.cell? ⟨gt, 0, none⟩ = some (.int .i64 x.f0) := (blk_cell BKd.out 0).trans rfl
        have hd2 : w10.drew.cell? ⟨gt, 1, none⟩ = some (.slice A2 x.f1.length c2) := (blk_cell BKd.out 1).trans rfl
        obtain ⟨Fs, fws, fhs⟩ := PREd.out.sub
        have FWs := Aside0.mk fws
        have FHs := Aside0.mk fhs
        clear fws fhs
        refine wp_region_still_tail 8 (by kernel_rfl) (by kernel_rfl) ?_
        change wpStill _ _ w10.drew (fun a' => wpList _ _ _ _ a' w10.drew) _ _
        generalize w10.drew = w11 at *
        simp only [List.take_succ_cons, List.take_zero, List.drop_succ_cons, List.drop_zero]
        repeat still_step
        refine wpStill_nil ?_
        go_wp2_with (first | (refine few_put rfl rfl Try.underlying2 Try.underlying135 FWs.out rfl x.f0 rfl HIN.out.wf (by have := HIN.out; unfold IN at this; omega) (by have := HIN.out; unfold IN at this; omega) (.slice A2 x.f1.length c2) (by rfl) ?_; intro w12 hm hg; have PRE12 := Aside0.mk (PREd.out.put hg (subO_put FHs.out hm HL2.out HK2.out)); have BK12 := Aside0.mk ((hg.block gt (blk_lt BKd.out) (fun e_ => by injection e_ with e_; obtain ⟨F_, ⟨n_, hm_, _⟩, _⟩ := PREd.out.sub; exact hm_.ne BKd.out e_.symm)).trans BKd.out); have HA12 := Aside0.mk (Kd.N_grown HAd.out hg (fun k_ hk_ => someNe hk_)); clear hm hg; have hzt : w12.cell? ⟨gt, 1, none⟩ = some (.slice A2 x.f1.length c2) := (blk_cell BK12.out 1).trans rfl) | ((with_reducible refine gate_builtin (b := .append) (xs := #[.tmp 49, .tmp 52]) rfl ?_); (try (refine gate_guard (by rfl) ?_; dsimp only)); at_builtin; refine Kd.N_append (Kd.slice 32 k32) (w0 := w) w.heap.size rfl (.tmp 49) (.tmp 52) 104 35 (.slice none 0 0) 24 rfl Try.underlying104 infoRows rfl (by decide) (by omega) u5 (l0 :: (l1.take j).map (fun x => x.f1)) x.f1 [.slice A2 x.f1.length c2] (fun k => k ≠ g0) (fun k => k ≠ g0 ∧ some k ≠ u5.ownBlock) rfl rfl ?aP (fun _ hk => hk) ?aF ?aO ?aB ?aS ?aL ?_; (case aP => exact Kd.FK_slice_mk HL2.out (Kd.F_mono (Kd.F_below (Kd.C_F k32_heap HK2.out) PRE12.out.below) (fun k_ hk_ => ⟨by have := PRE12.out.ge0; omega, fun e_ => by have := Kd.N_base HA12.out k_ e_.symm; omega⟩))); (case aF => intro k_ hk_ e_; obtain ⟨F_, hm_, _⟩ := PRE12.out.sub; have := hm_.lt; omega); (case aO => exact HA12.out); (case aB => exact PRE12.out.below); (case aS => exact PRE12.out.below.size); (case aL => have := HLL.out; simp only [List.length_cons, List.length_map, List.length_take]; have := HJ.out; omega); intro v13 w13 ho hb hg hat; have HA13 := Aside0.mk ho; have PRE13 := Aside0.mk (PRE12.out.own (by decide) (by decide) hb hg (Kd.N_typed HA12.out)); clear ho hb hg hat))
        go_roundw
        case rel => exact ⟨j + 1, by rw [wrap_succ hlt HM1.out], ⟨by omega⟩, ⟨by rw [TK.out, subsO_snoc]; exact PRE13.out⟩, ⟨by rw [TK.out]; simpa using HA13.out⟩⟩
        case measure => rw [wrap_succ hlt HM1.out]; simp only [intOf, Int.toNat_natCast]; omega
      · have hlt' : decide ((j : Int) < (l1.length : Int)) = false := by simp; omega
        have PREx := Aside0.mk (show Pre w wr A0 l0.length c0 A1 l1.length c1 gp gx g0 g1 g2 g3 g4 (subsO l1 (fun _ => none)) from by have h_ := PRE.out; rw [List.take_of_length_le (by omega)] at h_; exact h_)
        obtain ⟨LL, hLL⟩ : ∃ LL : List (List S32), LL = l0 :: l1.map (fun x => x.f1) := ⟨_, rfl⟩
        have HAx := Aside0.mk (show Kd.N (Kd.slice 32 k32) 35 wr w.heap.size (fun k => k ≠ g0) u5 LL from by have h_ := HA.out; rw [List.take_of_length_le (by omega)] at h_; rw [hLL]; exact h_)
        have HAL2 := Aside0.mk (show Concat_Block.f k LL = some al from by rw [hLL]; exact HAL.out)
        clear PRE HA HJ hLL HAL
        obtain ⟨Av, cv, ev⟩ := Kd.N_slice HAx.out
        subst ev
        go_wp2_with (go_at_call 31; (with_reducible refine (Concat_Block.calls k (fun k => k ≠ g0) Av cv LL al _ (Kd.N_V HAx.out) HAL2.out).mono ?_); rintro e14 w14 ⟨v14, rfl, hn, hb⟩; obtain ⟨A3, c3, rfl⟩ := Kd.N_slice hn; have PRE14 := Aside0.mk (PREx.out.step hb); have HV14 := Aside0.mk (show Kd.V k32 32 w14 0 (fun _ => True) (.slice A3 al.length c3) al from Kd.V_mono (Kd.N_V hn) (fun _ _ => trivial)); clear hn hb)
        have HMA := Aside0.mk (Kd.C_max (Kd.V_reads' HV14.out).2.2)
        clear HAx PREx
        go_loopw [58, 8] (fun i v w' => ∃ (j : Nat) (acc : List Int), i = .int .i64 j ∧ Aside0 (j ≤ al.length) ∧ Aside0 (foundL k (al.drop j) acc = some (found, fe)) ∧ Aside0 (∀ y ∈ acc, IN y) ∧ Aside0 (Pre w w' A0 l0.length c0 A1 l1.length c1 gp gx g0 g1 g2 g3 g4 (subsO l1 (fun _ => none))) ∧ Aside0 (Kd.N (Kd.int .i64) 2 w' w.heap.size (fun _ => True) v acc) ∧ Aside0 (Kd.V k32 32 w' 0 (fun k => True ∧ some k ≠ (v : Value).ownBlock) (.slice A3 al.length c3) al)) (fun i _ _ => al.length - (intOf i).toNat)
        case atStart => exact ⟨0, [], rfl, ⟨Nat.zero_le _⟩, ⟨HFO.out⟩, ⟨fun y hy => by simp at hy⟩, ⟨PRE14.out⟩, ⟨Kd.N_nil _ _ _ _ _⟩, ⟨Kd.V_mono HV14.out (fun _ _ => ⟨trivial, by simp [Value.ownBlock]⟩)⟩⟩
        case round =>
          obtain ⟨j, acc, rfl, HJ, HI, HALN, PRE, HF, HV⟩ := hrel
          clear PRE14 HV14 HFO
          by_cases hlt : j < al.length
          · obtain ⟨ad, A4, c4, e, hx0, hx1, hx2, hl4, hk4⟩ := at_T32 (Kd.V_reads' HV.out).2.2 (j : Int) (by omega) (by omega)
            cases e
            have hrd : rd_T32 al (j : Int) = al[j] := by simp [rd_T32, hlt]
            rw [hrd] at hx0 hx1 hx2 hl4 hk4
            obtain ⟨n, t, is, e, hcl, hyes, hno, herr⟩ := found_step hlt HI.out
            have HCL := Aside0.mk (show subprogram_Call.f k al[j].f0 al[j].f1 al[j].f2 = some (n, t, is, e) from hcl)
            have HYES := Aside0.mk hyes
            have HNO := Aside0.mk hno
            have HERR := Aside0.mk herr
            have HL4 := Aside0.mk hl4
            have HK4 := Aside0.mk hk4
            clear hrd hcl hyes hno herr hl4 hk4
            generalize al[j] = x at *
            simp only [Int.toNat_natCast] at hx0 hx1 hx2
            have hlt' : decide ((j : Int) < (al.length : Int)) = true := by simp; omega
            by_cases he : e = 0
            · subst he
              cases is with
              | true =>
                obtain ⟨⟨hinn, hacc⟩, hnext⟩ := HYES.out rfl rfl
                have HINN := Aside0.mk hinn
                have HACC := Aside0.mk hacc
                have HNX := Aside0.mk hnext
                clear hacc hinn hnext HYES HNO HERR
                go_wp2_with (first | (go_at_call 25; (with_reducible refine (subprogram_Call.calls k x.f0 A4 c4 x.f1 x.f2 n t true 0 _ (Kd.C_alloc HK4.out _) HL4.out HCL.out).mono ?_); rintro e15 w15 ⟨rfl, hb⟩; have HB15 := Aside0.mk (below_then (below_alloc (Below.refl _ _) _) (below_alloc (Below.refl _ _) _).size hb); clear hb; have PRE15 := Aside0.mk (PRE.out.step HB15.out); have HF15 := Aside0.mk (Kd.N_below HF.out HB15.out); have HV15 := Aside0.mk (Kd.V_below HV.out HB15.out)) | ((with_reducible refine gate_builtin (b := .append) (xs := #[.tmp 73, .tmp 75]) rfl ?_); (try (refine gate_guard (by rfl) ?_; dsimp only)); at_builtin; refine Kd.N_append (Kd.int .i64) (w0 := w) w.heap.size rfl (.tmp 73) (.tmp 75) 91 2 (.int .i64 0) 8 rfl Try.underlying91 infoI64 rfl (by decide) (by omega) u8 acc n [.int .i64 n] (fun _ => True) (fun k => True ∧ some k ≠ u8.ownBlock) rfl rfl (fun _ _ => rfl) (fun _ hk => hk) (fun _ _ => trivial) HF15.out PRE15.out.below PRE15.out.below.size (by have := HACC.out; omega) ?_; intro v16 w16 ho hb hg hat; have HF16 := Aside0.mk ho; have PRE16 := Aside0.mk (PRE15.out.own (by decide) (by decide) hb hg (Kd.N_typed HF15.out)); have HV16 := Aside0.mk (Kd.V_after HV15.out hg hat); clear ho hb hg hat))
                go_roundw
                case rel => exact ⟨j + 1, acc ++ [n], by rw [wrap_succ hlt HMA.out], ⟨by omega⟩, ⟨HNX.out⟩, ⟨fun y hy => by rcases List.mem_append.mp hy with hy | hy; exact HALN.out y hy; simp at hy; subst hy; exact HINN.out⟩, ⟨PRE16.out⟩, ⟨HF16.out⟩, ⟨HV16.out⟩⟩
                case measure => rw [wrap_succ hlt HMA.out]; simp only [intOf, Int.toNat_natCast]; omega
              | false =>
                have HNX := Aside0.mk (HNO.out rfl rfl)
                clear HYES HNO HERR
                go_wp2_with (go_at_call 25; (with_reducible refine (subprogram_Call.calls k x.f0 A4 c4 x.f1 x.f2 n t false 0 _ (Kd.C_alloc HK4.out _) HL4.out HCL.out).mono ?_); rintro e15 w15 ⟨rfl, hb⟩; have HB15 := Aside0.mk (below_then (below_alloc (Below.refl _ _) _) (below_alloc (Below.refl _ _) _).size hb); clear hb; have PRE15 := Aside0.mk (PRE.out.step HB15.out); have HF15 := Aside0.mk (Kd.N_below HF.out HB15.out); have HV15 := Aside0.mk (Kd.V_below HV.out HB15.out))
                go_roundw
                case rel => exact ⟨j + 1, acc, by rw [wrap_succ hlt HMA.out], ⟨by omega⟩, ⟨HNX.out⟩, ⟨HALN.out⟩, ⟨PRE15.out⟩, ⟨HF15.out⟩, ⟨HV15.out⟩⟩
                case measure => rw [wrap_succ hlt HMA.out]; simp only [intOf, Int.toNat_natCast]; omega
            · have hr_ := HERR.out he
              injection hr_ with hr1_ hr2_
              subst hr2_
              have hne : (fe == 0) = false := beq_eq_false_iff_ne.mpr he
              have hne2 : (fe != 0) = true := bne_iff_ne.mpr he
              have H4 := H3.out
              simp only [if_neg he, Option.some.injEq, Prod.mk.injEq] at H4
              obtain ⟨rfl, rfl, rfl⟩ := H4
              clear HYES HNO HERR hr1_
              have HE0 := Aside0.mk he
              clear he
              go_wp2_with (go_at_call 25; (with_reducible refine (subprogram_Call.calls k x.f0 A4 c4 x.f1 x.f2 n t is fe _ (Kd.C_alloc HK4.out _) HL4.out HCL.out).mono ?_); rintro e15 w15 ⟨rfl, hb⟩; have HB15 := Aside0.mk (below_then (below_alloc (Below.refl _ _) _) (below_alloc (Below.refl _ _) _).size hb); clear hb; have PRE15 := Aside0.mk (PRE.out.step HB15.out); have HF15 := Aside0.mk (Kd.N_below HF.out HB15.out); have HV15 := Aside0.mk (Kd.V_below HV.out HB15.out))
              refine bodyPost_ret (results_list (rs := [.tmp 2, .tmp 3]) rfl (by simp) (.tmp (.tmp .nil))) rfl ?_
              exact NewPost.of none PRE15.out.below (fun h => absurd h HE0.out)
          · have hlt' : decide ((j : Int) < (al.length : Int)) = false := by simp; omega
            have hI := HI.out
            rw [List.drop_eq_nil_of_le (by omega)] at hI
            simp only [foundL, Option.some.injEq, Prod.mk.injEq] at hI
            obtain ⟨rfl, rfl⟩ := hI
            have H4r := H3.out
            simp only [if_true] at H4r
            have H4 := Aside0.mk H4r
            clear H4r
            have PREf := Aside0.mk PRE.out
            have HFf := Aside0.mk HF.out
            clear HI HV H3 HMA HJ PRE HF
            obtain ⟨Af, cf, ef⟩ := Kd.N_slice HFf.out
            subst ef
            have HCF := Aside0.mk (Kd.N_reads' HFf.out).2.2
            have HMF := Aside0.mk (Kd.C_max HCF.out)
            go_wp2
            obtain ⟨bh, hbh⟩ : ∃ b, b = haveL (subsO l1 (fun _ => none)) acc := ⟨_, rfl⟩
            have HBH := Aside0.mk hbh
            clear hbh
            have hq0 : wr.cell? ⟨gx, 0, none⟩ = some (.map (some g0)) := (blk_cell PREf.out.exp 0).trans rfl
            have hq1 : wr.cell? ⟨gp, 1, none⟩ = some (.slice A1 l1.length c1) := (blk_cell PREf.out.bp 1).trans rfl
            obtain ⟨F0, ⟨n0_, m0, _⟩, f0⟩ := PREf.out.sub
            have M0 := Aside0.mk m0
            have F0H := Aside0.mk f0
            clear m0 f0
            go_loop [80] (fun i => ∃ (j : Nat), i = .int .i64 j ∧ Aside0 (j ≤ acc.length) ∧ Aside0 (haveL (subsO l1 (fun _ => none)) (acc.drop j) = bh)) (fun i => acc.length - (intOf i).toNat)
            case atStart => exact ⟨0, rfl, ⟨Nat.zero_le _⟩, ⟨HBH.out.symm⟩⟩
            case round =>
              obtain ⟨j2, rfl, HJ2, HI2⟩ := hrel
              by_cases hlt2 : j2 < acc.length
              · obtain ⟨adf, e, hxf⟩ := Kd.at_int HCF.out (j2 : Int) (by omega) (by omega)
                cases e
                have hrdf : rd acc (j2 : Int) = acc[j2] := by simp [rd, hlt2]
                rw [hrdf] at hxf
                have hI2 := HI2.out
                rw [List.drop_eq_getElem_cons hlt2] at hI2
                simp only [haveL, List.all_cons] at hI2
                clear hrdf
                have WFN := Aside0.mk (HALN.out acc[j2] (List.getElem_mem hlt2)).wf
                generalize acc[j2] = nn at *
                simp only [Int.toNat_natCast] at hxf
                have hlt2' : decide ((j2 : Int) < (acc.length : Int)) = true := by simp; omega
                cases hok : ((subsO l1 (fun _ => none)) nn).isSome with
                | true =>
                  have HOK := Aside0.mk ((F0H.out nn).1.trans hok)
                  rw [hok, Bool.true_and] at hI2
                  have HNX := Aside0.mk hI2
                  clear hI2 hok
                  go_wp2_with ((with_reducible refine gate_dst (N := 90) rfl ?_); refine map_lookOk 90 rfl rfl rfl Try.underlying2 Try.underlying135 zero_rows M0.out rfl nn rfl WFN.out _ _ rfl HOK.out ?_)
                  go_round
                  case rel => exact ⟨j2 + 1, by rw [wrap_succ hlt2 HMF.out], ⟨by omega⟩, ⟨HNX.out⟩⟩
                  case measure => rw [wrap_succ hlt2 HMF.out]; simp only [intOf, Int.toNat_natCast]; omega
                | false =>
                  have HOK := Aside0.mk ((F0H.out nn).1.trans hok)
                  rw [hok, Bool.false_and] at hI2
                  subst hI2
                  have H5 := H4.out
                  rw [if_neg (by rw [← HBH.out]; decide)] at H5
                  simp only [Option.some.injEq, Prod.mk.injEq] at H5
                  obtain ⟨rfl, rfl, rfl⟩ := H5
                  clear hok
                  go_wp2_with ((with_reducible refine gate_dst (N := 90) rfl ?_); refine map_lookOk 90 rfl rfl rfl Try.underlying2 Try.underlying135 zero_rows M0.out rfl nn rfl WFN.out _ _ rfl HOK.out ?_)
                  refine bodyPost_ret (results_list (rs := [.tmp 2, .tmp 3]) rfl (by simp) (.tmp (.tmp .nil))) rfl ?_
                  exact NewPost.of none PREf.out.below (fun h => absurd h (by decide))
              · have hlt2' : decide ((j2 : Int) < (acc.length : Int)) = false := by simp; omega
                have hI2 := HI2.out
                rw [List.drop_eq_nil_of_le (by omega)] at hI2
                simp only [haveL, List.all_nil] at hI2
                subst hI2
                have H5r := H4.out
                rw [if_pos HBH.out.symm] at H5r
                obtain ⟨⟨mb, mS⟩, hms, H5s⟩ := Option.bind_eq_some_iff.mp H5r
                have HMS := Aside0.mk hms
                have H5 := Aside0.mk H5s
                have EW := Aside0.mk PREf.out.expW
                clear hms H4 HI2 HBH H5r H5s
                go_wp2
                clear PREf M0 F0H HFf HCF HMF hq0 hq1 HJ2 hlt2
                go_loopw [99] (fun i w' => ∃ (j : Nat) (S2 : St3), i = .int .i64 j ∧ Aside0 (j ≤ l1.length) ∧ Aside0 (measAll (fun y => ((subsO l1 (fun _ => none)) y).getD []) k (l1.drop j) S2 = some (mb, mS)) ∧ Aside0 (ExpW w w' gx g0 g1 g2 g3 g4 (fun y => ((subsO l1 (fun _ => none)) y).getD []) S2)) (fun i _ => l1.length - (intOf i).toNat)
                case atStart => exact ⟨0, _, rfl, ⟨Nat.zero_le _⟩, ⟨HMS.out⟩, ⟨EW.out⟩⟩
                case round =>
                  obtain ⟨j3, S2, rfl, HJ3, HI3, HE3⟩ := hrel
                  clear HMS EW
                  by_cases hlt3 : j3 < l1.length
                  · obtain ⟨ad3, A5, c5, e, hx0, hx1, hl5, hk5⟩ := at_T81 (Kd.C_below HR1.out HE3.out.below) (j3 : Int) (by omega) (by omega)
                    cases e
                    have hrd : rd_T81 l1 (j3 : Int) = l1[j3] := by simp [rd_T81, hlt3]
                    rw [hrd] at hx0 hx1 hl5 hk5
                    obtain ⟨hin, b3, S3, hm3, hy3, hn3⟩ := measAll_step hlt3 HI3.out
                    have HIN := Aside0.mk hin
                    have HM3 := Aside0.mk hm3
                    have HY3 := Aside0.mk hy3
                    have HN3 := Aside0.mk hn3
                    clear hrd hin hm3 hy3 hn3 hl5 hk5
                    generalize l1[j3] = x at *
                    simp only [Int.toNat_natCast] at hx0 hx1
                    have hlt3' : decide ((j3 : Int) < (l1.length : Int)) = true := by simp; omega
                    cases b3 with
                    | true =>
                      have HNX := Aside0.mk (HY3.out rfl)
                      go_wp2_with (go_at_call 111; (with_reducible refine (measure_calls k w gx g0 g1 g2 g3 g4 (fun y => ((subsO l1 (fun _ => none)) y).getD []) k x.f0 S2 S3 true _ HIN.out (HE3.out.step (below_alloc (Below.refl _ _) _)) HM3.out).mono ?_); rintro e17 w17 ⟨rfl, he4⟩; have HE4 := Aside0.mk he4; clear he4)
                      go_roundw
                      case rel => exact ⟨j3 + 1, S3, by rw [wrap_succ hlt3 HM1.out], ⟨by omega⟩, ⟨HNX.out⟩, ⟨HE4.out⟩⟩
                      case measure => rw [wrap_succ hlt3 HM1.out]; simp only [intOf, Int.toNat_natCast]; omega
                    | false =>
                      have hq := HN3.out rfl
                      injection hq with hq1_ hq2_
                      subst hq1_
                      have H6 := H5.out
                      simp only [Bool.false_eq_true, if_false, Option.some.injEq, Prod.mk.injEq] at H6
                      obtain ⟨rfl, rfl, rfl⟩ := H6
                      clear hq2_
                      go_wp2_with (go_at_call 111; (with_reducible refine (measure_calls k w gx g0 g1 g2 g3 g4 (fun y => ((subsO l1 (fun _ => none)) y).getD []) k x.f0 S2 S3 false _ HIN.out (HE3.out.step (below_alloc (Below.refl _ _) _)) HM3.out).mono ?_); rintro e17 w17 ⟨rfl, he4⟩; have HE4 := Aside0.mk he4; clear he4)
                      refine bodyPost_ret (results_list (rs := [.tmp 2, .tmp 3]) rfl (by simp) (.tmp (.tmp .nil))) rfl ?_
                      exact NewPost.of none HE4.out.below (fun h => absurd h (by decide))
                  · have hlt3' : decide ((j3 : Int) < (l1.length : Int)) = false := by simp; omega
                    have hI3 := HI3.out
                    rw [List.drop_eq_nil_of_le (by omega)] at hI3
                    simp only [measAll, Option.some.injEq, Prod.mk.injEq] at hI3
                    obtain ⟨rfl, rfl⟩ := hI3
                    have H6 := H5.out
                    simp only [if_true, Option.some.injEq, Prod.mk.injEq] at H6
                    obtain ⟨rfl, rfl, rfl⟩ := H6
                    go_wp2
                    refine bodyPost_ret (results_list (rs := [.tmp 2, .tmp 3]) rfl (by simp) (.tmp (.tmp .nil))) rfl ?_
                    exact NewPost.of (some ⟨gx, 0, none⟩) HE3.out.below (fun _ => ⟨gx, g0, g1, g2, g3, g4, rfl, HE3.out⟩)
end Go.Proofs.Ytehkhbnhmehobaa.P
namespace Go.Proofs.Ytehkhbnhmehobaa.P
open Go.RowKit Go.Proofs.YtehkhbnhmehobaaW.PrintWords Go.Proofs.YtehkhbnhmehobaaW.PrintLast Go.Proofs.YtehkhbnhmehobaaW.PrintMore
set_option linter.unusedVariables false
set_option linter.unusedSimpArgs false
theorem exp_step {kc : Nat} {rec_ : List S32 → Done → Option (List S32 × Done)} {subs : Int → List S32} {l : List S32} {j : Nat} (h : j < l.length) {out : List S32} {D : Done} {r : List S32 × Done} (hr : expL kc rec_ subs (l.drop j) out D = some r) :
    ∃ n t is e, callF kc l[j] = some (n, t, is, e) ∧ (is = false → out.length < 100000 ∧ expL kc rec_ subs (l.drop (j + 1)) (out ++ [l[j]]) D = some r) ∧
      (is = true → IN n ∧ IN t ∧ ∃ x D2, (D n = some x ∧ D2 = D ∨ D n = none ∧ ∃ D1, rec_ (subs n) D = some (x, D1) ∧ D2 = updD D1 n x) ∧ (x.length = 0 → expL kc rec_ subs (l.drop (j + 1)) out D2 = some r) ∧ (x.length ≠ 0 → out.length + t.toNat * x.length ≤ 100000 ∧ expL kc rec_ subs (l.drop (j + 1)) (out ++ rep t x) D2 = some r)) := by
  rw [List.drop_eq_getElem_cons h, expL] at hr
  obtain ⟨⟨n, t, is, e⟩, h1, h2⟩ := Option.bind_eq_some_iff.mp hr
  refine ⟨n, t, is, e, h1, fun hi => ?_, fun hi => ?_⟩
  · subst hi
    simp only [Bool.false_eq_true, if_false] at h2
    by_cases hb : out.length < 100000
    · rw [if_pos hb] at h2; exact ⟨hb, h2⟩
    · rw [if_neg hb] at h2; cases h2
  · subst hi
    simp only [if_true] at h2
    by_cases hn : IN n
    · rw [if_pos hn] at h2
      by_cases ht : IN t
      · rw [if_pos ht] at h2
        obtain ⟨⟨x, D2⟩, h3, h4⟩ := Option.bind_eq_some_iff.mp h2
        refine ⟨hn, ht, x, D2, ?_, fun hz => ?_, fun hz => ?_⟩
        · cases hd : D n with
          | some y =>
            rw [hd] at h3
            simp only [Option.some.injEq, Prod.mk.injEq] at h3
            exact Or.inl ⟨by rw [h3.1], h3.2.symm⟩
          | none =>
            rw [hd] at h3
            obtain ⟨⟨y, D1⟩, h5, h6⟩ := Option.map_eq_some_iff.mp h3
            simp only [Prod.mk.injEq] at h6
            obtain ⟨rfl, rfl⟩ := h6
            exact Or.inr ⟨rfl, D1, h5, rfl⟩
        · simpa [hz] using h4
        · simp only [if_neg hz] at h4
          by_cases hb : out.length + t.toNat * x.length ≤ 100000
          · rw [if_pos hb] at h4; exact ⟨hb, h4⟩
          · rw [if_neg hb] at h4; cases h4
      · rw [if_neg ht] at h2; cases h2
    · rw [if_neg hn] at h2; cases h2
theorem rep_succ (m : Nat) (x out : List S32) : out ++ (List.replicate m x).flatten ++ x = out ++ (List.replicate (m + 1) x).flatten := by
  rw [List.replicate_succ', List.flatten_append]
  simp
theorem rep_len (m : Nat) (x : List S32) : ((List.replicate m x).flatten).length = m * x.length := by simp
set_option maxHeartbeats 8000000 in
set_option maxRecDepth 100000 in
theorem expanded_calls (kc : Nat) (w0 : World) (gx g0 g1 g2 g3 g4 : Nat) (subs : Int → List S32) : ∀ (kf : Nat) (l : List S32) (A0 : Option Addr) (c0 : Nat) (ok : Nat → Prop) (D D' : Done) (r : List S32) (W : World), ExpD w0 W gx g0 g1 g2 g3 g4 subs ok D → VR w0 (fun k => k < w0.heap.size) A0 c0 l → expF kc subs kf l D = some (r, D') →
    Calls Try.prog 64 #[.pointer (some ⟨gx, 0, none⟩), .slice A0 l.length c0] W fun e W' => ∃ v : Value, e = .returned v ∧ Kd.N k32 32 W' w0.heap.size (fun k => ok k ∨ W.heap.size ≤ k) v r ∧ (∀ k, v.ownBlock = some k → W.heap.size ≤ k) ∧ ExpD w0 W' gx g0 g1 g2 g3 g4 subs (fun k => ok k ∨ W.heap.size ≤ k) D' ∧ KeepBut W W' g4 none := by
  intro kf
  induction kf with
  | zero => intro l A0 c0 ok D D' r W hE hl h; simp [expF] at h
  | succ kf ih =>
    intro l A0 c0 ok D D' r W hE hl h
    have IH := Aside0.mk ih
    clear ih
    rw [expF] at h
    have hu139 := Try.underlying139
    have hu32 := Try.underlying32
    have HL := Aside0.mk hl
    have HM := Aside0.mk (Kd.C_max (Kd.V_reads' hl).2.2)
    have H := Aside0.mk h
    have OK0 := Aside0.mk hE.ok0
    have OK4 := Aside0.mk hE.ok4
    have LT4 := Aside0.mk hE.lt4
    have SZ0 := Aside0.mk hE.below.size
    obtain ⟨okB, hokB⟩ : ∃ okB : Nat → Prop, okB = fun k => ok k ∨ W.heap.size ≤ k := ⟨_, rfl⟩
    have OKB := Aside0.mk hokB
    have okB0 : Aside0 (∀ k, k < w0.heap.size → okB k) := ⟨fun k hk => by rw [hokB]; exact Or.inl (hE.ok0 k hk)⟩
    have okB1 : Aside0 (∀ k, W.heap.size ≤ k → okB k) := ⟨fun k hk => by rw [hokB]; exact Or.inr hk⟩
    have okB4 : Aside0 (∀ k, okB k → k ≠ g4) := ⟨fun k hk e => by rw [hokB] at hk; subst e; rcases hk with hk | hk; exact hE.ok4 hk; have := hE.lt4; omega⟩
    have HE := Aside0.mk (show ExpD w0 W gx g0 g1 g2 g3 g4 subs (fun k => okB k ∧ some k ≠ (Value.slice none 0 0).ownBlock) D from hE.mono (fun k hk _ => ⟨by rw [hokB]; exact Or.inl hk, by simp [Value.ownBlock]⟩) (fun k hk => ⟨by rw [hokB]; exact Or.inl (hE.ok0 k hk), by simp [Value.ownBlock]⟩) (fun hk => okB4.out g4 hk.1 rfl))
    clear hE hl h hokB
    go_enter Try.func64, Try.ntmps64
    go_wp2
    go_loopw [16, 5] (fun i v w' => ∃ (j : Nat) (out : List S32) (D2 : Done), i = .int .i64 j ∧ Aside0 (j ≤ l.length) ∧ Aside0 (expL kc (expF kc subs kf) subs (l.drop j) out D2 = some (r, D')) ∧ Aside0 (Kd.N k32 32 w' w0.heap.size okB v out) ∧ Aside0 (∀ k, (v : Value).ownBlock = some k → W.heap.size ≤ k) ∧ Aside0 (ExpD w0 w' gx g0 g1 g2 g3 g4 subs (fun k => okB k ∧ some k ≠ (v : Value).ownBlock) D2) ∧ Aside0 (KeepBut W w' g4 none)) (fun i _ _ => l.length - (intOf i).toNat)
    case atStart => exact ⟨0, [], D, rfl, ⟨Nat.zero_le _⟩, ⟨H.out⟩, ⟨Kd.N_nil _ _ _ _ _⟩, ⟨fun k hk => by simp [Value.ownBlock] at hk⟩, ⟨HE.out⟩, ⟨KeepBut.refl _ _ _⟩⟩
    case round =>
      obtain ⟨j, out, D2, rfl, HJ, HI, HN, FR, HE2, HK⟩ := hrel
      clear H HE
      by_cases hlt : j < l.length
      · have HV := Aside0.mk (Kd.V_below HL.out HE2.out.below)
        obtain ⟨ad, A1, c1, e, hx0, hx1, hx2, hl1, hk1⟩ := at_T32 (Kd.V_reads' HV.out).2.2 (j : Int) (by omega) (by omega)
        cases e
        obtain ⟨ce, hce, hMe, hcc⟩ := Kd.V_get HV.out z32 (j : Int) (by omega) (by omega)
        have hrd : rd_T32 l (j : Int) = l[j] := by simp [rd_T32, hlt]
        rw [show l.getD (j : Int).toNat z32 = rd_T32 l (j : Int) from rfl] at hMe
        obtain ⟨ua, uc, rfl, ul, ge⟩ := k32_openF hMe
        have hv1 := hcc 1 _ rfl
        rw [add_field _ _ 1 (by omega)] at hv1
        replace hv1 := Option.some.inj (hv1.symm.trans hx1)
        injection hv1 with hva_ hvn_ hvc_
        rw [hva_] at ge
        clear hva_ hvn_ hvc_ hcc hce hMe ul
        rw [hrd] at hx0 hx1 hx2 hl1 hk1 ge
        obtain ⟨n, t, is, e, hcl, hno, hyes⟩ := exp_step hlt HI.out
        have HCL := Aside0.mk (show subprogram_Call.f kc l[j].f0 l[j].f1 l[j].f2 = some (n, t, is, e) from hcl)
        have HYES := Aside0.mk hyes
        have HNO := Aside0.mk hno
        have HL1 := Aside0.mk hl1
        have HK1 := Aside0.mk hk1
        have GE := Aside0.mk ge
        clear hrd hcl hyes hno hl1 hk1 ge HV
        generalize l[j] = x at *
        simp only [Int.toNat_natCast] at hx0 hx1 hx2
        have hlt' : decide ((j : Int) < (l.length : Int)) = true := by simp; omega
        cases is with
        | false =>
          obtain ⟨hlen, hnext⟩ := HNO.out rfl
          have HLen := Aside0.mk hlen
          have HNX := Aside0.mk hnext
          clear hlen hnext HYES HNO
          go_wp2_with (first | (go_at_call 25; (with_reducible refine (subprogram_Call.calls kc x.f0 A1 c1 x.f1 x.f2 n t false e _ (Kd.C_alloc HK1.out _) HL1.out HCL.out).mono ?_); rintro e2 w2 ⟨rfl, hb2⟩; have HB20 := Aside0.mk (below_then (below_alloc (Below.refl _ _) _) (below_alloc (Below.refl _ _) _).size hb2); have BK := Aside0.mk (blk_below (alloc_at _ _) hb2); clear hb2; have HE3 := Aside0.mk (HE2.out.step HB20.out); have HN3 := Aside0.mk (Kd.N_below HN.out HB20.out); have HK3 := Aside0.mk (keep_below HK.out HB20.out); have hz0 : w2.cell? ⟨wr.heap.size, 0, none⟩ = some (.bool x.f0) := (blk_cell BK.out 0).trans rfl; have hz1 : w2.cell? ⟨wr.heap.size, 1, none⟩ = some (.slice A1 x.f1.length c1) := (blk_cell BK.out 1).trans rfl; have hz2 : w2.cell? ⟨wr.heap.size, 2, none⟩ = some (.string x.f2) := (blk_cell BK.out 2).trans rfl) | ((with_reducible refine gate_builtin (b := .append) (xs := #[.tmp 29, .tmp 31]) rfl ?_); (try (refine gate_guard (by rfl) ?_; dsimp only)); at_builtin; refine Kd.N_append k32 (w0 := w0) w0.heap.size rfl (.tmp 29) (.tmp 31) 35 32 (.agg #[(.bool false), (.slice none 0 0), (.string ⟨#[]⟩)]) 48 rfl Try.underlying35 info32 rfl (by decide) (by omega) u5 out x [.bool x.f0, .slice A1 x.f1.length c1, .string x.f2] okB (fun k => okB k ∧ some k ≠ u5.ownBlock) rfl rfl ?aP (fun _ hk => hk) ?aF ?aO ?aB ?aS ?aL ?_; (case aP => exact k32_mkF _ _ x HL1.out (Kd.F_mono (Kd.F_below GE.out HB20.out) (fun k hk => ⟨okB0.out k hk, fun e => by have := Kd.N_base HN.out k e.symm; omega⟩))); (case aF => exact fun k hk => okB1.out k (Nat.le_trans HK3.out.1 hk)); (case aO => exact HN3.out); (case aB => exact HE3.out.below); (case aS => exact HE3.out.below.size); (case aL => have := HLen.out; omega); intro v3 w3 ho hb hg hat; have HN4 := Aside0.mk ho; have HE4 := Aside0.mk (ExpD.after HE3.out hb hg hat (Kd.N_typed HN3.out) (Kd.N_base ho)); have HK4 := Aside0.mk (keep_own HK3.out hg FR.out); have FR4 := Aside0.mk (fresh_after HK3.out.1 FR.out hat); clear ho hb hg hat))
          go_roundw
          case rel => exact ⟨j + 1, out ++ [x], D2, by rw [wrap_succ hlt HM.out], ⟨by omega⟩, ⟨HNX.out⟩, ⟨HN4.out⟩, ⟨FR4.out⟩, ⟨HE4.out⟩, ⟨HK4.out⟩⟩
          case measure => rw [wrap_succ hlt HM.out]; simp only [intOf, Int.toNat_natCast]; omega
        | true =>
          obtain ⟨hin, hit, xx, D3, hcase, hzero, hpos⟩ := HYES.out rfl
          have HIN := Aside0.mk hin
          have HZ := Aside0.mk hzero
          have HP := Aside0.mk hpos
          obtain ⟨tn, rfl⟩ : ∃ tn : Nat, t = (tn : Int) := ⟨t.toNat, by unfold IN at hit; omega⟩
          have HIT := Aside0.mk hit
          clear hin hit hzero hpos HYES HNO
          rcases hcase with ⟨hd, rfl⟩ | ⟨hd, D1, hrec, rfl⟩
          · have HD := Aside0.mk hd
            clear hd
            by_cases hz : xx.length = 0
            · have tz : ((xx.length : Int) == 0) = true := beq_iff_eq.mpr (by omega)
              have HNX := Aside0.mk (HZ.out hz)
              clear HZ HP hz
              go_wp2_with (first | (go_at_call 25; (with_reducible refine (subprogram_Call.calls kc x.f0 A1 c1 x.f1 x.f2 n tn true e _ (Kd.C_alloc HK1.out _) HL1.out HCL.out).mono ?_); rintro e2 w2 ⟨rfl, hb2⟩; have HB20 := Aside0.mk (below_then (below_alloc (Below.refl _ _) _) (below_alloc (Below.refl _ _) _).size hb2); have BK := Aside0.mk (blk_below (alloc_at _ _) hb2); clear hb2; have HE3 := Aside0.mk (HE2.out.step HB20.out); have HN3 := Aside0.mk (Kd.N_below HN.out HB20.out); have HK3 := Aside0.mk (keep_below HK.out HB20.out); have hz0 : w2.cell? ⟨wr.heap.size, 0, none⟩ = some (.bool x.f0) := (blk_cell BK.out 0).trans rfl; have hz1 : w2.cell? ⟨wr.heap.size, 1, none⟩ = some (.slice A1 x.f1.length c1) := (blk_cell BK.out 1).trans rfl; have hz2 : w2.cell? ⟨wr.heap.size, 2, none⟩ = some (.string x.f2) := (blk_cell BK.out 2).trans rfl; have hq4 : w2.cell? ⟨gx, 4, none⟩ = some (.map (some g4)) := (blk_cell HE3.out.exp 4).trans rfl; have hq0 : w2.cell? ⟨gx, 0, none⟩ = some (.map (some g0)) := (blk_cell HE3.out.exp 0).trans rfl; obtain ⟨F4, fw4, f4⟩ := HE3.out.done; have FW4 := Aside0.mk fw4; obtain ⟨n4_, m4, _⟩ := fw4; have M4 := Aside0.mk m4; have F4H := Aside0.mk f4; obtain ⟨h4a, A4, c4, h4b, h4c⟩ := f4 n; have H4A := Aside0.mk h4a; have H4B := Aside0.mk h4b; have H4C := Aside0.mk h4c; clear m4 f4 h4a h4b h4c) | ((with_reducible refine gate_dst (N := 39) rfl ?_); refine map_lookOk 39 rfl rfl rfl Try.underlying2 Try.underlying135 zero_rows M4.out rfl n rfl HIN.out.wf (.slice A4 xx.length c4) true (by have h_ := H4B.out; rw [HD.out] at h_; exact h_) (by have h_ := H4A.out; rw [HD.out] at h_; exact h_) ?_; have HX := Aside0.mk (show VR w2 (fun k => okB k ∧ some k ≠ u5.ownBlock) A4 c4 xx from by have h_ := H4C.out; rw [HD.out] at h_; exact h_)))
              go_roundw
              case rel => exact ⟨j + 1, out, D3, by rw [wrap_succ hlt HM.out], ⟨by omega⟩, ⟨HNX.out⟩, ⟨HN3.out⟩, ⟨FR.out⟩, ⟨HE3.out⟩, ⟨HK3.out⟩⟩
              case measure => rw [wrap_succ hlt HM.out]; simp only [intOf, Int.toNat_natCast]; omega
            · have tz : ((xx.length : Int) == 0) = false := beq_eq_false_iff_ne.mpr (by omega)
              obtain ⟨hlen, hnext⟩ := HP.out hz
              have HLen := Aside0.mk hlen
              have HNX := Aside0.mk hnext
              clear HZ HP hlen hnext hz
              go_wp2_with (first | (go_at_call 25; (with_reducible refine (subprogram_Call.calls kc x.f0 A1 c1 x.f1 x.f2 n tn true e _ (Kd.C_alloc HK1.out _) HL1.out HCL.out).mono ?_); rintro e2 w2 ⟨rfl, hb2⟩; have HB20 := Aside0.mk (below_then (below_alloc (Below.refl _ _) _) (below_alloc (Below.refl _ _) _).size hb2); have BK := Aside0.mk (blk_below (alloc_at _ _) hb2); clear hb2; have HE3 := Aside0.mk (HE2.out.step HB20.out); have HN3 := Aside0.mk (Kd.N_below HN.out HB20.out); have HK3 := Aside0.mk (keep_below HK.out HB20.out); have hz0 : w2.cell? ⟨wr.heap.size, 0, none⟩ = some (.bool x.f0) := (blk_cell BK.out 0).trans rfl; have hz1 : w2.cell? ⟨wr.heap.size, 1, none⟩ = some (.slice A1 x.f1.length c1) := (blk_cell BK.out 1).trans rfl; have hz2 : w2.cell? ⟨wr.heap.size, 2, none⟩ = some (.string x.f2) := (blk_cell BK.out 2).trans rfl; have hq4 : w2.cell? ⟨gx, 4, none⟩ = some (.map (some g4)) := (blk_cell HE3.out.exp 4).trans rfl; have hq0 : w2.cell? ⟨gx, 0, none⟩ = some (.map (some g0)) := (blk_cell HE3.out.exp 0).trans rfl; obtain ⟨F4, fw4, f4⟩ := HE3.out.done; have FW4 := Aside0.mk fw4; obtain ⟨n4_, m4, _⟩ := fw4; have M4 := Aside0.mk m4; have F4H := Aside0.mk f4; obtain ⟨h4a, A4, c4, h4b, h4c⟩ := f4 n; have H4A := Aside0.mk h4a; have H4B := Aside0.mk h4b; have H4C := Aside0.mk h4c; clear m4 f4 h4a h4b h4c) | ((with_reducible refine gate_dst (N := 39) rfl ?_); refine map_lookOk 39 rfl rfl rfl Try.underlying2 Try.underlying135 zero_rows M4.out rfl n rfl HIN.out.wf (.slice A4 xx.length c4) true (by have h_ := H4B.out; rw [HD.out] at h_; exact h_) (by have h_ := H4A.out; rw [HD.out] at h_; exact h_) ?_; have HX := Aside0.mk (show VR w2 (fun k => okB k ∧ some k ≠ u5.ownBlock) A4 c4 xx from by have h_ := H4C.out; rw [HD.out] at h_; exact h_)))
              go_loopw [62, 5] (fun i v5 w' => ∃ (m : Nat), i = .int .i64 m ∧ Aside0 (m ≤ tn) ∧ Aside0 (Kd.N k32 32 w' w0.heap.size okB v5 (out ++ (List.replicate m xx).flatten)) ∧ Aside0 (∀ k, (v5 : Value).ownBlock = some k → W.heap.size ≤ k) ∧ Aside0 (ExpD w0 w' gx g0 g1 g2 g3 g4 subs (fun k => okB k ∧ some k ≠ (v5 : Value).ownBlock) (D3)) ∧ Aside0 (VR w' (fun k => okB k ∧ some k ≠ (v5 : Value).ownBlock) A4 c4 xx) ∧ Aside0 (KeepBut W w' g4 none)) (fun i _ _ => tn - (intOf i).toNat)
              case atStart => exact ⟨0, rfl, ⟨Nat.zero_le _⟩, ⟨by simpa using HN3.out⟩, ⟨FR.out⟩, ⟨HE3.out⟩, ⟨HX.out⟩, ⟨HK3.out⟩⟩
              case round =>
                obtain ⟨m, rfl, HMJ, HN5, FR5, HE5, HV5, HK5⟩ := hrel
                clear HN3 HE3 HK3 HX hz0 hz1 hz2 hq4 hq0 FW4 M4 F4H H4A H4B H4C BK HB20 HN HE2 HK HI
                have HIT2 := HIT.out
                unfold IN at HIT2
                have w1_ : wrap64 ((m : Int) + 1) = ((m + 1 : Nat) : Int) := by have := HMJ.out; unfold wrap64; omega
                clear HIT2
                by_cases hm : m < tn
                · have hm' : decide ((m : Int) < (tn : Int)) = true := by simp; omega
                  have HLM := Aside0.mk (show (out ++ (List.replicate m xx).flatten).length + xx.length ≤ 100000 from by have := HLen.out; simp only [Int.toNat_natCast] at this; have h2 : (m + 1) * xx.length ≤ tn * xx.length := Nat.mul_le_mul_right _ hm; rw [Nat.succ_mul] at h2; rw [List.length_append, rep_len]; omega)
                  have W1 := Aside0.mk w1_
                  clear w1_
                  go_wp2_with ((with_reducible refine gate_builtin (b := .append) (xs := #[.tmp 64, .tmp 65]) rfl ?_); (try (refine gate_guard (by rfl) ?_; dsimp only)); at_builtin; refine Kd.N_append_rows k32 (w0 := w0) w0.heap.size rfl (.tmp 64) (.tmp 65) 35 32 (.agg #[(.bool false), (.slice none 0 0), (.string ⟨#[]⟩)]) 48 rfl Try.underlying35 info32 rfl (by decide) (by omega) u5 (out ++ (List.replicate m xx).flatten) xx _ _ _ okB (fun k => okB k ∧ some k ≠ u5.ownBlock) rfl rfl ?aO ?aR (fun _ hk => hk) ?aF ?aB ?aS ?aL ?_; (case aR => exact Kd.V_F HV5.out); (case aF => exact fun k hk => okB1.out k (Nat.le_trans HK5.out.1 hk)); (case aO => exact HN5.out); (case aB => exact HE5.out.below); (case aS => exact HE5.out.below.size); (case aL => have := HLM.out; omega); intro v6 w6 ho hb hg hat; have HN6 := Aside0.mk (show Kd.N k32 32 w6 w0.heap.size okB v6 (out ++ (List.replicate (m + 1) xx).flatten) from by rw [← rep_succ]; exact ho); have HE6 := Aside0.mk (ExpD.after HE5.out hb hg hat (Kd.N_typed HN5.out) (Kd.N_base ho)); have HV6 := Aside0.mk (Kd.V_after HV5.out hg hat); have HK6 := Aside0.mk (keep_own HK5.out hg FR5.out); have FR6 := Aside0.mk (fresh_after HK5.out.1 FR5.out hat); clear ho hb hg hat)
                  go_roundw
                  case rel => exact ⟨m + 1, by rw [W1.out], ⟨by omega⟩, ⟨HN6.out⟩, ⟨FR6.out⟩, ⟨HE6.out⟩, ⟨HV6.out⟩, ⟨HK6.out⟩⟩
                  case measure => rw [W1.out]; simp only [intOf, Int.toNat_natCast]; omega
                · have hm' : decide ((m : Int) < (tn : Int)) = false := by simp; omega
                  obtain rfl : m = tn := by have := HMJ.out; omega
                  clear w1_
                  go_wp2
                  go_roundw
                  case rel => exact ⟨j + 1, out ++ rep (m : Int) xx, D3, by rw [wrap_succ hlt HM.out], ⟨by omega⟩, ⟨HNX.out⟩, ⟨by have := HN5.out; unfold rep; simpa using this⟩, ⟨FR5.out⟩, ⟨HE5.out⟩, ⟨HK5.out⟩⟩
                  case measure => rw [wrap_succ hlt HM.out]; simp only [intOf, Int.toNat_natCast]; omega
          · have HD := Aside0.mk hd
            have HR := Aside0.mk hrec
            clear hd hrec
            by_cases hz : xx.length = 0
            · have tz : ((xx.length : Int) == 0) = true := beq_iff_eq.mpr (by omega)
              have HNX := Aside0.mk (HZ.out hz)
              clear HZ HP hz
              go_wp2_with (first | (go_at_call 25; (with_reducible refine (subprogram_Call.calls kc x.f0 A1 c1 x.f1 x.f2 n tn true e _ (Kd.C_alloc HK1.out _) HL1.out HCL.out).mono ?_); rintro e2 w2 ⟨rfl, hb2⟩; have HB20 := Aside0.mk (below_then (below_alloc (Below.refl _ _) _) (below_alloc (Below.refl _ _) _).size hb2); have BK := Aside0.mk (blk_below (alloc_at _ _) hb2); clear hb2; have HE3 := Aside0.mk (HE2.out.step HB20.out); have HN3 := Aside0.mk (Kd.N_below HN.out HB20.out); have HK3 := Aside0.mk (keep_below HK.out HB20.out); have hz0 : w2.cell? ⟨wr.heap.size, 0, none⟩ = some (.bool x.f0) := (blk_cell BK.out 0).trans rfl; have hz1 : w2.cell? ⟨wr.heap.size, 1, none⟩ = some (.slice A1 x.f1.length c1) := (blk_cell BK.out 1).trans rfl; have hz2 : w2.cell? ⟨wr.heap.size, 2, none⟩ = some (.string x.f2) := (blk_cell BK.out 2).trans rfl; have hq4 : w2.cell? ⟨gx, 4, none⟩ = some (.map (some g4)) := (blk_cell HE3.out.exp 4).trans rfl; have hq0 : w2.cell? ⟨gx, 0, none⟩ = some (.map (some g0)) := (blk_cell HE3.out.exp 0).trans rfl; obtain ⟨F4, fw4, f4⟩ := HE3.out.done; have FW4 := Aside0.mk fw4; obtain ⟨n4_, m4, _⟩ := fw4; have M4 := Aside0.mk m4; have F4H := Aside0.mk f4; obtain ⟨h4a, A4, c4, h4b, h4c⟩ := f4 n; have H4A := Aside0.mk h4a; have H4B := Aside0.mk h4b; have H4C := Aside0.mk h4c; clear m4 f4 h4a h4b h4c) | ((with_reducible refine gate_dst (N := 39) rfl ?_); refine map_lookOk 39 rfl rfl rfl Try.underlying2 Try.underlying135 zero_rows M4.out rfl n rfl HIN.out.wf (.slice A4 0 c4) false (by have h_ := H4B.out; rw [HD.out] at h_; exact h_) (by have h_ := H4A.out; rw [HD.out] at h_; exact h_) ?_; obtain ⟨F0, ⟨n0_, m0, _⟩, f0⟩ := HE3.out.sub; obtain ⟨A5, c5, h5, v5_⟩ := f0 n; have M0 := Aside0.mk m0; have H5 := Aside0.mk h5; have V5 := Aside0.mk v5_; clear m0 f0 h5 v5_) | ((with_reducible refine gate_dst (N := 50) rfl ?_); refine map_look 50 rfl rfl rfl Try.underlying2 Try.underlying135 zero_rows M0.out rfl n rfl HIN.out.wf (.slice A5 (subs n).length c5) H5.out ?_) | (go_at_call 64; (with_reducible refine (IH.out (subs n) A5 c5 (fun k => (okB k ∧ some k ≠ u5.ownBlock) ∧ k < w2.heap.size) D2 D1 xx w2 ?rE V5.out HR.out).mono ?_); (case rE => exact HE3.out.mono (fun k hk hlt => ⟨hk, hlt⟩) (fun k hk => ⟨HE3.out.ok0 k hk, Nat.lt_of_lt_of_le hk HE3.out.below.size⟩) (fun hk => HE3.out.ok4 hk.1)); rintro e3 w3 ⟨v3, rfl, hn3, hf3, he3, hk3⟩; obtain ⟨A6, c6, rfl⟩ := Kd.N_slice hn3; have LTO := Aside0.mk (Kd.N_lt HN3.out); have UP := Aside0.mk (show ∀ k, (((okB k ∧ some k ≠ u5.ownBlock) ∧ k < w2.heap.size) ∨ w2.heap.size ≤ k) → (okB k ∧ some k ≠ u5.ownBlock) from fun k hk => by rcases hk with hk | hk; exact hk.1; exact ⟨okB1.out k (Nat.le_trans HK3.out.1 hk), fun e => by have := LTO.out k e.symm; omega⟩); have HX3 := Aside0.mk (show VR w3 (fun k => okB k ∧ some k ≠ u5.ownBlock) A6 c6 xx from Kd.V_mono (Kd.N_V hn3) UP.out); have HE4 := Aside0.mk (show ExpD w0 w3 gx g0 g1 g2 g3 g4 subs (fun k => okB k ∧ some k ≠ u5.ownBlock) D1 from he3.mono (fun k hk _ => UP.out k hk) HE3.out.ok0 HE3.out.ok4); have HK4 := Aside0.mk (keep_trans HK3.out hk3); have HN4 := Aside0.mk (Kd.N_keep HN3.out hk3 okB4.out); clear hn3 hf3 he3 hk3; obtain ⟨F6, fw6, f6⟩ := HE4.out.done; have FW6 := Aside0.mk fw6; have F6H := Aside0.mk f6; clear fw6 f6; have hq4_3 : w3.cell? ⟨gx, 4, none⟩ = some (.map (some g4)) := (blk_cell HE4.out.exp 4).trans rfl) | (refine few_put rfl rfl Try.underlying2 Try.underlying135 FW6.out rfl n rfl HIN.out.wf (by have := HIN.out; unfold IN at this; omega) (by have := HIN.out; unfold IN at this; omega) (.slice A6 xx.length c6) rfl ?_; intro w5 hm5 hg5; have HE5_ := Aside0.mk (HE4.out.put hg5 (DoneMap.put F6H.out hm5 HX3.out hg5 HE4.out.ok4)); have HX5 := Aside0.mk (show VR w5 (fun k => okB k ∧ some k ≠ u5.ownBlock) A6 c6 xx from Kd.V_grown HX3.out hg5 (fun k hk => someNe (okB4.out k hk.1))); have HN5_ := Aside0.mk (Kd.N_grown HN4.out hg5 (fun k hk => someNe (okB4.out k hk))); have HK5_ := Aside0.mk (keep_map HK4.out hg5); clear hm5 hg5))
              go_roundw
              case rel => exact ⟨j + 1, out, updD D1 n xx, by rw [wrap_succ hlt HM.out], ⟨by omega⟩, ⟨HNX.out⟩, ⟨HN5_.out⟩, ⟨FR.out⟩, ⟨HE5_.out⟩, ⟨HK5_.out⟩⟩
              case measure => rw [wrap_succ hlt HM.out]; simp only [intOf, Int.toNat_natCast]; omega
            · have tz : ((xx.length : Int) == 0) = false := beq_eq_false_iff_ne.mpr (by omega)
              obtain ⟨hlen, hnext⟩ := HP.out hz
              have HLen := Aside0.mk hlen
              have HNX := Aside0.mk hnext
              clear HZ HP hlen hnext hz
              go_wp2_with (first | (go_at_call 25; (with_reducible refine (subprogram_Call.calls kc x.f0 A1 c1 x.f1 x.f2 n tn true e _ (Kd.C_alloc HK1.out _) HL1.out HCL.out).mono ?_); rintro e2 w2 ⟨rfl, hb2⟩; have HB20 := Aside0.mk (below_then (below_alloc (Below.refl _ _) _) (below_alloc (Below.refl _ _) _).size hb2); have BK := Aside0.mk (blk_below (alloc_at _ _) hb2); clear hb2; have HE3 := Aside0.mk (HE2.out.step HB20.out); have HN3 := Aside0.mk (Kd.N_below HN.out HB20.out); have HK3 := Aside0.mk (keep_below HK.out HB20.out); have hz0 : w2.cell? ⟨wr.heap.size, 0, none⟩ = some (.bool x.f0) := (blk_cell BK.out 0).trans rfl; have hz1 : w2.cell? ⟨wr.heap.size, 1, none⟩ = some (.slice A1 x.f1.length c1) := (blk_cell BK.out 1).trans rfl; have hz2 : w2.cell? ⟨wr.heap.size, 2, none⟩ = some (.string x.f2) := (blk_cell BK.out 2).trans rfl; have hq4 : w2.cell? ⟨gx, 4, none⟩ = some (.map (some g4)) := (blk_cell HE3.out.exp 4).trans rfl; have hq0 : w2.cell? ⟨gx, 0, none⟩ = some (.map (some g0)) := (blk_cell HE3.out.exp 0).trans rfl; obtain ⟨F4, fw4, f4⟩ := HE3.out.done; have FW4 := Aside0.mk fw4; obtain ⟨n4_, m4, _⟩ := fw4; have M4 := Aside0.mk m4; have F4H := Aside0.mk f4; obtain ⟨h4a, A4, c4, h4b, h4c⟩ := f4 n; have H4A := Aside0.mk h4a; have H4B := Aside0.mk h4b; have H4C := Aside0.mk h4c; clear m4 f4 h4a h4b h4c) | ((with_reducible refine gate_dst (N := 39) rfl ?_); refine map_lookOk 39 rfl rfl rfl Try.underlying2 Try.underlying135 zero_rows M4.out rfl n rfl HIN.out.wf (.slice A4 0 c4) false (by have h_ := H4B.out; rw [HD.out] at h_; exact h_) (by have h_ := H4A.out; rw [HD.out] at h_; exact h_) ?_; obtain ⟨F0, ⟨n0_, m0, _⟩, f0⟩ := HE3.out.sub; obtain ⟨A5, c5, h5, v5_⟩ := f0 n; have M0 := Aside0.mk m0; have H5 := Aside0.mk h5; have V5 := Aside0.mk v5_; clear m0 f0 h5 v5_) | ((with_reducible refine gate_dst (N := 50) rfl ?_); refine map_look 50 rfl rfl rfl Try.underlying2 Try.underlying135 zero_rows M0.out rfl n rfl HIN.out.wf (.slice A5 (subs n).length c5) H5.out ?_) | (go_at_call 64; (with_reducible refine (IH.out (subs n) A5 c5 (fun k => (okB k ∧ some k ≠ u5.ownBlock) ∧ k < w2.heap.size) D2 D1 xx w2 ?rE V5.out HR.out).mono ?_); (case rE => exact HE3.out.mono (fun k hk hlt => ⟨hk, hlt⟩) (fun k hk => ⟨HE3.out.ok0 k hk, Nat.lt_of_lt_of_le hk HE3.out.below.size⟩) (fun hk => HE3.out.ok4 hk.1)); rintro e3 w3 ⟨v3, rfl, hn3, hf3, he3, hk3⟩; obtain ⟨A6, c6, rfl⟩ := Kd.N_slice hn3; have LTO := Aside0.mk (Kd.N_lt HN3.out); have UP := Aside0.mk (show ∀ k, (((okB k ∧ some k ≠ u5.ownBlock) ∧ k < w2.heap.size) ∨ w2.heap.size ≤ k) → (okB k ∧ some k ≠ u5.ownBlock) from fun k hk => by rcases hk with hk | hk; exact hk.1; exact ⟨okB1.out k (Nat.le_trans HK3.out.1 hk), fun e => by have := LTO.out k e.symm; omega⟩); have HX3 := Aside0.mk (show VR w3 (fun k => okB k ∧ some k ≠ u5.ownBlock) A6 c6 xx from Kd.V_mono (Kd.N_V hn3) UP.out); have HE4 := Aside0.mk (show ExpD w0 w3 gx g0 g1 g2 g3 g4 subs (fun k => okB k ∧ some k ≠ u5.ownBlock) D1 from he3.mono (fun k hk _ => UP.out k hk) HE3.out.ok0 HE3.out.ok4); have HK4 := Aside0.mk (keep_trans HK3.out hk3); have HN4 := Aside0.mk (Kd.N_keep HN3.out hk3 okB4.out); clear hn3 hf3 he3 hk3; obtain ⟨F6, fw6, f6⟩ := HE4.out.done; have FW6 := Aside0.mk fw6; have F6H := Aside0.mk f6; clear fw6 f6; have hq4_3 : w3.cell? ⟨gx, 4, none⟩ = some (.map (some g4)) := (blk_cell HE4.out.exp 4).trans rfl) | (refine few_put rfl rfl Try.underlying2 Try.underlying135 FW6.out rfl n rfl HIN.out.wf (by have := HIN.out; unfold IN at this; omega) (by have := HIN.out; unfold IN at this; omega) (.slice A6 xx.length c6) rfl ?_; intro w5 hm5 hg5; have HE5_ := Aside0.mk (HE4.out.put hg5 (DoneMap.put F6H.out hm5 HX3.out hg5 HE4.out.ok4)); have HX5 := Aside0.mk (show VR w5 (fun k => okB k ∧ some k ≠ u5.ownBlock) A6 c6 xx from Kd.V_grown HX3.out hg5 (fun k hk => someNe (okB4.out k hk.1))); have HN5_ := Aside0.mk (Kd.N_grown HN4.out hg5 (fun k hk => someNe (okB4.out k hk))); have HK5_ := Aside0.mk (keep_map HK4.out hg5); clear hm5 hg5))
              go_loopw [62, 5] (fun i v5 w' => ∃ (m : Nat), i = .int .i64 m ∧ Aside0 (m ≤ tn) ∧ Aside0 (Kd.N k32 32 w' w0.heap.size okB v5 (out ++ (List.replicate m xx).flatten)) ∧ Aside0 (∀ k, (v5 : Value).ownBlock = some k → W.heap.size ≤ k) ∧ Aside0 (ExpD w0 w' gx g0 g1 g2 g3 g4 subs (fun k => okB k ∧ some k ≠ (v5 : Value).ownBlock) (updD D1 n xx)) ∧ Aside0 (VR w' (fun k => okB k ∧ some k ≠ (v5 : Value).ownBlock) A6 c6 xx) ∧ Aside0 (KeepBut W w' g4 none)) (fun i _ _ => tn - (intOf i).toNat)
              case atStart => exact ⟨0, rfl, ⟨Nat.zero_le _⟩, ⟨by simpa using HN5_.out⟩, ⟨FR.out⟩, ⟨HE5_.out⟩, ⟨HX5.out⟩, ⟨HK5_.out⟩⟩
              case round =>
                obtain ⟨m, rfl, HMJ, HN5, FR5, HE5, HV5, HK5⟩ := hrel
                clear HN5_ HE5_ HK5_ HX5 hz0 hz1 hz2 hq4 hq0 hq4_3 FW4 M4 F4H H4A H4B H4C M0 H5 V5 FW6 F6H HE4 HK4 HN4 HX3 UP LTO BK HB20 HN HN3 HE3 HE2 HK HK3 HI HR
                have HIT2 := HIT.out
                unfold IN at HIT2
                have w1_ : wrap64 ((m : Int) + 1) = ((m + 1 : Nat) : Int) := by have := HMJ.out; unfold wrap64; omega
                clear HIT2
                by_cases hm : m < tn
                · have hm' : decide ((m : Int) < (tn : Int)) = true := by simp; omega
                  have HLM := Aside0.mk (show (out ++ (List.replicate m xx).flatten).length + xx.length ≤ 100000 from by have := HLen.out; simp only [Int.toNat_natCast] at this; have h2 : (m + 1) * xx.length ≤ tn * xx.length := Nat.mul_le_mul_right _ hm; rw [Nat.succ_mul] at h2; rw [List.length_append, rep_len]; omega)
                  have W1 := Aside0.mk w1_
                  clear w1_
                  go_wp2_with ((with_reducible refine gate_builtin (b := .append) (xs := #[.tmp 64, .tmp 65]) rfl ?_); (try (refine gate_guard (by rfl) ?_; dsimp only)); at_builtin; refine Kd.N_append_rows k32 (w0 := w0) w0.heap.size rfl (.tmp 64) (.tmp 65) 35 32 (.agg #[(.bool false), (.slice none 0 0), (.string ⟨#[]⟩)]) 48 rfl Try.underlying35 info32 rfl (by decide) (by omega) u5 (out ++ (List.replicate m xx).flatten) xx _ _ _ okB (fun k => okB k ∧ some k ≠ u5.ownBlock) rfl rfl ?aO ?aR (fun _ hk => hk) ?aF ?aB ?aS ?aL ?_; (case aR => exact Kd.V_F HV5.out); (case aF => exact fun k hk => okB1.out k (Nat.le_trans HK5.out.1 hk)); (case aO => exact HN5.out); (case aB => exact HE5.out.below); (case aS => exact HE5.out.below.size); (case aL => have := HLM.out; omega); intro v6 w6 ho hb hg hat; have HN6 := Aside0.mk (show Kd.N k32 32 w6 w0.heap.size okB v6 (out ++ (List.replicate (m + 1) xx).flatten) from by rw [← rep_succ]; exact ho); have HE6 := Aside0.mk (ExpD.after HE5.out hb hg hat (Kd.N_typed HN5.out) (Kd.N_base ho)); have HV6 := Aside0.mk (Kd.V_after HV5.out hg hat); have HK6 := Aside0.mk (keep_own HK5.out hg FR5.out); have FR6 := Aside0.mk (fresh_after HK5.out.1 FR5.out hat); clear ho hb hg hat)
                  go_roundw
                  case rel => exact ⟨m + 1, by rw [W1.out], ⟨by omega⟩, ⟨HN6.out⟩, ⟨FR6.out⟩, ⟨HE6.out⟩, ⟨HV6.out⟩, ⟨HK6.out⟩⟩
                  case measure => rw [W1.out]; simp only [intOf, Int.toNat_natCast]; omega
                · have hm' : decide ((m : Int) < (tn : Int)) = false := by simp; omega
                  obtain rfl : m = tn := by have := HMJ.out; omega
                  clear w1_
                  go_wp2
                  go_roundw
                  case rel => exact ⟨j + 1, out ++ rep (m : Int) xx, updD D1 n xx, by rw [wrap_succ hlt HM.out], ⟨by omega⟩, ⟨HNX.out⟩, ⟨by have := HN5.out; unfold rep; simpa using this⟩, ⟨FR5.out⟩, ⟨HE5.out⟩, ⟨HK5.out⟩⟩
                  case measure => rw [wrap_succ hlt HM.out]; simp only [intOf, Int.toNat_natCast]; omega
      · have hlt' : decide ((j : Int) < (l.length : Int)) = false := by simp; omega
        have hI := HI.out
        rw [List.drop_eq_nil_of_le (by omega), expL] at hI
        simp only [Option.some.injEq, Prod.mk.injEq] at hI
        obtain ⟨rfl, rfl⟩ := hI
        go_wp2
        go_ret
        obtain rfl := OKB.out
        exact ⟨_, rfl, HN.out, FR.out, HE2.out.mono (fun k hk _ => hk.1) (fun k hk => Or.inl (OK0.out k hk)) (fun hk => okB4.out g4 hk rfl), HK.out⟩
end Go.Proofs.Ytehkhbnhmehobaa.P
namespace Go.Proofs.Ytehkhbnhmehobaa.P
open Go.RowKit Go.Proofs.YtehkhbnhmehobaaW.PrintWords Go.Proofs.YtehkhbnhmehobaaW.PrintLast Go.Proofs.YtehkhbnhmehobaaW.PrintMore
set_option linter.unusedVariables false
set_option linter.unusedSimpArgs false
theorem sumL_mono (k : Nat) (dp sz : Int → Int) : ∀ (l : List S32) (d s : Int), LeO (sumL k dp sz l d s) (sumL (k + 1) dp sz l d s)
  | [], d, s => LeO.refl _
  | b :: l, d, s => by
    unfold sumL
    refine LeO.bind (callF_mono k b) (fun r => ?_)
    refine LeO.ite (LeO.ite (sumL_mono k dp sz l _ _) (LeO.none _)) (sumL_mono k dp sz l _ _)
theorem measL_mono {r1 r2 : Int → St3 → Option (Bool × St3)} (h : ∀ n S, LeO (r1 n S) (r2 n S)) (k : Nat) : ∀ (l : List S32) (S : St3), LeO (measL r1 k l S) (measL r2 (k + 1) l S)
  | [], S => LeO.refl _
  | b :: l, S => by
    unfold measL
    refine LeO.bind (callF_mono k b) (fun r => ?_)
    refine LeO.ite (LeO.ite (LeO.bind (h _ _) (fun m => LeO.ite (measL_mono h k l _) (LeO.refl _))) (LeO.none _)) (measL_mono h k l _)
theorem measF_mono (subs : Int → List S32) (kc : Nat) : ∀ (k : Nat) (n : Int) (S : St3), LeO (measF subs kc k n S) (measF subs (kc + 1) (k + 1) n S)
  | 0, n, S => by unfold measF; exact LeO.none _
  | k + 1, n, S => by
    rw [measF, measF]
    refine LeO.ite (LeO.refl _) (LeO.ite (LeO.refl _) (LeO.bind (measL_mono (measF_mono subs kc k) kc _ _) (fun m => LeO.ite (LeO.bind (sumL_mono kc _ _ _ _ _) (fun s => LeO.refl _)) (LeO.refl _))))
theorem foundL_mono (k : Nat) : ∀ (l : List S32) (acc : List Int), LeO (foundL k l acc) (foundL (k + 1) l acc)
  | [], acc => LeO.refl _
  | b :: l, acc => by
    unfold foundL
    refine LeO.bind (callF_mono k b) (fun r => LeO.ite (LeO.ite (LeO.ite (foundL_mono k l _) (LeO.none _)) (foundL_mono k l _)) (LeO.refl _))
theorem measAll_mono (subs : Int → List S32) (k : Nat) : ∀ (l : List S81) (S : St3), LeO (measAll subs k l S) (measAll subs (k + 1) l S)
  | [], S => LeO.refl _
  | x :: l, S => by
    unfold measAll
    exact LeO.ite (LeO.bind (measF_mono subs k k _ _) (fun m => LeO.ite (measAll_mono subs k l _) (LeO.refl _))) (LeO.none _)
theorem newF_mono (k : Nat) (l0 : List S32) (l1 : List S81) : LeO (newF k l0 l1) (newF (k + 1) l0 l1) := by
  unfold newF
  refine LeO.bind (subprogram_proper.mono _ _ k) (fun pb => LeO.ite (LeO.ite (LeO.bind (Concat_Block.mono _ k) (fun al => LeO.bind (foundL_mono k _ _) (fun fo => LeO.ite (LeO.ite (LeO.bind (measAll_mono _ k _ _) (fun m => LeO.refl _)) (LeO.refl _)) (LeO.refl _)))) (LeO.none _)) (LeO.refl _))
theorem expL_mono {r1 r2 : List S32 → Done → Option (List S32 × Done)} (h : ∀ l D, LeO (r1 l D) (r2 l D)) (k : Nat) (subs : Int → List S32) : ∀ (l out : List S32) (D : Done), LeO (expL k r1 subs l out D) (expL (k + 1) r2 subs l out D)
  | [], out, D => LeO.refl _
  | b :: l, out, D => by
    unfold expL
    refine LeO.bind (callF_mono k b) (fun r => LeO.ite (LeO.ite (LeO.ite (LeO.bind ?_ (fun q => LeO.ite (expL_mono h k subs l _ _) (LeO.ite (expL_mono h k subs l _ _) (LeO.none _)))) (LeO.none _)) (LeO.none _)) (LeO.ite (expL_mono h k subs l _ _) (LeO.none _)))
    cases D r.1 with
    | some x => exact LeO.refl _
    | none =>
      intro q hq
      obtain ⟨y, hy, rfl⟩ := Option.map_eq_some_iff.mp hq
      exact Option.map_eq_some_iff.mpr ⟨y, h _ _ y hy, rfl⟩
theorem expF_mono (kc : Nat) (subs : Int → List S32) : ∀ (k : Nat) (l : List S32) (D : Done), LeO (expF kc subs k l D) (expF (kc + 1) subs (k + 1) l D)
  | 0, l, D => by unfold expF; exact LeO.none _
  | k + 1, l, D => by
    rw [expF, expF]
    exact expL_mono (expF_mono kc subs k) kc subs l [] D
abbrev SubsO := Int → Option (List S32)
def checkedF (k : Nat) (l0 : List S32) (l1 : List S81) : Option (Int × SubsO × St3 × Int) :=
  (newF k l0 l1).bind fun q => if q.1 = 0 then (sumL k q.2.2.2.1 q.2.2.2.2 l0 0 0).bind fun s => if s.1 > 8 then some (3, q.2.1, q.2.2, 0) else if s.2 > 20000 then some (3, q.2.1, q.2.2, 0) else some (0, q.2.1, q.2.2, s.2) else some (q.1, q.2.1, q.2.2, 0)
theorem checkedF_mono (k : Nat) (l0 : List S32) (l1 : List S81) : LeO (checkedF k l0 l1) (checkedF (k + 1) l0 l1) := by
  unfold checkedF
  exact LeO.bind (newF_mono k l0 l1) (fun q => LeO.ite (LeO.bind (sumL_mono k _ _ _ _ _) (fun s => LeO.refl _)) (LeO.refl _))
def subprogram_Size.f (k : Nat) (l0_0 : List (S32)) (l0_1 : List (S81)) : Option (Int × Int) := (checkedF k l0_0 l0_1).bind fun q => some (q.2.2.2, q.1)
theorem subprogram_Size.mono : ∀ a0 a1 k, LeO (subprogram_Size.f k a0 a1) (subprogram_Size.f (k + 1) a0 a1) := by
  intro a0 a1 k
  unfold subprogram_Size.f
  exact LeO.bind (checkedF_mono k a0 a1) (fun q => LeO.refl _)
def subprogram_Expand.f (k : Nat) (l0_0 : List (S32)) (l0_1 : List (S81)) : Option ((List (S32)) × Int) :=
  (checkedF k l0_0 l0_1).bind fun q => if q.1 = 0 then (expF k (fun y => (q.2.1 y).getD []) k l0_0 (fun _ => none)).bind fun r => if (decide (r.1.length < 1000000) && r.1.all (fun x => decide (x.f1.length < 1000000))) = true then some (r.1, 0) else none else some ([], q.1)
theorem subprogram_Expand.mono : ∀ a0 a1 k, LeO (subprogram_Expand.f k a0 a1) (subprogram_Expand.f (k + 1) a0 a1) := by
  intro a0 a1 k
  unfold subprogram_Expand.f
  exact LeO.bind (checkedF_mono k a0 a1) (fun q => LeO.ite (LeO.bind (expF_mono k _ k _ _) (fun r => LeO.refl _)) (LeO.refl _))
def CheckPost (w : World) (er size : Int) (M : SubsO) (S : St3) (e : Ending) (w' : World) : Prop := ∃ pp : Option Addr, e = .returned (.tuple #[.pointer pp, .int .i64 size, .int .i64 er]) ∧ Below w.heap.size w w' ∧ (er = 0 → ∃ gx g0 g1 g2 g3 g4, pp = some ⟨gx, 0, none⟩ ∧ ExpW w w' gx g0 g1 g2 g3 g4 (fun y => (M y).getD []) S)
theorem CheckPost.of {w w' : World} {er size : Int} {M : SubsO} {S : St3} (pp : Option Addr) (h1 : Below w.heap.size w w') (h2 : er = 0 → ∃ gx g0 g1 g2 g3 g4, pp = some ⟨gx, 0, none⟩ ∧ ExpW w w' gx g0 g1 g2 g3 g4 (fun y => (M y).getD []) S) : CheckPost w er size M S (.returned (.tuple #[.pointer pp, .int .i64 size, .int .i64 er])) w' := ⟨pp, rfl, h1, h2⟩
theorem ExpW.from {w w1 W : World} {gx g0 g1 g2 g3 g4 : Nat} {subs : Int → List S32} {S : St3} (h : ExpW w1 W gx g0 g1 g2 g3 g4 subs S) (hb : Below w.heap.size w w1) (hs : SubMap w W g0 subs) : ExpW w W gx g0 g1 g2 g3 g4 subs S := by
  have := hb.size
  have h1 := h.ge1
  have h2 := h.ge2
  have h3 := h.ge3
  have h4 := h.ge4
  exact { h with below := below_then hb hb.size h.below, sub := hs, ge1 := by omega, ge2 := by omega, ge3 := by omega, ge4 := by omega }
def CheckPost' (w : World) (er size : Int) (M : SubsO) (S : St3) (e : Ending) (w' : World) : Prop := ∃ pp : Option Addr, e = .returned (.tuple #[.pointer pp, .int .i64 size, .int .i64 er]) ∧ Below w.heap.size w w' ∧ (er = 0 → ∃ wg gx g0 g1 g2 g3 g4, Below w.heap.size w wg ∧ pp = some ⟨gx, 0, none⟩ ∧ ExpW wg w' gx g0 g1 g2 g3 g4 (fun y => (M y).getD []) S)
theorem CheckPost'.of {w w' : World} {er size : Int} {M : SubsO} {S : St3} (pp : Option Addr) (h1 : Below w.heap.size w w') (h2 : er = 0 → ∃ wg gx g0 g1 g2 g3 g4, Below w.heap.size w wg ∧ pp = some ⟨gx, 0, none⟩ ∧ ExpW wg w' gx g0 g1 g2 g3 g4 (fun y => (M y).getD []) S) : CheckPost' w er size M S (.returned (.tuple #[.pointer pp, .int .i64 size, .int .i64 er])) w' := ⟨pp, rfl, h1, h2⟩
set_option maxHeartbeats 4000000 in
set_option maxRecDepth 100000 in
theorem checked_calls (k : Nat) (A0 : Option Addr) (c0 : Nat) (l0 : List S32) (A1 : Option Addr) (c1 : Nat) (l1 : List S81) (er size : Int) (M : SubsO) (S : St3) (w : World) (hr0_0 : Kd.C k32 w A0 l0.length l0) (hc0_0 : l0.length ≤ c0) (hr0_1 : Kd.C k81 w A1 l1.length l1) (hc0_1 : l1.length ≤ c1) (h : checkedF k l0 l1 = some (er, M, S, size)) :
    Calls Try.prog 63 #[.agg #[.slice A0 l0.length c0, .slice A1 l1.length c1]] w (CheckPost' w er size M S) := by
  have hu54 := Try.underlying54
  unfold checkedF at h
  obtain ⟨⟨e0, M0, S0⟩, hn, h2⟩ := Option.bind_eq_some_iff.mp h
  have HR0 := Aside0.mk hr0_0
  have HC0 := Aside0.mk hc0_0
  have HR1 := Aside0.mk hr0_1
  have HC1 := Aside0.mk hc0_1
  have HN := Aside0.mk hn
  have H := Aside0.mk h2
  clear hr0_0 hc0_0 hr0_1 hc0_1 h hn h2
  by_cases he : e0 = 0
  · subst he
    have H2 := H.out
    simp only [if_true] at H2
    obtain ⟨⟨d, s⟩, hs, H3⟩ := Option.bind_eq_some_iff.mp H2
    have HS := Aside0.mk hs
    have HT := Aside0.mk H3
    clear H2 hs H3 H
    by_cases hd : d > 8
    · have H4 := HT.out
      simp only [if_pos hd, Option.some.injEq, Prod.mk.injEq] at H4
      obtain ⟨rfl, rfl, rfl, rfl⟩ := H4
      clear HT
      go_enter Try.func63, Try.ntmps63
      go_wp2_with (first | ((with_reducible refine gate_dst (N := 1) rfl ?_); refine box_event ?hg (N := 1) ?hd (cs := #[.slice A0 l0.length c0, .slice A1 l1.length c1]) (t := 54) ?hr ?_; (case hd => rfl); (case hg => rfl); (case hr => first | (go_simp; done) | (go_simp; rfl)); intro gp hgp w1 hbox hb; have BP1 := Aside0.mk hbox; have HB1 := Aside0.mk hb; clear hgp hbox hb; have hz0_1 : w1.cell? ⟨gp, 0, none⟩ = some (.slice A0 l0.length c0) := (blk_cell BP1.out 0).trans rfl; have hz1_1 : w1.cell? ⟨gp, 1, none⟩ = some (.slice A1 l1.length c1) := (blk_cell BP1.out 1).trans rfl) | (go_at_call 94; (with_reducible refine (newExpander_calls k A0 c0 l0 A1 c1 l1 0 _ _ _ (Kd.C_below HR0.out HB1.out) HC0.out (Kd.C_below HR1.out HB1.out) HC1.out HN.out).mono ?_); rintro e2 w2 hpost; obtain ⟨pp, rfl, hb2, himp⟩ := hpost; have HB2 := Aside0.mk (below_then HB1.out HB1.out.size hb2); have BP2 := Aside0.mk (blk_below BP1.out hb2); obtain ⟨gx, g0, g1, g2, g3, g4, rfl, hew⟩ := himp rfl; have HE2 := Aside0.mk hew; clear himp hew hb2 hz0_1 hz1_1; have hz0_2 : w2.cell? ⟨gp, 0, none⟩ = some (.slice A0 l0.length c0) := (blk_cell BP2.out 0).trans rfl) | (go_at_call 95; (with_reducible refine (sum_calls k gx g0 g1 g2 g3 g4 _ _ A0 c0 l0 d s _ HE2.out.exp HE2.out.m2 HE2.out.m3 (Kd.C_below HR0.out HB2.out) HC0.out HS.out).mono ?_); rintro e3 w3 ⟨rfl, hb3⟩; have HB3 := Aside0.mk (below_then HB2.out HB2.out.size hb3); have HE3 := Aside0.mk (HE2.out.step hb3); clear hb3))
      refine bodyPost_ret (results_list (rs := [.tmp 2, .tmp 3, .tmp 4]) rfl (by simp) (.tmp (.tmp (.tmp .nil)))) rfl ?_
      exact CheckPost'.of none HB3.out (fun h => absurd h (by decide))
    · by_cases hs2 : s > 20000
      · have H4 := HT.out
        simp only [if_neg hd, if_pos hs2, Option.some.injEq, Prod.mk.injEq] at H4
        obtain ⟨rfl, rfl, rfl, rfl⟩ := H4
        clear HT
        go_enter Try.func63, Try.ntmps63
        go_wp2_with (first | ((with_reducible refine gate_dst (N := 1) rfl ?_); refine box_event ?hg (N := 1) ?hd (cs := #[.slice A0 l0.length c0, .slice A1 l1.length c1]) (t := 54) ?hr ?_; (case hd => rfl); (case hg => rfl); (case hr => first | (go_simp; done) | (go_simp; rfl)); intro gp hgp w1 hbox hb; have BP1 := Aside0.mk hbox; have HB1 := Aside0.mk hb; clear hgp hbox hb; have hz0_1 : w1.cell? ⟨gp, 0, none⟩ = some (.slice A0 l0.length c0) := (blk_cell BP1.out 0).trans rfl; have hz1_1 : w1.cell? ⟨gp, 1, none⟩ = some (.slice A1 l1.length c1) := (blk_cell BP1.out 1).trans rfl) | (go_at_call 94; (with_reducible refine (newExpander_calls k A0 c0 l0 A1 c1 l1 0 _ _ _ (Kd.C_below HR0.out HB1.out) HC0.out (Kd.C_below HR1.out HB1.out) HC1.out HN.out).mono ?_); rintro e2 w2 hpost; obtain ⟨pp, rfl, hb2, himp⟩ := hpost; have HB2 := Aside0.mk (below_then HB1.out HB1.out.size hb2); have BP2 := Aside0.mk (blk_below BP1.out hb2); obtain ⟨gx, g0, g1, g2, g3, g4, rfl, hew⟩ := himp rfl; have HE2 := Aside0.mk hew; clear himp hew hb2 hz0_1 hz1_1; have hz0_2 : w2.cell? ⟨gp, 0, none⟩ = some (.slice A0 l0.length c0) := (blk_cell BP2.out 0).trans rfl) | (go_at_call 95; (with_reducible refine (sum_calls k gx g0 g1 g2 g3 g4 _ _ A0 c0 l0 d s _ HE2.out.exp HE2.out.m2 HE2.out.m3 (Kd.C_below HR0.out HB2.out) HC0.out HS.out).mono ?_); rintro e3 w3 ⟨rfl, hb3⟩; have HB3 := Aside0.mk (below_then HB2.out HB2.out.size hb3); have HE3 := Aside0.mk (HE2.out.step hb3); clear hb3))
        refine bodyPost_ret (results_list (rs := [.tmp 2, .tmp 3, .tmp 4]) rfl (by simp) (.tmp (.tmp (.tmp .nil)))) rfl ?_
        exact CheckPost'.of none HB3.out (fun h => absurd h (by decide))
      · have H4 := HT.out
        simp only [if_neg hd, if_neg hs2, Option.some.injEq, Prod.mk.injEq] at H4
        obtain ⟨rfl, rfl, rfl, rfl⟩ := H4
        clear HT
        go_enter Try.func63, Try.ntmps63
        go_wp2_with (first | ((with_reducible refine gate_dst (N := 1) rfl ?_); refine box_event ?hg (N := 1) ?hd (cs := #[.slice A0 l0.length c0, .slice A1 l1.length c1]) (t := 54) ?hr ?_; (case hd => rfl); (case hg => rfl); (case hr => first | (go_simp; done) | (go_simp; rfl)); intro gp hgp w1 hbox hb; have BP1 := Aside0.mk hbox; have HB1 := Aside0.mk hb; clear hgp hbox hb; have hz0_1 : w1.cell? ⟨gp, 0, none⟩ = some (.slice A0 l0.length c0) := (blk_cell BP1.out 0).trans rfl; have hz1_1 : w1.cell? ⟨gp, 1, none⟩ = some (.slice A1 l1.length c1) := (blk_cell BP1.out 1).trans rfl) | (go_at_call 94; (with_reducible refine (newExpander_calls k A0 c0 l0 A1 c1 l1 0 _ _ _ (Kd.C_below HR0.out HB1.out) HC0.out (Kd.C_below HR1.out HB1.out) HC1.out HN.out).mono ?_); rintro e2 w2 hpost; obtain ⟨pp, rfl, hb2, himp⟩ := hpost; have HB2 := Aside0.mk (below_then HB1.out HB1.out.size hb2); have BP2 := Aside0.mk (blk_below BP1.out hb2); obtain ⟨gx, g0, g1, g2, g3, g4, rfl, hew⟩ := himp rfl; have HE2 := Aside0.mk hew; clear himp hew hb2 hz0_1 hz1_1; have hz0_2 : w2.cell? ⟨gp, 0, none⟩ = some (.slice A0 l0.length c0) := (blk_cell BP2.out 0).trans rfl) | (go_at_call 95; (with_reducible refine (sum_calls k gx g0 g1 g2 g3 g4 _ _ A0 c0 l0 d s _ HE2.out.exp HE2.out.m2 HE2.out.m3 (Kd.C_below HR0.out HB2.out) HC0.out HS.out).mono ?_); rintro e3 w3 ⟨rfl, hb3⟩; have HB3 := Aside0.mk (below_then HB2.out HB2.out.size hb3); have HE3 := Aside0.mk (HE2.out.step hb3); clear hb3))
        refine bodyPost_ret (results_list (rs := [.tmp 2, .tmp 3, .tmp 4]) rfl (by simp) (.tmp (.tmp (.tmp .nil)))) rfl ?_
        exact CheckPost'.of (some ⟨gx, 0, none⟩) HB3.out (fun _ => ⟨w1, gx, g0, g1, g2, g3, g4, HB1.out, rfl, HE3.out⟩)
  · have H4 := H.out
    simp only [if_neg he, Option.some.injEq, Prod.mk.injEq] at H4
    obtain ⟨rfl, rfl, rfl, rfl⟩ := H4
    have hne : (e0 == 0) = false := beq_eq_false_iff_ne.mpr he
    have hne2 : (e0 != 0) = true := bne_iff_ne.mpr he
    have HE0 := Aside0.mk he
    clear H he
    go_enter Try.func63, Try.ntmps63
    go_wp2_with (first | ((with_reducible refine gate_dst (N := 1) rfl ?_); refine box_event ?hg (N := 1) ?hd (cs := #[.slice A0 l0.length c0, .slice A1 l1.length c1]) (t := 54) ?hr ?_; (case hd => rfl); (case hg => rfl); (case hr => first | (go_simp; done) | (go_simp; rfl)); intro gp hgp w1 hbox hb; have BP1 := Aside0.mk hbox; have HB1 := Aside0.mk hb; clear hgp hbox hb; have hz0_1 : w1.cell? ⟨gp, 0, none⟩ = some (.slice A0 l0.length c0) := (blk_cell BP1.out 0).trans rfl; have hz1_1 : w1.cell? ⟨gp, 1, none⟩ = some (.slice A1 l1.length c1) := (blk_cell BP1.out 1).trans rfl) | (go_at_call 94; (with_reducible refine (newExpander_calls k A0 c0 l0 A1 c1 l1 e0 _ _ _ (Kd.C_below HR0.out HB1.out) HC0.out (Kd.C_below HR1.out HB1.out) HC1.out HN.out).mono ?_); rintro e2 w2 hpost; obtain ⟨pp, rfl, hb2, himp⟩ := hpost; have HB2 := Aside0.mk (below_then HB1.out HB1.out.size hb2); have BP2 := Aside0.mk (blk_below BP1.out hb2); clear himp hb2))
    refine bodyPost_ret (results_list (rs := [.tmp 2, .tmp 3, .tmp 4]) rfl (by simp) (.tmp (.tmp (.tmp .nil)))) rfl ?_
    exact CheckPost'.of none HB2.out (fun h => absurd h HE0.out)
set_option maxHeartbeats 4000000 in
set_option maxRecDepth 100000 in
theorem subprogram_Size.calls (k : Nat) (A0 : Option Addr) (c0 : Nat) (l0 : List S32) (A1 : Option Addr) (c1 : Nat) (l1 : List S81) (r1 : Int) (r2 : Int) (w : World) (hr0_0 : Kd.C k32 w A0 l0.length l0) (hc0_0 : l0.length ≤ c0) (hr0_1 : Kd.C k81 w A1 l1.length l1) (hc0_1 : l1.length ≤ c1) (h : subprogram_Size.f k l0 l1 = some (r1, r2)) :
    Calls Try.prog 40 #[.agg #[.slice A0 l0.length c0, .slice A1 l1.length c1]] w fun e w' => e = .returned (.tuple #[.int .i64 r1, .int .i64 r2]) ∧ Below w.heap.size w w' := by
  have hu54 := Try.underlying54
  unfold subprogram_Size.f at h
  obtain ⟨⟨e0, M0, S0, z0⟩, hn, h2⟩ := Option.bind_eq_some_iff.mp h
  simp only [Option.some.injEq, Prod.mk.injEq] at h2
  obtain ⟨rfl, rfl⟩ := h2
  have HR0 := Aside0.mk hr0_0
  have HC0 := Aside0.mk hc0_0
  have HR1 := Aside0.mk hr0_1
  have HC1 := Aside0.mk hc0_1
  have HQ := Aside0.mk hn
  clear hr0_0 hc0_0 hr0_1 hc0_1 h hn
  go_enter Try.func40, Try.ntmps40
  go_wp2_with (first | ((with_reducible refine gate_dst (N := 1) rfl ?_); refine box_event ?hg (N := 1) ?hd (cs := #[.slice A0 l0.length c0, .slice A1 l1.length c1]) (t := 54) ?hr ?_; (case hd => rfl); (case hg => rfl); (case hr => first | (go_simp; done) | (go_simp; rfl)); intro gp hgp w1 hbox hb; have BP1 := Aside0.mk hbox; have HB1 := Aside0.mk hb; clear hgp hbox hb; have hz0_1 : w1.cell? ⟨gp, 0, none⟩ = some (.slice A0 l0.length c0) := (blk_cell BP1.out 0).trans rfl; have hz1_1 : w1.cell? ⟨gp, 1, none⟩ = some (.slice A1 l1.length c1) := (blk_cell BP1.out 1).trans rfl) | (go_at_call 63; (with_reducible refine (checked_calls k A0 c0 l0 A1 c1 l1 e0 z0 M0 S0 _ (Kd.C_below HR0.out HB1.out) HC0.out (Kd.C_below HR1.out HB1.out) HC1.out HQ.out).mono ?_); rintro e2 w2 hpost; obtain ⟨pp, rfl, hb2, himp⟩ := hpost; have HB2 := Aside0.mk (below_then HB1.out HB1.out.size hb2); have BP2 := Aside0.mk (blk_below BP1.out hb2); clear himp hb2))
  refine bodyPost_ret (results_list (rs := [.tmp 2, .tmp 3]) rfl (by simp) (.tmp (.tmp .nil))) rfl ?_
  exact ⟨rfl, HB2.out⟩
theorem ExpW.expD {w W : World} {gx g0 g1 g2 g3 g4 : Nat} {subs : Int → List S32} {S : St3} (h : ExpW w W gx g0 g1 g2 g3 g4 subs S) : ExpD w W gx g0 g1 g2 g3 g4 subs (fun k => k < w.heap.size) (fun _ => none) := by
  have h4 := h.ge4
  refine { below := h.below, exp := h.exp, sub := ?_, done := ⟨_, h.m4, fun y => ⟨rfl, none, 0, rfl, Kd.V_nil _ _ _ _ _⟩⟩, n04 := h.n04, ge4 := h.ge4, lt4 := h.m4.lt, ok0 := fun _ hk => hk, ok4 := fun hk => by omega }
  obtain ⟨F, hm, hf⟩ := h.sub
  refine ⟨F, hm, fun y => ?_⟩
  obtain ⟨A, c, h1, h2, h3⟩ := hf y
  exact ⟨A, c, h1, Kd.V_mk h2 (Kd.C_F k32_heap h3)⟩
set_option maxHeartbeats 8000000 in
set_option maxRecDepth 100000 in
theorem subprogram_Expand.calls (k : Nat) (A0 : Option Addr) (c0 : Nat) (l0 : List S32) (A1 : Option Addr) (c1 : Nat) (l1 : List S81) (r1 : List (S32)) (r2 : Int) (w : World) (hr0_0 : Kd.C k32 w A0 l0.length l0) (hc0_0 : l0.length ≤ c0) (hr0_1 : Kd.C k81 w A1 l1.length l1) (hc0_1 : l1.length ≤ c1) (h : subprogram_Expand.f k l0 l1 = some (r1, r2)) :
    Calls Try.prog 28 #[.agg #[.slice A0 l0.length c0, .slice A1 l1.length c1]] w fun e w' => ∃ v0_ : Value, e = .returned (.tuple #[v0_, .int .i64 r2]) ∧ Kd.S k32 32 w' w.heap.size (fun _ => True) v0_ r1 ∧ Below w.heap.size w w' := by
  have hu54 := Try.underlying54
  have hu32 := Try.underlying32
  unfold subprogram_Expand.f at h
  obtain ⟨⟨e0, M0, S0, z0⟩, hn, h2⟩ := Option.bind_eq_some_iff.mp h
  have HR0 := Aside0.mk hr0_0
  have HC0 := Aside0.mk hc0_0
  have HR1 := Aside0.mk hr0_1
  have HC1 := Aside0.mk hc0_1
  have HQ := Aside0.mk hn
  have H := Aside0.mk h2
  clear hr0_0 hc0_0 hr0_1 hc0_1 h hn h2
  by_cases he : e0 = 0
  · subst he
    have H2 := H.out
    simp only [if_true] at H2
    obtain ⟨⟨rr, D1⟩, hx, H3⟩ := Option.bind_eq_some_iff.mp H2
    have HX := Aside0.mk hx
    by_cases hgd : (decide (rr.length < 1000000) && rr.all (fun x => decide (x.f1.length < 1000000))) = true
    rotate_left
    · simp only [if_neg hgd] at H3; cases H3
    simp only [if_pos hgd, Option.some.injEq, Prod.mk.injEq] at H3
    obtain ⟨rfl, rfl⟩ := H3
    rw [Bool.and_eq_true] at hgd
    have HLN := Aside0.mk (of_decide_eq_true hgd.1)
    have HWL := Aside0.mk (show ∀ x ∈ rr, x.f1.length < 1000000 from fun x hx => of_decide_eq_true (List.all_eq_true.mp hgd.2 x hx))
    clear H2 hx hgd H
    go_enter Try.func28, Try.ntmps28
    go_wp2_with (first | ((with_reducible refine gate_dst (N := 1) rfl ?_); refine box_event ?hg (N := 1) ?hd (cs := #[.slice A0 l0.length c0, .slice A1 l1.length c1]) (t := 54) ?hr ?_; (case hd => rfl); (case hg => rfl); (case hr => first | (go_simp; done) | (go_simp; rfl)); intro gp hgp w1 hbox hb; have BP1 := Aside0.mk hbox; have HB1 := Aside0.mk hb; clear hgp hbox hb; have hz0_1 : w1.cell? ⟨gp, 0, none⟩ = some (.slice A0 l0.length c0) := (blk_cell BP1.out 0).trans rfl; have hz1_1 : w1.cell? ⟨gp, 1, none⟩ = some (.slice A1 l1.length c1) := (blk_cell BP1.out 1).trans rfl) | (go_at_call 63; (with_reducible refine (checked_calls k A0 c0 l0 A1 c1 l1 0 z0 M0 S0 _ (Kd.C_below HR0.out HB1.out) HC0.out (Kd.C_below HR1.out HB1.out) HC1.out HQ.out).mono ?_); rintro e2 w2 hpost; obtain ⟨pp, rfl, hb2, himp⟩ := hpost; have HB2 := Aside0.mk (below_then HB1.out HB1.out.size hb2); have BP2 := Aside0.mk (blk_below BP1.out hb2); obtain ⟨wg, gx, g0, g1, g2, g3, g4, hbg, rfl, hew⟩ := himp rfl; have HBG := Aside0.mk (below_then HB1.out HB1.out.size hbg); have HED := Aside0.mk (show ExpD wg w2 gx g0 g1 g2 g3 g4 (fun y => (M0 y).getD []) (fun k => k < wg.heap.size) (fun _ => none) from hew.expD); clear himp hew hb2 hbg hz0_1 hz1_1; have hz0_2 : w2.cell? ⟨gp, 0, none⟩ = some (.slice A0 l0.length c0) := (blk_cell BP2.out 0).trans rfl) | (go_at_call 64; (with_reducible refine (expanded_calls k wg gx g0 g1 g2 g3 g4 (fun y => (M0 y).getD []) k l0 A0 c0 (fun k => k < wg.heap.size) (fun _ => none) D1 rr _ HED.out (Kd.V_mk HC0.out (Kd.C_F k32_heap (Kd.C_below HR0.out HBG.out))) HX.out).mono ?_); rintro e3 w3 ⟨v3, rfl, hn3, _, he3, _⟩; obtain ⟨A3, c3, rfl⟩ := Kd.N_slice hn3; have HB3 := Aside0.mk (below_then HBG.out HBG.out.size he3.below); have HC3 := Aside0.mk (Kd.N_reads' hn3).2.2; clear hn3 he3))
    clear HED BP1 BP2 hz0_2
    go_loopw [24, 7] (fun i v w' => ∃ (j : Nat), i = .int .i64 j ∧ Aside0 (j ≤ rr.length) ∧ Aside0 (Kd.S k32 32 w' w3.heap.size (fun _ => True) v (rr.take j)) ∧ Aside0 (Below w3.heap.size w3 w')) (fun i _ _ => rr.length - (intOf i).toNat)
    case atStart => exact ⟨0, rfl, ⟨Nat.zero_le _⟩, ⟨by simpa using Kd.S_nil _ _ _ _ _⟩, ⟨Below.refl _ _⟩⟩
    case round =>
      obtain ⟨j, rfl, HJ, HO, HB⟩ := hrel
      by_cases hlt : j < rr.length
      · obtain ⟨ad, A4, c4, e, hx0, hx1, hx2, hl4, hk4⟩ := at_T32 (Kd.C_below HC3.out HB.out) (j : Int) (by omega) (by omega)
        cases e
        have hrd : rd_T32 rr (j : Int) = rr[j] := by simp [rd_T32, hlt]
        rw [hrd] at hx0 hx1 hx2 hl4 hk4
        have TK := Aside0.mk (List.take_succ_eq_append_getElem hlt)
        have HWX := HWL.out rr[j] (List.getElem_mem hlt)
        have HL4 := Aside0.mk hl4
        have HK4 := Aside0.mk hk4
        clear hrd hl4 hk4
        generalize rr[j] = x at *
        have HCW := Aside0.mk (show Clone_Word.f x.f1 = some x.f1 from by unfold Clone_Word.f; rw [if_pos (by omega)])
        clear HWX
        simp only [Int.toNat_natCast] at hx0 hx1 hx2
        have hlt' : decide ((j : Int) < (rr.length : Int)) = true := by simp; omega
        go_wp2_with (first | (go_at_call 65; (with_reducible refine (Clone_Word.calls A4 c4 x.f1 x.f1 _ (Kd.C_alloc HK4.out _) HL4.out HCW.out).mono ?_); rintro e5 w5 ⟨v5, rfl, hr5, hb5⟩; obtain ⟨A5, c5, rfl⟩ := Kd.R_slice hr5; have HB5a := Aside0.mk (below_then (below_alloc (Below.refl _ _) _) (below_alloc (Below.refl _ _) _).size hb5); have BK5 := Aside0.mk (blk_below (alloc_at _ _) hb5); have HB5 := Aside0.mk (below_then HB.out HB.out.size HB5a.out); have HW5 := Aside0.mk hr5; have HO5 := Aside0.mk (Kd.S_below (Kd.S_bound HO.out) HB5a.out); have LTO := Aside0.mk (Kd.S_lt HO.out); have GEW := Aside0.mk (show ∀ k, (Value.slice A5 x.f1.length c5).ownBlock = some k → wr.heap.size < k from fun k hk => Nat.lt_of_lt_of_le (below_alloc_lt wr _) (Kd.R_base hr5 k hk)); clear hr5 hb5; have hz0 : w5.cell? ⟨wr.heap.size, 0, none⟩ = some (.bool x.f0) := (blk_cell BK5.out 0).trans rfl; have hz1 : w5.cell? ⟨wr.heap.size, 1, none⟩ = some (.slice A4 x.f1.length c4) := (blk_cell BK5.out 1).trans rfl; have hz2 : w5.cell? ⟨wr.heap.size, 2, none⟩ = some (.string x.f2) := (blk_cell BK5.out 2).trans rfl; have hfr : w5.frozen? ⟨wr.heap.size, 1, none⟩ = false := blk_frozen BK5.out 1) | ((with_reducible refine gate_store (p := 31) rfl ?_); refine store_event (t := 30) (p := 31) (v := ?vo) (w1 := (w5.setCell ⟨wr.heap.size, 1, none⟩ (.slice A5 x.f1.length c5))) ?hg ?ho ?hn ?hr ?_; (case ho => rfl); (case hg => rfl); (case hn => rfl); (case hr => first | (go_simp; done) | (go_simp; rfl)); intro w6 e6; have BK6 := Aside0.mk (show w6.heap[wr.heap.size]? = some (.cells #[.bool x.f0, .slice A5 x.f1.length c5, .string x.f2] 32 (0, 0)) from by rw [e6]; exact blk_put BK5.out 1 _ rfl); have HB6 := Aside0.mk (show Below w3.heap.size w3 w6 from by rw [e6]; exact below_set HB5.out (HB.out.size)); have HW6 := Aside0.mk (show Kd.R k78 78 w6 w3.heap.size (fun k => some k = (Value.slice A5 x.f1.length c5).ownBlock) (.slice A5 x.f1.length c5) x.f1 from by rw [e6]; exact Kd.R_far (p := ⟨wr.heap.size, 1, none⟩) (Kd.R_tight rfl (Kd.R_lower HW5.out (Nat.le_trans HB.out.size (Nat.le_of_lt (below_alloc_lt wr _))))) (fun k hk e => by have := GEW.out k hk.symm; simp only at e; omega) _); have HO6 := Aside0.mk (show Kd.S k32 32 w6 w3.heap.size (fun k => True ∧ ¬ some k = (Value.slice A5 x.f1.length c5).ownBlock) u7 (rr.take j) from by rw [e6]; exact Kd.S_mono (Kd.S_far (p := ⟨wr.heap.size, 1, none⟩) HO5.out (fun k hk e => by have := hk.2.2.1; simp only at e; omega) _) (fun k hk => ⟨trivial, fun e => by have := GEW.out k e.symm; have := hk.2.2.1; omega⟩)); clear e6 hz0 hz1 hz2 hfr; have hz0 : w6.cell? ⟨wr.heap.size, 0, none⟩ = some (.bool x.f0) := (blk_cell BK6.out 0).trans rfl; have hz1 : w6.cell? ⟨wr.heap.size, 1, none⟩ = some (.slice A5 x.f1.length c5) := (blk_cell BK6.out 1).trans rfl; have hz2 : w6.cell? ⟨wr.heap.size, 2, none⟩ = some (.string x.f2) := (blk_cell BK6.out 2).trans rfl) | ((with_reducible refine gate_builtin (b := .append) (xs := #[.tmp 32, .tmp 34]) rfl ?_); (try (refine gate_guard (by rfl) ?_; dsimp only)); at_builtin; refine Kd.S_append k32 (w0 := w3) w3.heap.size rfl (.tmp 32) (.tmp 34) 35 32 (.agg #[(.bool false), (.slice none 0 0), (.string ⟨#[]⟩)]) 48 rfl Try.underlying35 info32 rfl (by decide) (by omega) u7 (rr.take j) x [.bool x.f0, .slice A5 x.f1.length c5, .string x.f2] (fun _ => True) (fun k => some k = (Value.slice A5 x.f1.length c5).ownBlock) rfl rfl ?aP (fun k hk => ⟨trivial, fun e => by have h1 := LTO.out k e.symm; have h2 := GEW.out k hk.symm; omega⟩) (fun _ _ => trivial) HO6.out HB6.out HB6.out.size ?aL ?_; (case aP => exact k32_mkM _ _ _ x HW6.out); (case aL => have := HLN.out; simp only [List.length_take]; omega); intro v7 w7 ho hb hg hat; have HO7 := Aside0.mk (show Kd.S k32 32 w7 w3.heap.size (fun _ => True) v7 (rr.take (j + 1)) from by rw [TK.out]; exact ho); have HB7 := Aside0.mk hb; clear ho hb hg hat))
        go_roundw
        case rel => exact ⟨j + 1, by rw [wrap_succ hlt (by have := HLN.out; omega)], ⟨by omega⟩, ⟨HO7.out⟩, ⟨HB7.out⟩⟩
        case measure => rw [wrap_succ hlt (by have := HLN.out; omega)]; simp only [intOf, Int.toNat_natCast]; omega
      · have hlt' : decide ((j : Int) < (rr.length : Int)) = false := by simp; omega
        have HOx := Aside0.mk (show Kd.S k32 32 wr w3.heap.size (fun _ => True) u7 rr from by have h_ := HO.out; rw [List.take_of_length_le (by omega)] at h_; exact h_)
        clear HO
        go_wp2
        go_ret2
        exact ⟨_, rfl, Kd.S_lower HOx.out HB3.out.size, below_then HB3.out HB3.out.size HB.out⟩
  · have H4 := H.out
    simp only [if_neg he, Option.some.injEq, Prod.mk.injEq] at H4
    obtain ⟨rfl, rfl⟩ := H4
    have hne : (e0 == 0) = false := beq_eq_false_iff_ne.mpr he
    have hne2 : (e0 != 0) = true := bne_iff_ne.mpr he
    clear H he
    go_enter Try.func28, Try.ntmps28
    go_wp2_with (first | ((with_reducible refine gate_dst (N := 1) rfl ?_); refine box_event ?hg (N := 1) ?hd (cs := #[.slice A0 l0.length c0, .slice A1 l1.length c1]) (t := 54) ?hr ?_; (case hd => rfl); (case hg => rfl); (case hr => first | (go_simp; done) | (go_simp; rfl)); intro gp hgp w1 hbox hb; have BP1 := Aside0.mk hbox; have HB1 := Aside0.mk hb; clear hgp hbox hb; have hz0_1 : w1.cell? ⟨gp, 0, none⟩ = some (.slice A0 l0.length c0) := (blk_cell BP1.out 0).trans rfl; have hz1_1 : w1.cell? ⟨gp, 1, none⟩ = some (.slice A1 l1.length c1) := (blk_cell BP1.out 1).trans rfl) | (go_at_call 63; (with_reducible refine (checked_calls k A0 c0 l0 A1 c1 l1 e0 z0 M0 S0 _ (Kd.C_below HR0.out HB1.out) HC0.out (Kd.C_below HR1.out HB1.out) HC1.out HQ.out).mono ?_); rintro e2 w2 hpost; obtain ⟨pp, rfl, hb2, himp⟩ := hpost; have HB2 := Aside0.mk (below_then HB1.out HB1.out.size hb2); have BP2 := Aside0.mk (blk_below BP1.out hb2); clear himp hb2))
    go_ret2
    exact ⟨_, rfl, Kd.S_nil _ _ _ _ _, HB2.out⟩
end Go.Proofs.Ytehkhbnhmehobaa.P
namespace Go.Proofs.Ytehkhbnhmehobaa.P
open Go.RowKit Go.Proofs.YtehkhbnhmehobaaW.PrintWords Go.Proofs.YtehkhbnhmehobaaW.PrintLast Go.Proofs.YtehkhbnhmehobaaW.PrintMore
attribute [local go_sem] max2_int min2_int max_two min_two max_three min_three max_four min_four
set_option linter.unusedVariables false
set_option linter.unusedSimpArgs false
def swarflaw43_word.f (a0 : Int) (a1 : Int) : Option (Int × Int) := some (a0, wrap64 (1000 * a1))
set_option maxHeartbeats 8000000 in
set_option maxRecDepth 100000 in
theorem swarflaw43_word.calls (a0 : Int) (a1 : Int) (r1 : Int) (r2 : Int) (w : World) (h : swarflaw43_word.f a0 a1 = some (r1, r2)) :
  Calls Try.prog 44 #[.int .u8 a0, .int .i64 a1] w fun e w' => e = .returned (.agg #[.int .u8 r1, .int .i64 r2]) ∧ Below w.heap.size w w' := by
 have hu78 := Try.underlying78
 have HB := Aside0.mk (Below.refl w.heap.size w)
 have H : (some (a0, wrap64 (1000 * a1))) = some (r1, r2) := h
 clear h
 simp only [Option.some.injEq, Prod.mk.injEq] at H
 obtain ⟨rfl, rfl⟩ := H
 go_enter Try.func44, Try.ntmps44
 go_wp2_with (first | ((with_reducible refine gate_dst (N := 4) rfl ?_); refine box_event ?hg (N := 4) ?hd (cs := #[.int .u8 0, .int .i64 0]) (t := 78) ?hr ?_; (case hd => rfl); (case hg => rfl); (case hr => first | (go_simp; done) | (go_simp; rfl)); intro gb447 hg w3 hbox hb; have n0_ := Aside0.mk (below_step yB hb); have n1_ := Aside0.mk (hbox); have n2_ := Aside0.mk ((yG hg : w.heap.size ≤ gb447)); have n3_ := Aside0.mk ((yG hg : w.heap.size ≤ gb447)); clear HB; have HB := n0_; have BK447 := n1_; have GW447 := n2_; have GE447 := n3_; clear n0_ n1_ n2_ n3_; clear hb hbox hg; have hcz4_0 : w3.cell? ⟨gb447, 0, none⟩ = some (.int .u8 0) := (blk_cell BK447.out 0).trans rfl; have hcz4_1 : w3.cell? ⟨gb447, 1, none⟩ = some (.int .i64 0) := (blk_cell BK447.out 1).trans rfl; have hfz4_0 := blk_frozen BK447.out 0; have hfz4_1 := blk_frozen BK447.out 1))
 refine bodyPost_ret (results_cell_row rfl _ _ gb447 78 #[.int .u8 a0, .int .i64 (wrap64 (1000 * a1))] (0, 0) _ rfl (by (with_reducible repeat (first | refine blk_drewN ?_ _ | refine blk_drew ?_ | refine blk_alloc ?_ _)); refine blk_put (cs := #[.int .u8 a0, .int .i64 0]) ?_ 1 _ rfl; (with_reducible repeat (first | refine blk_drewN ?_ _ | refine blk_drew ?_ | refine blk_alloc ?_ _)); refine blk_put (cs := #[.int .u8 0, .int .i64 0]) ?_ 0 _ rfl; (with_reducible repeat (first | refine blk_drewN ?_ _ | refine blk_drew ?_ | refine blk_alloc ?_ _)); exact BK447.out) Try.underlying78 rfl (by kernel_rfl)) rfl ?_
 exact ⟨by first | rfl | (simp [errW_none, errW_some] <;> rfl) | (simp [*, errW_none, errW_some] <;> rfl), yB⟩
end Go.Proofs.Ytehkhbnhmehobaa.P
namespace Go.Proofs.Ytehkhbnhmehobaa.P
open Go.RowKit Go.Proofs.YtehkhbnhmehobaaW.PrintWords Go.Proofs.YtehkhbnhmehobaaW.PrintLast Go.Proofs.YtehkhbnhmehobaaW.PrintMore
attribute [local go_sem] max2_int min2_int max_two min_two max_three min_three max_four min_four
set_option linter.unusedVariables false
set_option linter.unusedSimpArgs false
def subprogram_beginning.f (a0_0 : Bool) (l0_1 : List (S78)) (a0_2 : ByteArray) : Option (Int × Bool) := (subprogram_plain.f a0_0 l0_1 a0_2).bind fun t450 => (if t450 = true then (if 0 < (l0_1.length : Int) then (if ((rd_T78 l0_1 0).f0) = 79 then ((subprogram_whole.f ((rd_T78 l0_1 0).f1)).bind fun bt453 => (some (bt453.1, bt453.2))) else (some (0, false))) else (none)) else (some (0, false)))
set_option maxHeartbeats 8000000 in
set_option maxRecDepth 100000 in
theorem subprogram_beginning.calls (a0_0 : Bool) (A0_1 : Option Addr) (c0_1 : Nat) (l0_1 : List (S78)) (a0_2 : ByteArray) (r1 : Int) (r2 : Bool) (w : World) (hr0_1 : Kd.C k78 w A0_1 l0_1.length l0_1) (hc0_1 : l0_1.length ≤ c0_1) (h : subprogram_beginning.f a0_0 l0_1 a0_2 = some (r1, r2)) :
  Calls Try.prog 76 #[.agg #[.bool a0_0, .slice A0_1 l0_1.length c0_1, .string a0_2]] w fun e w' => e = .returned (.tuple #[.int .i64 r1, .bool r2]) ∧ Below w.heap.size w w' := by
 have hu32 := Try.underlying32
 have HR0_1 := Aside0.mk hr0_1
 have HC0_1 := Aside0.mk hc0_1
 clear hr0_1 hc0_1
 have HB := Aside0.mk (Below.refl w.heap.size w)
 have H : ((subprogram_plain.f a0_0 l0_1 a0_2).bind fun t450 => (if t450 = true then (if 0 < (l0_1.length : Int) then (if ((rd_T78 l0_1 0).f0) = 79 then ((subprogram_whole.f ((rd_T78 l0_1 0).f1)).bind fun bt453 => (some (bt453.1, bt453.2))) else (some (0, false))) else (none)) else (some (0, false)))) = some (r1, r2) := h
 clear h
 replace H := Option.bind_eq_some_iff.mp H
 obtain ⟨t450, A20, H⟩ := H
 replace H : (if t450 = true then (if 0 < (l0_1.length : Int) then (if ((rd_T78 l0_1 0).f0) = 79 then ((subprogram_whole.f ((rd_T78 l0_1 0).f1)).bind fun bt453 => (some (bt453.1, bt453.2))) else (some (0, false))) else (none)) else (some (0, false))) = some (r1, r2) := H
 have A2 := Aside0.mk A20
 clear A20
 by_cases c3 : t450 = true
 ·subst c3
  have H1 : (if 0 < (l0_1.length : Int) then (if ((rd_T78 l0_1 0).f0) = 79 then ((subprogram_whole.f ((rd_T78 l0_1 0).f1)).bind fun bt453 => (some (bt453.1, bt453.2))) else (some (0, false))) else (none)) = some (r1, r2) := by rw [if_pos rfl] at H; exact H
  clear H
  have H := H1
  clear H1
  by_cases c4 : 0 < (l0_1.length : Int)
  ·rw [if_pos c4] at H
   have c4b0 : decide (0 < (l0_1.length : Int)) = true := decide_eq_true c4
   have c4b1 : decide (0 < l0_1.length) = true := decide_eq_true (by omega)
   clear c4
   by_cases c5 : ((rd_T78 l0_1 0).f0) = 79
   ·rw [if_pos c5] at H
    have c5b0 : (((rd_T78 l0_1 0).f0) == 79) = true := beq_iff_eq.mpr c5
    have c5b1 : (((rd_T78 l0_1 0).f0) != 79) = false := bne_eq_false_iff_eq.mpr c5
    clear c5
    replace H := Option.bind_eq_some_iff.mp H
    obtain ⟨⟨t453, t454⟩, A60, H⟩ := H
    replace H : (some (t453, t454)) = some (r1, r2) := H
    have A6 := Aside0.mk A60
    clear A60
    simp only [Option.some.injEq, Prod.mk.injEq] at H
    obtain ⟨rfl, rfl⟩ := H
    go_enter Try.func76, Try.ntmps76
    go_wp2_with (first | ((with_reducible refine gate_dst (N := 1) rfl ?_); refine box_event ?hg (N := 1) ?hd (cs := #[.bool a0_0, .slice A0_1 l0_1.length c0_1, .string a0_2]) (t := 32) ?hr ?_; (case hd => rfl); (case hg => rfl); (case hr => first | (go_simp; done) | (go_simp; rfl)); intro gb449 hg w7 hbox hb; have n0_ := Aside0.mk (below_step yB hb); have n1_ := Aside0.mk (hbox); have n2_ := Aside0.mk ((yG hg : w.heap.size ≤ gb449)); have n3_ := Aside0.mk ((yG hg : w.heap.size ≤ gb449)); clear HB; have HB := n0_; have BK449 := n1_; have GW449 := n2_; have GE449 := n3_; clear n0_ n1_ n2_ n3_; clear hb hbox hg; have hcz8_0 : w7.cell? ⟨gb449, 0, none⟩ = some (.bool a0_0) := (blk_cell BK449.out 0).trans rfl; have hcz8_1 : w7.cell? ⟨gb449, 1, none⟩ = some (.slice A0_1 l0_1.length c0_1) := (blk_cell BK449.out 1).trans rfl; have hcz8_2 : w7.cell? ⟨gb449, 2, none⟩ = some (.string a0_2) := (blk_cell BK449.out 2).trans rfl; have hfz8_0 := blk_frozen BK449.out 0; have hfz8_1 := blk_frozen BK449.out 1; have hfz8_2 := blk_frozen BK449.out 2) | ((with_reducible refine gate_callee (f := 78) rfl ?_); refine goesL_ (some 5) rfl rfl Try.func78 (by kernel_rfl) rfl #[.agg #[.bool a0_0, .slice A0_1 l0_1.length c0_1, .string a0_2]] rfl yQ ?_; (with_reducible refine (subprogram_plain.calls a0_0 _ _ l0_1 a0_2 true _ ?side1 ?side2 A2.out).mono ?_); (case side1 => exact yC HR0_1.out); (case side2 => exact HC0_1.out); rintro e w9 ⟨rfl, hb⟩; refine ⟨_, rfl, ?_⟩; have n0_ := Aside0.mk (blk_below (g := gb449) (o := .cells #[.bool a0_0, .slice A0_1 l0_1.length c0_1, .string a0_2] 32 (0, 0)) yK hb); have n1_ := Aside0.mk (below_step yB hb); clear BK449; clear HB; have BK449 := n0_; have HB := n1_; clear n0_ n1_; (try clear hb); (try clear hb2); (try clear hk); (try clear hi); have hcz10_0 : w9.cell? ⟨gb449, 0, none⟩ = some (.bool a0_0) := (blk_cell BK449.out 0).trans rfl; have hcz10_1 : w9.cell? ⟨gb449, 1, none⟩ = some (.slice A0_1 l0_1.length c0_1) := (blk_cell BK449.out 1).trans rfl; have hcz10_2 : w9.cell? ⟨gb449, 2, none⟩ = some (.string a0_2) := (blk_cell BK449.out 2).trans rfl; have hfz10_0 := blk_frozen BK449.out 0; have hfz10_1 := blk_frozen BK449.out 1; have hfz10_2 := blk_frozen BK449.out 2; have p451 : 0 ≤ (0 : Int) := (by omega); have q451 : 0 < (l0_1.length : Int) := of_decide_eq_true yP; obtain ⟨ad451, e451, hx451_0, hx451_1⟩ := at_T78 HR0_1.out 0 p451 q451; cases e451; have qi451 : (0 < l0_1.length) = True := eq_true (by omega); (try rw [show ((0 : Int)).toNat = 0 from rfl] at hx451_0); (try rw [show 0 * 2 = 0 from rfl] at hx451_0); (try rw [Addr.add_zero'] at hx451_0); (try rw [show ((0 : Int)).toNat = 0 from rfl] at hx451_1); (try rw [show 0 * 2 = 0 from rfl] at hx451_1); (try rw [Addr.add_zero'] at hx451_1); replace hx451_0 := (HB.out.cell (yL hx451_0)).trans hx451_0; replace hx451_1 := (HB.out.cell (yL hx451_1)).trans hx451_1; replace p451 := eq_true p451; replace q451 := eq_true q451; have p452 : 0 ≤ (0 : Int) := (by omega); have q452 : 0 < (l0_1.length : Int) := of_decide_eq_true yP; obtain ⟨ad452, e452, hx452_0, hx452_1⟩ := at_T78 HR0_1.out 0 p452 q452; obtain rfl : ad451 = ad452 := (by injection e452); have qi452 : (0 < l0_1.length) = True := eq_true (by omega); (try rw [show ((0 : Int)).toNat = 0 from rfl] at hx452_0); (try rw [show 0 * 2 = 0 from rfl] at hx452_0); (try rw [Addr.add_zero'] at hx452_0); (try rw [show ((0 : Int)).toNat = 0 from rfl] at hx452_1); (try rw [show 0 * 2 = 0 from rfl] at hx452_1); (try rw [Addr.add_zero'] at hx452_1); replace hx452_0 := (HB.out.cell (yL hx452_0)).trans hx452_0; replace hx452_1 := (HB.out.cell (yL hx452_1)).trans hx452_1; replace p452 := eq_true p452; replace q452 := eq_true q452) | ((with_reducible refine gate_callee (f := 59) rfl ?_); refine goesL_ (some 20) rfl rfl Try.func59 (by kernel_rfl) rfl #[.int .i64 ((rd_T78 l0_1 0).f1)] rfl yQ ?_; (with_reducible refine (subprogram_whole.calls ((rd_T78 l0_1 0).f1) t453 t454 _ A6.out).mono ?_); rintro e w' ⟨rfl, ⟨nd, rfl⟩⟩; refine ⟨_, rfl, ?_⟩))
    go_ret2
    exact ⟨by first | rfl | (simp [errW_none, errW_some] <;> rfl) | (simp [*, errW_none, errW_some] <;> rfl), yB⟩
   ·rw [if_neg c5] at H
    have c5b0 : (((rd_T78 l0_1 0).f0) == 79) = false := beq_eq_false_iff_ne.mpr c5
    have c5b1 : (((rd_T78 l0_1 0).f0) != 79) = true := bne_iff_ne.mpr c5
    simp only [Option.some.injEq, Prod.mk.injEq] at H
    obtain ⟨rfl, rfl⟩ := H
    go_enter Try.func76, Try.ntmps76
    go_wp2_with (first | ((with_reducible refine gate_dst (N := 1) rfl ?_); refine box_event ?hg (N := 1) ?hd (cs := #[.bool a0_0, .slice A0_1 l0_1.length c0_1, .string a0_2]) (t := 32) ?hr ?_; (case hd => rfl); (case hg => rfl); (case hr => first | (go_simp; done) | (go_simp; rfl)); intro gb449 hg w11 hbox hb; have n0_ := Aside0.mk (below_step yB hb); have n1_ := Aside0.mk (hbox); have n2_ := Aside0.mk ((yG hg : w.heap.size ≤ gb449)); have n3_ := Aside0.mk ((yG hg : w.heap.size ≤ gb449)); clear HB; have HB := n0_; have BK449 := n1_; have GW449 := n2_; have GE449 := n3_; clear n0_ n1_ n2_ n3_; clear hb hbox hg; have hcz12_0 : w11.cell? ⟨gb449, 0, none⟩ = some (.bool a0_0) := (blk_cell BK449.out 0).trans rfl; have hcz12_1 : w11.cell? ⟨gb449, 1, none⟩ = some (.slice A0_1 l0_1.length c0_1) := (blk_cell BK449.out 1).trans rfl; have hcz12_2 : w11.cell? ⟨gb449, 2, none⟩ = some (.string a0_2) := (blk_cell BK449.out 2).trans rfl; have hfz12_0 := blk_frozen BK449.out 0; have hfz12_1 := blk_frozen BK449.out 1; have hfz12_2 := blk_frozen BK449.out 2) | ((with_reducible refine gate_callee (f := 78) rfl ?_); refine goesL_ (some 5) rfl rfl Try.func78 (by kernel_rfl) rfl #[.agg #[.bool a0_0, .slice A0_1 l0_1.length c0_1, .string a0_2]] rfl yQ ?_; (with_reducible refine (subprogram_plain.calls a0_0 _ _ l0_1 a0_2 true _ ?side1 ?side2 A2.out).mono ?_); (case side1 => exact yC HR0_1.out); (case side2 => exact HC0_1.out); rintro e w13 ⟨rfl, hb⟩; refine ⟨_, rfl, ?_⟩; have n0_ := Aside0.mk (blk_below (g := gb449) (o := .cells #[.bool a0_0, .slice A0_1 l0_1.length c0_1, .string a0_2] 32 (0, 0)) yK hb); have n1_ := Aside0.mk (below_step yB hb); clear BK449; clear HB; have BK449 := n0_; have HB := n1_; clear n0_ n1_; (try clear hb); (try clear hb2); (try clear hk); (try clear hi); have hcz14_0 : w13.cell? ⟨gb449, 0, none⟩ = some (.bool a0_0) := (blk_cell BK449.out 0).trans rfl; have hcz14_1 : w13.cell? ⟨gb449, 1, none⟩ = some (.slice A0_1 l0_1.length c0_1) := (blk_cell BK449.out 1).trans rfl; have hcz14_2 : w13.cell? ⟨gb449, 2, none⟩ = some (.string a0_2) := (blk_cell BK449.out 2).trans rfl; have hfz14_0 := blk_frozen BK449.out 0; have hfz14_1 := blk_frozen BK449.out 1; have hfz14_2 := blk_frozen BK449.out 2; have p451 : 0 ≤ (0 : Int) := (by omega); have q451 : 0 < (l0_1.length : Int) := of_decide_eq_true yP; obtain ⟨ad451, e451, hx451_0, hx451_1⟩ := at_T78 HR0_1.out 0 p451 q451; cases e451; have qi451 : (0 < l0_1.length) = True := eq_true (by omega); (try rw [show ((0 : Int)).toNat = 0 from rfl] at hx451_0); (try rw [show 0 * 2 = 0 from rfl] at hx451_0); (try rw [Addr.add_zero'] at hx451_0); (try rw [show ((0 : Int)).toNat = 0 from rfl] at hx451_1); (try rw [show 0 * 2 = 0 from rfl] at hx451_1); (try rw [Addr.add_zero'] at hx451_1); replace hx451_0 := (HB.out.cell (yL hx451_0)).trans hx451_0; replace hx451_1 := (HB.out.cell (yL hx451_1)).trans hx451_1; replace p451 := eq_true p451; replace q451 := eq_true q451))
    go_ret2
    exact ⟨by first | rfl | (simp [errW_none, errW_some] <;> rfl) | (simp [*, errW_none, errW_some] <;> rfl), yB⟩
  ·rw [if_neg c4] at H
   exact absurd H (by simp)
 ·replace c3 := Bool.eq_false_iff.mpr c3
  subst c3
  have H1 : (some (0, false)) = some (r1, r2) := by rw [if_neg (show ¬ (false = true) by decide)] at H; exact H
  clear H
  have H := H1
  clear H1
  simp only [Option.some.injEq, Prod.mk.injEq] at H
  obtain ⟨rfl, rfl⟩ := H
  go_enter Try.func76, Try.ntmps76
  go_wp2_with (first | ((with_reducible refine gate_dst (N := 1) rfl ?_); refine box_event ?hg (N := 1) ?hd (cs := #[.bool a0_0, .slice A0_1 l0_1.length c0_1, .string a0_2]) (t := 32) ?hr ?_; (case hd => rfl); (case hg => rfl); (case hr => first | (go_simp; done) | (go_simp; rfl)); intro gb449 hg w15 hbox hb; have n0_ := Aside0.mk (below_step yB hb); have n1_ := Aside0.mk (hbox); have n2_ := Aside0.mk ((yG hg : w.heap.size ≤ gb449)); have n3_ := Aside0.mk ((yG hg : w.heap.size ≤ gb449)); clear HB; have HB := n0_; have BK449 := n1_; have GW449 := n2_; have GE449 := n3_; clear n0_ n1_ n2_ n3_; clear hb hbox hg; have hcz16_0 : w15.cell? ⟨gb449, 0, none⟩ = some (.bool a0_0) := (blk_cell BK449.out 0).trans rfl; have hcz16_1 : w15.cell? ⟨gb449, 1, none⟩ = some (.slice A0_1 l0_1.length c0_1) := (blk_cell BK449.out 1).trans rfl; have hcz16_2 : w15.cell? ⟨gb449, 2, none⟩ = some (.string a0_2) := (blk_cell BK449.out 2).trans rfl; have hfz16_0 := blk_frozen BK449.out 0; have hfz16_1 := blk_frozen BK449.out 1; have hfz16_2 := blk_frozen BK449.out 2) | ((with_reducible refine gate_callee (f := 78) rfl ?_); refine goesL_ (some 5) rfl rfl Try.func78 (by kernel_rfl) rfl #[.agg #[.bool a0_0, .slice A0_1 l0_1.length c0_1, .string a0_2]] rfl yQ ?_; (with_reducible refine (subprogram_plain.calls a0_0 _ _ l0_1 a0_2 false _ ?side1 ?side2 A2.out).mono ?_); (case side1 => exact yC HR0_1.out); (case side2 => exact HC0_1.out); rintro e w17 ⟨rfl, hb⟩; refine ⟨_, rfl, ?_⟩; have n0_ := Aside0.mk (blk_below (g := gb449) (o := .cells #[.bool a0_0, .slice A0_1 l0_1.length c0_1, .string a0_2] 32 (0, 0)) yK hb); have n1_ := Aside0.mk (below_step yB hb); clear BK449; clear HB; have BK449 := n0_; have HB := n1_; clear n0_ n1_; (try clear hb); (try clear hb2); (try clear hk); (try clear hi)))
  go_ret2
  exact ⟨by first | rfl | (simp [errW_none, errW_some] <;> rfl) | (simp [*, errW_none, errW_some] <;> rfl), yB⟩
end Go.Proofs.Ytehkhbnhmehobaa.P
