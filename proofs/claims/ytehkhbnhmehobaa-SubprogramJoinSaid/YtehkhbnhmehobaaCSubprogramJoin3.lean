/- A part of the proof of SubprogramJoin. -/
import Derived.Lib.SliceRun
import Derived.Test.YtehkhbnhmehobaaCSubprogramJoin1
import Derived.Test.YtehkhbnhmehobaaCSubprogramJoin2
namespace Go.Proofs.Ytehkhbnhmehobaa.P
open Go.RowKit Go.Proofs.YtehkhbnhmehobaaW.PrintWords Go.Proofs.YtehkhbnhmehobaaW.PrintLast Go.Proofs.YtehkhbnhmehobaaW.PrintMore
set_option linter.unusedVariables false
set_option linter.unusedSimpArgs false
def Clone_Block.f (l0 : List (S32)) : Option ((List (S32))) := if l0.length < 2932031007402 then some l0 else none
set_option maxHeartbeats 1000000 in
set_option maxRecDepth 100000 in
theorem Clone_Block.calls (P0_ : Nat → Prop) (A0 : Option Addr) (c0 : Nat) (l0 : List (S32)) (r : List (S32)) (w : World) (hs0 : Kd.V k32 32 w w.heap.size (fun k_ => P0_ k_) (.slice A0 l0.length c0) l0) (h : Clone_Block.f l0 = some r) :
    Calls Try.prog 33 #[.slice A0 l0.length c0] w fun e w' => ∃ v0_ : Value, e = .returned (v0_) ∧ Kd.N k32 32 w' w.heap.size (fun k_ => (P0_ k_ ∨ w.heap.size ≤ k_)) v0_ r ∧ Below w.heap.size w w' := by
  unfold Clone_Block.f at h
  by_cases hl : l0.length < 2932031007402
  rotate_left
  · rw [if_neg hl] at h; cases h
  rw [if_pos hl] at h
  obtain rfl := Option.some.inj h
  have HL := Aside0.mk hl
  have HS := Aside0.mk hs0
  clear hs0 hl h
  have qT : ∀ (w : World) (a : Option Addr) (n c n' c' : Nat), (binOp .eql 35 (.slice a n c) (.slice none n' c')).run Try.prog w = .ok (.bool a.isNone) w := fun w a n c n' c' => Lib.run_eql_slice_nil w _ _ a n c n' c' Try.underlying35
  cases A0 with
  | none =>
    have h0 : l0 = [] := by
      have hc := (Kd.V_reads' HS.out).2.2
      obtain ⟨_, _, hn⟩ := hc
      cases l0 with
      | nil => rfl
      | cons x l => obtain ⟨ad, he, _⟩ := hn (by simp); cases he
    subst h0
    go_enter Try.func33, Try.ntmps33
    go_wp2
    go_ret
    exact ⟨_, rfl, Kd.N_nil _ _ _ _ _, Below.refl _ _⟩
  | some ad =>
    go_enter Try.func33, Try.ntmps33
    go_wp2_with (first | ((with_reducible refine gate_dst (N := 5) rfl ?_); refine Kd.N_lit k32 w.heap.size 32 ?hg (N' := 5) ?hd (xs := ([] : List (S32))) (inner := []) (ok := (fun k_ => (P0_ k_ ∨ w.heap.size ≤ k_))) (okp := (fun k_ => (P0_ k_ ∨ w.heap.size ≤ k_))) ?hr ?hp (fun _ hk => hk) (.inr (Nat.le_refl _)) (Below.refl _ _) (Nat.le_refl _) (by simp) ?_; (case hd => rfl); (case hg => rfl); (case hr => first | (go_simp; done) | (go_simp; rfl)); (case hp => exact (Reps.none _ _)); intro v5 w4 ho5 hb hg_ hnew_; have HO5 := Aside0.mk ho5; have HB4 := Aside0.mk hb; have HN5 := Aside0.mk (show ∃ b, v5.ownBlock = some b ∧ w.heap.size ≤ b from hnew_); have HS4 := Aside0.mk (Kd.V_elder' HS.out (Kd.N_base ho5) hb); clear hg_ hnew_ hb ho5) | ((with_reducible refine gate_builtin (b := .append) (xs := #[.tmp 5, .tmp 6]) rfl ?_); at_builtin; refine Kd.N_append_rows k32 (w0 := w) w.heap.size rfl (.tmp 5) (.tmp 6) 35 32 (.agg #[(.bool false), (.slice none 0 0), (.string ⟨#[]⟩)]) 48 rfl Try.underlying35 info32 rfl (by decide) (by omega) v5 [] l0 _ _ _ (fun k_ => (P0_ k_ ∨ w.heap.size ≤ k_)) (fun k_ => (fun k_ => (P0_ k_ ∨ w.heap.size ≤ k_)) k_ ∧ some k_ ≠ (v5 : Value).ownBlock) rfl rfl ?aO ?aR (fun _ hk => hk) ?aF ?aB ?aS ?aL ?_; (case aO => exact HO5.out); (case aR => exact Kd.V_F (Kd.V_mono HS4.out (fun k_ hk => ⟨.inl hk.1, hk.2⟩))); (case aF => exact fun k_ hk => .inr (Nat.le_trans HB4.out.size hk)); (case aB => exact HB4.out); (case aS => exact HB4.out.size); (case aL => have := HL.out; simp only [List.length_nil]; omega); intro v7 w5 ho7 hb hg_ hat_; have HO7 := Aside0.mk ho7; have HB5 := Aside0.mk hb; clear hg_ hat_ hb ho7))
    go_ret
    exact ⟨_, rfl, HO7.out, HB5.out⟩
def Clone_Word.f (l0 : List (S78)) : Option ((List (S78))) := if l0.length < 8796093022208 then some l0 else none
set_option maxHeartbeats 1000000 in
set_option maxRecDepth 100000 in
theorem Clone_Word.calls (A0 : Option Addr) (c0 : Nat) (l0 : List (S78)) (r : List (S78)) (w : World) (hr0 : Kd.C k78 w A0 l0.length l0) (hc0 : l0.length ≤ c0) (h : Clone_Word.f l0 = some r) :
    Calls Try.prog 65 #[.slice A0 l0.length c0] w fun e w' => ∃ v0_ : Value, e = .returned (v0_) ∧ Kd.R k78 78 w' w.heap.size (fun _ => True) v0_ r ∧ Below w.heap.size w w' := by
  unfold Clone_Word.f at h
  by_cases hl : l0.length < 8796093022208
  rotate_left
  · rw [if_neg hl] at h; cases h
  rw [if_pos hl] at h
  obtain rfl := Option.some.inj h
  have HL := Aside0.mk hl
  have HR := Aside0.mk hr0
  clear hr0 hl h
  have qT : ∀ (w : World) (a : Option Addr) (n c n' c' : Nat), (binOp .eql 30 (.slice a n c) (.slice none n' c')).run Try.prog w = .ok (.bool a.isNone) w := fun w a n c n' c' => Lib.run_eql_slice_nil w _ _ a n c n' c' Try.underlying30
  cases A0 with
  | none =>
    have h0 : l0 = [] := by
      obtain ⟨_, _, hn⟩ := HR.out
      cases l0 with
      | nil => rfl
      | cons x l => obtain ⟨ad, he, _⟩ := hn (by simp); cases he
    subst h0
    go_enter Try.func65, Try.ntmps65
    go_wp2
    go_ret
    exact ⟨_, rfl, Kd.R_nil _ _ _ _ _, Below.refl _ _⟩
  | some ad =>
    go_enter Try.func65, Try.ntmps65
    go_wp2_with (first | ((with_reducible refine gate_dst (N := 5) rfl ?_); refine Kd.R_lit k78 w.heap.size 78 ?hg (N := 5) ?hd (xs := ([] : List (S78))) (inner := []) (ok := (fun _ => True)) (okp := (fun _ => False)) ?hr ?hp (fun _ hk => hk.elim) trivial (Below.refl _ _) (Nat.le_refl _) (by simp) ?_; (case hd => rfl); (case hg => rfl); (case hr => first | (go_simp; done) | (go_simp; rfl)); (case hp => exact (Reps.none _ _)); intro v5 w4 ho5 hb hg_ hnew_; have HO5 := Aside0.mk ho5; have HB4 := Aside0.mk hb; have HR4 := Aside0.mk (Kd.C_below HR.out hb); clear hg_ hnew_ hb ho5) | ((with_reducible refine gate_builtin (b := .append) (xs := #[.tmp 5, .tmp 6]) rfl ?_); at_builtin; refine Kd.R_append_rows k78 (Rr := fun x c => k78.K w4 x c) (w0 := w) w.heap.size rfl (.tmp 5) (.tmp 6) 30 78 (.agg #[(.int .u8 0), (.int .i64 0)]) 16 rfl Try.underlying30 info78 rfl (by decide) (by omega) v5 [] l0 _ _ _ (fun _ => True) (fun _ => False) rfl rfl ?aO ?aR ?aK (fun _ hk => hk.elim) (fun _ _ => trivial) ?aB ?aS ?aL ?_; (case aO => exact HO5.out); (case aR => exact HR4.out); (case aK => exact fun x cs hk => by rw [k78_open hk]; exact k78_mkM _ _ _ _); (case aB => exact HB4.out); (case aS => exact HB4.out.size); (case aL => have := HL.out; simp only [List.length_nil]; omega); intro v7 w5 ho7 hb hg_ hat_; have HO7 := Aside0.mk ho7; have HB5 := Aside0.mk hb; clear hg_ hat_ hb ho7))
    go_ret
    exact ⟨_, rfl, HO7.out, HB5.out⟩
end Go.Proofs.Ytehkhbnhmehobaa.P
namespace Go.Proofs.Ytehkhbnhmehobaa.P
open Go.RowKit Go.Proofs.YtehkhbnhmehobaaW.PrintWords Go.Proofs.YtehkhbnhmehobaaW.PrintLast Go.Proofs.YtehkhbnhmehobaaW.PrintMore
attribute [local go_sem] max2_int min2_int max_two min_two max_three min_three max_four min_four
set_option linter.unusedVariables false
set_option linter.unusedSimpArgs false
mutual
def subprogram_Fold.j0 : Nat → List (S32) → Int → Int → Bool → Option ((List (S32)) × (List (S81)) × Int)
 | 0, _, _, _, _ => none
 | k + 1, x0, x1, x2, x20 => if x20 = true then (some (([] : List (S32)), ([] : List (S81)), 1)) else (if x2 ≤ (wrap64 ((x0.length : Int) / 2)) then ((subprogram_first.f k x0 x2).bind fun t416 => (subprogram_Fold.j1 k x0 x1 x2 t416)) else (subprogram_Fold.j1 k x0 x1 x2 (-1)))
def subprogram_Fold.j1 : Nat → List (S32) → Int → Int → Int → Option ((List (S32)) × (List (S81)) × Int)
 | 0, _, _, _, _ => none
 | k + 1, x0, x1, x2, x8 => if x8 < 0 then ((Clone_Block.f x0).bind fun t417 => (some (t417, ([] : List (S81)), 0))) else (subprogram_Fold.l0 k x0 x1 x2 x8 ([] : List (S32)) 0)
def subprogram_Fold.l0 : Nat → List (S32) → Int → Int → Int → List (S32) → Int → Option ((List (S32)) × (List (S81)) × Int)
 | 0, _, _, _, _, _, _ => none
 | k + 1, x0, x1, x2, x8, x9, x10 => if x10 < (x0.length : Int) then (if (wrap64 (x10 + x2)) ≤ (x0.length : Int) then ((subprogram_run.f k x0 x8 x10 x2).bind fun t420 => (if t420 = true then (if x9.length < 2932031007402 then (subprogram_Fold.l0 k x0 x1 x2 x8 (x9 ++ [(⟨false, (([(⟨77, 98000⟩ : S78), (⟨80, wrap64 (1000 * x1)⟩ : S78)] : List (S78))), (⟨#[]⟩ : ByteArray)⟩ : S32)]) (wrap64 (x10 + x2))) else (none)) else (if 0 ≤ x10 then (if x9.length < 2932031007402 then (subprogram_Fold.l0 k x0 x1 x2 x8 (x9 ++ [(⟨(rd_T32 x0 x10).f0, (rd_T32 x0 x10).f1, (rd_T32 x0 x10).f2⟩ : S32)]) (wrap64 (x10 + 1))) else (none)) else (none)))) else (if 0 ≤ x10 then (if x9.length < 2932031007402 then (subprogram_Fold.l0 k x0 x1 x2 x8 (x9 ++ [(⟨(rd_T32 x0 x10).f0, (rd_T32 x0 x10).f1, (rd_T32 x0 x10).f2⟩ : S32)]) (wrap64 (x10 + 1))) else (none)) else (none))) else (if 0 ≤ x8 then (if x8 ≤ (wrap64 (x8 + x2)) then (if (wrap64 (x8 + x2)) ≤ (x0.length : Int) then ((Clone_Block.f ((x0.take ((wrap64 (x8 + x2)) : Int).toNat).drop (x8 : Int).toNat)).bind fun t440 => (some (x9, (([(⟨x1, t440⟩ : S81)] : List (S81))), 0))) else (none)) else (none)) else (none))
end
def subprogram_Fold.f (k : Nat) (l0 : List (S32)) (a1 : Int) (a2 : Int) : Option ((List (S32)) × (List (S81)) × Int) := if a1 < 1 then (subprogram_Fold.j0 k l0 a1 a2 true) else (if a1 > 9999 then (subprogram_Fold.j0 k l0 a1 a2 true) else (subprogram_Fold.j0 k l0 a1 a2 (decide (a2 < 1))))
set_option maxHeartbeats 8000000 in
set_option maxRecDepth 100000 in
theorem subprogram_Fold.calls (k : Nat) (P0_ : Nat → Prop) (A0 : Option Addr) (c0 : Nat) (l0 : List (S32)) (a1 : Int) (a2 : Int) (r1 : List (S32)) (r2 : List (S81)) (r3 : Int) (w : World) (hs0 : Kd.V k32 32 w w.heap.size (fun k_ => P0_ k_) (.slice A0 l0.length c0) l0) (h : subprogram_Fold.f k l0 a1 a2 = some (r1, r2, r3)) :
  Calls Try.prog 32 #[.slice A0 l0.length c0, .int .i64 a1, .int .i64 a2] w fun e w' => ∃ v0_ v1_ : Value, e = .returned (.tuple #[.agg #[v0_, v1_], .int .i64 r3]) ∧ Kd.N k32 32 w' w.heap.size (fun k_ => (P0_ k_ ∨ w.heap.size ≤ k_) ∧ some k_ ≠ (v1_ : Value).ownBlock) v0_ r1 ∧ Kd.N k81 81 w' w.heap.size (fun k_ => (P0_ k_ ∨ w.heap.size ≤ k_) ∧ some k_ ≠ (v0_ : Value).ownBlock) v1_ r2 ∧ Below w.heap.size w w' := by
 have hu54 := Try.underlying54
 have hu78 := Try.underlying78
 have hu32 := Try.underlying32
 have hu81 := Try.underlying81
 have HO0 := Aside0.mk (show Kd.V k32 32 w w.heap.size (fun k_ => (P0_ k_ ∨ w.heap.size ≤ k_)) (.slice A0 l0.length c0) l0 from Kd.V_mono hs0 (fun k_ hk => .inl hk))
 have HB := Aside0.mk (Below.refl w.heap.size w)
 have H : (if a1 < 1 then (subprogram_Fold.j0 k l0 a1 a2 true) else (if a1 > 9999 then (subprogram_Fold.j0 k l0 a1 a2 true) else (subprogram_Fold.j0 k l0 a1 a2 (decide (a2 < 1))))) = some (r1, r2, r3) := h
 clear h
 have HC4 := Aside0.mk H
 clear H
 go_enter Try.func32, Try.ntmps32
 go_upto_region 1 with (first | ((with_reducible refine gate_dst (N := 6) rfl ?_); refine yX 6 #[.slice none 0 0, .slice none 0 0] 54 ?_; intro gb415 hg w5 hbox hb; replace HO0 := Aside0.mk (Kd.V_below (Kd.V_elderB (yV HO0.out) gb415 (Nat.le_of_eq hg.symm)) hb); have BK415 := Aside0.mk (hbox); have GE415 := Aside0.mk ((yG hg : w.heap.size ≤ gb415)); replace HB := Aside0.mk (below_step yB hb); clear hb hbox hg))
 (try simp only [Act.put, List.setIfInBounds_toArray, List.set_cons_zero, List.set_cons_succ])
 go_cut [20] (fun v20 wc => ∃ (kq : Nat) (x20_3 : Bool), v20 = .bool x20_3 ∧ Aside0 (subprogram_Fold.j0 kq l0 a1 a2 x20_3 = some (r1, r2, r3)) ∧ Aside0 (kq ≤ k) ∧ Aside0 (Kd.V k32 32 wc w.heap.size (fun k_ => (P0_ k_ ∨ w.heap.size ≤ k_) ∧ k_ ≠ gb415) (.slice A0 l0.length c0) l0) ∧ Aside0 (wc.heap[gb415]? = some (.cells #[(.slice none 0 0), (.slice none 0 0)] 54 (0, 0))) ∧ Aside0 (Below w.heap.size w wc))
 case first =>
  have H := HC4.out
  clear HC4
  by_cases c6 : a1 < 1
  ·rw [if_pos c6] at H
   have c6b0 := decide_eq_true c6
   clear c6
   (first | rw [c6b0] | (simp only [i64_w, i32_w]; rw [c6b0]) | skip)
   have H' := Aside0.mk H
   clear H
   go_wp2
   go_meet
   case rel => exact ⟨_, (true), yS, H', ⟨by first | omega | exact Nat.le_refl _⟩, ⟨by refine yV ?_; exact HO0.out⟩, ⟨by refine yH ?_; exact BK415.out⟩, ⟨yB⟩⟩
  rw [if_neg c6] at H
  have c6b0 := decide_eq_false c6
  clear c6
  (first | rw [c6b0] | (simp only [i64_w, i32_w]; rw [c6b0]) | skip)
  by_cases c7 : a1 > 9999
  ·rw [if_pos c7] at H
   have c7b0 := decide_eq_true c7
   clear c7
   have H' := Aside0.mk H
   clear H
   go_wp2
   go_meet
   case rel => exact ⟨_, (true), yS, H', ⟨by first | omega | exact Nat.le_refl _⟩, ⟨by refine yV ?_; exact HO0.out⟩, ⟨by refine yH ?_; exact BK415.out⟩, ⟨yB⟩⟩
  rw [if_neg c7] at H
  have c7b0 := decide_eq_false c7
  clear c7
  have H' := Aside0.mk H
  clear H
  go_wp2
  go_meet
  case rel => exact ⟨_, (decide (a2 < 1)), yS, H', ⟨by first | omega | exact Nat.le_refl _⟩, ⟨by refine yV ?_; exact HO0.out⟩, ⟨by refine yH ?_; exact BK415.out⟩, ⟨yB⟩⟩
 case rest =>
  clear HC4
  try clear p2
  try clear c3
  try clear c6
  try clear c6b0
  try clear c7
  try clear c7b0
  obtain ⟨kq, x20_3, rfl, HA, HJ3, HO_0, BK415, HB⟩ := hcut
  cases kq with
  | zero => exact absurd HA.out (by simp [subprogram_Fold.j0])
  | succ kj3 =>
   have H := HA.out
   clear HA
   simp only [subprogram_Fold.j0] at H
   by_cases c8 : x20_3 = true
   ·subst c8
    rw [if_pos rfl] at H
    simp only [Option.some.injEq, Prod.mk.injEq] at H
    obtain ⟨rfl, rfl, rfl⟩ := H
    have hcz9_0 := yZ0 BK415.out
    have hcz9_1 := yZ1 BK415.out
    have hfz9_0 := blk_frozen BK415.out 0
    have hfz9_1 := blk_frozen BK415.out 1
    go_wp2
    refine bodyPost_ret (results_ct rfl _ _ gb415 54 #[.slice none 0 0, .slice none 0 0] (0, 0) _ rfl (by refine yH ?_; refine blk_put (cs := #[.slice none 0 0, .slice none 0 0]) ?_ 1 _ rfl; refine yH ?_; refine blk_put (cs := #[.slice none 0 0, .slice none 0 0]) ?_ 0 _ rfl; refine yH ?_; exact BK415.out) Try.underlying54 rfl (by kernel_rfl)) rfl ?_
    exact ⟨_, _, yE, by first | exact Kd.S_nil _ _ _ _ _ | exact Kd.N_nil _ _ _ _ _ | exact Kd.V_nil _ _ _ _ _ | exact Kd.Q_nil _ _ _ _ _ | exact Kd.R_nil _ _ _ _ _, by first | exact Kd.R_nil _ _ _ _ _ | exact Kd.N_nil _ _ _ _ _ | exact Kd.V_nil _ _ _ _ _ | exact Kd.Q_nil _ _ _ _ _ | exact Kd.S_nil _ _ _ _ _, yB⟩
   replace c8 := Bool.eq_false_iff.mpr c8
   subst c8
   replace H : (if a2 ≤ (wrap64 ((l0.length : Int) / 2)) then ((subprogram_first.f kj3 l0 a2).bind fun t416 => (subprogram_Fold.j1 kj3 l0 a1 a2 t416)) else (subprogram_Fold.j1 kj3 l0 a1 a2 (-1))) = some (r1, r2, r3) := by rw [if_neg (show ¬ (false = true) by decide)] at H; exact H
   have HC10 := Aside0.mk H
   clear H
   go_upto_if 26 with (fail)
   go_cut [8] (fun v8 wc => ∃ (kq : Nat) (x8_9 : Int), v8 = .int .i64 x8_9 ∧ Aside0 (subprogram_Fold.j1 kq l0 a1 a2 x8_9 = some (r1, r2, r3)) ∧ Aside0 (kq ≤ kj3) ∧ Aside0 (Kd.V k32 32 wc w.heap.size (fun k_ => (P0_ k_ ∨ w.heap.size ≤ k_) ∧ k_ ≠ gb415) (.slice A0 l0.length c0) l0) ∧ Aside0 (wc.heap[gb415]? = some (.cells #[(.slice none 0 0), (.slice none 0 0)] 54 (0, 0))) ∧ Aside0 (Below w.heap.size w wc))
   case first =>
    have H := HC10.out
    clear HC10
    by_cases c11 : a2 ≤ (wrap64 ((l0.length : Int) / 2))
    ·rw [if_pos c11] at H
     have c11b0 := decide_eq_true c11
     clear c11
     (first | rw [c11b0] | (simp only [i64_w, i32_w]; rw [c11b0]) | skip)
     replace H := Option.bind_eq_some_iff.mp H
     obtain ⟨t416, A120, H⟩ := H
     have A12 := Aside0.mk A120
     clear A120
     have H' := Aside0.mk H
     clear H
     go_wp2_with (first | ((with_reducible refine gate_callee (f := 67) rfl ?_); refine goesL_ (some 29) rfl rfl Try.func67 (by kernel_rfl) rfl #[.slice A0 l0.length c0, .int .i64 a2] rfl yQ ?_; (with_reducible refine (subprogram_first.calls kj3 _ _ l0 a2 t416 _ ?side1 ?side2 A12.out).mono ?_); (case side1 => repeat (first | exact (Kd.V_reads' HO_0.out).2.2 | (with_reducible refine Kd.C_alloc ?_ _) | (with_reducible refine Kd.C_drewN ?_ _) | (with_reducible refine Kd.C_drew ?_))); (case side2 => exact (Kd.V_reads' HO_0.out).2.1); rintro e w13 ⟨rfl, hb⟩; refine ⟨_, rfl, ?_⟩; replace HO_0 := Aside0.mk (Kd.V_below (yV HO_0.out) hb); replace BK415 := Aside0.mk (blk_below (g := gb415) yK hb); replace HB := Aside0.mk (below_step yB hb); (try clear hb)))
     go_meet
     case rel => exact ⟨_, (t416), yS, H', ⟨by have := HJ3.out; first | omega | exact Nat.le_refl _⟩, ⟨by refine yV ?_; exact HO_0.out⟩, ⟨by refine yH ?_; exact BK415.out⟩, ⟨yB⟩⟩
    rw [if_neg c11] at H
    have c11b0 := decide_eq_false c11
    clear c11
    (first | rw [c11b0] | (simp only [i64_w, i32_w]; rw [c11b0]) | skip)
    have H' := Aside0.mk H
    clear H
    go_wp2
    go_meet
    case rel => exact ⟨_, ((-1)), yS, H', ⟨by have := HJ3.out; first | omega | exact Nat.le_refl _⟩, ⟨by refine yV ?_; exact HO_0.out⟩, ⟨by refine yH ?_; exact BK415.out⟩, ⟨yB⟩⟩
   case rest =>
    clear HC10
    try clear c1
    try clear p2
    try clear c3
    try clear c6
    try clear c6b0
    try clear p6
    try clear c7
    try clear c7b0
    try clear c8
    try clear c11
    try clear c11b0
    try clear hcz9_0
    try clear hcz9_1
    try clear hfz9_0
    try clear hfz9_1
    try clear p2
    obtain ⟨kq, x8_9, rfl, HA, HJ9, HO_0, BK415, HB⟩ := hcut
    cases kq with
    | zero => exact absurd HA.out (by simp [subprogram_Fold.j1])
    | succ kj9 =>
     have H := HA.out
     clear HA
     simp only [subprogram_Fold.j1] at H
     by_cases c14 : x8_9 < 0
     ·rw [if_pos c14] at H
      have c14b0 := decide_eq_true c14
      clear c14
      replace H := Option.bind_eq_some_iff.mp H
      obtain ⟨t417, A150, H⟩ := H
      have A15 := Aside0.mk A150
      clear A150
      simp only [Option.some.injEq, Prod.mk.injEq] at H
      obtain ⟨rfl, rfl, rfl⟩ := H
      go_wp2_with (first | ((with_reducible refine gate_callee (f := 33) rfl ?_); refine goesL_ (some 33) rfl rfl Try.func33 (by kernel_rfl) rfl #[.slice A0 l0.length c0] rfl yQ ?_; (with_reducible refine (Clone_Block.calls (fun k_ => ((P0_ k_ ∨ w.heap.size ≤ k_) ∧ k_ ≠ gb415)) _ _ l0 t417 _ ?side1 A15.out).mono ?_); (case side1 => exact HO_0.out); rintro e w16 ⟨v418, rfl, ho0, hb⟩; refine ⟨_, rfl, ?_⟩; replace HO_0 := Aside0.mk (Kd.V_elder' (yV HO_0.out) (by first | exact Kd.N_base ho0 | exact Kd.S_base ho0) hb); have HO419 := Aside0.mk (Kd.N_lower (Kd.N_mono (ok' := fun k_ => (P0_ k_ ∨ w.heap.size ≤ k_) ∧ k_ ≠ gb415) ho0 (fun k_ hk_ => ⟨Or.elim hk_ (fun hs_ => hs_.1) (fun hn_ => (.inr (Nat.le_trans (below_size yB) hn_))), Or.elim hk_ (fun hs_ => hs_.2) (fun hn_ => (Kd.freshB (g := gb415) yK k_ hn_))⟩)) (below_size yB)); replace BK415 := Aside0.mk (blk_below (g := gb415) yK hb); replace HB := Aside0.mk (below_step yB hb); (try clear hb); (try clear ho0); obtain ⟨Ao17, co17, eo17⟩ := Kd.N_slice HO419.out; subst eo17; have hcz18_0 := yZ0 BK415.out; have hcz18_1 := yZ1 BK415.out; have hfz18_0 := blk_frozen BK415.out 0; have hfz18_1 := blk_frozen BK415.out 1))
      refine bodyPost_ret (results_ct rfl _ _ gb415 54 #[.slice Ao17 t417.length co17, .slice none 0 0] (0, 0) _ rfl (by refine yH ?_; refine blk_put (cs := #[.slice Ao17 t417.length co17, .slice none 0 0]) ?_ 1 _ rfl; refine yH ?_; refine blk_put (cs := #[.slice none 0 0, .slice none 0 0]) ?_ 0 _ rfl; refine yH ?_; exact BK415.out) Try.underlying54 rfl (by kernel_rfl)) rfl ?_
      exact ⟨_, _, yE, by refine yN ?_; exact Kd.N_mono (Kd.N_far (p := ⟨gb415, 1, none⟩) (Kd.N_far (p := ⟨gb415, 0, none⟩) (Kd.N_mono HO419.out (fun k_ hk => (⟨hk, hk.2⟩ : _ ∧ k_ ≠ gb415))) (fun _ hk => hk.2) (.slice Ao17 t417.length co17)) (fun _ hk => hk.2) (.slice none 0 0)) (fun _ hk => ⟨hk.1.1, (by simp [Value.ownBlock])⟩), by first | exact Kd.R_nil _ _ _ _ _ | exact Kd.N_nil _ _ _ _ _ | exact Kd.V_nil _ _ _ _ _ | exact Kd.Q_nil _ _ _ _ _ | exact Kd.S_nil _ _ _ _ _, yB⟩
     rw [if_neg c14] at H
     have c14b0 := decide_eq_false c14
     clear c14
     have H' := Aside0.mk H
     clear H
     go_wp2
     go_loopg [9, 10] kj9 (fun kq v9 v10 w' => ∃ (x9_3 : List (S32)) (x10_3 : Int), v10 = .int .i64 x10_3 ∧ Aside0 (subprogram_Fold.l0 kq l0 a1 a2 x8_9 x9_3 x10_3 = some (r1, r2, r3)) ∧ Aside0 (kq ≤ kj9) ∧ Aside0 (Kd.V k32 32 w' w.heap.size (fun k_ => (P0_ k_ ∨ w.heap.size ≤ k_) ∧ some k_ ≠ (v9 : Value).ownBlock ∧ k_ ≠ gb415) (.slice A0 l0.length c0) l0) ∧ Aside0 (Kd.N k32 32 w' w.heap.size (fun k_ => (P0_ k_ ∨ w.heap.size ≤ k_) ∧ k_ ≠ gb415) v9 x9_3) ∧ Aside0 (w'.heap[gb415]? = some (.cells #[(.slice none 0 0), (.slice none 0 0)] 54 (0, 0))) ∧ Aside0 (Below w.heap.size w w'))
     case atStart => exact ⟨(([] : List (S32))), (0), yS, H', ⟨Nat.le_refl _⟩, ⟨by refine yV ?_; exact Kd.V_mono HO_0.out (fun _ hk => ⟨hk.1, ⟨(by simp [Value.ownBlock]), hk.2⟩⟩)⟩, ⟨by first | exact Kd.S_nil _ _ _ _ _ | exact Kd.N_nil _ _ _ _ _ | exact Kd.V_nil _ _ _ _ _ | exact Kd.Q_nil _ _ _ _ _ | exact Kd.R_nil _ _ _ _ _⟩, ⟨by refine yH ?_; exact BK415.out⟩, ⟨yB⟩⟩
     case round =>
      clear H'
      try clear c1
      try clear p2
      try clear c3
      try clear c6
      try clear c6b0
      try clear p6
      try clear c7
      try clear c7b0
      try clear c8
      try clear c11
      try clear c11b0
      try clear c14
      try clear c14b0
      try clear hcz18_0
      try clear hcz18_1
      try clear hcz9_0
      try clear hcz9_1
      try clear hfz18_0
      try clear hfz18_1
      try clear hfz9_0
      try clear hfz9_1
      try clear p2
      try clear p6
      obtain ⟨x9_3, x10_3, rfl, HA, HK3, HO_0, HO_9, BK415, HB⟩ := hrel
      cases gk with
      | zero => exact absurd HA.out (by simp [subprogram_Fold.l0])
      | succ k3 =>
       have H := HA.out
       clear HA
       simp only [subprogram_Fold.l0] at H
       by_cases c19 : x10_3 < (l0.length : Int)
       ·rw [if_pos c19] at H
        have c19b0 := decide_eq_true c19
        clear c19
        by_cases c20 : (wrap64 (x10_3 + a2)) ≤ (l0.length : Int)
        ·rw [if_pos c20] at H
         have c20b0 := decide_eq_true c20
         clear c20
         replace H := Option.bind_eq_some_iff.mp H
         obtain ⟨t420, A210, H⟩ := H
         have A21 := Aside0.mk A210
         clear A210
         by_cases c22 : t420 = true
         ·subst c22
          rw [if_pos rfl] at H
          obtain ⟨y421, hy421⟩ : ∃ y_ : List (S78), y_ = (([(⟨77, 98000⟩ : S78), (⟨80, wrap64 (1000 * a1)⟩ : S78)] : List (S78))) := ⟨_, rfl⟩
          replace H : (if x9_3.length < 2932031007402 then (subprogram_Fold.l0 k3 l0 a1 a2 x8_9 (x9_3 ++ [(⟨false, y421, (⟨#[]⟩ : ByteArray)⟩ : S32)]) (wrap64 (x10_3 + a2))) else (none)) = some (r1, r2, r3) := by first | (rw [hy421]; with_reducible exact H) | (have H2_ := (Option.bind_some _ _).symm.trans H; rw [hy421]; with_reducible exact H2_) | (have H2_ := (Option.bind_some _ _).symm.trans H; with_reducible exact H2_) | with_reducible exact H | (rw [hy421]; exact H) | exact H
          have Ny421 := Aside0.mk hy421
          clear hy421
          by_cases c23 : x9_3.length < 2932031007402
          ·rw [if_pos c23] at H
           have LMc23 := Aside0.mk c23
           clear c23
           obtain ⟨y424, hy424⟩ : ∃ y_ : List (S32), y_ = (x9_3 ++ [(⟨false, y421, (⟨#[]⟩ : ByteArray)⟩ : S32)]) := ⟨_, rfl⟩
           replace H : (subprogram_Fold.l0 k3 l0 a1 a2 x8_9 y424 (wrap64 (x10_3 + a2))) = some (r1, r2, r3) := by first | (rw [hy424]; with_reducible exact H) | (have H2_ := (Option.bind_some _ _).symm.trans H; rw [hy424]; with_reducible exact H2_) | (have H2_ := (Option.bind_some _ _).symm.trans H; with_reducible exact H2_) | with_reducible exact H | (rw [hy424]; exact H) | exact H
           have Ny424 := Aside0.mk hy424
           clear hy424
           have H' := Aside0.mk H
           clear H
           go_wp2_with (first | (go_at_call 68; (with_reducible refine (subprogram_run.calls k3 _ _ l0 x8_9 x10_3 a2 true _ ?side1 ?side2 A21.out).mono ?_); (case side1 => repeat (first | exact (Kd.V_reads' HO_0.out).2.2 | (with_reducible refine Kd.C_alloc ?_ _) | (with_reducible refine Kd.C_drewN ?_ _) | (with_reducible refine Kd.C_drew ?_))); (case side2 => exact (Kd.V_reads' HO_0.out).2.1); rintro e w24 ⟨rfl, hb⟩; replace HO_0 := Aside0.mk (Kd.V_below (yV HO_0.out) hb); replace HO_9 := Aside0.mk (Kd.N_below (yN HO_9.out) hb); replace BK415 := Aside0.mk (blk_below (g := gb415) yK hb); replace HB := Aside0.mk (below_step yB hb); (try clear hb)) | ((with_reducible refine gate_dst (N := 57) rfl ?_); refine Kd.R_lit k78 _ 78 ?hg (N := 57) ?hd (xs := ([(⟨77, 98000⟩ : S78), (⟨80, wrap64 (1000 * a1)⟩ : S78)] : List (S78))) (inner := [.int .u8 77, .int .i64 98000, .int .u8 80, .int .i64 (wrap64 (1000 * a1))]) (ok := fun _ => True) (okp := fun _ => True) ?hr ?hp (fun _ hk => hk) trivial (Below.refl _ _) (Nat.le_refl _) (by simp) ?_; (case hd => rfl); (case hg => rfl); (case hr => first | (go_simp; done) | (go_simp; rfl)); (case hp => exact (Reps.c2 (show Kd.M k78 _ _ _ (⟨77, 98000⟩ : S78) [.int .u8 77, .int .i64 98000] from (k78_mkM _ _ _ (⟨77, 98000⟩ : S78) )) (Reps.c2 (show Kd.M k78 _ _ _ (⟨80, wrap64 (1000 * a1)⟩ : S78) [.int .u8 80, .int .i64 (wrap64 (1000 * a1))] from (k78_mkM _ _ _ (⟨80, wrap64 (1000 * a1)⟩ : S78) )) (Reps.none _ _)))); intro v422 w25 ho26 hb hg_ hnew_; clear hg_ hnew_; (first | rw [← Ny421.out] at ho26 | (simp only [Int.reduceToNat] at ho26; rw [← Ny421.out] at ho26)); replace HO_0 := Aside0.mk (Kd.V_elder' (yV HO_0.out) (Kd.R_base ho26) hb); replace HO_9 := Aside0.mk (Kd.N_elder' (yN HO_9.out) (Kd.R_base ho26) hb); have HO423 := Aside0.mk (Kd.R_lower (Kd.R_newM (M := fun k_ => (w.heap.size ≤ k_)) ho26 (below_size yB) (fun k_ h_ => h_)) (below_size yB)); replace BK415 := Aside0.mk (blk_below (g := gb415) yK hb); replace HB := Aside0.mk (below_step yB hb); clear hb ho26; obtain ⟨Ao27, co27, eo27⟩ := Kd.R_slice HO423.out; subst eo27) | ((with_reducible refine gate_builtin (b := .append) (xs := #[.tmp 52, .tmp 59]) rfl ?_); at_builtin; refine Kd.N_append k32 (w0 := w) w.heap.size rfl (.tmp 52) (.tmp 59) 35 32 (.agg #[(.bool false), (.slice none 0 0), (.string ⟨#[]⟩)]) 48 rfl Try.underlying35 info32 rfl (by decide) (by omega) u9 x9_3 (⟨false, y421, (⟨#[]⟩ : ByteArray)⟩ : S32) [.bool false, .slice Ao27 y421.length co27, .string (⟨#[]⟩ : ByteArray)] (fun k_ => (P0_ k_ ∨ w.heap.size ≤ k_) ∧ k_ ≠ gb415) (fun k_ => ((fun k_ => (P0_ k_ ∨ w.heap.size ≤ k_) ∧ k_ ≠ gb415)) k_ ∧ some k_ ≠ (u9 : Value).ownBlock) rfl rfl ?aP (fun _ hk => hk) ?aF ?aO ?aB ?aS ?aL ?_; (case aP => exact (k32_mkF _ _ (⟨false, y421, (⟨#[]⟩ : ByteArray)⟩ : S32) (Kd.R_reads' (Kd.R_mono (ok' := (fun k_ => ((fun k_ => (P0_ k_ ∨ w.heap.size ≤ k_) ∧ k_ ≠ gb415)) k_ ∧ some k_ ≠ (u9 : Value).ownBlock)) (Kd.R_types (Kd.R_apart' (HO423.out) (Kd.N_typed HO_9.out) (by decide)) BK415.out (by decide)) (fun k_ hk => ⟨⟨(.inr (hk.1.1.1)), hk.2⟩, hk.1.2⟩))).2.1 (Kd.R_F (Kd.R_mono (ok' := (fun k_ => ((fun k_ => (P0_ k_ ∨ w.heap.size ≤ k_) ∧ k_ ≠ gb415)) k_ ∧ some k_ ≠ (u9 : Value).ownBlock)) (Kd.R_types (Kd.R_apart' (HO423.out) (Kd.N_typed HO_9.out) (by decide)) BK415.out (by decide)) (fun k_ hk => ⟨⟨(.inr (hk.1.1.1)), hk.2⟩, hk.1.2⟩))))); (case aB => exact yB); (case aF => exact (fun k_ hk => ⟨(.inr (Nat.le_trans (below_size yB) hk)), Kd.freshB (g := gb415) yK k_ hk⟩)); (case aO => exact (yN (Kd.N_mono HO_9.out (fun _ hk => ⟨hk.1.1, hk.1.2⟩)))); (case aS => exact (below_size yB)); (case aL => have := LMc23.out; omega); intro v425 w28 ho hb hg hat; rw [← Ny424.out] at ho; have n0_ := Aside0.mk (Kd.V_afterv (ok := (fun k_ => (P0_ k_ ∨ w.heap.size ≤ k_) ∧ some k_ ≠ (.slice Ao27 y421.length co27 : Value).ownBlock ∧ k_ ≠ gb415)) (yV (Kd.V_mono HO_0.out (fun _ hk => ⟨⟨hk.1.1, ⟨hk.2, hk.1.2.2⟩⟩, hk.1.2.1⟩))) hg hat); have n1_ := Aside0.mk (blk_grown (g := gb415) yK hg (Kd.N_ne HO_9.out BK415.out (by decide))); have n2_ := Aside0.mk (hb); have n3_ := Aside0.mk (ho); clear HO_0; clear BK415; clear HB; clear HO_9; clear HO423; have HO_0 := n0_; have BK415 := n1_; have HB := n2_; have HO426 := n3_; clear n0_ n1_ n2_ n3_; clear ho hb hg hat))
           go_roundg k3
           case measure => have := HJ3.out; have := HJ9.out; have := HK3.out; omega
           case rel => exact ⟨(y424), (wrap64 (x10_3 + a2)), yS, H', ⟨by have := HJ3.out; have := HJ9.out; have := HK3.out; omega⟩, ⟨by refine yV ?_; exact Kd.V_mono HO_0.out (fun _ hk => ⟨hk.1.1, ⟨hk.2, hk.1.2.2⟩⟩)⟩, ⟨by refine yN ?_; exact HO426.out⟩, ⟨by refine yH ?_; exact BK415.out⟩, ⟨yB⟩⟩
          rw [if_neg c23] at H
          exact absurd H (by simp)
         replace c22 := Bool.eq_false_iff.mpr c22
         subst c22
         replace H : (if 0 ≤ x10_3 then (if x9_3.length < 2932031007402 then (subprogram_Fold.l0 k3 l0 a1 a2 x8_9 (x9_3 ++ [(⟨(rd_T32 l0 x10_3).f0, (rd_T32 l0 x10_3).f1, (rd_T32 l0 x10_3).f2⟩ : S32)]) (wrap64 (x10_3 + 1))) else (none)) else (none)) = some (r1, r2, r3) := by rw [if_neg (show ¬ (false = true) by decide)] at H; exact H
         by_cases c29 : 0 ≤ x10_3
         ·rw [if_pos c29] at H
          have c29b0 := decide_eq_true c29
          clear c29
          by_cases c30 : x9_3.length < 2932031007402
          ·rw [if_pos c30] at H
           have LMc30 := Aside0.mk c30
           clear c30
           obtain ⟨y428, hy428⟩ : ∃ y_ : List (S32), y_ = (x9_3 ++ [(⟨(rd_T32 l0 x10_3).f0, (rd_T32 l0 x10_3).f1, (rd_T32 l0 x10_3).f2⟩ : S32)]) := ⟨_, rfl⟩
           replace H : (subprogram_Fold.l0 k3 l0 a1 a2 x8_9 y428 (wrap64 (x10_3 + 1))) = some (r1, r2, r3) := by first | (rw [hy428]; with_reducible exact H) | (have H2_ := (Option.bind_some _ _).symm.trans H; rw [hy428]; with_reducible exact H2_) | (have H2_ := (Option.bind_some _ _).symm.trans H; with_reducible exact H2_) | with_reducible exact H | (rw [hy428]; exact H) | exact H
           have Ny428 := Aside0.mk hy428
           clear hy428
           have H' := Aside0.mk H
           clear H
           go_wp2_with (first | (go_at_call 68; (with_reducible refine (subprogram_run.calls k3 _ _ l0 x8_9 x10_3 a2 false _ ?side1 ?side2 A21.out).mono ?_); (case side1 => repeat (first | exact (Kd.V_reads' HO_0.out).2.2 | (with_reducible refine Kd.C_alloc ?_ _) | (with_reducible refine Kd.C_drewN ?_ _) | (with_reducible refine Kd.C_drew ?_))); (case side2 => exact (Kd.V_reads' HO_0.out).2.1); rintro e w31 ⟨rfl, hb⟩; replace HO_0 := Aside0.mk (Kd.V_below (yV HO_0.out) hb); replace HO_9 := Aside0.mk (Kd.N_below (yN HO_9.out) hb); replace BK415 := Aside0.mk (blk_below (g := gb415) yK hb); replace HB := Aside0.mk (below_step yB hb); (try clear hb); have p427 : 0 ≤ (x10_3 : Int) := yD; have q427 : x10_3 < (l0.length : Int) := yD; obtain ⟨ad427, A427_1, c427_1, e427, hx427_0, hx427_1, hx427_2, hl427_1, hi427_1⟩ := at_T32 (Kd.V_reads' HO_0.out).2.2 x10_3 p427 q427; cases e427; obtain ⟨ce427, hce427, hMe427, hcc427⟩ := Kd.V_get HO_0.out z32 x10_3 p427 (by first | exact q427 | exact yD | (have e_ := (Kd.V_reads' HO_0.out).1; omega)); obtain ⟨ua427_1, uc427_1, rfl, ul427_1, ge427_1⟩ := k32_openF hMe427; have hv427_1 := hcc427 1 _ rfl; rw [add_field _ _ 1 (by omega)] at hv427_1; replace hv427_1 := Option.some.inj (hv427_1.symm.trans hx427_1); injection hv427_1 with hva_ hvn_ hvc_; rw [hva_] at ge427_1; rw [hvc_] at ul427_1; have HL427_1 := Aside0.mk (show Kd.V k78 78 _ w.heap.size _ _ ((rd_T32 l0 x10_3).f1) from Kd.V_mk ul427_1 ge427_1); clear hva_ hvn_ hvc_ ge427_1 ul427_1; clear hcc427 hce427; have HR427_1 := Aside0.mk hi427_1; have HC427_1 := Aside0.mk hl427_1; clear hi427_1 hl427_1; replace p427 := eq_true p427; replace q427 := eq_true q427) | ((with_reducible refine gate_builtin (b := .append) (xs := #[.tmp 64, .tmp 69]) rfl ?_); at_builtin; refine Kd.N_append k32 (w0 := w) w.heap.size rfl (.tmp 64) (.tmp 69) 35 32 (.agg #[(.bool false), (.slice none 0 0), (.string ⟨#[]⟩)]) 48 rfl Try.underlying35 info32 rfl (by decide) (by omega) u9 x9_3 (⟨(rd_T32 l0 x10_3).f0, (rd_T32 l0 x10_3).f1, (rd_T32 l0 x10_3).f2⟩ : S32) [.bool ((rd_T32 l0 x10_3).f0), .slice A427_1 ((rd_T32 l0 x10_3).f1).length c427_1, .string ((rd_T32 l0 x10_3).f2)] (fun k_ => (P0_ k_ ∨ w.heap.size ≤ k_) ∧ k_ ≠ gb415) (fun k_ => ((fun k_ => (P0_ k_ ∨ w.heap.size ≤ k_) ∧ k_ ≠ gb415)) k_ ∧ some k_ ≠ (u9 : Value).ownBlock) rfl rfl ?aP (fun _ hk => hk) ?aF ?aO ?aB ?aS ?aL ?_; (case aP => exact (k32_mkF _ _ (⟨(rd_T32 l0 x10_3).f0, (rd_T32 l0 x10_3).f1, (rd_T32 l0 x10_3).f2⟩ : S32) (Kd.V_reads' (Kd.V_mono (ok' := (fun k_ => ((fun k_ => (P0_ k_ ∨ w.heap.size ≤ k_) ∧ k_ ≠ gb415)) k_ ∧ some k_ ≠ (u9 : Value).ownBlock)) (HL427_1.out) (fun k_ hk => ⟨⟨hk.1, hk.2.2⟩, hk.2.1⟩))).2.1 (Kd.V_F (Kd.V_mono (ok' := (fun k_ => ((fun k_ => (P0_ k_ ∨ w.heap.size ≤ k_) ∧ k_ ≠ gb415)) k_ ∧ some k_ ≠ (u9 : Value).ownBlock)) (HL427_1.out) (fun k_ hk => ⟨⟨hk.1, hk.2.2⟩, hk.2.1⟩))))); (case aB => exact yB); (case aF => exact (fun k_ hk => ⟨(.inr (Nat.le_trans (below_size yB) hk)), Kd.freshB (g := gb415) yK k_ hk⟩)); (case aO => exact (yN HO_9.out)); (case aS => exact (below_size yB)); (case aL => have := LMc30.out; omega); intro v429 w32 ho hb hg hat; rw [← Ny428.out] at ho; have n0_ := Aside0.mk (Kd.V_afterv (ok := (fun k_ => (P0_ k_ ∨ w.heap.size ≤ k_) ∧ k_ ≠ gb415)) (yV (Kd.V_mono HO_0.out (fun _ hk => ⟨⟨hk.1, hk.2.2⟩, hk.2.1⟩))) hg hat); have n1_ := Aside0.mk (blk_grown (g := gb415) yK hg (Kd.N_ne HO_9.out BK415.out (by decide))); have n2_ := Aside0.mk (Kd.V_afterv (ok := (fun k_ => (P0_ k_ ∨ w.heap.size ≤ k_) ∧ k_ ≠ gb415)) (yV (Kd.V_mono HL427_1.out (fun _ hk => ⟨⟨hk.1, hk.2.2⟩, hk.2.1⟩))) hg hat); have n3_ := Aside0.mk (hb); have n4_ := Aside0.mk (ho); clear HO_0; clear BK415; clear HL427_1; clear HB; clear HO_9; have HO_0 := n0_; have BK415 := n1_; have HL427_1 := n2_; have HB := n3_; have HO430 := n4_; clear n0_ n1_ n2_ n3_ n4_; clear ho hb hg hat))
           go_roundg k3
           case measure => have := HJ3.out; have := HJ9.out; have := HK3.out; omega
           case rel => exact ⟨(y428), (wrap64 (x10_3 + 1)), yS, H', ⟨by have := HJ3.out; have := HJ9.out; have := HK3.out; omega⟩, ⟨by refine yV ?_; exact Kd.V_mono HO_0.out (fun _ hk => ⟨hk.1.1, ⟨hk.2, hk.1.2⟩⟩)⟩, ⟨by refine yN ?_; exact HO430.out⟩, ⟨by refine yH ?_; exact BK415.out⟩, ⟨yB⟩⟩
          rw [if_neg c30] at H
          exact absurd H (by simp)
         rw [if_neg c29] at H
         exact absurd H (by simp)
        rw [if_neg c20] at H
        have c20b0 := decide_eq_false c20
        clear c20
        by_cases c33 : 0 ≤ x10_3
        ·rw [if_pos c33] at H
         have c33b0 := decide_eq_true c33
         clear c33
         by_cases c34 : x9_3.length < 2932031007402
         ·rw [if_pos c34] at H
          have LMc34 := Aside0.mk c34
          clear c34
          obtain ⟨y432, hy432⟩ : ∃ y_ : List (S32), y_ = (x9_3 ++ [(⟨(rd_T32 l0 x10_3).f0, (rd_T32 l0 x10_3).f1, (rd_T32 l0 x10_3).f2⟩ : S32)]) := ⟨_, rfl⟩
          replace H : (subprogram_Fold.l0 k3 l0 a1 a2 x8_9 y432 (wrap64 (x10_3 + 1))) = some (r1, r2, r3) := by first | (rw [hy432]; with_reducible exact H) | (have H2_ := (Option.bind_some _ _).symm.trans H; rw [hy432]; with_reducible exact H2_) | (have H2_ := (Option.bind_some _ _).symm.trans H; with_reducible exact H2_) | with_reducible exact H | (rw [hy432]; exact H) | exact H
          have Ny432 := Aside0.mk hy432
          clear hy432
          have H' := Aside0.mk H
          clear H
          have p431 : 0 ≤ (x10_3 : Int) := yD
          have q431 : x10_3 < (l0.length : Int) := yD
          obtain ⟨ad431, A431_1, c431_1, e431, hx431_0, hx431_1, hx431_2, hl431_1, hi431_1⟩ := at_T32 (Kd.V_reads' HO_0.out).2.2 x10_3 p431 q431
          cases e431
          obtain ⟨ce431, hce431, hMe431, hcc431⟩ := Kd.V_get HO_0.out z32 x10_3 p431 (by first | exact q431 | exact yD | (have e_ := (Kd.V_reads' HO_0.out).1; omega))
          obtain ⟨ua431_1, uc431_1, rfl, ul431_1, ge431_1⟩ := k32_openF hMe431
          have hv431_1 := hcc431 1 _ rfl
          rw [add_field _ _ 1 (by omega)] at hv431_1
          replace hv431_1 := Option.some.inj (hv431_1.symm.trans hx431_1)
          injection hv431_1 with hva_ hvn_ hvc_
          rw [hva_] at ge431_1
          rw [hvc_] at ul431_1
          have HL431_1 := Aside0.mk (show Kd.V k78 78 _ w.heap.size _ _ ((rd_T32 l0 x10_3).f1) from Kd.V_mk ul431_1 ge431_1)
          clear hva_ hvn_ hvc_ ge431_1 ul431_1
          clear hcc431 hce431
          have HR431_1 := Aside0.mk hi431_1
          have HC431_1 := Aside0.mk hl431_1
          clear hi431_1 hl431_1
          replace p431 := eq_true p431
          replace q431 := eq_true q431
          go_wp2_with (first | ((with_reducible refine gate_builtin (b := .append) (xs := #[.tmp 64, .tmp 69]) rfl ?_); at_builtin; refine Kd.N_append k32 (w0 := w) w.heap.size rfl (.tmp 64) (.tmp 69) 35 32 (.agg #[(.bool false), (.slice none 0 0), (.string ⟨#[]⟩)]) 48 rfl Try.underlying35 info32 rfl (by decide) (by omega) u9 x9_3 (⟨(rd_T32 l0 x10_3).f0, (rd_T32 l0 x10_3).f1, (rd_T32 l0 x10_3).f2⟩ : S32) [.bool ((rd_T32 l0 x10_3).f0), .slice A431_1 ((rd_T32 l0 x10_3).f1).length c431_1, .string ((rd_T32 l0 x10_3).f2)] (fun k_ => (P0_ k_ ∨ w.heap.size ≤ k_) ∧ k_ ≠ gb415) (fun k_ => ((fun k_ => (P0_ k_ ∨ w.heap.size ≤ k_) ∧ k_ ≠ gb415)) k_ ∧ some k_ ≠ (u9 : Value).ownBlock) rfl rfl ?aP (fun _ hk => hk) ?aF ?aO ?aB ?aS ?aL ?_; (case aP => exact (k32_mkF _ _ (⟨(rd_T32 l0 x10_3).f0, (rd_T32 l0 x10_3).f1, (rd_T32 l0 x10_3).f2⟩ : S32) (Kd.V_reads' (Kd.V_mono (ok' := (fun k_ => ((fun k_ => (P0_ k_ ∨ w.heap.size ≤ k_) ∧ k_ ≠ gb415)) k_ ∧ some k_ ≠ (u9 : Value).ownBlock)) (HL431_1.out) (fun k_ hk => ⟨⟨hk.1, hk.2.2⟩, hk.2.1⟩))).2.1 (Kd.V_F (Kd.V_mono (ok' := (fun k_ => ((fun k_ => (P0_ k_ ∨ w.heap.size ≤ k_) ∧ k_ ≠ gb415)) k_ ∧ some k_ ≠ (u9 : Value).ownBlock)) (HL431_1.out) (fun k_ hk => ⟨⟨hk.1, hk.2.2⟩, hk.2.1⟩))))); (case aB => exact yB); (case aF => exact (fun k_ hk => ⟨(.inr (Nat.le_trans (below_size yB) hk)), Kd.freshB (g := gb415) yK k_ hk⟩)); (case aO => exact (yN HO_9.out)); (case aS => exact (below_size yB)); (case aL => have := LMc34.out; omega); intro v433 w35 ho hb hg hat; rw [← Ny432.out] at ho; have n0_ := Aside0.mk (Kd.V_afterv (ok := (fun k_ => (P0_ k_ ∨ w.heap.size ≤ k_) ∧ k_ ≠ gb415)) (yV (Kd.V_mono HO_0.out (fun _ hk => ⟨⟨hk.1, hk.2.2⟩, hk.2.1⟩))) hg hat); have n1_ := Aside0.mk (blk_grown (g := gb415) yK hg (Kd.N_ne HO_9.out BK415.out (by decide))); have n2_ := Aside0.mk (Kd.V_afterv (ok := (fun k_ => (P0_ k_ ∨ w.heap.size ≤ k_) ∧ k_ ≠ gb415)) (yV (Kd.V_mono HL431_1.out (fun _ hk => ⟨⟨hk.1, hk.2.2⟩, hk.2.1⟩))) hg hat); have n3_ := Aside0.mk (hb); have n4_ := Aside0.mk (ho); clear HO_0; clear BK415; clear HL431_1; clear HB; clear HO_9; have HO_0 := n0_; have BK415 := n1_; have HL431_1 := n2_; have HB := n3_; have HO434 := n4_; clear n0_ n1_ n2_ n3_ n4_; clear ho hb hg hat))
          go_roundg k3
          case measure => have := HJ3.out; have := HJ9.out; have := HK3.out; omega
          case rel => exact ⟨(y432), (wrap64 (x10_3 + 1)), yS, H', ⟨by have := HJ3.out; have := HJ9.out; have := HK3.out; omega⟩, ⟨by refine yV ?_; exact Kd.V_mono HO_0.out (fun _ hk => ⟨hk.1.1, ⟨hk.2, hk.1.2⟩⟩)⟩, ⟨by refine yN ?_; exact HO434.out⟩, ⟨by refine yH ?_; exact BK415.out⟩, ⟨yB⟩⟩
         rw [if_neg c34] at H
         exact absurd H (by simp)
        rw [if_neg c33] at H
        exact absurd H (by simp)
       rw [if_neg c19] at H
       have c19b0 := decide_eq_false c19
       clear c19
       by_cases c36 : 0 ≤ x8_9
       ·rw [if_pos c36] at H
        have c36b0 := eq_true c36
        have c36b1 := decide_eq_true c36
        clear c36
        by_cases c37 : x8_9 ≤ (wrap64 (x8_9 + a2))
        ·rw [if_pos c37] at H
         have c37b0 := eq_true c37
         have c37b1 := decide_eq_true c37
         by_cases c38 : (wrap64 (x8_9 + a2)) ≤ (l0.length : Int)
         ·rw [if_pos c38] at H
          have c38b0 := eq_true c38
          have c38b1 := decide_eq_true c38
          obtain ⟨y435, hy435⟩ : ∃ y_ : List (S32), y_ = ((l0.take ((wrap64 (x8_9 + a2)) : Int).toNat).drop (x8_9 : Int).toNat) := ⟨_, rfl⟩
          replace H : ((Clone_Block.f y435).bind fun t440 => (some (x9_3, (([(⟨a1, t440⟩ : S81)] : List (S81))), 0))) = some (r1, r2, r3) := by first | (rw [hy435]; with_reducible exact H) | (have H2_ := (Option.bind_some _ _).symm.trans H; rw [hy435]; with_reducible exact H2_) | (have H2_ := (Option.bind_some _ _).symm.trans H; with_reducible exact H2_) | with_reducible exact H | (rw [hy435]; exact H) | exact H
          have Ny435 := Aside0.mk hy435
          clear hy435
          replace H := Option.bind_eq_some_iff.mp H
          obtain ⟨t440, A390, H⟩ := H
          have A39 := Aside0.mk A390
          clear A390
          obtain ⟨y443, hy443⟩ : ∃ y_ : List (S81), y_ = (([(⟨a1, t440⟩ : S81)] : List (S81))) := ⟨_, rfl⟩
          replace H : (some (x9_3, y443, 0)) = some (r1, r2, r3) := by first | (rw [hy443]; with_reducible exact H) | (have H2_ := (Option.bind_some _ _).symm.trans H; rw [hy443]; with_reducible exact H2_) | (have H2_ := (Option.bind_some _ _).symm.trans H; with_reducible exact H2_) | with_reducible exact H | (rw [hy443]; exact H) | exact H
          have Ny443 := Aside0.mk hy443
          clear hy443
          simp only [Option.some.injEq, Prod.mk.injEq] at H
          obtain ⟨rfl, rfl, rfl⟩ := H
          have q40 : ((wrap64 (x8_9 + a2)) : Int) ≤ ((l0.length : Int) : Int) := yD
          obtain ⟨i040, hi040, _, hsz40, _⟩ := info_parts info32
          have hroom40 : l0.length ≤ c0 := (Kd.V_reads' HO_0.out).2.1
          have hC40 : Kd.F k32 _ _ A0 l0.length l0 := (Kd.V_at (base := w.heap.size) HO_0.out).2.2
          have ql40 : (x8_9 : Int) ≤ ((wrap64 (x8_9 + a2)) : Int) := yD
          have q040 : (0 : Int) ≤ (x8_9 : Int) := yD
          have hcut40 := cut_mid (P := Try.prog) 35 32 .i64 .i64 Try.underlying35 hi040 3 hsz40 A0 l0.length c0 x8_9 (wrap64 (x8_9 + a2)) q040 ql40 q40 hroom40
          have hr40 := Kd.F_mid (lo := (x8_9 : Int).toNat) (hi := ((wrap64 (x8_9 + a2)) : Int).toNat) (c := c0) hC40 (by omega) (by omega) hroom40
          obtain ⟨A40, hA40⟩ : ∃ A1, A1 = (if c0 = (x8_9 : Int).toNat then A0 else (A0 : Option Addr).map (·.add ((x8_9 : Int).toNat * 3))) := ⟨_, rfl⟩
          obtain ⟨c40, hc40⟩ : ∃ c1, c1 = c0 - (x8_9 : Int).toNat := ⟨_, rfl⟩
          have hy40 : y435.length = ((wrap64 (x8_9 + a2)) : Int).toNat - (x8_9 : Int).toNat := (by rw [Ny435.out, List.length_drop, List.length_take] <;> omega)
          rw [show ((l0).take ((wrap64 (x8_9 + a2)) : Int).toNat).drop (x8_9 : Int).toNat = y435 from Ny435.out.symm] at hr40
          replace hr40 : Kd.F k32 _ _ A40 y435.length y435 := (by rw [hA40]; exact hr40)
          rw [← hy40, ← hA40, ← hc40] at hcut40
          have HO439 := Aside0.mk (show Kd.V k32 32 _ w.heap.size _ (.slice A40 y435.length c40) y435 from Kd.V_mk (by rw [hy40, hc40]; exact Nat.sub_le_sub_right (Nat.le_trans (by omega) hroom40) _) hr40)
          have HC439 := Aside0.mk (show y435.length ≤ c40 from by rw [hy40, hc40]; exact Nat.sub_le_sub_right (Nat.le_trans (by omega) hroom40) _)
          clear hr40 hC40 hroom40 hi040 hsz40 hc40
          have KY40 := Aside0.mk hy40
          have KA40 := Aside0.mk hA40
          clear hy40 hA40
          replace q40 := eq_true q40
          go_wp2_with (first | ((with_reducible refine gate_callee (f := 33) rfl ?_); refine goesL_ (some 81) rfl rfl Try.func33 (by kernel_rfl) rfl #[.slice A40 y435.length c40] rfl yQ ?_; (with_reducible refine (Clone_Block.calls (fun k_ => ((P0_ k_ ∨ w.heap.size ≤ k_) ∧ (some k_ ≠ (u9 : Value).ownBlock ∧ k_ ≠ gb415))) _ _ y435 t440 _ ?side1 A39.out).mono ?_); (case side1 => exact HO439.out); rintro e w41 ⟨v441, rfl, ho0, hb⟩; refine ⟨_, rfl, ?_⟩; replace HO_0 := Aside0.mk (Kd.V_elder' (yV HO_0.out) (by first | exact Kd.N_base ho0 | exact Kd.S_base ho0) hb); replace HO439 := Aside0.mk (Kd.V_elder' (yV HO439.out) (by first | exact Kd.N_base ho0 | exact Kd.S_base ho0) hb); have HO442 := Aside0.mk (Kd.N_lower (Kd.N_mono (ok' := fun k_ => (P0_ k_ ∨ w.heap.size ≤ k_) ∧ some k_ ≠ (u9 : Value).ownBlock ∧ k_ ≠ gb415) ho0 (fun k_ hk_ => ⟨Or.elim hk_ (fun hs_ => hs_.1) (fun hn_ => (.inr (Nat.le_trans (below_size yB) hn_))), Or.elim hk_ (fun hs_ => hs_.2.1) (fun hn_ => (Kd.fresh' (Kd.N_lt (yN HO_9.out)) k_ hn_)), Or.elim hk_ (fun hs_ => hs_.2.2) (fun hn_ => (Kd.freshB (g := gb415) yK k_ hn_))⟩)) (below_size yB)); replace HO_9 := Aside0.mk (Kd.N_elder' (yN HO_9.out) (by first | exact Kd.N_base ho0 | exact Kd.S_base ho0) hb); replace BK415 := Aside0.mk (blk_below (g := gb415) yK hb); replace HB := Aside0.mk (below_step yB hb); (try clear hb); (try clear ho0); obtain ⟨Ao42, co42, eo42⟩ := Kd.N_slice HO442.out; subst eo42) | ((with_reducible refine gate_dst (N := 83) rfl ?_); refine Kd.N_lit k81 _ 81 ?hg (N' := 83) ?hd (xs := ([(⟨a1, t440⟩ : S81)] : List (S81))) (inner := [.int .i64 a1, .slice Ao42 t440.length co42]) (ok := (fun k_ => (P0_ k_ ∨ w.heap.size ≤ k_) ∧ some k_ ≠ (u9 : Value).ownBlock ∧ k_ ≠ gb415)) (okp := (fun k_ => (P0_ k_ ∨ w.heap.size ≤ k_) ∧ some k_ ≠ (u9 : Value).ownBlock ∧ k_ ≠ gb415)) ?hr ?hp (fun _ hk => hk) ((show ∀ k_, w41.heap.size ≤ k_ → (fun k_ => (P0_ k_ ∨ w.heap.size ≤ k_) ∧ some k_ ≠ (u9 : Value).ownBlock ∧ k_ ≠ gb415) k_ from fun k_ hk => ⟨(.inr (Nat.le_trans (below_size yB) hk)), Kd.fresh' (Kd.N_lt (yN HO_9.out)) k_ hk, Kd.freshB (g := gb415) yK k_ hk⟩) _ (Nat.le_refl _)) (Below.refl _ _) (Nat.le_refl _) (by simp) ?_; (case hd => rfl); (case hg => rfl); (case hr => first | (go_simp; done) | (go_simp; rfl)); (case hp => exact (Reps.c2 (show Kd.FK k81 _ _ (⟨a1, t440⟩ : S81) [.int .i64 a1, .slice Ao42 t440.length co42] from (k81_mkF _ _ (⟨a1, t440⟩ : S81) (Kd.N_reads' (Kd.N_mono (ok' := (fun k_ => (P0_ k_ ∨ w.heap.size ≤ k_) ∧ some k_ ≠ (u9 : Value).ownBlock ∧ k_ ≠ gb415)) (HO442.out) (fun k_ hk => ⟨hk.1, ⟨hk.2.1, hk.2.2⟩⟩))).2.1 (Kd.N_F (Kd.N_mono (ok' := (fun k_ => (P0_ k_ ∨ w.heap.size ≤ k_) ∧ some k_ ≠ (u9 : Value).ownBlock ∧ k_ ≠ gb415)) (HO442.out) (fun k_ hk => ⟨hk.1, ⟨hk.2.1, hk.2.2⟩⟩))))) (Reps.none _ _))); intro v444 w43 ho44 hb hg_ hnew_; clear hg_ hnew_; (first | rw [← Ny443.out] at ho44 | (simp only [Int.reduceToNat] at ho44; rw [← Ny443.out] at ho44)); have n0_ := Aside0.mk (Kd.V_elder' (yV HO_0.out) (Kd.N_base ho44) hb); have n1_ := Aside0.mk (Kd.N_elder' (yN HO_9.out) (Kd.N_base ho44) hb); have n2_ := Aside0.mk (Kd.V_elder' (yV HO439.out) (Kd.N_base ho44) hb); have n3_ := Aside0.mk (Kd.N_lower ho44 (below_size yB)); have n4_ := Aside0.mk (blk_below (g := gb415) yK hb); have n5_ := Aside0.mk (below_step yB hb); clear HO_0; clear HO_9; clear HO439; clear BK415; clear HB; clear HO442; have HO_0 := n0_; have HO_9 := n1_; have HO439 := n2_; have HO445 := n3_; have BK415 := n4_; have HB := n5_; clear n0_ n1_ n2_ n3_ n4_ n5_; clear hb ho44; obtain ⟨Ao45, co45, eo45⟩ := Kd.N_slice HO445.out; subst eo45; obtain ⟨Ao46, co46, eo46⟩ := Kd.N_slice HO_9.out; subst eo46; have hcz47_0 := yZ0 BK415.out; have hcz47_1 := yZ1 BK415.out; have hfz47_0 := blk_frozen BK415.out 0; have hfz47_1 := blk_frozen BK415.out 1))
          refine bodyPost_ret (results_ct rfl _ _ gb415 54 #[.slice Ao46 x9_3.length co46, .slice Ao45 y443.length co45] (0, 0) _ rfl (by refine yH ?_; refine blk_put (cs := #[.slice Ao46 x9_3.length co46, .slice none 0 0]) ?_ 1 _ rfl; refine yH ?_; refine blk_put (cs := #[.slice none 0 0, .slice none 0 0]) ?_ 0 _ rfl; refine yH ?_; exact BK415.out) Try.underlying54 rfl (by kernel_rfl)) rfl ?_
          exact ⟨_, _, yE, by refine yN ?_; exact Kd.N_mono (Kd.N_far (p := ⟨gb415, 1, none⟩) (Kd.N_far (p := ⟨gb415, 0, none⟩) (Kd.N_mono HO_9.out (fun k_ hk => (⟨hk, hk.1.1.2⟩ : _ ∧ k_ ≠ gb415))) (fun _ hk => hk.2) (.slice Ao46 x9_3.length co46)) (fun _ hk => hk.2) (.slice Ao45 y443.length co45)) (fun _ hk => ⟨hk.1.1.1.1, hk.1.2⟩), by refine yN ?_; exact Kd.N_mono (Kd.N_far (p := ⟨gb415, 1, none⟩) (Kd.N_far (p := ⟨gb415, 0, none⟩) (Kd.N_mono HO445.out (fun k_ hk => (⟨hk, hk.2.2⟩ : _ ∧ k_ ≠ gb415))) (fun _ hk => hk.2) (.slice Ao46 x9_3.length co46)) (fun _ hk => hk.2) (.slice Ao45 y443.length co45)) (fun _ hk => ⟨hk.1.1, hk.1.2.1⟩), yB⟩
         rw [if_neg c38] at H
         exact absurd H (by simp)
        rw [if_neg c37] at H
        exact absurd H (by simp)
       rw [if_neg c36] at H
       exact absurd H (by simp)
mutual
def swarfref43_Same.j0 : Nat → Bool → List (S32) → List (S58) → List (S32) → List (S58) → Option (Bool)
 | 0, _, _, _, _, _ => none
 | k + 1, x20, x644000, x644001, x645000, x645001 => if x20 = true then (some false) else (swarfref43_Same.l0 k 0 x644000 x644001 x645000 x645001)
def swarfref43_Same.l0 : Nat → Int → List (S32) → List (S58) → List (S32) → List (S58) → Option (Bool)
 | 0, _, _, _, _, _ => none
 | k + 1, x5, x644000, x644001, x645000, x645001 => if x5 < (x644001.length : Int) then (if 0 ≤ x5 then (if x5 < (x645001.length : Int) then (if ((rd_T58 x644001 x5).f0) = ((rd_T58 x645001 x5).f0) then ((swarfref41_Same.f k ((rd_T58 x644001 x5).f1) ((rd_T58 x645001 x5).f1)).bind fun t650 => (if t650 = true then (swarfref43_Same.l0 k (wrap64 (x5 + 1)) x644000 x644001 x645000 x645001) else (some false))) else (some false)) else (none)) else (none)) else (some true)
end
def swarfref43_Same.f (k : Nat) (l0_0 : List (S32)) (l0_1 : List (S58)) (l1_0 : List (S32)) (l1_1 : List (S58)) : Option (Bool) := (swarfref41_Same.f k l0_0 l1_0).bind fun t645 => (if t645 = true then (swarfref43_Same.j0 k ((l0_1.length : Int) != (l1_1.length : Int)) l0_0 l0_1 l1_0 l1_1) else (swarfref43_Same.j0 k true l0_0 l0_1 l1_0 l1_1))
def swarfref43_Same.T6 : Bool × List (List Nat × List Nat) := (true, [([], []), ([0], [0]), ([], []), ([1, 2], [1, 2]), ([3], [3]), ([4], [4]), ([], []), ([6], [6]), ([], []), ([7, 8], [7, 8]), ([9], [9]), ([10], [10]), ([5, 11], [5, 11]), ([12], [12]), ([13], [13]), ([14, 13], [13, 14]), ([13], [13]), ([15, 16, 13], [13, 15, 16]), ([17, 13], [13, 17]), ([18, 13], [13, 18]), ([13], [13]), ([20, 13], [13, 20]), ([13], [13]), ([21, 22, 13], [13, 21, 22]), ([23, 13], [13, 23]), ([24, 13], [13, 24]), ([19, 25, 13, 13], [13, 19, 25]), ([26, 13], [13, 26]), ([13, 27], [13, 27])])
def swarfref43_Same.B6 : List Nat := [0, 1, 0, 7, 15, 31, 0, 64, 0, 448, 960, 1984, 4095, 8191, 16383, 32767, 16383, 131071, 262143, 524287, 16383, 1064959, 16383, 7356415, 15745023, 32522239, 67108863, 134217727, 268435455]
theorem swarfref43_Same.tab6 : rtab .any (opsOf Try.f35 6) = swarfref43_Same.T6 := by kernel_rfl
theorem swarfref43_Same.bits6 : waitsOk swarfref43_Same.T6.2 swarfref43_Same.B6 = true := by kernel_rfl
set_option maxHeartbeats 8000000 in
set_option maxRecDepth 100000 in
theorem swarfref43_Same.calls (k : Nat) (A0_0 : Option Addr) (c0_0 : Nat) (l0_0 : List (S32)) (A0_1 : Option Addr) (c0_1 : Nat) (l0_1 : List (S58)) (A1_0 : Option Addr) (c1_0 : Nat) (l1_0 : List (S32)) (A1_1 : Option Addr) (c1_1 : Nat) (l1_1 : List (S58)) (r : Bool) (w : World) (hr0_0 : Kd.C k32 w A0_0 l0_0.length l0_0) (hc0_0 : l0_0.length ≤ c0_0) (hr0_1 : Kd.C k58 w A0_1 l0_1.length l0_1) (hc0_1 : l0_1.length ≤ c0_1) (hr1_0 : Kd.C k32 w A1_0 l1_0.length l1_0) (hc1_0 : l1_0.length ≤ c1_0) (hr1_1 : Kd.C k58 w A1_1 l1_1.length l1_1) (hc1_1 : l1_1.length ≤ c1_1) (h : swarfref43_Same.f k l0_0 l0_1 l1_0 l1_1 = some r) :
  Calls Try.prog 35 #[.agg #[.slice A0_0 l0_0.length c0_0, .slice A0_1 l0_1.length c0_1], .agg #[.slice A1_0 l1_0.length c1_0, .slice A1_1 l1_1.length c1_1]] w fun e w' => e = .returned (.bool r) ∧ Below w.heap.size w w' := by
 have hu48 := Try.underlying48
 have HR0_0 := Aside0.mk hr0_0
 have HC0_0 := Aside0.mk hc0_0
 clear hr0_0 hc0_0
 have HR0_1 := Aside0.mk hr0_1
 have HC0_1 := Aside0.mk hc0_1
 clear hr0_1 hc0_1
 have HR1_0 := Aside0.mk hr1_0
 have HC1_0 := Aside0.mk hc1_0
 clear hr1_0 hc1_0
 have HR1_1 := Aside0.mk hr1_1
 have HC1_1 := Aside0.mk hc1_1
 clear hr1_1 hc1_1
 have HB := Aside0.mk (Below.refl w.heap.size w)
 have H : ((swarfref41_Same.f k l0_0 l1_0).bind fun t645 => (if t645 = true then (swarfref43_Same.j0 k ((l0_1.length : Int) != (l1_1.length : Int)) l0_0 l0_1 l1_0 l1_1) else (swarfref43_Same.j0 k true l0_0 l0_1 l1_0 l1_1))) = some r := h
 clear h
 have HC3 := Aside0.mk H
 clear H
 go_enter Try.func35, Try.ntmps35
 go_upto_region 1 with (first | ((with_reducible refine gate_dst (N := 2) rfl ?_); (try (refine gate_guard (by rfl) ?_; dsimp only)); refine yX 2 #[.slice A0_0 l0_0.length c0_0, .slice A0_1 l0_1.length c0_1] 48 ?_; intro gb643 hg w4 hbox hb; have BK643 := Aside0.mk (hbox); have GE643 := Aside0.mk ((yG hg : w.heap.size ≤ gb643)); replace HB := Aside0.mk (below_step yB hb); clear hb hbox hg) | ((with_reducible refine gate_dst (N := 3) rfl ?_); (try (refine gate_guard (by rfl) ?_; dsimp only)); refine yX 3 #[.slice A1_0 l1_0.length c1_0, .slice A1_1 l1_1.length c1_1] 48 ?_; intro gb644 hg w5 hbox hb; have BK644 := Aside0.mk (hbox); have GE644 := Aside0.mk ((yG hg : w.heap.size ≤ gb644)); replace HB := Aside0.mk (below_step yB hb); have NB643_644 := Aside0.mk ((yJ hg yK : gb643 ≠ gb644)); have NB644_643 := Aside0.mk ((yI hg yK : gb644 ≠ gb643)); replace BK643 := Aside0.mk (blk_below (g := gb643) yK hb); clear hb hbox hg))
 (try simp only [Act.put, List.setIfInBounds_toArray, List.set_cons_zero, List.set_cons_succ])
 go_cut [20] (fun v20 wc => ∃ (kq : Nat) (x20_2 : Bool), v20 = .bool x20_2 ∧ Aside0 (swarfref43_Same.j0 kq x20_2 l0_0 l0_1 l1_0 l1_1 = some r) ∧ Aside0 (kq ≤ k) ∧ Aside0 (wc.heap[gb643]? = some (.cells #[(.slice A0_0 l0_0.length c0_0), (.slice A0_1 l0_1.length c0_1)] 48 (0, 0))) ∧ Aside0 (wc.heap[gb644]? = some (.cells #[(.slice A1_0 l1_0.length c1_0), (.slice A1_1 l1_1.length c1_1)] 48 (0, 0))) ∧ Aside0 (Below w.heap.size w wc))
 case first =>
  have H := HC3.out
  clear HC3
  replace H := Option.bind_eq_some_iff.mp H
  obtain ⟨t645, A60, H⟩ := H
  have A6 := Aside0.mk A60
  clear A60
  by_cases c7 : t645 = true
  ·subst c7
   rw [if_pos rfl] at H
   have H' := Aside0.mk H
   clear H
   have hnb8 := NB643_644.out
   have hnc8 := NB644_643.out
   have hcz9_0 := yZ0 BK643.out
   have hcz9_1 := yZ1 BK643.out
   have hfz9_0 := blk_frozen BK643.out 0
   have hfz9_1 := blk_frozen BK643.out 1
   have hcz10_0 := yZ0 BK644.out
   have hcz10_1 := yZ1 BK644.out
   have hfz10_0 := blk_frozen BK644.out 0
   have hfz10_1 := blk_frozen BK644.out 1
   go_wp2_with (first | ((with_reducible refine gate_callee (f := 19) rfl ?_); refine goesL_ (some 10) rfl rfl Try.func19 (by kernel_rfl) rfl #[.slice A0_0 l0_0.length c0_0, .slice A1_0 l1_0.length c1_0] rfl yQ ?_; (with_reducible refine (swarfref41_Same.calls k _ _ l0_0 _ _ l1_0 true _ ?side1 ?side2 ?side3 ?side4 A6.out).mono ?_); (case side1 => exact yC HR0_0.out); (case side2 => exact HC0_0.out); (case side3 => exact yC HR1_0.out); (case side4 => exact HC1_0.out); rintro e w11 ⟨rfl, hb⟩; refine ⟨_, rfl, ?_⟩; replace BK643 := Aside0.mk (blk_below (g := gb643) yK hb); replace BK644 := Aside0.mk (blk_below (g := gb644) yK hb); replace HB := Aside0.mk (below_step yB hb); (try clear hb); have hcz12_0 := yZ0 BK643.out; have hcz12_1 := yZ1 BK643.out; have hfz12_0 := blk_frozen BK643.out 0; have hfz12_1 := blk_frozen BK643.out 1; have hcz13_0 := yZ0 BK644.out; have hcz13_1 := yZ1 BK644.out; have hfz13_0 := blk_frozen BK644.out 0; have hfz13_1 := blk_frozen BK644.out 1))
   go_meet
   case rel => exact ⟨_, (((l0_1.length : Int) != (l1_1.length : Int))), yS, H', ⟨by first | omega | exact Nat.le_refl _⟩, ⟨by refine yH ?_; exact BK643.out⟩, ⟨by refine yH ?_; exact BK644.out⟩, ⟨yB⟩⟩
  replace c7 := Bool.eq_false_iff.mpr c7
  subst c7
  replace H : (swarfref43_Same.j0 k true l0_0 l0_1 l1_0 l1_1) = some r := by rw [if_neg (show ¬ (false = true) by decide)] at H; exact H
  have H' := Aside0.mk H
  clear H
  have hnb14 := NB643_644.out
  have hnc14 := NB644_643.out
  have hcz15_0 := yZ0 BK643.out
  have hcz15_1 := yZ1 BK643.out
  have hfz15_0 := blk_frozen BK643.out 0
  have hfz15_1 := blk_frozen BK643.out 1
  have hcz16_0 := yZ0 BK644.out
  have hcz16_1 := yZ1 BK644.out
  have hfz16_0 := blk_frozen BK644.out 0
  have hfz16_1 := blk_frozen BK644.out 1
  go_wp2_with (first | ((with_reducible refine gate_callee (f := 19) rfl ?_); refine goesL_ (some 10) rfl rfl Try.func19 (by kernel_rfl) rfl #[.slice A0_0 l0_0.length c0_0, .slice A1_0 l1_0.length c1_0] rfl yQ ?_; (with_reducible refine (swarfref41_Same.calls k _ _ l0_0 _ _ l1_0 false _ ?side1 ?side2 ?side3 ?side4 A6.out).mono ?_); (case side1 => exact yC HR0_0.out); (case side2 => exact HC0_0.out); (case side3 => exact yC HR1_0.out); (case side4 => exact HC1_0.out); rintro e w17 ⟨rfl, hb⟩; refine ⟨_, rfl, ?_⟩; replace BK643 := Aside0.mk (blk_below (g := gb643) yK hb); replace BK644 := Aside0.mk (blk_below (g := gb644) yK hb); replace HB := Aside0.mk (below_step yB hb); (try clear hb)))
  go_meet
  case rel => exact ⟨_, (true), yS, H', ⟨by first | omega | exact Nat.le_refl _⟩, ⟨by refine yH ?_; exact BK643.out⟩, ⟨by refine yH ?_; exact BK644.out⟩, ⟨yB⟩⟩
 case rest =>
  clear HC3
  try clear c1
  try clear p2
  try clear c3
  try clear c7
  try clear c8
  try clear c14
  try clear hcz10_0
  try clear hcz10_1
  try clear hcz12_0
  try clear hcz12_1
  try clear hcz13_0
  try clear hcz13_1
  try clear hcz15_0
  try clear hcz15_1
  try clear hcz16_0
  try clear hcz16_1
  try clear hcz9_0
  try clear hcz9_1
  try clear hfz10_0
  try clear hfz10_1
  try clear hfz12_0
  try clear hfz12_1
  try clear hfz13_0
  try clear hfz13_1
  try clear hfz15_0
  try clear hfz15_1
  try clear hfz16_0
  try clear hfz16_1
  try clear hfz9_0
  try clear hfz9_1
  obtain ⟨kq, x20_2, rfl, HA, HJ2, BK643, BK644, HB⟩ := hcut
  cases kq with
  | zero => exact absurd HA.out (by simp [swarfref43_Same.j0])
  | succ kj2 =>
   have H := HA.out
   clear HA
   simp only [swarfref43_Same.j0] at H
   by_cases c18 : x20_2 = true
   ·subst c18
    rw [if_pos rfl] at H
    obtain rfl := Option.some.inj H
    go_wp2
    go_ret
    exact ⟨yE, yB⟩
   replace c18 := Bool.eq_false_iff.mpr c18
   subst c18
   replace H : (swarfref43_Same.l0 kj2 0 l0_0 l0_1 l1_0 l1_1) = some r := by rw [if_neg (show ¬ (false = true) by decide)] at H; exact H
   have H' := Aside0.mk H
   clear H
   go_wp2
   go_loopg [5] kj2 (fun kq v5 w' => ∃ (x5_2 : Int), v5 = .int .i64 x5_2 ∧ Aside0 (swarfref43_Same.l0 kq x5_2 l0_0 l0_1 l1_0 l1_1 = some r) ∧ Aside0 (kq ≤ kj2) ∧ Aside0 (w'.heap[gb643]? = some (.cells #[(.slice A0_0 l0_0.length c0_0), (.slice A0_1 l0_1.length c0_1)] 48 (0, 0))) ∧ Aside0 (w'.heap[gb644]? = some (.cells #[(.slice A1_0 l1_0.length c1_0), (.slice A1_1 l1_1.length c1_1)] 48 (0, 0))) ∧ Aside0 (Below w.heap.size w w'))
   case atStart => exact ⟨(0), yS, H', ⟨Nat.le_refl _⟩, ⟨by refine yH ?_; exact BK643.out⟩, ⟨by refine yH ?_; exact BK644.out⟩, ⟨yB⟩⟩
   case round =>
    clear H'
    try clear c1
    try clear p2
    try clear c3
    try clear c7
    try clear c8
    try clear c14
    try clear c18
    try clear hcz10_0
    try clear hcz10_1
    try clear hcz12_0
    try clear hcz12_1
    try clear hcz13_0
    try clear hcz13_1
    try clear hcz15_0
    try clear hcz15_1
    try clear hcz16_0
    try clear hcz16_1
    try clear hcz9_0
    try clear hcz9_1
    try clear hfz10_0
    try clear hfz10_1
    try clear hfz12_0
    try clear hfz12_1
    try clear hfz13_0
    try clear hfz13_1
    try clear hfz15_0
    try clear hfz15_1
    try clear hfz16_0
    try clear hfz16_1
    try clear hfz9_0
    try clear hfz9_1
    try clear p2
    obtain ⟨x5_2, rfl, HA, HK2, BK643, BK644, HB⟩ := hrel
    cases gk with
    | zero => exact absurd HA.out (by simp [swarfref43_Same.l0])
    | succ k2 =>
     have H := HA.out
     clear HA
     simp only [swarfref43_Same.l0] at H
     by_cases c19 : x5_2 < (l0_1.length : Int)
     ·rw [if_pos c19] at H
      have c19b0 := decide_eq_true c19
      clear c19
      by_cases c20 : 0 ≤ x5_2
      ·rw [if_pos c20] at H
       have c20b0 := decide_eq_true c20
       clear c20
       by_cases c21 : x5_2 < (l1_1.length : Int)
       ·rw [if_pos c21] at H
        have c21b0 := decide_eq_true c21
        clear c21
        by_cases c22 : ((rd_T58 l0_1 x5_2).f0) = ((rd_T58 l1_1 x5_2).f0)
        ·rw [if_pos c22] at H
         have c22b0 : (((rd_T58 l0_1 x5_2).f0) == ((rd_T58 l1_1 x5_2).f0)) = true := beq_iff_eq.mpr c22
         have c22b1 : (((rd_T58 l0_1 x5_2).f0) != ((rd_T58 l1_1 x5_2).f0)) = false := bne_eq_false_iff_eq.mpr c22
         clear c22
         replace H := Option.bind_eq_some_iff.mp H
         obtain ⟨t650, A230, H⟩ := H
         have A23 := Aside0.mk A230
         clear A230
         by_cases c24 : t650 = true
         ·subst c24
          rw [if_pos rfl] at H
          have H' := Aside0.mk H
          clear H
          have hnb25 := NB643_644.out
          have hnc25 := NB644_643.out
          have hcz26_0 := yZ0 BK643.out
          have hcz26_1 := yZ1 BK643.out
          have hfz26_0 := blk_frozen BK643.out 0
          have hfz26_1 := blk_frozen BK643.out 1
          try go_wp2
          replace BK643 := Aside0.mk (blk_drew BK643.out)
          replace BK644 := Aside0.mk (blk_drew BK644.out)
          replace HB := Aside0.mk (below_drew1 HB.out)
          have p646 : 0 ≤ (x5_2 : Int) := yD
          have q646 : x5_2 < (l0_1.length : Int) := yD
          obtain ⟨ad646, A646_1, c646_1, e646, hx646_0, hx646_1, hl646_1, hi646_1⟩ := at_T58 HR0_1.out x5_2 p646 q646
          have hw646_1 := hx646_1
          have hw646_0 := hx646_0
          cases e646
          replace hx646_0 := yM HB.out hx646_0
          replace hx646_1 := yM HB.out hx646_1
          have HR646_1 := Aside0.mk hi646_1
          have HC646_1 := Aside0.mk hl646_1
          clear hi646_1 hl646_1
          replace p646 := eq_true p646
          replace q646 := eq_true q646
          have p647 : 0 ≤ (x5_2 : Int) := yD
          have q647 : x5_2 < (l1_1.length : Int) := yD
          obtain ⟨ad647, A647_1, c647_1, e647, hx647_0, hx647_1, hl647_1, hi647_1⟩ := at_T58 HR1_1.out x5_2 p647 q647
          have hw647_1 := hx647_1
          have hw647_0 := hx647_0
          cases e647
          replace hx647_0 := yM HB.out hx647_0
          replace hx647_1 := yM HB.out hx647_1
          have HR647_1 := Aside0.mk hi647_1
          have HC647_1 := Aside0.mk hl647_1
          clear hi647_1 hl647_1
          replace p647 := eq_true p647
          replace q647 := eq_true q647
          have p648 : 0 ≤ (x5_2 : Int) := yD
          have q648 : x5_2 < (l0_1.length : Int) := yD
          obtain ⟨ad648, A648_1, c648_1, e648, hx648_0, hx648_1, hl648_1, hi648_1⟩ := at_T58 HR0_1.out x5_2 p648 q648
          have hw648_1 := hx648_1
          have hw648_0 := hx648_0
          obtain rfl : ad646 = ad648 := (by injection e648)
          have HQA648_1 := Aside0.mk (show A648_1 = A646_1 from by first | (have e_ := Option.some.inj (hw646_1.symm.trans hw648_1); injection e_ with e1_ e2_ e3_; exact e1_.symm) | (have e_ := Option.some.inj (hx646_1.symm.trans hx648_1); injection e_ with e1_ e2_ e3_; exact e1_.symm))
          have HQc648_1 := Aside0.mk (show c648_1 = c646_1 from by first | (have e_ := Option.some.inj (hw646_1.symm.trans hw648_1); injection e_ with e1_ e2_ e3_; exact e3_.symm) | (have e_ := Option.some.inj (hx646_1.symm.trans hx648_1); injection e_ with e1_ e2_ e3_; exact e3_.symm))
          replace hx648_0 := yM HB.out hx648_0
          replace hx648_1 := yM HB.out hx648_1
          have HR648_1 := Aside0.mk hi648_1
          have HC648_1 := Aside0.mk hl648_1
          clear hi648_1 hl648_1
          replace p648 := eq_true p648
          replace q648 := eq_true q648
          have ea_ := Option.some.inj (hx646_1.symm.trans hx648_1)
          injection ea_ with ea_ en_ ec_
          subst ea_
          subst ec_
          clear en_
          have p649 : 0 ≤ (x5_2 : Int) := yD
          have q649 : x5_2 < (l1_1.length : Int) := yD
          obtain ⟨ad649, A649_1, c649_1, e649, hx649_0, hx649_1, hl649_1, hi649_1⟩ := at_T58 HR1_1.out x5_2 p649 q649
          have hw649_1 := hx649_1
          have hw649_0 := hx649_0
          obtain rfl : ad647 = ad649 := (by injection e649)
          have HQA649_1 := Aside0.mk (show A649_1 = A647_1 from by first | (have e_ := Option.some.inj (hw647_1.symm.trans hw649_1); injection e_ with e1_ e2_ e3_; exact e1_.symm) | (have e_ := Option.some.inj (hx647_1.symm.trans hx649_1); injection e_ with e1_ e2_ e3_; exact e1_.symm))
          have HQc649_1 := Aside0.mk (show c649_1 = c647_1 from by first | (have e_ := Option.some.inj (hw647_1.symm.trans hw649_1); injection e_ with e1_ e2_ e3_; exact e3_.symm) | (have e_ := Option.some.inj (hx647_1.symm.trans hx649_1); injection e_ with e1_ e2_ e3_; exact e3_.symm))
          replace hx649_0 := yM HB.out hx649_0
          replace hx649_1 := yM HB.out hx649_1
          have HR649_1 := Aside0.mk hi649_1
          have HC649_1 := Aside0.mk hl649_1
          clear hi649_1 hl649_1
          replace p649 := eq_true p649
          replace q649 := eq_true q649
          have ea_ := Option.some.inj (hx647_1.symm.trans hx649_1)
          injection ea_ with ea_ en_ ec_
          subst ea_
          subst ec_
          clear en_
          refine start_ (n := 29) (S := fun w' => w'.cell? ⟨gb643, 0, none⟩ = some (.slice A0_0 l0_0.length c0_0) ∧ w'.cell? ⟨gb643, 1, none⟩ = some (.slice (some ad646) l0_1.length c0_1) ∧ w'.cell? ⟨gb644, 0, none⟩ = some (.slice A1_0 l1_0.length c1_0) ∧ w'.cell? ⟨gb644, 1, none⟩ = some (.slice (some ad647) l1_1.length c1_1) ∧ w'.cell? (ad646.add ((x5_2).toNat * 2)) = some (.int .i64 ((rd_T58 l0_1 x5_2).f0)) ∧ w'.cell? ⟨(ad646.add ((x5_2).toNat * 2)).block, (ad646.add ((x5_2).toNat * 2)).off + 1, none⟩ = some (.slice A646_1 ((rd_T58 l0_1 x5_2).f1).length c646_1) ∧ w'.cell? (ad647.add ((x5_2).toNat * 2)) = some (.int .i64 ((rd_T58 l1_1 x5_2).f0)) ∧ w'.cell? ⟨(ad647.add ((x5_2).toNat * 2)).block, (ad647.add ((x5_2).toNat * 2)).off + 1, none⟩ = some (.slice A647_1 ((rd_T58 l1_1 x5_2).f1).length c647_1) ∧ w'.cell? (ad646.add ((x5_2).toNat * 2)) = some (.int .i64 ((rd_T58 l0_1 x5_2).f0)) ∧ w'.cell? ⟨(ad646.add ((x5_2).toNat * 2)).block, (ad646.add ((x5_2).toNat * 2)).off + 1, none⟩ = some (.slice A646_1 ((rd_T58 l0_1 x5_2).f1).length c646_1) ∧ w'.cell? (ad647.add ((x5_2).toNat * 2)) = some (.int .i64 ((rd_T58 l1_1 x5_2).f0)) ∧ w'.cell? ⟨(ad647.add ((x5_2).toNat * 2)).block, (ad647.add ((x5_2).toNat * 2)).off + 1, none⟩ = some (.slice A647_1 ((rd_T58 l1_1 x5_2).f1).length c647_1)) (ds := []) #[false, false, false, false, false, false, false, false, false, false, false, false, false, false, false, false, false, false, false, false, false, false, false, false, false, false, false, false, false] (by kernel_rfl) rfl rfl ⟨(blk_cell BK643.out 0).trans rfl, (blk_cell BK643.out 1).trans rfl, (blk_cell BK644.out 0).trans rfl, (blk_cell BK644.out 1).trans rfl, (yM HB.out hw646_0), (yM HB.out hw646_1), (yM HB.out hw647_0), (yM HB.out hw647_1), (yM HB.out hw648_0), (yM HB.out hw648_1), (yM HB.out hw649_0), (yM HB.out hw649_1)⟩ (fun hHeld => ?_); refine with_tabW swarfref43_Same.tab6 swarfref43_Same.bits6 (fun HT_ HW_ => ?_)
          generalize wr.drew = w27 at BK643 BK644 HB HR646_1 HR647_1 HR648_1 HR649_1 hx646_0 hx646_1 hx647_0 hx647_1 hx648_0 hx648_1 hx649_0 hx649_1 hHeld ⊢
          refine yp 0 28 ?_
          refine yp 2 30 ?_
          refine yp 6 34 ?_
          refine yp 8 36 ?_
          refine yt 1 29 hHeld ?_
          refine yp 3 31 ?_
          refine yp 4 32 ?_
          refine yt 5 33 hHeld ?_
          refine yt 7 35 hHeld ?_
          refine yp 9 37 ?_
          refine yp 10 38 ?_
          refine yt 11 39 hHeld ?_
          refine yp 12 40 ?_
          refine yp 13 41 ?_
          refine yp 14 42 ?_
          refine yp 16 44 ?_
          refine yp 20 48 ?_
          refine yp 22 50 ?_
          refine yt 15 43 hHeld ?_
          refine yp 17 45 ?_
          refine yp 18 46 ?_
          refine yt 19 47 hHeld ?_
          refine yt 21 49 hHeld ?_
          refine yp 23 51 ?_
          refine yp 24 52 ?_
          refine yt 25 53 hHeld ?_
          refine yo 26 (some 54) (fun K hK => ?_)
          refine goes_ Try.func19 (by kernel_rfl) rfl #[.slice A646_1 ((rd_T58 l0_1 x5_2).f1).length c646_1, .slice A647_1 ((rd_T58 l1_1 x5_2).f1).length c647_1] (by rfl) rfl rfl (by (try simp only [List.map_toArray, List.map_cons, List.map_nil]); first | done | rfl | (simp only [List.length_drop, List.length_take]; rfl) | (simp only [HQA649_1.out, HQc649_1.out]; rfl) | (simp only [HQA648_1.out, HQc648_1.out]; rfl) | (simp only [HQA648_1.out, HQc648_1.out, HQA649_1.out, HQc649_1.out]; rfl)) ?_
          with_reducible refine (swarfref41_Same.calls k2 _ _ ((rd_T58 l0_1 x5_2).f1) _ _ ((rd_T58 l1_1 x5_2).f1) true _ ?side1 ?side2 ?side3 ?side4 A23.out).mono ?_
          (case side1 => exact yC HR648_1.out)
          (case side2 => exact HC648_1.out)
          (case side3 => exact yC HR649_1.out)
          (case side4 => exact HC649_1.out)
          rintro e w28 ⟨rfl, hb⟩
          refine ⟨_, rfl, ?_⟩
          replace BK643 := Aside0.mk (blk_below (g := gb643) yK hb)
          replace BK644 := Aside0.mk (blk_below (g := gb644) yK hb)
          replace HB := Aside0.mk (below_step yB hb)
          (try clear hb)
          refine hK.out _ _ ⟨(blk_cell BK643.out 0).trans rfl, (blk_cell BK643.out 1).trans rfl, (blk_cell BK644.out 0).trans rfl, (blk_cell BK644.out 1).trans rfl, (yM HB.out hw646_0), (yM HB.out hw646_1), (yM HB.out hw647_0), (yM HB.out hw647_1), (yM HB.out hw648_0), (yM HB.out hw648_1), (yM HB.out hw649_0), (yM HB.out hw649_1)⟩ (fun hHeld => ?_)
          clear hK K
          refine yn 54 ?_
          refine yp 27 55 ?_
          refine yp 28 56 ?_
          refine done_ (done_of HT_.out (by kernel_rfl)) ?_
          try go_wp2
          go_roundg k2
          case measure => have := HJ2.out; have := HK2.out; omega
          case rel => exact ⟨(wrap64 (x5_2 + 1)), yS, H', ⟨by have := HJ2.out; have := HK2.out; omega⟩, ⟨by refine yH ?_; exact BK643.out⟩, ⟨by refine yH ?_; exact BK644.out⟩, ⟨yB⟩⟩
         replace c24 := Bool.eq_false_iff.mpr c24
         subst c24
         replace H : (some false) = some r := by rw [if_neg (show ¬ (false = true) by decide)] at H; exact H
         obtain rfl := Option.some.inj H
         have hnb29 := NB643_644.out
         have hnc29 := NB644_643.out
         have hcz30_0 := yZ0 BK643.out
         have hcz30_1 := yZ1 BK643.out
         have hfz30_0 := blk_frozen BK643.out 0
         have hfz30_1 := blk_frozen BK643.out 1
         try go_wp2
         replace BK643 := Aside0.mk (blk_drew BK643.out)
         replace BK644 := Aside0.mk (blk_drew BK644.out)
         replace HB := Aside0.mk (below_drew1 HB.out)
         have p646 : 0 ≤ (x5_2 : Int) := yD
         have q646 : x5_2 < (l0_1.length : Int) := yD
         obtain ⟨ad646, A646_1, c646_1, e646, hx646_0, hx646_1, hl646_1, hi646_1⟩ := at_T58 HR0_1.out x5_2 p646 q646
         have hw646_1 := hx646_1
         have hw646_0 := hx646_0
         cases e646
         replace hx646_0 := yM HB.out hx646_0
         replace hx646_1 := yM HB.out hx646_1
         have HR646_1 := Aside0.mk hi646_1
         have HC646_1 := Aside0.mk hl646_1
         clear hi646_1 hl646_1
         replace p646 := eq_true p646
         replace q646 := eq_true q646
         have p647 : 0 ≤ (x5_2 : Int) := yD
         have q647 : x5_2 < (l1_1.length : Int) := yD
         obtain ⟨ad647, A647_1, c647_1, e647, hx647_0, hx647_1, hl647_1, hi647_1⟩ := at_T58 HR1_1.out x5_2 p647 q647
         have hw647_1 := hx647_1
         have hw647_0 := hx647_0
         cases e647
         replace hx647_0 := yM HB.out hx647_0
         replace hx647_1 := yM HB.out hx647_1
         have HR647_1 := Aside0.mk hi647_1
         have HC647_1 := Aside0.mk hl647_1
         clear hi647_1 hl647_1
         replace p647 := eq_true p647
         replace q647 := eq_true q647
         have p648 : 0 ≤ (x5_2 : Int) := yD
         have q648 : x5_2 < (l0_1.length : Int) := yD
         obtain ⟨ad648, A648_1, c648_1, e648, hx648_0, hx648_1, hl648_1, hi648_1⟩ := at_T58 HR0_1.out x5_2 p648 q648
         have hw648_1 := hx648_1
         have hw648_0 := hx648_0
         obtain rfl : ad646 = ad648 := (by injection e648)
         have HQA648_1 := Aside0.mk (show A648_1 = A646_1 from by first | (have e_ := Option.some.inj (hw646_1.symm.trans hw648_1); injection e_ with e1_ e2_ e3_; exact e1_.symm) | (have e_ := Option.some.inj (hx646_1.symm.trans hx648_1); injection e_ with e1_ e2_ e3_; exact e1_.symm))
         have HQc648_1 := Aside0.mk (show c648_1 = c646_1 from by first | (have e_ := Option.some.inj (hw646_1.symm.trans hw648_1); injection e_ with e1_ e2_ e3_; exact e3_.symm) | (have e_ := Option.some.inj (hx646_1.symm.trans hx648_1); injection e_ with e1_ e2_ e3_; exact e3_.symm))
         replace hx648_0 := yM HB.out hx648_0
         replace hx648_1 := yM HB.out hx648_1
         have HR648_1 := Aside0.mk hi648_1
         have HC648_1 := Aside0.mk hl648_1
         clear hi648_1 hl648_1
         replace p648 := eq_true p648
         replace q648 := eq_true q648
         have ea_ := Option.some.inj (hx646_1.symm.trans hx648_1)
         injection ea_ with ea_ en_ ec_
         subst ea_
         subst ec_
         clear en_
         have p649 : 0 ≤ (x5_2 : Int) := yD
         have q649 : x5_2 < (l1_1.length : Int) := yD
         obtain ⟨ad649, A649_1, c649_1, e649, hx649_0, hx649_1, hl649_1, hi649_1⟩ := at_T58 HR1_1.out x5_2 p649 q649
         have hw649_1 := hx649_1
         have hw649_0 := hx649_0
         obtain rfl : ad647 = ad649 := (by injection e649)
         have HQA649_1 := Aside0.mk (show A649_1 = A647_1 from by first | (have e_ := Option.some.inj (hw647_1.symm.trans hw649_1); injection e_ with e1_ e2_ e3_; exact e1_.symm) | (have e_ := Option.some.inj (hx647_1.symm.trans hx649_1); injection e_ with e1_ e2_ e3_; exact e1_.symm))
         have HQc649_1 := Aside0.mk (show c649_1 = c647_1 from by first | (have e_ := Option.some.inj (hw647_1.symm.trans hw649_1); injection e_ with e1_ e2_ e3_; exact e3_.symm) | (have e_ := Option.some.inj (hx647_1.symm.trans hx649_1); injection e_ with e1_ e2_ e3_; exact e3_.symm))
         replace hx649_0 := yM HB.out hx649_0
         replace hx649_1 := yM HB.out hx649_1
         have HR649_1 := Aside0.mk hi649_1
         have HC649_1 := Aside0.mk hl649_1
         clear hi649_1 hl649_1
         replace p649 := eq_true p649
         replace q649 := eq_true q649
         have ea_ := Option.some.inj (hx647_1.symm.trans hx649_1)
         injection ea_ with ea_ en_ ec_
         subst ea_
         subst ec_
         clear en_
         refine start_ (n := 29) (S := fun w' => w'.cell? ⟨gb643, 0, none⟩ = some (.slice A0_0 l0_0.length c0_0) ∧ w'.cell? ⟨gb643, 1, none⟩ = some (.slice (some ad646) l0_1.length c0_1) ∧ w'.cell? ⟨gb644, 0, none⟩ = some (.slice A1_0 l1_0.length c1_0) ∧ w'.cell? ⟨gb644, 1, none⟩ = some (.slice (some ad647) l1_1.length c1_1) ∧ w'.cell? (ad646.add ((x5_2).toNat * 2)) = some (.int .i64 ((rd_T58 l0_1 x5_2).f0)) ∧ w'.cell? ⟨(ad646.add ((x5_2).toNat * 2)).block, (ad646.add ((x5_2).toNat * 2)).off + 1, none⟩ = some (.slice A646_1 ((rd_T58 l0_1 x5_2).f1).length c646_1) ∧ w'.cell? (ad647.add ((x5_2).toNat * 2)) = some (.int .i64 ((rd_T58 l1_1 x5_2).f0)) ∧ w'.cell? ⟨(ad647.add ((x5_2).toNat * 2)).block, (ad647.add ((x5_2).toNat * 2)).off + 1, none⟩ = some (.slice A647_1 ((rd_T58 l1_1 x5_2).f1).length c647_1) ∧ w'.cell? (ad646.add ((x5_2).toNat * 2)) = some (.int .i64 ((rd_T58 l0_1 x5_2).f0)) ∧ w'.cell? ⟨(ad646.add ((x5_2).toNat * 2)).block, (ad646.add ((x5_2).toNat * 2)).off + 1, none⟩ = some (.slice A646_1 ((rd_T58 l0_1 x5_2).f1).length c646_1) ∧ w'.cell? (ad647.add ((x5_2).toNat * 2)) = some (.int .i64 ((rd_T58 l1_1 x5_2).f0)) ∧ w'.cell? ⟨(ad647.add ((x5_2).toNat * 2)).block, (ad647.add ((x5_2).toNat * 2)).off + 1, none⟩ = some (.slice A647_1 ((rd_T58 l1_1 x5_2).f1).length c647_1)) (ds := []) #[false, false, false, false, false, false, false, false, false, false, false, false, false, false, false, false, false, false, false, false, false, false, false, false, false, false, false, false, false] (by kernel_rfl) rfl rfl ⟨(blk_cell BK643.out 0).trans rfl, (blk_cell BK643.out 1).trans rfl, (blk_cell BK644.out 0).trans rfl, (blk_cell BK644.out 1).trans rfl, (yM HB.out hw646_0), (yM HB.out hw646_1), (yM HB.out hw647_0), (yM HB.out hw647_1), (yM HB.out hw648_0), (yM HB.out hw648_1), (yM HB.out hw649_0), (yM HB.out hw649_1)⟩ (fun hHeld => ?_); refine with_tabW swarfref43_Same.tab6 swarfref43_Same.bits6 (fun HT_ HW_ => ?_)
         generalize wr.drew = w31 at BK643 BK644 HB HR646_1 HR647_1 HR648_1 HR649_1 hx646_0 hx646_1 hx647_0 hx647_1 hx648_0 hx648_1 hx649_0 hx649_1 hHeld ⊢
         refine yp 0 28 ?_
         refine yp 2 30 ?_
         refine yp 6 34 ?_
         refine yp 8 36 ?_
         refine yt 1 29 hHeld ?_
         refine yp 3 31 ?_
         refine yp 4 32 ?_
         refine yt 5 33 hHeld ?_
         refine yt 7 35 hHeld ?_
         refine yp 9 37 ?_
         refine yp 10 38 ?_
         refine yt 11 39 hHeld ?_
         refine yp 12 40 ?_
         refine yp 13 41 ?_
         refine yp 14 42 ?_
         refine yp 16 44 ?_
         refine yp 20 48 ?_
         refine yp 22 50 ?_
         refine yt 15 43 hHeld ?_
         refine yp 17 45 ?_
         refine yp 18 46 ?_
         refine yt 19 47 hHeld ?_
         refine yt 21 49 hHeld ?_
         refine yp 23 51 ?_
         refine yp 24 52 ?_
         refine yt 25 53 hHeld ?_
         refine yo 26 (some 54) (fun K hK => ?_)
         refine goes_ Try.func19 (by kernel_rfl) rfl #[.slice A646_1 ((rd_T58 l0_1 x5_2).f1).length c646_1, .slice A647_1 ((rd_T58 l1_1 x5_2).f1).length c647_1] (by rfl) rfl rfl (by (try simp only [List.map_toArray, List.map_cons, List.map_nil]); first | done | rfl | (simp only [List.length_drop, List.length_take]; rfl) | (simp only [HQA649_1.out, HQc649_1.out]; rfl) | (simp only [HQA648_1.out, HQc648_1.out]; rfl) | (simp only [HQA648_1.out, HQc648_1.out, HQA649_1.out, HQc649_1.out]; rfl)) ?_
         with_reducible refine (swarfref41_Same.calls k2 _ _ ((rd_T58 l0_1 x5_2).f1) _ _ ((rd_T58 l1_1 x5_2).f1) false _ ?side1 ?side2 ?side3 ?side4 A23.out).mono ?_
         (case side1 => exact yC HR648_1.out)
         (case side2 => exact HC648_1.out)
         (case side3 => exact yC HR649_1.out)
         (case side4 => exact HC649_1.out)
         rintro e w32 ⟨rfl, hb⟩
         refine ⟨_, rfl, ?_⟩
         replace BK643 := Aside0.mk (blk_below (g := gb643) yK hb)
         replace BK644 := Aside0.mk (blk_below (g := gb644) yK hb)
         replace HB := Aside0.mk (below_step yB hb)
         (try clear hb)
         refine hK.out _ _ ⟨(blk_cell BK643.out 0).trans rfl, (blk_cell BK643.out 1).trans rfl, (blk_cell BK644.out 0).trans rfl, (blk_cell BK644.out 1).trans rfl, (yM HB.out hw646_0), (yM HB.out hw646_1), (yM HB.out hw647_0), (yM HB.out hw647_1), (yM HB.out hw648_0), (yM HB.out hw648_1), (yM HB.out hw649_0), (yM HB.out hw649_1)⟩ (fun hHeld => ?_)
         clear hK K
         refine yn 54 ?_
         refine yp 27 55 ?_
         refine yp 28 56 ?_
         refine done_ (done_of HT_.out (by kernel_rfl)) ?_
         try go_wp2
         go_ret
         exact ⟨yE, yB⟩
        rw [if_neg c22] at H
        have c22b0 : (((rd_T58 l0_1 x5_2).f0) == ((rd_T58 l1_1 x5_2).f0)) = false := beq_eq_false_iff_ne.mpr c22
        have c22b1 : (((rd_T58 l0_1 x5_2).f0) != ((rd_T58 l1_1 x5_2).f0)) = true := bne_iff_ne.mpr c22
        obtain rfl := Option.some.inj H
        have hnb33 := NB643_644.out
        have hnc33 := NB644_643.out
        have hcz34_0 := yZ0 BK643.out
        have hcz34_1 := yZ1 BK643.out
        have hfz34_0 := blk_frozen BK643.out 0
        have hfz34_1 := blk_frozen BK643.out 1
        try go_wp2
        replace BK643 := Aside0.mk (blk_drew BK643.out)
        replace BK644 := Aside0.mk (blk_drew BK644.out)
        replace HB := Aside0.mk (below_drew1 HB.out)
        have p646 : 0 ≤ (x5_2 : Int) := yD
        have q646 : x5_2 < (l0_1.length : Int) := yD
        obtain ⟨ad646, A646_1, c646_1, e646, hx646_0, hx646_1, hl646_1, hi646_1⟩ := at_T58 HR0_1.out x5_2 p646 q646
        have hw646_1 := hx646_1
        have hw646_0 := hx646_0
        cases e646
        replace hx646_0 := yM HB.out hx646_0
        replace hx646_1 := yM HB.out hx646_1
        have HR646_1 := Aside0.mk hi646_1
        have HC646_1 := Aside0.mk hl646_1
        clear hi646_1 hl646_1
        replace p646 := eq_true p646
        replace q646 := eq_true q646
        have p647 : 0 ≤ (x5_2 : Int) := yD
        have q647 : x5_2 < (l1_1.length : Int) := yD
        obtain ⟨ad647, A647_1, c647_1, e647, hx647_0, hx647_1, hl647_1, hi647_1⟩ := at_T58 HR1_1.out x5_2 p647 q647
        have hw647_1 := hx647_1
        have hw647_0 := hx647_0
        cases e647
        replace hx647_0 := yM HB.out hx647_0
        replace hx647_1 := yM HB.out hx647_1
        have HR647_1 := Aside0.mk hi647_1
        have HC647_1 := Aside0.mk hl647_1
        clear hi647_1 hl647_1
        replace p647 := eq_true p647
        replace q647 := eq_true q647
        refine start_ (n := 29) (S := fun w' => w'.cell? ⟨gb643, 0, none⟩ = some (.slice A0_0 l0_0.length c0_0) ∧ w'.cell? ⟨gb643, 1, none⟩ = some (.slice (some ad646) l0_1.length c0_1) ∧ w'.cell? ⟨gb644, 0, none⟩ = some (.slice A1_0 l1_0.length c1_0) ∧ w'.cell? ⟨gb644, 1, none⟩ = some (.slice (some ad647) l1_1.length c1_1) ∧ w'.cell? (ad646.add ((x5_2).toNat * 2)) = some (.int .i64 ((rd_T58 l0_1 x5_2).f0)) ∧ w'.cell? ⟨(ad646.add ((x5_2).toNat * 2)).block, (ad646.add ((x5_2).toNat * 2)).off + 1, none⟩ = some (.slice A646_1 ((rd_T58 l0_1 x5_2).f1).length c646_1) ∧ w'.cell? (ad647.add ((x5_2).toNat * 2)) = some (.int .i64 ((rd_T58 l1_1 x5_2).f0)) ∧ w'.cell? ⟨(ad647.add ((x5_2).toNat * 2)).block, (ad647.add ((x5_2).toNat * 2)).off + 1, none⟩ = some (.slice A647_1 ((rd_T58 l1_1 x5_2).f1).length c647_1)) (ds := []) #[false, false, false, false, false, false, false, false, false, false, false, false, false, false, false, false, false, false, false, false, false, false, false, false, false, false, false, false, false] (by kernel_rfl) rfl rfl ⟨(blk_cell BK643.out 0).trans rfl, (blk_cell BK643.out 1).trans rfl, (blk_cell BK644.out 0).trans rfl, (blk_cell BK644.out 1).trans rfl, (yM HB.out hw646_0), (yM HB.out hw646_1), (yM HB.out hw647_0), (yM HB.out hw647_1)⟩ (fun hHeld => ?_); refine with_tabW swarfref43_Same.tab6 swarfref43_Same.bits6 (fun HT_ HW_ => ?_)
        generalize wr.drew = w35 at BK643 BK644 HB HR646_1 HR647_1 hx646_0 hx646_1 hx647_0 hx647_1 hHeld ⊢
        refine yp 0 28 ?_
        refine yp 2 30 ?_
        refine yp 6 34 ?_
        refine yp 8 36 ?_
        refine yt 1 29 hHeld ?_
        refine yp 3 31 ?_
        refine yp 4 32 ?_
        refine yt 5 33 hHeld ?_
        refine yt 7 35 hHeld ?_
        refine yp 9 37 ?_
        refine yp 10 38 ?_
        refine yt 11 39 hHeld ?_
        refine yp 12 40 ?_
        refine yp 13 41 ?_
        refine yu 14 42 ?_
        refine yu 15 43 ?_
        refine yu 16 44 ?_
        refine yu 17 45 ?_
        refine yu 18 46 ?_
        refine yu 19 47 ?_
        refine yu 20 48 ?_
        refine yu 21 49 ?_
        refine yu 22 50 ?_
        refine yu 23 51 ?_
        refine yu 24 52 ?_
        refine yu 25 53 ?_
        refine yu 26 54 ?_
        refine yu 27 55 ?_
        refine yp 28 56 ?_
        refine done_ (done_of HT_.out (by kernel_rfl)) ?_
        try go_wp2
        go_ret
        exact ⟨yE, yB⟩
       rw [if_neg c21] at H
       exact absurd H (by simp)
      rw [if_neg c20] at H
      exact absurd H (by simp)
     rw [if_neg c19] at H
     have c19b0 := decide_eq_false c19
     clear c19
     obtain rfl := Option.some.inj H
     have hnb36 := NB643_644.out
     have hnc36 := NB644_643.out
     have hcz37_0 := yZ0 BK643.out
     have hcz37_1 := yZ1 BK643.out
     have hfz37_0 := blk_frozen BK643.out 0
     have hfz37_1 := blk_frozen BK643.out 1
     go_wp2
     go_ret
     exact ⟨yE, yB⟩
def swarflaw43_back.l0 : Nat → List (S81) → Int → Int → List (S32) → List (S58) → Option ((List (S32)) × (List (S58)))
 | 0, _, _, _, _, _ => none
 | k + 1, x10, x11, x12, x654000, x654001 => if x12 < x11 then (if 0 ≤ x12 then (if x12 < (x10.length : Int) then (if x654001.length < 4398046511104 then (swarflaw43_back.l0 k x10 x11 (wrap64 (x12 + 1)) x654000 (x654001 ++ [(⟨(rd_T81 x10 x12).f0, (rd_T81 x10 x12).f1⟩ : S58)])) else (none)) else (none)) else (none)) else (some (x654000, x654001))
def swarflaw43_back.f (k : Nat) (l0_0 : List (S32)) (l0_1 : List (S81)) : Option ((List (S32)) × (List (S58))) := swarflaw43_back.l0 k l0_1 (l0_1.length : Int) 0 l0_0 ([] : List (S58))
set_option maxHeartbeats 8000000 in
set_option maxRecDepth 100000 in
theorem swarflaw43_back.calls (k : Nat) (P0_0_ : Nat → Prop) (A0_0 : Option Addr) (c0_0 : Nat) (l0_0 : List (S32)) (P0_1_ : Nat → Prop) (A0_1 : Option Addr) (c0_1 : Nat) (l0_1 : List (S81)) (r1 : List (S32)) (r2 : List (S58)) (w : World) (hs0_0 : Kd.V k32 32 w w.heap.size (fun k_ => P0_0_ k_) (.slice A0_0 l0_0.length c0_0) l0_0) (hs0_1 : Kd.V k81 81 w w.heap.size (fun k_ => P0_1_ k_) (.slice A0_1 l0_1.length c0_1) l0_1) (h : swarflaw43_back.f k l0_0 l0_1 = some (r1, r2)) :
  Calls Try.prog 36 #[.agg #[.slice A0_0 l0_0.length c0_0, .slice A0_1 l0_1.length c0_1]] w fun e w' => ∃ v0_ v1_ : Value, e = .returned (.agg #[v0_, v1_]) ∧ Kd.V k32 32 w' w.heap.size (fun k_ => ((P0_0_ k_ ∨ P0_1_ k_) ∨ w.heap.size ≤ k_) ∧ some k_ ≠ (v1_ : Value).ownBlock) v0_ r1 ∧ Kd.N k58 58 w' w.heap.size (fun k_ => ((P0_0_ k_ ∨ P0_1_ k_) ∨ w.heap.size ≤ k_)) v1_ r2 ∧ Below w.heap.size w w' := by
 have hu54 := Try.underlying54
 have hu48 := Try.underlying48
 have hu81 := Try.underlying81
 have hu58 := Try.underlying58
 have HO0_0 := Aside0.mk (show Kd.V k32 32 w w.heap.size (fun k_ => ((P0_0_ k_ ∨ P0_1_ k_) ∨ w.heap.size ≤ k_)) (.slice A0_0 l0_0.length c0_0) l0_0 from Kd.V_mono hs0_0 (fun k_ hk => .inl (.inl hk)))
 have HO0_1 := Aside0.mk (show Kd.V k81 81 w w.heap.size (fun k_ => ((P0_0_ k_ ∨ P0_1_ k_) ∨ w.heap.size ≤ k_)) (.slice A0_1 l0_1.length c0_1) l0_1 from Kd.V_mono hs0_1 (fun k_ hk => .inl (.inr hk)))
 have HB := Aside0.mk (Below.refl w.heap.size w)
 have H : (swarflaw43_back.l0 k l0_1 (l0_1.length : Int) 0 l0_0 ([] : List (S58))) = some (r1, r2) := h
 clear h
 have H' := Aside0.mk H
 clear H
 go_enter Try.func36, Try.ntmps36
 go_wp2_with (first | ((with_reducible refine gate_dst (N := 1) rfl ?_); refine yX 1 #[.slice A0_0 l0_0.length c0_0, .slice A0_1 l0_1.length c0_1] 54 ?_; intro gb651 hg w2 hbox hb; replace HO0_0 := Aside0.mk (Kd.V_below (Kd.V_elderB (yV HO0_0.out) gb651 (Nat.le_of_eq hg.symm)) hb); replace HO0_1 := Aside0.mk (Kd.V_below (Kd.V_elderB (yV HO0_1.out) gb651 (Nat.le_of_eq hg.symm)) hb); have BK651 := Aside0.mk (hbox); have GE651 := Aside0.mk ((yG hg : w.heap.size ≤ gb651)); replace HB := Aside0.mk (below_step yB hb); clear hb hbox hg) | ((with_reducible refine gate_dst (N := 2) rfl ?_); refine yX 2 #[.slice none 0 0, .slice none 0 0] 48 ?_; intro gb652 hg w3 hbox hb; replace HO0_0 := Aside0.mk (Kd.V_below (Kd.V_elderB (yV HO0_0.out) gb652 (Nat.le_of_eq hg.symm)) hb); replace HO0_1 := Aside0.mk (Kd.V_below (Kd.V_elderB (yV HO0_1.out) gb652 (Nat.le_of_eq hg.symm)) hb); have BK652 := Aside0.mk (hbox); have GE652 := Aside0.mk ((yG hg : w.heap.size ≤ gb652)); replace HB := Aside0.mk (below_step yB hb); have NB651_652 := Aside0.mk ((yJ hg yK : gb651 ≠ gb652)); have NB652_651 := Aside0.mk ((yI hg yK : gb652 ≠ gb651)); replace BK651 := Aside0.mk (blk_below (g := gb651) yK hb); clear hb hbox hg; have hnb4 := NB651_652.out; have hnc4 := NB652_651.out; have hcz5_0 := yZ0 BK651.out; have hcz5_1 := yZ1 BK651.out; have hfz5_0 := blk_frozen BK651.out 0; have hfz5_1 := blk_frozen BK651.out 1) | ((with_reducible refine gate_dst (N := 3) rfl ?_); refine yX 3 #[.slice none 0 0, .slice none 0 0] 48 ?_; intro gb653 hg w6 hbox hb; replace HO0_0 := Aside0.mk (Kd.V_below (Kd.V_elderB (yV HO0_0.out) gb653 (Nat.le_of_eq hg.symm)) hb); replace HO0_1 := Aside0.mk (Kd.V_below (Kd.V_elderB (yV HO0_1.out) gb653 (Nat.le_of_eq hg.symm)) hb); have BK653 := Aside0.mk (hbox); have GE653 := Aside0.mk ((yG hg : w.heap.size ≤ gb653)); replace HB := Aside0.mk (below_step yB hb); have NB651_653 := Aside0.mk ((yJ hg yK : gb651 ≠ gb653)); have NB653_651 := Aside0.mk ((yI hg yK : gb653 ≠ gb651)); replace BK651 := Aside0.mk (blk_below (g := gb651) yK hb); have NB652_653 := Aside0.mk ((yJ hg yK : gb652 ≠ gb653)); have NB653_652 := Aside0.mk ((yI hg yK : gb653 ≠ gb652)); replace BK652 := Aside0.mk (blk_below (g := gb652) yK hb); clear hb hbox hg; have hnb7 := NB653_651.out; have hnc7 := NB651_653.out; have hnb8 := NB653_652.out; have hnc8 := NB652_653.out; have hcz9_0 := yZ0 BK653.out; have hcz9_1 := yZ1 BK653.out; have hfz9_0 := blk_frozen BK653.out 0; have hfz9_1 := blk_frozen BK653.out 1; have hcz10_0 := yZ0 BK651.out; have hcz10_1 := yZ1 BK651.out; have hfz10_0 := blk_frozen BK651.out 0; have hfz10_1 := blk_frozen BK651.out 1))
 go_loopg [12] k (fun kq v12 w' => ∃ (x12_1 : Int) (x654001_1 : List (S58)) (u654001 : Value), v12 = .int .i64 x12_1 ∧ Aside0 (swarflaw43_back.l0 kq l0_1 (l0_1.length : Int) x12_1 l0_0 x654001_1 = some (r1, r2)) ∧ Aside0 (kq ≤ k) ∧ Aside0 (Kd.V k81 81 w' w.heap.size (fun k_ => ((P0_0_ k_ ∨ P0_1_ k_) ∨ w.heap.size ≤ k_) ∧ some k_ ≠ (u654001 : Value).ownBlock ∧ k_ ≠ gb651 ∧ k_ ≠ gb652 ∧ k_ ≠ gb653) (.slice A0_1 l0_1.length c0_1) l0_1) ∧ Aside0 (Kd.V k32 32 w' w.heap.size (fun k_ => ((P0_0_ k_ ∨ P0_1_ k_) ∨ w.heap.size ≤ k_) ∧ some k_ ≠ (u654001 : Value).ownBlock ∧ k_ ≠ gb651 ∧ k_ ≠ gb652 ∧ k_ ≠ gb653) (.slice A0_0 l0_0.length c0_0) l0_0) ∧ Aside0 (Kd.V k81 81 w' w.heap.size (fun k_ => ((P0_0_ k_ ∨ P0_1_ k_) ∨ w.heap.size ≤ k_) ∧ some k_ ≠ (u654001 : Value).ownBlock ∧ k_ ≠ gb651 ∧ k_ ≠ gb652 ∧ k_ ≠ gb653) (.slice A0_1 l0_1.length c0_1) l0_1) ∧ Aside0 (Kd.V k32 32 w' w.heap.size (fun k_ => ((P0_0_ k_ ∨ P0_1_ k_) ∨ w.heap.size ≤ k_) ∧ some k_ ≠ (u654001 : Value).ownBlock ∧ k_ ≠ gb651 ∧ k_ ≠ gb652 ∧ k_ ≠ gb653) (.slice A0_0 l0_0.length c0_0) l0_0) ∧ Aside0 (Kd.N k58 58 w' w.heap.size (fun k_ => ((P0_0_ k_ ∨ P0_1_ k_) ∨ w.heap.size ≤ k_) ∧ k_ ≠ gb651 ∧ k_ ≠ gb652 ∧ k_ ≠ gb653) u654001 x654001_1) ∧ Aside0 (w'.heap[gb651]? = some (.cells #[(.slice A0_0 l0_0.length c0_0), (.slice A0_1 l0_1.length c0_1)] 54 (0, 0))) ∧ Aside0 (w'.heap[gb652]? = some (.cells #[(.slice none 0 0), (.slice none 0 0)] 48 (0, 0))) ∧ Aside0 (w'.heap[gb653]? = some (.cells #[(.slice A0_0 l0_0.length c0_0), u654001] 48 (0, 0))) ∧ Aside0 (Below w.heap.size w w'))
 case atStart => exact ⟨(0), (([] : List (S58))), (.slice none 0 0), yS, H', ⟨Nat.le_refl _⟩, ⟨by refine yV ?_; exact Kd.V_mono (Kd.V_far (p := ⟨gb653, 1, none⟩) (Kd.V_far (p := ⟨gb653, 0, none⟩) (Kd.V_mono HO0_1.out (fun k_ hk => (⟨hk, hk.2⟩ : _ ∧ k_ ≠ gb653))) (fun _ hk => hk.2) (.slice A0_0 l0_0.length c0_0)) (fun _ hk => hk.2) (.slice none 0 0)) (fun _ hk => ⟨hk.1.1.1.1, ⟨(by simp [Value.ownBlock]), ⟨hk.1.1.1.2, ⟨hk.1.1.2, hk.1.2⟩⟩⟩⟩)⟩, ⟨by refine yV ?_; exact Kd.V_mono (Kd.V_far (p := ⟨gb653, 1, none⟩) (Kd.V_far (p := ⟨gb653, 0, none⟩) (Kd.V_mono HO0_0.out (fun k_ hk => (⟨hk, hk.2⟩ : _ ∧ k_ ≠ gb653))) (fun _ hk => hk.2) (.slice A0_0 l0_0.length c0_0)) (fun _ hk => hk.2) (.slice none 0 0)) (fun _ hk => ⟨hk.1.1.1.1, ⟨(by simp [Value.ownBlock]), ⟨hk.1.1.1.2, ⟨hk.1.1.2, hk.1.2⟩⟩⟩⟩)⟩, ⟨by refine yV ?_; exact Kd.V_mono (Kd.V_far (p := ⟨gb653, 1, none⟩) (Kd.V_far (p := ⟨gb653, 0, none⟩) (Kd.V_mono HO0_1.out (fun k_ hk => (⟨hk, hk.2⟩ : _ ∧ k_ ≠ gb653))) (fun _ hk => hk.2) (.slice A0_0 l0_0.length c0_0)) (fun _ hk => hk.2) (.slice none 0 0)) (fun _ hk => ⟨hk.1.1.1.1, ⟨(by simp [Value.ownBlock]), ⟨hk.1.1.1.2, ⟨hk.1.1.2, hk.1.2⟩⟩⟩⟩)⟩, ⟨by refine yV ?_; exact Kd.V_mono (Kd.V_far (p := ⟨gb653, 1, none⟩) (Kd.V_far (p := ⟨gb653, 0, none⟩) (Kd.V_mono HO0_0.out (fun k_ hk => (⟨hk, hk.2⟩ : _ ∧ k_ ≠ gb653))) (fun _ hk => hk.2) (.slice A0_0 l0_0.length c0_0)) (fun _ hk => hk.2) (.slice none 0 0)) (fun _ hk => ⟨hk.1.1.1.1, ⟨(by simp [Value.ownBlock]), ⟨hk.1.1.1.2, ⟨hk.1.1.2, hk.1.2⟩⟩⟩⟩)⟩, ⟨by first | exact Kd.R_nil _ _ _ _ _ | exact Kd.N_nil _ _ _ _ _ | exact Kd.V_nil _ _ _ _ _ | exact Kd.Q_nil _ _ _ _ _ | exact Kd.S_nil _ _ _ _ _⟩, ⟨by refine yH ?_; refine blk_far ?_ NB651_653.out _; refine yH ?_; refine blk_far ?_ NB651_653.out _; refine yH ?_; exact BK651.out⟩, ⟨by refine yH ?_; refine blk_far ?_ NB652_653.out _; refine yH ?_; refine blk_far ?_ NB652_653.out _; refine yH ?_; exact BK652.out⟩, ⟨by refine yH ?_; refine blk_put (cs := #[.slice A0_0 l0_0.length c0_0, .slice none 0 0]) ?_ 1 _ rfl; refine yH ?_; refine blk_put (cs := #[.slice none 0 0, .slice none 0 0]) ?_ 0 _ rfl; refine yH ?_; exact BK653.out⟩, ⟨yB⟩⟩
 case round =>
  clear H'
  try clear p2
  try clear c3
  try clear c4
  try clear c7
  try clear c8
  try clear hcz10_0
  try clear hcz10_1
  try clear hcz5_0
  try clear hcz5_1
  try clear hcz9_0
  try clear hcz9_1
  try clear hfz10_0
  try clear hfz10_1
  try clear hfz5_0
  try clear hfz5_1
  try clear hfz9_0
  try clear hfz9_1
  obtain ⟨x12_1, x654001_1, u654001, rfl, HA, HK1, HO_10, HO_652000, HO_652001, HO_654000, HO_654001, BK651, BK652, BK653, HB⟩ := hrel
  cases gk with
  | zero => exact absurd HA.out (by simp [swarflaw43_back.l0])
  | succ k1 =>
   have H := HA.out
   clear HA
   simp only [swarflaw43_back.l0] at H
   by_cases c11 : x12_1 < (l0_1.length : Int)
   ·rw [if_pos c11] at H
    have c11b0 := decide_eq_true c11
    clear c11
    by_cases c12 : 0 ≤ x12_1
    ·rw [if_pos c12] at H
     have c12b0 := decide_eq_true c12
     clear c12
     by_cases c13 : x12_1 < (l0_1.length : Int)
     ·rw [if_pos c13] at H
      have c13b0 := decide_eq_true c13
      clear c13
      by_cases c14 : x654001_1.length < 4398046511104
      ·rw [if_pos c14] at H
       have LMc14 := Aside0.mk c14
       clear c14
       obtain ⟨y656, hy656⟩ : ∃ y_ : List (S58), y_ = (x654001_1 ++ [(⟨(rd_T81 l0_1 x12_1).f0, (rd_T81 l0_1 x12_1).f1⟩ : S58)]) := ⟨_, rfl⟩
       replace H : (swarflaw43_back.l0 k1 l0_1 (l0_1.length : Int) (wrap64 (x12_1 + 1)) l0_0 y656) = some (r1, r2) := by first | (rw [hy656]; with_reducible exact H) | (have H2_ := (Option.bind_some _ _).symm.trans H; rw [hy656]; with_reducible exact H2_) | (have H2_ := (Option.bind_some _ _).symm.trans H; with_reducible exact H2_) | with_reducible exact H | (rw [hy656]; exact H) | exact H
       have Ny656 := Aside0.mk hy656
       clear hy656
       have H' := Aside0.mk H
       clear H
       have p654 : 0 ≤ (x12_1 : Int) := yD
       have q654 : x12_1 < (l0_1.length : Int) := yD
       obtain ⟨ad654, A654_1, c654_1, e654, hx654_0, hx654_1, hl654_1, hi654_1⟩ := at_T81 (Kd.V_reads' HO_10.out).2.2 x12_1 p654 q654
       cases e654
       obtain ⟨ce654, hce654, hMe654, hcc654⟩ := Kd.V_get HO_10.out z81 x12_1 p654 (by first | exact q654 | exact yD | (have e_ := (Kd.V_reads' HO_10.out).1; omega))
       obtain ⟨ua654_1, uc654_1, rfl, ul654_1, ge654_1⟩ := k81_openF hMe654
       have hv654_1 := hcc654 1 _ rfl
       rw [add_field _ _ 1 (by omega)] at hv654_1
       replace hv654_1 := Option.some.inj (hv654_1.symm.trans hx654_1)
       injection hv654_1 with hva_ hvn_ hvc_
       rw [hva_] at ge654_1
       rw [hvc_] at ul654_1
       have HL654_1 := Aside0.mk (show Kd.V k32 32 _ w.heap.size _ _ ((rd_T81 l0_1 x12_1).f1) from Kd.V_mk ul654_1 ge654_1)
       clear hva_ hvn_ hvc_ ge654_1 ul654_1
       clear hcc654 hce654
       have HR654_1 := Aside0.mk hi654_1
       have HC654_1 := Aside0.mk hl654_1
       clear hi654_1 hl654_1
       replace p654 := eq_true p654
       replace q654 := eq_true q654
       go_wp2_with (first | ((with_reducible refine gate_dst (N := 5) rfl ?_); refine yX 5 #[.int .i64 0, .slice none 0 0] 81 ?_; intro gb655 hg w15 hbox hb; replace HO_10 := Aside0.mk (Kd.V_below (Kd.V_elderB (yV HO_10.out) gb655 (Nat.le_of_eq hg.symm)) hb); replace HO_652000 := Aside0.mk (Kd.V_below (Kd.V_elderB (yV HO_652000.out) gb655 (Nat.le_of_eq hg.symm)) hb); replace HO_652001 := Aside0.mk (Kd.V_below (Kd.V_elderB (yV HO_652001.out) gb655 (Nat.le_of_eq hg.symm)) hb); replace HO_654000 := Aside0.mk (Kd.V_below (Kd.V_elderB (yV HO_654000.out) gb655 (Nat.le_of_eq hg.symm)) hb); replace HO_654001 := Aside0.mk (Kd.N_below (Kd.N_elderB (yN HO_654001.out) gb655 (Nat.le_of_eq hg.symm)) hb); replace HL654_1 := Aside0.mk (Kd.V_below (Kd.V_elderB (yV HL654_1.out) gb655 (Nat.le_of_eq hg.symm)) hb); replace HR654_1 := Aside0.mk (Kd.C_below (by repeat (first | (with_reducible exact HR654_1.out) | (with_reducible refine Kd.C_alloc ?_ _) | (with_reducible refine Kd.C_drewN ?_ _) | (with_reducible refine Kd.C_drew ?_) | exact HR654_1.out)) hb); have BK655 := Aside0.mk (hbox); have GE655 := Aside0.mk ((yG hg : w.heap.size ≤ gb655)); replace HB := Aside0.mk (below_step yB hb); have NB651_655 := Aside0.mk ((yJ hg yK : gb651 ≠ gb655)); have NB655_651 := Aside0.mk ((yI hg yK : gb655 ≠ gb651)); replace BK651 := Aside0.mk (blk_below (g := gb651) yK hb); have NB652_655 := Aside0.mk ((yJ hg yK : gb652 ≠ gb655)); have NB655_652 := Aside0.mk ((yI hg yK : gb655 ≠ gb652)); replace BK652 := Aside0.mk (blk_below (g := gb652) yK hb); have NB653_655 := Aside0.mk ((yJ hg yK : gb653 ≠ gb655)); have NB655_653 := Aside0.mk ((yI hg yK : gb655 ≠ gb653)); replace BK653 := Aside0.mk (blk_below (g := gb653) yK hb); clear hb hbox hg; have hnb16 := NB655_651.out; have hnc16 := NB651_655.out; have hnb17 := NB655_652.out; have hnc17 := NB652_655.out; have hnb18 := NB655_653.out; have hnc18 := NB653_655.out; have hcz19_0 := yZ0 BK655.out; have hcz19_1 := yZ1 BK655.out; have hfz19_0 := blk_frozen BK655.out 0; have hfz19_1 := blk_frozen BK655.out 1) | ((with_reducible refine gate_store (t := 81) (p := 5) rfl ?_); refine store_event (t := 81) (p := 5) (v := ?vo_w20) (w1 := ((w15.setCell ⟨gb655, 0, none⟩ (.int .i64 ((rd_T81 l0_1 x12_1).f0))).setCell ⟨gb655, 1, none⟩ (.slice A654_1 ((rd_T81 l0_1 x12_1).f1).length c654_1))) ?hg ?ho ?hn ?hr ?_; (case ho => rfl); (case hg => rfl); (case hn => rfl); (case hr => first | (go_simp; done) | (go_simp; rfl)); intro w20 hw; have n0_ : Aside0 (Kd.V k81 81 w20 w.heap.size (fun k_ => ((P0_0_ k_ ∨ P0_1_ k_) ∨ w.heap.size ≤ k_) ∧ some k_ ≠ (u654001 : Value).ownBlock ∧ k_ ≠ gb651 ∧ k_ ≠ gb652 ∧ k_ ≠ gb653 ∧ k_ ≠ gb655) (.slice (some ad654) l0_1.length c0_1) l0_1) := ⟨(by rw [hw]; exact (yV (Kd.V_mono (Kd.V_far (p := ⟨gb655, 1, none⟩) (Kd.V_far (p := ⟨gb655, 0, none⟩) (Kd.V_mono HO_10.out (fun k_ hk => (⟨hk, hk.2⟩ : _ ∧ k_ ≠ gb655))) (fun _ hk => hk.2) (.int .i64 ((rd_T81 l0_1 x12_1).f0))) (fun _ hk => hk.2) (.slice A654_1 ((rd_T81 l0_1 x12_1).f1).length c654_1)) (fun _ hk => ⟨hk.1.1.1, ⟨hk.1.1.2.1, ⟨hk.1.1.2.2.1, ⟨hk.1.1.2.2.2.1, ⟨hk.1.1.2.2.2.2, hk.1.2⟩⟩⟩⟩⟩))))⟩; have n1_ : Aside0 (Kd.V k32 32 w20 w.heap.size (fun k_ => ((P0_0_ k_ ∨ P0_1_ k_) ∨ w.heap.size ≤ k_) ∧ some k_ ≠ (u654001 : Value).ownBlock ∧ k_ ≠ gb651 ∧ k_ ≠ gb652 ∧ k_ ≠ gb653 ∧ k_ ≠ gb655) (.slice A0_0 l0_0.length c0_0) l0_0) := ⟨(by rw [hw]; exact (yV (Kd.V_mono (Kd.V_far (p := ⟨gb655, 1, none⟩) (Kd.V_far (p := ⟨gb655, 0, none⟩) (Kd.V_mono HO_652000.out (fun k_ hk => (⟨hk, hk.2⟩ : _ ∧ k_ ≠ gb655))) (fun _ hk => hk.2) (.int .i64 ((rd_T81 l0_1 x12_1).f0))) (fun _ hk => hk.2) (.slice A654_1 ((rd_T81 l0_1 x12_1).f1).length c654_1)) (fun _ hk => ⟨hk.1.1.1, ⟨hk.1.1.2.1, ⟨hk.1.1.2.2.1, ⟨hk.1.1.2.2.2.1, ⟨hk.1.1.2.2.2.2, hk.1.2⟩⟩⟩⟩⟩))))⟩; have n2_ : Aside0 (Kd.V k81 81 w20 w.heap.size (fun k_ => ((P0_0_ k_ ∨ P0_1_ k_) ∨ w.heap.size ≤ k_) ∧ some k_ ≠ (u654001 : Value).ownBlock ∧ k_ ≠ gb651 ∧ k_ ≠ gb652 ∧ k_ ≠ gb653 ∧ k_ ≠ gb655) (.slice (some ad654) l0_1.length c0_1) l0_1) := ⟨(by rw [hw]; exact (yV (Kd.V_mono (Kd.V_far (p := ⟨gb655, 1, none⟩) (Kd.V_far (p := ⟨gb655, 0, none⟩) (Kd.V_mono HO_652001.out (fun k_ hk => (⟨hk, hk.2⟩ : _ ∧ k_ ≠ gb655))) (fun _ hk => hk.2) (.int .i64 ((rd_T81 l0_1 x12_1).f0))) (fun _ hk => hk.2) (.slice A654_1 ((rd_T81 l0_1 x12_1).f1).length c654_1)) (fun _ hk => ⟨hk.1.1.1, ⟨hk.1.1.2.1, ⟨hk.1.1.2.2.1, ⟨hk.1.1.2.2.2.1, ⟨hk.1.1.2.2.2.2, hk.1.2⟩⟩⟩⟩⟩))))⟩; have n3_ : Aside0 (Kd.V k32 32 w20 w.heap.size (fun k_ => ((P0_0_ k_ ∨ P0_1_ k_) ∨ w.heap.size ≤ k_) ∧ some k_ ≠ (u654001 : Value).ownBlock ∧ k_ ≠ gb651 ∧ k_ ≠ gb652 ∧ k_ ≠ gb653 ∧ k_ ≠ gb655) (.slice A0_0 l0_0.length c0_0) l0_0) := ⟨(by rw [hw]; exact (yV (Kd.V_mono (Kd.V_far (p := ⟨gb655, 1, none⟩) (Kd.V_far (p := ⟨gb655, 0, none⟩) (Kd.V_mono HO_654000.out (fun k_ hk => (⟨hk, hk.2⟩ : _ ∧ k_ ≠ gb655))) (fun _ hk => hk.2) (.int .i64 ((rd_T81 l0_1 x12_1).f0))) (fun _ hk => hk.2) (.slice A654_1 ((rd_T81 l0_1 x12_1).f1).length c654_1)) (fun _ hk => ⟨hk.1.1.1, ⟨hk.1.1.2.1, ⟨hk.1.1.2.2.1, ⟨hk.1.1.2.2.2.1, ⟨hk.1.1.2.2.2.2, hk.1.2⟩⟩⟩⟩⟩))))⟩; have n4_ : Aside0 (Kd.N k58 58 w20 w.heap.size (fun k_ => ((P0_0_ k_ ∨ P0_1_ k_) ∨ w.heap.size ≤ k_) ∧ k_ ≠ gb651 ∧ k_ ≠ gb652 ∧ k_ ≠ gb653 ∧ k_ ≠ gb655) u654001 x654001_1) := ⟨(by rw [hw]; exact (yN (Kd.N_mono (Kd.N_far (p := ⟨gb655, 1, none⟩) (Kd.N_far (p := ⟨gb655, 0, none⟩) (Kd.N_mono HO_654001.out (fun k_ hk => (⟨hk, hk.2⟩ : _ ∧ k_ ≠ gb655))) (fun _ hk => hk.2) (.int .i64 ((rd_T81 l0_1 x12_1).f0))) (fun _ hk => hk.2) (.slice A654_1 ((rd_T81 l0_1 x12_1).f1).length c654_1)) (fun _ hk => ⟨hk.1.1.1, ⟨hk.1.1.2.1, ⟨hk.1.1.2.2.1, ⟨hk.1.1.2.2.2, hk.1.2⟩⟩⟩⟩))))⟩; have n5_ : Aside0 (Kd.V k32 32 w20 w.heap.size (fun k_ => ((P0_0_ k_ ∨ P0_1_ k_) ∨ w.heap.size ≤ k_) ∧ some k_ ≠ (u654001 : Value).ownBlock ∧ k_ ≠ gb651 ∧ k_ ≠ gb652 ∧ k_ ≠ gb653 ∧ k_ ≠ gb655) (.slice A654_1 ((rd_T81 l0_1 x12_1).f1).length c654_1) ((rd_T81 l0_1 x12_1).f1)) := ⟨(by rw [hw]; exact (yV (Kd.V_mono (Kd.V_far (p := ⟨gb655, 1, none⟩) (Kd.V_far (p := ⟨gb655, 0, none⟩) (Kd.V_mono HL654_1.out (fun k_ hk => (⟨hk, hk.2⟩ : _ ∧ k_ ≠ gb655))) (fun _ hk => hk.2) (.int .i64 ((rd_T81 l0_1 x12_1).f0))) (fun _ hk => hk.2) (.slice A654_1 ((rd_T81 l0_1 x12_1).f1).length c654_1)) (fun _ hk => ⟨hk.1.1.1, ⟨hk.1.1.2.1, ⟨hk.1.1.2.2.1, ⟨hk.1.1.2.2.2.1, ⟨hk.1.1.2.2.2.2, hk.1.2⟩⟩⟩⟩⟩))))⟩; have n6_ : Aside0 (w20.heap[gb651]? = some (.cells #[.slice A0_0 l0_0.length c0_0, .slice (some ad654) l0_1.length c0_1] 54 (0, 0))) := ⟨(by rw [hw]; exact (by refine yH ?_; refine blk_far ?_ NB651_655.out _; refine yH ?_; refine blk_far ?_ NB651_655.out _; refine yH ?_; exact BK651.out))⟩; have n7_ : Aside0 (w20.heap[gb652]? = some (.cells #[.slice none 0 0, .slice none 0 0] 48 (0, 0))) := ⟨(by rw [hw]; exact (by refine yH ?_; refine blk_far ?_ NB652_655.out _; refine yH ?_; refine blk_far ?_ NB652_655.out _; refine yH ?_; exact BK652.out))⟩; have n8_ : Aside0 (w20.heap[gb653]? = some (.cells #[.slice A0_0 l0_0.length c0_0, u654001] 48 (0, 0))) := ⟨(by rw [hw]; exact (by refine yH ?_; refine blk_far ?_ NB653_655.out _; refine yH ?_; refine blk_far ?_ NB653_655.out _; refine yH ?_; exact BK653.out))⟩; have n9_ : Aside0 (w20.heap[gb655]? = some (.cells #[.int .i64 ((rd_T81 l0_1 x12_1).f0), .slice A654_1 ((rd_T81 l0_1 x12_1).f1).length c654_1] 81 (0, 0))) := ⟨(by rw [hw]; exact (by refine yH ?_; refine blk_put (cs := #[.int .i64 ((rd_T81 l0_1 x12_1).f0), .slice none 0 0]) ?_ 1 _ rfl; refine yH ?_; refine blk_put (cs := #[.int .i64 0, .slice none 0 0]) ?_ 0 _ rfl; refine yH ?_; exact BK655.out))⟩; have n10_ : Aside0 (Below w.heap.size w w20) := ⟨(by rw [hw]; exact yB)⟩; clear hw; clear HO_10; clear HO_652000; clear HO_652001; clear HO_654000; clear HO_654001; clear HL654_1; clear BK651; clear BK652; clear BK653; clear BK655; clear HB; have HO_10 := n0_; have HO_652000 := n1_; have HO_652001 := n2_; have HO_654000 := n3_; have HO_654001 := n4_; have HL654_1 := n5_; have BK651 := n6_; have BK652 := n7_; have BK653 := n8_; have BK655 := n9_; have HB := n10_; clear n0_ n1_ n2_ n3_ n4_ n5_ n6_ n7_ n8_ n9_ n10_; have hnb21 := NB653_651.out; have hnc21 := NB651_653.out; have hnb22 := NB653_652.out; have hnc22 := NB652_653.out; have hcz23_0 := yZ0 BK653.out; have hcz23_1 := yZ1 BK653.out; have hfz23_0 := blk_frozen BK653.out 0; have hfz23_1 := blk_frozen BK653.out 1; have hcz24_0 := yZ0 BK655.out; have hcz24_1 := yZ1 BK655.out; have hfz24_0 := blk_frozen BK655.out 0; have hfz24_1 := blk_frozen BK655.out 1) | ((with_reducible refine gate_builtin (b := .append) (xs := #[.tmp 17, .tmp 23]) rfl ?_); at_builtin; refine Kd.N_append k58 (w0 := w) w.heap.size rfl (.tmp 17) (.tmp 23) 46 58 (.agg #[(.int .i64 0), (.slice none 0 0)]) 32 rfl Try.underlying46 info58 rfl (by decide) (by omega) u654001 x654001_1 (⟨(rd_T81 l0_1 x12_1).f0, (rd_T81 l0_1 x12_1).f1⟩ : S58) [.int .i64 ((rd_T81 l0_1 x12_1).f0), .slice A654_1 ((rd_T81 l0_1 x12_1).f1).length c654_1] (fun k_ => ((P0_0_ k_ ∨ P0_1_ k_) ∨ w.heap.size ≤ k_) ∧ k_ ≠ gb651 ∧ k_ ≠ gb652 ∧ k_ ≠ gb653 ∧ k_ ≠ gb655) (fun k_ => ((fun k_ => ((P0_0_ k_ ∨ P0_1_ k_) ∨ w.heap.size ≤ k_) ∧ k_ ≠ gb651 ∧ k_ ≠ gb652 ∧ k_ ≠ gb653 ∧ k_ ≠ gb655)) k_ ∧ some k_ ≠ (u654001 : Value).ownBlock) rfl rfl ?aP (fun _ hk => hk) ?aF ?aO ?aB ?aS ?aL ?_; (case aP => exact (k58_mkF _ _ (⟨(rd_T81 l0_1 x12_1).f0, (rd_T81 l0_1 x12_1).f1⟩ : S58) (Kd.V_reads' (Kd.V_mono (ok' := (fun k_ => ((fun k_ => ((P0_0_ k_ ∨ P0_1_ k_) ∨ w.heap.size ≤ k_) ∧ k_ ≠ gb651 ∧ k_ ≠ gb652 ∧ k_ ≠ gb653 ∧ k_ ≠ gb655)) k_ ∧ some k_ ≠ (u654001 : Value).ownBlock)) (HL654_1.out) (fun k_ hk => ⟨⟨hk.1, ⟨hk.2.2.1, ⟨hk.2.2.2.1, ⟨hk.2.2.2.2.1, hk.2.2.2.2.2⟩⟩⟩⟩, hk.2.1⟩))).2.1 (Kd.V_F (Kd.V_mono (ok' := (fun k_ => ((fun k_ => ((P0_0_ k_ ∨ P0_1_ k_) ∨ w.heap.size ≤ k_) ∧ k_ ≠ gb651 ∧ k_ ≠ gb652 ∧ k_ ≠ gb653 ∧ k_ ≠ gb655)) k_ ∧ some k_ ≠ (u654001 : Value).ownBlock)) (HL654_1.out) (fun k_ hk => ⟨⟨hk.1, ⟨hk.2.2.1, ⟨hk.2.2.2.1, ⟨hk.2.2.2.2.1, hk.2.2.2.2.2⟩⟩⟩⟩, hk.2.1⟩))))); (case aB => exact yB); (case aF => exact (fun k_ hk => ⟨(.inr (Nat.le_trans (below_size yB) hk)), Kd.freshB (g := gb651) yK k_ hk, Kd.freshB (g := gb652) yK k_ hk, Kd.freshB (g := gb653) yK k_ hk, Kd.freshB (g := gb655) yK k_ hk⟩)); (case aO => exact (yN HO_654001.out)); (case aS => exact (below_size yB)); (case aL => have := LMc14.out; omega); intro v657 w25 ho hb hg hat; rw [← Ny656.out] at ho; have n0_ := Aside0.mk (Kd.V_afterv (ok := (fun k_ => ((P0_0_ k_ ∨ P0_1_ k_) ∨ w.heap.size ≤ k_) ∧ k_ ≠ gb651 ∧ k_ ≠ gb652 ∧ k_ ≠ gb653 ∧ k_ ≠ gb655)) (yV (Kd.V_mono HO_10.out (fun _ hk => ⟨⟨hk.1, ⟨hk.2.2.1, ⟨hk.2.2.2.1, ⟨hk.2.2.2.2.1, hk.2.2.2.2.2⟩⟩⟩⟩, hk.2.1⟩))) hg hat); have n1_ := Aside0.mk (Kd.V_afterv (ok := (fun k_ => ((P0_0_ k_ ∨ P0_1_ k_) ∨ w.heap.size ≤ k_) ∧ k_ ≠ gb651 ∧ k_ ≠ gb652 ∧ k_ ≠ gb653 ∧ k_ ≠ gb655)) (yV (Kd.V_mono HO_652000.out (fun _ hk => ⟨⟨hk.1, ⟨hk.2.2.1, ⟨hk.2.2.2.1, ⟨hk.2.2.2.2.1, hk.2.2.2.2.2⟩⟩⟩⟩, hk.2.1⟩))) hg hat); have n2_ := Aside0.mk (Kd.V_afterv (ok := (fun k_ => ((P0_0_ k_ ∨ P0_1_ k_) ∨ w.heap.size ≤ k_) ∧ k_ ≠ gb651 ∧ k_ ≠ gb652 ∧ k_ ≠ gb653 ∧ k_ ≠ gb655)) (yV (Kd.V_mono HO_652001.out (fun _ hk => ⟨⟨hk.1, ⟨hk.2.2.1, ⟨hk.2.2.2.1, ⟨hk.2.2.2.2.1, hk.2.2.2.2.2⟩⟩⟩⟩, hk.2.1⟩))) hg hat); have n3_ := Aside0.mk (Kd.V_afterv (ok := (fun k_ => ((P0_0_ k_ ∨ P0_1_ k_) ∨ w.heap.size ≤ k_) ∧ k_ ≠ gb651 ∧ k_ ≠ gb652 ∧ k_ ≠ gb653 ∧ k_ ≠ gb655)) (yV (Kd.V_mono HO_654000.out (fun _ hk => ⟨⟨hk.1, ⟨hk.2.2.1, ⟨hk.2.2.2.1, ⟨hk.2.2.2.2.1, hk.2.2.2.2.2⟩⟩⟩⟩, hk.2.1⟩))) hg hat); have n4_ := Aside0.mk (blk_grown (g := gb651) yK hg (Kd.N_ne HO_654001.out BK651.out (by decide))); have n5_ := Aside0.mk (blk_grown (g := gb652) yK hg (Kd.N_ne HO_654001.out BK652.out (by decide))); have n6_ := Aside0.mk (blk_grown (g := gb653) yK hg (Kd.N_ne HO_654001.out BK653.out (by decide))); have n7_ := Aside0.mk (Kd.V_afterv (ok := (fun k_ => ((P0_0_ k_ ∨ P0_1_ k_) ∨ w.heap.size ≤ k_) ∧ k_ ≠ gb651 ∧ k_ ≠ gb652 ∧ k_ ≠ gb653 ∧ k_ ≠ gb655)) (yV (Kd.V_mono HL654_1.out (fun _ hk => ⟨⟨hk.1, ⟨hk.2.2.1, ⟨hk.2.2.2.1, ⟨hk.2.2.2.2.1, hk.2.2.2.2.2⟩⟩⟩⟩, hk.2.1⟩))) hg hat); have n8_ := Aside0.mk (blk_grown (g := gb655) yK hg (Kd.N_ne HO_654001.out BK655.out (by decide))); have n9_ := Aside0.mk (hb); have n10_ := Aside0.mk (ho); clear HO_10; clear HO_652000; clear HO_652001; clear HO_654000; clear BK651; clear BK652; clear BK653; clear HL654_1; clear BK655; clear HB; clear HO_654001; have HO_10 := n0_; have HO_652000 := n1_; have HO_652001 := n2_; have HO_654000 := n3_; have BK651 := n4_; have BK652 := n5_; have BK653 := n6_; have HL654_1 := n7_; have BK655 := n8_; have HB := n9_; have HO658 := n10_; clear n0_ n1_ n2_ n3_ n4_ n5_ n6_ n7_ n8_ n9_ n10_; clear ho hb hg hat; obtain ⟨Ao26, co26, eo26⟩ := Kd.N_slice HO658.out; subst eo26; have hcz27_0 := yZ0 BK653.out; have hcz27_1 := yZ1 BK653.out; have hfz27_0 := blk_frozen BK653.out 0; have hfz27_1 := blk_frozen BK653.out 1))
       go_roundg k1
       case measure => have := HK1.out; omega
       case rel => exact ⟨(wrap64 (x12_1 + 1)), (y656), (.slice Ao26 y656.length co26), yS, H', ⟨by have := HK1.out; omega⟩, ⟨by refine yV ?_; exact Kd.V_mono (Kd.V_far (p := ⟨gb653, 1, none⟩) (Kd.V_mono HO_10.out (fun k_ hk => (⟨hk, hk.1.2.2.2.1⟩ : _ ∧ k_ ≠ gb653))) (fun _ hk => hk.2) (.slice Ao26 y656.length co26)) (fun _ hk => ⟨hk.1.1.1, ⟨hk.1.2, ⟨hk.1.1.2.1, ⟨hk.1.1.2.2.1, hk.1.1.2.2.2.1⟩⟩⟩⟩)⟩, ⟨by refine yV ?_; exact Kd.V_mono (Kd.V_far (p := ⟨gb653, 1, none⟩) (Kd.V_mono HO_652000.out (fun k_ hk => (⟨hk, hk.1.2.2.2.1⟩ : _ ∧ k_ ≠ gb653))) (fun _ hk => hk.2) (.slice Ao26 y656.length co26)) (fun _ hk => ⟨hk.1.1.1, ⟨hk.1.2, ⟨hk.1.1.2.1, ⟨hk.1.1.2.2.1, hk.1.1.2.2.2.1⟩⟩⟩⟩)⟩, ⟨by refine yV ?_; exact Kd.V_mono (Kd.V_far (p := ⟨gb653, 1, none⟩) (Kd.V_mono HO_652001.out (fun k_ hk => (⟨hk, hk.1.2.2.2.1⟩ : _ ∧ k_ ≠ gb653))) (fun _ hk => hk.2) (.slice Ao26 y656.length co26)) (fun _ hk => ⟨hk.1.1.1, ⟨hk.1.2, ⟨hk.1.1.2.1, ⟨hk.1.1.2.2.1, hk.1.1.2.2.2.1⟩⟩⟩⟩)⟩, ⟨by refine yV ?_; exact Kd.V_mono (Kd.V_far (p := ⟨gb653, 1, none⟩) (Kd.V_mono HO_654000.out (fun k_ hk => (⟨hk, hk.1.2.2.2.1⟩ : _ ∧ k_ ≠ gb653))) (fun _ hk => hk.2) (.slice Ao26 y656.length co26)) (fun _ hk => ⟨hk.1.1.1, ⟨hk.1.2, ⟨hk.1.1.2.1, ⟨hk.1.1.2.2.1, hk.1.1.2.2.2.1⟩⟩⟩⟩)⟩, ⟨by refine yN ?_; exact Kd.N_mono (Kd.N_far (p := ⟨gb653, 1, none⟩) (Kd.N_mono HO658.out (fun k_ hk => (⟨hk, hk.2.2.2.1⟩ : _ ∧ k_ ≠ gb653))) (fun _ hk => hk.2) (.slice Ao26 y656.length co26)) (fun _ hk => ⟨hk.1.1, ⟨hk.1.2.1, ⟨hk.1.2.2.1, hk.1.2.2.2.1⟩⟩⟩)⟩, ⟨by refine yH ?_; refine blk_far ?_ NB651_653.out _; refine yH ?_; exact BK651.out⟩, ⟨by refine yH ?_; refine blk_far ?_ NB652_653.out _; refine yH ?_; exact BK652.out⟩, ⟨by refine yH ?_; refine blk_put (cs := #[.slice A0_0 l0_0.length c0_0, u654001]) ?_ 1 _ rfl; refine yH ?_; exact BK653.out⟩, ⟨yB⟩⟩
      rw [if_neg c14] at H
      exact absurd H (by simp)
     rw [if_neg c13] at H
     exact absurd H (by simp)
    rw [if_neg c12] at H
    exact absurd H (by simp)
   rw [if_neg c11] at H
   have c11b0 := decide_eq_false c11
   clear c11
   simp only [Option.some.injEq, Prod.mk.injEq] at H
   obtain ⟨rfl, rfl⟩ := H
   have hnb28 := NB653_651.out
   have hnc28 := NB651_653.out
   have hnb29 := NB653_652.out
   have hnc29 := NB652_653.out
   have hcz30_0 := yZ0 BK653.out
   have hcz30_1 := yZ1 BK653.out
   have hfz30_0 := blk_frozen BK653.out 0
   have hfz30_1 := blk_frozen BK653.out 1
   have hnb31 := NB652_651.out
   have hnc31 := NB651_652.out
   have hcz32_0 := yZ0 BK652.out
   have hcz32_1 := yZ1 BK652.out
   have hfz32_0 := blk_frozen BK652.out 0
   have hfz32_1 := blk_frozen BK652.out 1
   obtain ⟨Ao33, co33, eo33⟩ := Kd.N_slice HO_654001.out
   subst eo33
   go_wp2
   refine bodyPost_ret (results_cell_row rfl _ _ gb652 48 #[.slice A0_0 l0_0.length c0_0, .slice Ao33 x654001_1.length co33] (0, 0) _ rfl (by refine yH ?_; refine blk_put (cs := #[.slice A0_0 l0_0.length c0_0, .slice none 0 0]) ?_ 1 _ rfl; refine yH ?_; refine blk_put (cs := #[.slice none 0 0, .slice none 0 0]) ?_ 0 _ rfl; refine yH ?_; exact BK652.out) Try.underlying48 rfl (by kernel_rfl)) rfl ?_
   exact ⟨_, _, yE, by refine yV ?_; exact Kd.V_mono (Kd.V_far (p := ⟨gb652, 1, none⟩) (Kd.V_far (p := ⟨gb652, 0, none⟩) (Kd.V_mono HO_654000.out (fun k_ hk => (⟨hk, hk.2.2.2.1⟩ : _ ∧ k_ ≠ gb652))) (fun _ hk => hk.2) (.slice A0_0 l0_0.length c0_0)) (fun _ hk => hk.2) (.slice Ao33 x654001_1.length co33)) (fun _ hk => ⟨hk.1.1, hk.1.2.1⟩), by refine yN ?_; exact Kd.N_mono (Kd.N_far (p := ⟨gb652, 1, none⟩) (Kd.N_far (p := ⟨gb652, 0, none⟩) (Kd.N_mono HO_654001.out (fun k_ hk => (⟨hk, hk.2.2.1⟩ : _ ∧ k_ ≠ gb652))) (fun _ hk => hk.2) (.slice A0_0 l0_0.length c0_0)) (fun _ hk => hk.2) (.slice Ao33 x654001_1.length co33)) (fun _ hk => hk.1.1), yB⟩
end Go.Proofs.Ytehkhbnhmehobaa.P
namespace Go.Proofs.Ytehkhbnhmehobaa.P
open Go.RowKit Go.Proofs.YtehkhbnhmehobaaW.PrintWords Go.Proofs.YtehkhbnhmehobaaW.PrintLast Go.Proofs.YtehkhbnhmehobaaW.PrintMore
set_option linter.unusedVariables false
set_option linter.unusedSimpArgs false
abbrev Sb := S81
abbrev Rb := S58
abbrev zB := z32
def foldS (l : List Wd) : Bool := !(markS l) && (!(anyS l 78) && !(hasS l 77 98000))
theorem wsub {a b : Nat} (h : b ≤ a) (h2 : a < 9223372036854775807) : wrap64 ((a : Int) - (b : Int)) = ((a - b : Nat) : Int) := by unfold wrap64; omega
def runB (l : List Bk) (i j : Nat) : Nat → Nat → Bool
  | 0, _ => true
  | c + 1, q => (foldS (l.getD (i + q) zB).f1 && decide (l.getD (i + q) zB = l.getD (j + q) zB)) && runB l i j c (q + 1)
section
variable {l : List Bk} (hl : l.length ≤ 1000) (hg : ∀ b ∈ l, goodB b)
include hl hg
omit hl hg in
end
section
variable {l : List Bk} (hl : l.length ≤ 1000) (hg : ∀ b ∈ l, goodB b)
include hl hg
end
def callB (num : Int) : Bk := ⟨false, [⟨77, 98000⟩, ⟨80, wrap64 (1000 * num)⟩], ⟨#[]⟩⟩
def mainB (l : List Bk) (num : Int) (a n : Nat) : Nat → Nat → List Bk → List Bk
  | 0, _, acc => acc
  | f + 1, i, acc => if i < l.length then (if i + n ≤ l.length ∧ runB l a i n 0 = true then mainB l num a n f (i + n) (acc ++ [callB num]) else mainB l num a n f (i + 1) (acc ++ [l.getD i zB])) else acc
section
variable {l : List Bk} (hl : l.length ≤ 1000) (hg : ∀ b ∈ l, goodB b)
include hl hg
end
theorem rd_Sb {l : List Sb} {j : Nat} (h : j < l.length) : rd_T81 l (j : Int) = l[j] := by simp [rd_T81, h]
theorem rd_Rb {l : List Rb} {j : Nat} (h : j < l.length) : rd_T58 l (j : Int) = l[j] := by simp [rd_T58, h]
def rOf (s : Sb) : Rb := ⟨s.f0, s.f1⟩
theorem back_l0 (m : List Bk) (s : List Sb) (hs : s.length ≤ 1000000) : ∀ (n j : Nat) (acc : List Rb), j + n = s.length → acc.length ≤ j → Ev (fun k => swarflaw43_back.l0 k s (s.length : Int) (j : Int) m acc) (m, acc ++ (s.drop j).map rOf) := by
  intro n
  induction n with
  | zero =>
    intro j acc hj ha
    refine Ev.step (fun k => by rw [swarflaw43_back.l0]) (Ev.neg (by omega) ?_)
    rw [List.drop_eq_nil_of_le (by omega)]
    simpa using Ev.some
  | succ n ih =>
    intro j acc hj ha
    have h0 := ih (j + 1) (acc ++ [rOf (s[j]'(by omega))]) (by omega) (by simp; omega)
    refine Ev.step (fun k => by rw [swarflaw43_back.l0]) (Ev.pos (by omega) (Ev.pos (by omega) (Ev.pos (by omega) (Ev.pos (by omega) ?_))))
    rw [rd_Sb (show j < s.length by omega), wrapI (by omega), List.drop_eq_getElem_cons (show j < s.length by omega), List.map_cons]
    have e : acc ++ rOf (s[j]'(by omega)) :: (s.drop (j + 1)).map rOf = acc ++ [rOf (s[j]'(by omega))] ++ (s.drop (j + 1)).map rOf := by rw [List.append_assoc]; rfl
    rw [e]
    exact h0
theorem back_ev (m : List Bk) (s : List Sb) (hs : s.length ≤ 1000000) : Ev (fun k => swarflaw43_back.f k m s) (m, s.map rOf) := by
  unfold swarflaw43_back.f
  simpa using back_l0 m s hs s.length 0 [] (by omega) (by simp)
def seenB (l : List Bk) : Prop := l.length ≤ 9223372036854775807 ∧ ∀ b ∈ l, b.f1.length ≤ 9223372036854775807
theorem SameR_l0 (m m2 : List Bk) (s : List Rb) (hs : s.length ≤ 1000000) (hb : ∀ x ∈ s, seenB x.f1) : ∀ (n j : Nat), j + n = s.length → Ev (fun k => swarfref43_Same.l0 k (j : Int) m s m2 s) true := by
  intro n
  induction n with
  | zero =>
    intro j hj
    exact Ev.step (fun k => by rw [swarfref43_Same.l0]) (Ev.neg (by omega) Ev.some)
  | succ n ih =>
    intro j hj
    have h0 := ih (j + 1) (by omega)
    have h1 := hb _ (List.getElem_mem (show j < s.length by omega))
    have h2 := Same_f (s[j]'(by omega)).f1 (s[j]'(by omega)).f1 h1.1 h1.2
    rw [decide_eq_true rfl] at h2
    refine Ev.step (fun k => by rw [swarfref43_Same.l0]) (Ev.pos (by omega) (Ev.pos (by omega) (Ev.pos (by omega) (Ev.pos rfl ?_))))
    rw [rd_Rb (show j < s.length by omega)]
    refine Ev.bind h2 (Ev.pos rfl ?_)
    rw [wrapI (by omega)]
    exact h0
theorem SameR_refl (m : List Bk) (s : List Rb) (hm : seenB m) (hs : s.length ≤ 1000000) (hb : ∀ x ∈ s, seenB x.f1) : Ev (fun k => swarfref43_Same.f k m s m s) true := by
  unfold swarfref43_Same.f
  have h2 := Same_f m m hm.1 hm.2
  rw [decide_eq_true rfl] at h2
  refine Ev.bind h2 (Ev.pos rfl (Ev.step (fun k => by rw [swarfref43_Same.j0]) (Ev.neg (by simp) ?_)))
  exact SameR_l0 m m s hs hb s.length 0 (by omega)
end Go.Proofs.Ytehkhbnhmehobaa.P
namespace Go.Proofs.Ytehkhbnhmehobaa.P
open Go.RowKit Go.ChangeShapes Go.WideShapes Go.Proofs.YtehkhbnhmehobaaW.PrintWords Go.Proofs.YtehkhbnhmehobaaW.PrintLast Go.Proofs.YtehkhbnhmehobaaW.PrintMore
set_option linter.unusedVariables false
def okSub (x : S58) : Prop := I64 x.f0 ∧ x.f1.length ≤ maxLen ∧ ∀ y ∈ x.f1, okBlock y
def okProg (x : List S32 × List S58) : Prop := (x.1.length ≤ maxLen ∧ ∀ y ∈ x.1, okBlock y) ∧ x.2.length ≤ maxLen ∧ ∀ y ∈ x.2, okSub y
theorem opens_Sub : Opens Try.prog 58 k58 okSub := by
  have h := opens_iso (fun x : S58 => (x.f0, x.f1)) (fun p => ⟨p.1, p.2⟩) (fun _ => rfl) (opens_struct Try.underlying58 (by kernel_rfl) (opensF_cons rfl (by kernel_rfl) (opens_int (k := .i64) (by kernel_rfl)) (opensF_one rfl (by kernel_rfl) (opens_slice 32 (by kernel_rfl) (by kernel_rfl) opens_Block))))
  exact ⟨fun hx => h.of hx⟩
theorem opens_Prog : Opens Try.prog 48 (Kd.pair (Kd.slice 32 k32) (Kd.slice 58 k58)) okProg := by
  have h := opens_struct Try.underlying48 (by kernel_rfl) (opensF_cons rfl (by kernel_rfl) (opens_slice 32 (by kernel_rfl) (by kernel_rfl) opens_Block) (opensF_one rfl (by kernel_rfl) (opens_slice 58 (by kernel_rfl) (by kernel_rfl) opens_Sub)))
  exact ⟨fun hx => h.of hx⟩
section
variable {H : Type} {enc : TypeId × Value → H} {w : World} {base : Nat} {spare : Nat → Bool} {held : Bool} {r : Reach} {b0 : Nat} {v : Value} {d : DataW H} {p : List MemPlace}
set_option maxRecDepth 100000 in
theorem arg_Prog (hv : Value.okWide Try.prog w r b0 48 v) (h : DataW.Trod enc Try.prog w base spare held 48 v d p) :
    ∃ (b : List S32 × List S58) (A1 : Option Addr) (c1 : Nat) (A2 : Option Addr) (c2 : Nat), v = .agg #[.slice A1 b.1.length c1, .slice A2 b.2.length c2] ∧ b.1.length ≤ c1 ∧ Kd.C k32 w A1 b.1.length b.1 ∧ b.2.length ≤ c2 ∧ Kd.C k58 w A2 b.2.length b.2 ∧ okProg b := by
  obtain ⟨fuel, hf⟩ := h
  obtain ⟨b, hk, hw⟩ := opens_Prog.of hf
  obtain ⟨_, _, he, ⟨A1, c1, rfl, l1, g1⟩, ⟨A2, c2, rfl, l2, g2⟩⟩ := hk
  obtain ⟨cs, rfl, _⟩ := okWide_struct Try.underlying48 hv
  refine ⟨b, A1, c1, A2, c2, ?_, l1, g1, l2, g2, hw⟩
  have : cs.toList = [.slice A1 b.1.length c1, .slice A2 b.2.length c2] := by simpa [Value.cells] using he
  rw [← Array.toArray_toList (xs := cs), this]
end
end Go.Proofs.Ytehkhbnhmehobaa.P
namespace Go.Proofs.Ytehkhbnhmehobaa.P
open Go.RowKit Go.Proofs.YtehkhbnhmehobaaW.PrintWords Go.Proofs.YtehkhbnhmehobaaW.PrintLast Go.Proofs.YtehkhbnhmehobaaW.PrintMore
attribute [local go_sem] max2_int min2_int max_two min_two max_three min_three max_four min_four
set_option linter.unusedVariables false
set_option linter.unusedSimpArgs false
mutual
def swarfref43_Few.j0 : Nat → Bool → List (S32) → List (S58) → Option (Bool)
 | 0, _, _, _ => none
 | k + 1, x13, x515000, x515001 => if x13 = true then (some false) else (swarfref43_Few.l0 k 0 x515000 x515001)
def swarfref43_Few.l0 : Nat → Int → List (S32) → List (S58) → Option (Bool)
 | 0, _, _, _ => none
 | k + 1, x3, x515000, x515001 => if x3 < (x515001.length : Int) then (if 0 ≤ x3 then ((swarfref41_Few.f k ((rd_T58 x515001 x3).f1) 40).bind fun t517 => (if t517 = true then (if ((rd_T58 x515001 x3).f0) > 1000000 then (some false) else (if ((rd_T58 x515001 x3).f0) < (-1000000) then (some false) else (swarfref43_Few.l0 k (wrap64 (x3 + 1)) x515000 x515001))) else (some false))) else (none)) else (some true)
end
def swarfref43_Few.f (k : Nat) (l0_0 : List (S32)) (l0_1 : List (S58)) : Option (Bool) := if (l0_1.length : Int) > 12 then (swarfref43_Few.j0 k true l0_0 l0_1) else ((swarfref41_Few.f k l0_0 40).bind fun t515 => (swarfref43_Few.j0 k (!t515) l0_0 l0_1))
set_option maxHeartbeats 8000000 in
set_option maxRecDepth 100000 in
theorem swarfref43_Few.calls (k : Nat) (A0_0 : Option Addr) (c0_0 : Nat) (l0_0 : List (S32)) (A0_1 : Option Addr) (c0_1 : Nat) (l0_1 : List (S58)) (r : Bool) (w : World) (hr0_0 : Kd.C k32 w A0_0 l0_0.length l0_0) (hc0_0 : l0_0.length ≤ c0_0) (hr0_1 : Kd.C k58 w A0_1 l0_1.length l0_1) (hc0_1 : l0_1.length ≤ c0_1) (h : swarfref43_Few.f k l0_0 l0_1 = some r) :
  Calls Try.prog 62 #[.agg #[.slice A0_0 l0_0.length c0_0, .slice A0_1 l0_1.length c0_1]] w fun e w' => e = .returned (.bool r) ∧ Below w.heap.size w w' := by
 have hu48 := Try.underlying48
 have HR0_0 := Aside0.mk hr0_0
 have HC0_0 := Aside0.mk hc0_0
 clear hr0_0 hc0_0
 have HR0_1 := Aside0.mk hr0_1
 have HC0_1 := Aside0.mk hc0_1
 clear hr0_1 hc0_1
 have HB := Aside0.mk (Below.refl w.heap.size w)
 have H : (if (l0_1.length : Int) > 12 then (swarfref43_Few.j0 k true l0_0 l0_1) else ((swarfref41_Few.f k l0_0 40).bind fun t515 => (swarfref43_Few.j0 k (!t515) l0_0 l0_1))) = some r := h
 clear h
 have HC2 := Aside0.mk H
 clear H
 go_enter Try.func62, Try.ntmps62
 go_upto_region 1 with (first | ((with_reducible refine gate_dst (N := 1) rfl ?_); refine yX 1 #[.slice A0_0 l0_0.length c0_0, .slice A0_1 l0_1.length c0_1] 48 ?_; intro gb514 hg w3 hbox hb; have BK514 := Aside0.mk (hbox); have GE514 := Aside0.mk ((yG hg : w.heap.size ≤ gb514)); replace HB := Aside0.mk (below_step yB hb); clear hb hbox hg))
 (try simp only [Act.put, List.setIfInBounds_toArray, List.set_cons_zero, List.set_cons_succ])
 go_cut [13] (fun v13 wc => ∃ (kq : Nat) (x13_1 : Bool), v13 = .bool x13_1 ∧ Aside0 (swarfref43_Few.j0 kq x13_1 l0_0 l0_1 = some r) ∧ Aside0 (kq ≤ k) ∧ Aside0 (wc.heap[gb514]? = some (.cells #[(.slice A0_0 l0_0.length c0_0), (.slice A0_1 l0_1.length c0_1)] 48 (0, 0))) ∧ Aside0 (Below w.heap.size w wc))
 case first =>
  have H := HC2.out
  clear HC2
  by_cases c4 : (l0_1.length : Int) > 12
  ·rw [if_pos c4] at H
   have c4b0 := decide_eq_true c4
   have c4b1 : decide (12 < l0_1.length) = true := decide_eq_true (by omega)
   clear c4
   (first | rw [c4b0] | (simp only [i64_w, i32_w]; rw [c4b0]) | skip)
   have H' := Aside0.mk H
   clear H
   have hcz5_0 := yZ0 BK514.out
   have hcz5_1 := yZ1 BK514.out
   have hfz5_0 := blk_frozen BK514.out 0
   have hfz5_1 := blk_frozen BK514.out 1
   go_wp2
   go_meet
   case rel => exact ⟨_, (true), yS, H', ⟨by first | omega | exact Nat.le_refl _⟩, ⟨by refine yH ?_; exact BK514.out⟩, ⟨yB⟩⟩
  rw [if_neg c4] at H
  have c4b0 := decide_eq_false c4
  have c4b1 : decide (12 < l0_1.length) = false := decide_eq_false (by omega)
  clear c4
  (first | rw [c4b0] | (simp only [i64_w, i32_w]; rw [c4b0]) | skip)
  replace H := Option.bind_eq_some_iff.mp H
  obtain ⟨t515, A60, H⟩ := H
  have A6 := Aside0.mk A60
  clear A60
  have H' := Aside0.mk H
  clear H
  have hcz7_0 := yZ0 BK514.out
  have hcz7_1 := yZ1 BK514.out
  have hfz7_0 := blk_frozen BK514.out 0
  have hfz7_1 := blk_frozen BK514.out 1
  go_wp2_with (first | (go_at_call 56; (with_reducible refine (swarfref41_Few.calls k _ _ l0_0 40 t515 _ ?side1 ?side2 A6.out).mono ?_); (case side1 => exact yC HR0_0.out); (case side2 => exact HC0_0.out); rintro e w' ⟨rfl, ⟨nd, rfl⟩⟩))
  go_meet
  case rel => exact ⟨_, (!t515), yS, H', ⟨by first | omega | exact Nat.le_refl _⟩, ⟨by refine yH ?_; exact BK514.out⟩, ⟨yB⟩⟩
 case rest =>
  clear HC2
  try clear p2
  try clear c4
  try clear c4b0
  try clear c4b1
  try clear c6
  try clear hcz5_0
  try clear hcz5_1
  try clear hcz7_0
  try clear hcz7_1
  try clear hfz5_0
  try clear hfz5_1
  try clear hfz7_0
  try clear hfz7_1
  obtain ⟨kq, x13_1, rfl, HA, HJ1, BK514, HB⟩ := hcut
  cases kq with
  | zero => exact absurd HA.out (by simp [swarfref43_Few.j0])
  | succ kj1 =>
   have H := HA.out
   clear HA
   simp only [swarfref43_Few.j0] at H
   by_cases c8 : x13_1 = true
   ·subst c8
    rw [if_pos rfl] at H
    obtain rfl := Option.some.inj H
    go_wp2
    go_ret
    exact ⟨yE, yB⟩
   replace c8 := Bool.eq_false_iff.mpr c8
   subst c8
   replace H : (swarfref43_Few.l0 kj1 0 l0_0 l0_1) = some r := by rw [if_neg (show ¬ (false = true) by decide)] at H; exact H
   have H' := Aside0.mk H
   clear H
   go_wp2
   go_loopg [3] kj1 (fun kq v3 w' => ∃ (x3_2 : Int), v3 = .int .i64 x3_2 ∧ Aside0 (swarfref43_Few.l0 kq x3_2 l0_0 l0_1 = some r) ∧ Aside0 (kq ≤ kj1) ∧ Aside0 (w'.heap[gb514]? = some (.cells #[(.slice A0_0 l0_0.length c0_0), (.slice A0_1 l0_1.length c0_1)] 48 (0, 0))) ∧ Aside0 (Below w.heap.size w w'))
   case atStart => exact ⟨(0), yS, H', ⟨Nat.le_refl _⟩, ⟨by refine yH ?_; exact BK514.out⟩, ⟨yB⟩⟩
   case round =>
    clear H'
    try clear p2
    try clear c4
    try clear c4b0
    try clear c4b1
    try clear c6
    try clear c8
    try clear hcz5_0
    try clear hcz5_1
    try clear hcz7_0
    try clear hcz7_1
    try clear hfz5_0
    try clear hfz5_1
    try clear hfz7_0
    try clear hfz7_1
    try clear p2
    obtain ⟨x3_2, rfl, HA, HK2, BK514, HB⟩ := hrel
    cases gk with
    | zero => exact absurd HA.out (by simp [swarfref43_Few.l0])
    | succ k2 =>
     have H := HA.out
     clear HA
     simp only [swarfref43_Few.l0] at H
     by_cases c9 : x3_2 < (l0_1.length : Int)
     ·rw [if_pos c9] at H
      have c9b0 := decide_eq_true c9
      clear c9
      by_cases c10 : 0 ≤ x3_2
      ·rw [if_pos c10] at H
       have c10b0 := decide_eq_true c10
       clear c10
       replace H := Option.bind_eq_some_iff.mp H
       obtain ⟨t517, A110, H⟩ := H
       have A11 := Aside0.mk A110
       clear A110
       by_cases c12 : t517 = true
       ·subst c12
        rw [if_pos rfl] at H
        by_cases c13 : ((rd_T58 l0_1 x3_2).f0) > 1000000
        ·rw [if_pos c13] at H
         have c13b0 := decide_eq_true c13
         clear c13
         obtain rfl := Option.some.inj H
         have hcz14_0 := yZ0 BK514.out
         have hcz14_1 := yZ1 BK514.out
         have hfz14_0 := blk_frozen BK514.out 0
         have hfz14_1 := blk_frozen BK514.out 1
         have p516 : 0 ≤ (x3_2 : Int) := yD
         have q516 : x3_2 < (l0_1.length : Int) := yD
         obtain ⟨ad516, A516_1, c516_1, e516, hx516_0, hx516_1, hl516_1, hi516_1⟩ := at_T58 HR0_1.out x3_2 p516 q516
         cases e516
         replace hx516_0 := yM HB.out hx516_0
         replace hx516_1 := yM HB.out hx516_1
         have HR516_1 := Aside0.mk hi516_1
         have HC516_1 := Aside0.mk hl516_1
         clear hi516_1 hl516_1
         replace p516 := eq_true p516
         replace q516 := eq_true q516
         go_wp2_with (first | ((with_reducible refine gate_callee (f := 56) rfl ?_); refine goesL_ (some 27) rfl rfl Try.func56 (by kernel_rfl) rfl #[.slice A516_1 ((rd_T58 l0_1 x3_2).f1).length c516_1, .int .i64 40] rfl yQ ?_; (with_reducible refine (swarfref41_Few.calls k2 _ _ ((rd_T58 l0_1 x3_2).f1) 40 true _ ?side1 ?side2 A11.out).mono ?_); (case side1 => exact yC HR516_1.out); (case side2 => exact HC516_1.out); rintro e w' ⟨rfl, ⟨nd, rfl⟩⟩; refine ⟨_, rfl, ?_⟩; have p518 : 0 ≤ (x3_2 : Int) := yD; have q518 : x3_2 < (l0_1.length : Int) := yD; obtain ⟨ad518, A518_1, c518_1, e518, hx518_0, hx518_1, hl518_1, hi518_1⟩ := at_T58 HR0_1.out x3_2 p518 q518; obtain rfl : ad516 = ad518 := (by injection e518); replace hx518_0 := yM HB.out hx518_0; replace hx518_1 := yM HB.out hx518_1; have HR518_1 := Aside0.mk hi518_1; have HC518_1 := Aside0.mk hl518_1; clear hi518_1 hl518_1; replace p518 := eq_true p518; replace q518 := eq_true q518; have ea_ := Option.some.inj (hx516_1.symm.trans hx518_1); injection ea_ with ea_ en_ ec_; subst ea_; subst ec_; clear en_))
         go_ret
         exact ⟨yE, yB⟩
        rw [if_neg c13] at H
        have c13b0 := decide_eq_false c13
        clear c13
        by_cases c15 : ((rd_T58 l0_1 x3_2).f0) < (-1000000)
        ·rw [if_pos c15] at H
         have c15b0 := decide_eq_true c15
         clear c15
         obtain rfl := Option.some.inj H
         have hcz16_0 := yZ0 BK514.out
         have hcz16_1 := yZ1 BK514.out
         have hfz16_0 := blk_frozen BK514.out 0
         have hfz16_1 := blk_frozen BK514.out 1
         have p516 : 0 ≤ (x3_2 : Int) := yD
         have q516 : x3_2 < (l0_1.length : Int) := yD
         obtain ⟨ad516, A516_1, c516_1, e516, hx516_0, hx516_1, hl516_1, hi516_1⟩ := at_T58 HR0_1.out x3_2 p516 q516
         cases e516
         replace hx516_0 := yM HB.out hx516_0
         replace hx516_1 := yM HB.out hx516_1
         have HR516_1 := Aside0.mk hi516_1
         have HC516_1 := Aside0.mk hl516_1
         clear hi516_1 hl516_1
         replace p516 := eq_true p516
         replace q516 := eq_true q516
         go_wp2_with (first | ((with_reducible refine gate_callee (f := 56) rfl ?_); refine goesL_ (some 27) rfl rfl Try.func56 (by kernel_rfl) rfl #[.slice A516_1 ((rd_T58 l0_1 x3_2).f1).length c516_1, .int .i64 40] rfl yQ ?_; (with_reducible refine (swarfref41_Few.calls k2 _ _ ((rd_T58 l0_1 x3_2).f1) 40 true _ ?side1 ?side2 A11.out).mono ?_); (case side1 => exact yC HR516_1.out); (case side2 => exact HC516_1.out); rintro e w' ⟨rfl, ⟨nd, rfl⟩⟩; refine ⟨_, rfl, ?_⟩; have p518 : 0 ≤ (x3_2 : Int) := yD; have q518 : x3_2 < (l0_1.length : Int) := yD; obtain ⟨ad518, A518_1, c518_1, e518, hx518_0, hx518_1, hl518_1, hi518_1⟩ := at_T58 HR0_1.out x3_2 p518 q518; obtain rfl : ad516 = ad518 := (by injection e518); replace hx518_0 := yM HB.out hx518_0; replace hx518_1 := yM HB.out hx518_1; have HR518_1 := Aside0.mk hi518_1; have HC518_1 := Aside0.mk hl518_1; clear hi518_1 hl518_1; replace p518 := eq_true p518; replace q518 := eq_true q518; have ea_ := Option.some.inj (hx516_1.symm.trans hx518_1); injection ea_ with ea_ en_ ec_; subst ea_; subst ec_; clear en_; have p519 : 0 ≤ (x3_2 : Int) := yD; have q519 : x3_2 < (l0_1.length : Int) := yD; obtain ⟨ad519, A519_1, c519_1, e519, hx519_0, hx519_1, hl519_1, hi519_1⟩ := at_T58 HR0_1.out x3_2 p519 q519; obtain rfl : ad516 = ad519 := (by injection e519); replace hx519_0 := yM HB.out hx519_0; replace hx519_1 := yM HB.out hx519_1; have HR519_1 := Aside0.mk hi519_1; have HC519_1 := Aside0.mk hl519_1; clear hi519_1 hl519_1; replace p519 := eq_true p519; replace q519 := eq_true q519; have ea_ := Option.some.inj (hx516_1.symm.trans hx519_1); injection ea_ with ea_ en_ ec_; subst ea_; subst ec_; clear en_))
         go_ret
         exact ⟨yE, yB⟩
        rw [if_neg c15] at H
        have c15b0 := decide_eq_false c15
        clear c15
        have H' := Aside0.mk H
        clear H
        have hcz17_0 := yZ0 BK514.out
        have hcz17_1 := yZ1 BK514.out
        have hfz17_0 := blk_frozen BK514.out 0
        have hfz17_1 := blk_frozen BK514.out 1
        have p516 : 0 ≤ (x3_2 : Int) := yD
        have q516 : x3_2 < (l0_1.length : Int) := yD
        obtain ⟨ad516, A516_1, c516_1, e516, hx516_0, hx516_1, hl516_1, hi516_1⟩ := at_T58 HR0_1.out x3_2 p516 q516
        cases e516
        replace hx516_0 := yM HB.out hx516_0
        replace hx516_1 := yM HB.out hx516_1
        have HR516_1 := Aside0.mk hi516_1
        have HC516_1 := Aside0.mk hl516_1
        clear hi516_1 hl516_1
        replace p516 := eq_true p516
        replace q516 := eq_true q516
        go_wp2_with (first | ((with_reducible refine gate_callee (f := 56) rfl ?_); refine goesL_ (some 27) rfl rfl Try.func56 (by kernel_rfl) rfl #[.slice A516_1 ((rd_T58 l0_1 x3_2).f1).length c516_1, .int .i64 40] rfl yQ ?_; (with_reducible refine (swarfref41_Few.calls k2 _ _ ((rd_T58 l0_1 x3_2).f1) 40 true _ ?side1 ?side2 A11.out).mono ?_); (case side1 => exact yC HR516_1.out); (case side2 => exact HC516_1.out); rintro e w' ⟨rfl, ⟨nd, rfl⟩⟩; refine ⟨_, rfl, ?_⟩; have p518 : 0 ≤ (x3_2 : Int) := yD; have q518 : x3_2 < (l0_1.length : Int) := yD; obtain ⟨ad518, A518_1, c518_1, e518, hx518_0, hx518_1, hl518_1, hi518_1⟩ := at_T58 HR0_1.out x3_2 p518 q518; obtain rfl : ad516 = ad518 := (by injection e518); replace hx518_0 := yM HB.out hx518_0; replace hx518_1 := yM HB.out hx518_1; have HR518_1 := Aside0.mk hi518_1; have HC518_1 := Aside0.mk hl518_1; clear hi518_1 hl518_1; replace p518 := eq_true p518; replace q518 := eq_true q518; have ea_ := Option.some.inj (hx516_1.symm.trans hx518_1); injection ea_ with ea_ en_ ec_; subst ea_; subst ec_; clear en_; have p519 : 0 ≤ (x3_2 : Int) := yD; have q519 : x3_2 < (l0_1.length : Int) := yD; obtain ⟨ad519, A519_1, c519_1, e519, hx519_0, hx519_1, hl519_1, hi519_1⟩ := at_T58 HR0_1.out x3_2 p519 q519; obtain rfl : ad516 = ad519 := (by injection e519); replace hx519_0 := yM HB.out hx519_0; replace hx519_1 := yM HB.out hx519_1; have HR519_1 := Aside0.mk hi519_1; have HC519_1 := Aside0.mk hl519_1; clear hi519_1 hl519_1; replace p519 := eq_true p519; replace q519 := eq_true q519; have ea_ := Option.some.inj (hx516_1.symm.trans hx519_1); injection ea_ with ea_ en_ ec_; subst ea_; subst ec_; clear en_))
        go_roundg k2
        case measure => have := HJ1.out; have := HK2.out; omega
        case rel => exact ⟨(wrap64 (x3_2 + 1)), yS, H', ⟨by have := HJ1.out; have := HK2.out; omega⟩, ⟨by refine yH ?_; exact BK514.out⟩, ⟨yB⟩⟩
       replace c12 := Bool.eq_false_iff.mpr c12
       subst c12
       replace H : (some false) = some r := by rw [if_neg (show ¬ (false = true) by decide)] at H; exact H
       obtain rfl := Option.some.inj H
       have hcz18_0 := yZ0 BK514.out
       have hcz18_1 := yZ1 BK514.out
       have hfz18_0 := blk_frozen BK514.out 0
       have hfz18_1 := blk_frozen BK514.out 1
       have p516 : 0 ≤ (x3_2 : Int) := yD
       have q516 : x3_2 < (l0_1.length : Int) := yD
       obtain ⟨ad516, A516_1, c516_1, e516, hx516_0, hx516_1, hl516_1, hi516_1⟩ := at_T58 HR0_1.out x3_2 p516 q516
       cases e516
       replace hx516_0 := yM HB.out hx516_0
       replace hx516_1 := yM HB.out hx516_1
       have HR516_1 := Aside0.mk hi516_1
       have HC516_1 := Aside0.mk hl516_1
       clear hi516_1 hl516_1
       replace p516 := eq_true p516
       replace q516 := eq_true q516
       go_wp2_with (first | ((with_reducible refine gate_callee (f := 56) rfl ?_); refine goesL_ (some 27) rfl rfl Try.func56 (by kernel_rfl) rfl #[.slice A516_1 ((rd_T58 l0_1 x3_2).f1).length c516_1, .int .i64 40] rfl yQ ?_; (with_reducible refine (swarfref41_Few.calls k2 _ _ ((rd_T58 l0_1 x3_2).f1) 40 false _ ?side1 ?side2 A11.out).mono ?_); (case side1 => exact yC HR516_1.out); (case side2 => exact HC516_1.out); rintro e w' ⟨rfl, ⟨nd, rfl⟩⟩; refine ⟨_, rfl, ?_⟩))
       go_ret
       exact ⟨yE, yB⟩
      rw [if_neg c10] at H
      exact absurd H (by simp)
     rw [if_neg c9] at H
     have c9b0 := decide_eq_false c9
     clear c9
     obtain rfl := Option.some.inj H
     have hcz19_0 := yZ0 BK514.out
     have hcz19_1 := yZ1 BK514.out
     have hfz19_0 := blk_frozen BK514.out 0
     have hfz19_1 := blk_frozen BK514.out 1
     go_wp2
     go_ret
     exact ⟨yE, yB⟩
mutual
def swarflaw43_few.j0 : Nat → Bool → List (S32) → List (S58) → Option (Bool)
 | 0, _, _, _ => none
 | k + 1, x13, x521000, x521001 => if x13 = true then (some false) else (swarflaw43_few.l0 k x521001 (x521001.length : Int) 0)
def swarflaw43_few.l0 : Nat → List (S58) → Int → Int → Option (Bool)
 | 0, _, _, _ => none
 | k + 1, x15, x16, x17 => if x17 < x16 then (if 0 ≤ x17 then (if x17 < (x15.length : Int) then ((swarflaw43_valid.f k ((rd_T58 x15 x17).f1) 40).bind fun t525 => (if t525 = true then (swarflaw43_few.l0 k x15 x16 (wrap64 (x17 + 1))) else (some false))) else (none)) else (none)) else (some true)
end
def swarflaw43_few.f (k : Nat) (l0_0 : List (S32)) (l0_1 : List (S58)) : Option (Bool) := (swarfref43_Few.f k l0_0 l0_1).bind fun t521 => (if t521 = true then ((swarflaw43_valid.f k l0_0 40).bind fun t522 => (swarflaw43_few.j0 k (!t522) l0_0 l0_1)) else (swarflaw43_few.j0 k true l0_0 l0_1))
set_option maxHeartbeats 8000000 in
set_option maxRecDepth 100000 in
theorem swarflaw43_few.calls (k : Nat) (A0_0 : Option Addr) (c0_0 : Nat) (l0_0 : List (S32)) (A0_1 : Option Addr) (c0_1 : Nat) (l0_1 : List (S58)) (r : Bool) (w : World) (hr0_0 : Kd.C k32 w A0_0 l0_0.length l0_0) (hc0_0 : l0_0.length ≤ c0_0) (hr0_1 : Kd.C k58 w A0_1 l0_1.length l0_1) (hc0_1 : l0_1.length ≤ c0_1) (h : swarflaw43_few.f k l0_0 l0_1 = some r) :
  Calls Try.prog 27 #[.agg #[.slice A0_0 l0_0.length c0_0, .slice A0_1 l0_1.length c0_1]] w fun e w' => e = .returned (.bool r) ∧ Below w.heap.size w w' := by
 have hu48 := Try.underlying48
 have hu58 := Try.underlying58
 have HR0_0 := Aside0.mk hr0_0
 have HC0_0 := Aside0.mk hc0_0
 clear hr0_0 hc0_0
 have HR0_1 := Aside0.mk hr0_1
 have HC0_1 := Aside0.mk hc0_1
 clear hr0_1 hc0_1
 have HB := Aside0.mk (Below.refl w.heap.size w)
 have H : ((swarfref43_Few.f k l0_0 l0_1).bind fun t521 => (if t521 = true then ((swarflaw43_valid.f k l0_0 40).bind fun t522 => (swarflaw43_few.j0 k (!t522) l0_0 l0_1)) else (swarflaw43_few.j0 k true l0_0 l0_1))) = some r := h
 clear h
 have HC2 := Aside0.mk H
 clear H
 go_enter Try.func27, Try.ntmps27
 go_upto_region 1 with (first | ((with_reducible refine gate_dst (N := 1) rfl ?_); refine yX 1 #[.slice A0_0 l0_0.length c0_0, .slice A0_1 l0_1.length c0_1] 48 ?_; intro gb520 hg w3 hbox hb; have BK520 := Aside0.mk (hbox); have GE520 := Aside0.mk ((yG hg : w.heap.size ≤ gb520)); replace HB := Aside0.mk (below_step yB hb); clear hb hbox hg))
 (try simp only [Act.put, List.setIfInBounds_toArray, List.set_cons_zero, List.set_cons_succ])
 go_cut [13] (fun v13 wc => ∃ (kq : Nat) (x13_1 : Bool), v13 = .bool x13_1 ∧ Aside0 (swarflaw43_few.j0 kq x13_1 l0_0 l0_1 = some r) ∧ Aside0 (kq ≤ k) ∧ Aside0 (wc.heap[gb520]? = some (.cells #[(.slice A0_0 l0_0.length c0_0), (.slice A0_1 l0_1.length c0_1)] 48 (0, 0))) ∧ Aside0 (Below w.heap.size w wc))
 case first =>
  have H := HC2.out
  clear HC2
  replace H := Option.bind_eq_some_iff.mp H
  obtain ⟨t521, A40, H⟩ := H
  have A4 := Aside0.mk A40
  clear A40
  by_cases c5 : t521 = true
  ·subst c5
   rw [if_pos rfl] at H
   replace H := Option.bind_eq_some_iff.mp H
   obtain ⟨t522, A60, H⟩ := H
   have A6 := Aside0.mk A60
   clear A60
   have H' := Aside0.mk H
   clear H
   have hcz7_0 := yZ0 BK520.out
   have hcz7_1 := yZ1 BK520.out
   have hfz7_0 := blk_frozen BK520.out 0
   have hfz7_1 := blk_frozen BK520.out 1
   go_wp2_with (first | ((with_reducible refine gate_callee (f := 62) rfl ?_); refine goesL_ (some 6) rfl rfl Try.func62 (by kernel_rfl) rfl #[.agg #[.slice A0_0 l0_0.length c0_0, .slice A0_1 l0_1.length c0_1]] rfl yQ ?_; (with_reducible refine (swarfref43_Few.calls k _ _ l0_0 _ _ l0_1 true _ ?side1 ?side2 ?side3 ?side4 A4.out).mono ?_); (case side1 => exact yC HR0_0.out); (case side2 => exact HC0_0.out); (case side3 => exact yC HR0_1.out); (case side4 => exact HC0_1.out); rintro e w8 ⟨rfl, hb⟩; refine ⟨_, rfl, ?_⟩; replace BK520 := Aside0.mk (blk_below (g := gb520) yK hb); replace HB := Aside0.mk (below_step yB hb); (try clear hb); have hcz9_0 := yZ0 BK520.out; have hcz9_1 := yZ1 BK520.out; have hfz9_0 := blk_frozen BK520.out 0; have hfz9_1 := blk_frozen BK520.out 1) | (go_at_call 24; (with_reducible refine (swarflaw43_valid.calls k _ _ l0_0 40 t522 _ ?side1 ?side2 A6.out).mono ?_); (case side1 => exact yC HR0_0.out); (case side2 => exact HC0_0.out); rintro e w10 ⟨rfl, hb⟩; replace BK520 := Aside0.mk (blk_below (g := gb520) yK hb); replace HB := Aside0.mk (below_step yB hb); (try clear hb)))
   go_meet
   case rel => exact ⟨_, (!t522), yS, H', ⟨by first | omega | exact Nat.le_refl _⟩, ⟨by refine yH ?_; exact BK520.out⟩, ⟨yB⟩⟩
  replace c5 := Bool.eq_false_iff.mpr c5
  subst c5
  replace H : (swarflaw43_few.j0 k true l0_0 l0_1) = some r := by rw [if_neg (show ¬ (false = true) by decide)] at H; exact H
  have H' := Aside0.mk H
  clear H
  have hcz11_0 := yZ0 BK520.out
  have hcz11_1 := yZ1 BK520.out
  have hfz11_0 := blk_frozen BK520.out 0
  have hfz11_1 := blk_frozen BK520.out 1
  go_wp2_with (first | ((with_reducible refine gate_callee (f := 62) rfl ?_); refine goesL_ (some 6) rfl rfl Try.func62 (by kernel_rfl) rfl #[.agg #[.slice A0_0 l0_0.length c0_0, .slice A0_1 l0_1.length c0_1]] rfl yQ ?_; (with_reducible refine (swarfref43_Few.calls k _ _ l0_0 _ _ l0_1 false _ ?side1 ?side2 ?side3 ?side4 A4.out).mono ?_); (case side1 => exact yC HR0_0.out); (case side2 => exact HC0_0.out); (case side3 => exact yC HR0_1.out); (case side4 => exact HC0_1.out); rintro e w12 ⟨rfl, hb⟩; refine ⟨_, rfl, ?_⟩; replace BK520 := Aside0.mk (blk_below (g := gb520) yK hb); replace HB := Aside0.mk (below_step yB hb); (try clear hb)))
  go_meet
  case rel => exact ⟨_, (true), yS, H', ⟨by first | omega | exact Nat.le_refl _⟩, ⟨by refine yH ?_; exact BK520.out⟩, ⟨yB⟩⟩
 case rest =>
  clear HC2
  try clear c2
  try clear p2
  try clear c5
  try clear c6
  try clear hcz11_0
  try clear hcz11_1
  try clear hcz7_0
  try clear hcz7_1
  try clear hcz9_0
  try clear hcz9_1
  try clear hfz11_0
  try clear hfz11_1
  try clear hfz7_0
  try clear hfz7_1
  try clear hfz9_0
  try clear hfz9_1
  obtain ⟨kq, x13_1, rfl, HA, HJ1, BK520, HB⟩ := hcut
  cases kq with
  | zero => exact absurd HA.out (by simp [swarflaw43_few.j0])
  | succ kj1 =>
   have H := HA.out
   clear HA
   simp only [swarflaw43_few.j0] at H
   by_cases c13 : x13_1 = true
   ·subst c13
    rw [if_pos rfl] at H
    obtain rfl := Option.some.inj H
    go_wp2
    go_ret
    exact ⟨yE, yB⟩
   replace c13 := Bool.eq_false_iff.mpr c13
   subst c13
   replace H : (swarflaw43_few.l0 kj1 l0_1 (l0_1.length : Int) 0) = some r := by rw [if_neg (show ¬ (false = true) by decide)] at H; exact H
   have H' := Aside0.mk H
   clear H
   have hcz14_0 := yZ0 BK520.out
   have hcz14_1 := yZ1 BK520.out
   have hfz14_0 := blk_frozen BK520.out 0
   have hfz14_1 := blk_frozen BK520.out 1
   go_wp2
   go_loopg [17] kj1 (fun kq v17 w' => ∃ (x17_2 : Int), v17 = .int .i64 x17_2 ∧ Aside0 (swarflaw43_few.l0 kq l0_1 (l0_1.length : Int) x17_2 = some r) ∧ Aside0 (kq ≤ kj1) ∧ Aside0 (w'.heap[gb520]? = some (.cells #[(.slice A0_0 l0_0.length c0_0), (.slice A0_1 l0_1.length c0_1)] 48 (0, 0))) ∧ Aside0 (Below w.heap.size w w'))
   case atStart => exact ⟨(0), yS, H', ⟨Nat.le_refl _⟩, ⟨by refine yH ?_; exact BK520.out⟩, ⟨yB⟩⟩
   case round =>
    clear H'
    try clear c1
    try clear c2
    try clear p2
    try clear c5
    try clear c6
    try clear c13
    try clear hcz11_0
    try clear hcz11_1
    try clear hcz14_0
    try clear hcz14_1
    try clear hcz7_0
    try clear hcz7_1
    try clear hcz9_0
    try clear hcz9_1
    try clear hfz11_0
    try clear hfz11_1
    try clear hfz14_0
    try clear hfz14_1
    try clear hfz7_0
    try clear hfz7_1
    try clear hfz9_0
    try clear hfz9_1
    try clear p2
    obtain ⟨x17_2, rfl, HA, HK2, BK520, HB⟩ := hrel
    cases gk with
    | zero => exact absurd HA.out (by simp [swarflaw43_few.l0])
    | succ k2 =>
     have H := HA.out
     clear HA
     simp only [swarflaw43_few.l0] at H
     by_cases c15 : x17_2 < (l0_1.length : Int)
     ·rw [if_pos c15] at H
      have c15b0 := decide_eq_true c15
      clear c15
      by_cases c16 : 0 ≤ x17_2
      ·rw [if_pos c16] at H
       have c16b0 := decide_eq_true c16
       clear c16
       by_cases c17 : x17_2 < (l0_1.length : Int)
       ·rw [if_pos c17] at H
        have c17b0 := decide_eq_true c17
        clear c17
        replace H := Option.bind_eq_some_iff.mp H
        obtain ⟨t525, A180, H⟩ := H
        have A18 := Aside0.mk A180
        clear A180
        by_cases c19 : t525 = true
        ·subst c19
         rw [if_pos rfl] at H
         have H' := Aside0.mk H
         clear H
         have p523 : 0 ≤ (x17_2 : Int) := yD
         have q523 : x17_2 < (l0_1.length : Int) := yD
         obtain ⟨ad523, A523_1, c523_1, e523, hx523_0, hx523_1, hl523_1, hi523_1⟩ := at_T58 HR0_1.out x17_2 p523 q523
         cases e523
         replace hx523_0 := yM HB.out hx523_0
         replace hx523_1 := yM HB.out hx523_1
         have HR523_1 := Aside0.mk hi523_1
         have HC523_1 := Aside0.mk hl523_1
         clear hi523_1 hl523_1
         replace p523 := eq_true p523
         replace q523 := eq_true q523
         go_wp2_with (first | ((with_reducible refine gate_dst (N := 4) rfl ?_); refine yX 4 #[.int .i64 0, .slice none 0 0] 58 ?_; intro gb524 hg w20 hbox hb; have BK524 := Aside0.mk (hbox); have GW524 := Aside0.mk ((yG hg : w.heap.size ≤ gb524)); have GE524 := Aside0.mk ((yG hg : w.heap.size ≤ gb524)); replace HB := Aside0.mk (below_step yB hb); have NB520_524 := Aside0.mk ((yJ hg yK : gb520 ≠ gb524)); have NB524_520 := Aside0.mk ((yI hg yK : gb524 ≠ gb520)); replace BK520 := Aside0.mk (blk_below (g := gb520) yK hb); clear hb hbox hg; have hnb21 := NB524_520.out; have hnc21 := NB520_524.out; have hcz22_0 := yZ0 BK524.out; have hcz22_1 := yZ1 BK524.out; have hfz22_0 := blk_frozen BK524.out 0; have hfz22_1 := blk_frozen BK524.out 1) | ((with_reducible refine gate_callee (f := 24) rfl ?_); refine goesL_ (some 23) rfl rfl Try.func24 (by kernel_rfl) rfl #[.slice A523_1 ((rd_T58 l0_1 x17_2).f1).length c523_1, .int .i64 40] rfl yQ ?_; (with_reducible refine (swarflaw43_valid.calls k2 _ _ ((rd_T58 l0_1 x17_2).f1) 40 true _ ?side1 ?side2 A18.out).mono ?_); (case side1 => exact Kd.C_below HR523_1.out yB); (case side2 => exact HC523_1.out); rintro e w23 ⟨rfl, hb⟩; refine ⟨_, rfl, ?_⟩; replace BK520 := Aside0.mk (blk_below (g := gb520) (o := .cells #[.slice A0_0 l0_0.length c0_0, .slice (some ad523) l0_1.length c0_1] 48 (0, 0)) (by refine yH ?_; refine blk_far ?_ NB520_524.out _; refine yH ?_; refine blk_far ?_ NB520_524.out _; refine yH ?_; exact BK520.out) hb); replace BK524 := Aside0.mk (blk_below (g := gb524) (o := .cells #[.int .i64 ((rd_T58 l0_1 x17_2).f0), .slice A523_1 ((rd_T58 l0_1 x17_2).f1).length c523_1] 58 (0, 0)) (by refine yH ?_; refine blk_put (cs := #[.int .i64 ((rd_T58 l0_1 x17_2).f0), .slice none 0 0]) ?_ 1 _ rfl; refine yH ?_; refine blk_put (cs := #[.int .i64 0, .slice none 0 0]) ?_ 0 _ rfl; refine yH ?_; exact BK524.out) hb); replace HB := Aside0.mk (below_step yB hb); (try clear hb)))
         go_roundg k2
         case measure => have := HJ1.out; have := HK2.out; omega
         case rel => exact ⟨(wrap64 (x17_2 + 1)), yS, H', ⟨by have := HJ1.out; have := HK2.out; omega⟩, ⟨by refine yH ?_; exact BK520.out⟩, ⟨yB⟩⟩
        replace c19 := Bool.eq_false_iff.mpr c19
        subst c19
        replace H : (some false) = some r := by rw [if_neg (show ¬ (false = true) by decide)] at H; exact H
        obtain rfl := Option.some.inj H
        have p523 : 0 ≤ (x17_2 : Int) := yD
        have q523 : x17_2 < (l0_1.length : Int) := yD
        obtain ⟨ad523, A523_1, c523_1, e523, hx523_0, hx523_1, hl523_1, hi523_1⟩ := at_T58 HR0_1.out x17_2 p523 q523
        cases e523
        replace hx523_0 := yM HB.out hx523_0
        replace hx523_1 := yM HB.out hx523_1
        have HR523_1 := Aside0.mk hi523_1
        have HC523_1 := Aside0.mk hl523_1
        clear hi523_1 hl523_1
        replace p523 := eq_true p523
        replace q523 := eq_true q523
        go_wp2_with (first | ((with_reducible refine gate_dst (N := 4) rfl ?_); refine yX 4 #[.int .i64 0, .slice none 0 0] 58 ?_; intro gb524 hg w24 hbox hb; have BK524 := Aside0.mk (hbox); have GW524 := Aside0.mk ((yG hg : w.heap.size ≤ gb524)); have GE524 := Aside0.mk ((yG hg : w.heap.size ≤ gb524)); replace HB := Aside0.mk (below_step yB hb); have NB520_524 := Aside0.mk ((yJ hg yK : gb520 ≠ gb524)); have NB524_520 := Aside0.mk ((yI hg yK : gb524 ≠ gb520)); replace BK520 := Aside0.mk (blk_below (g := gb520) yK hb); clear hb hbox hg; have hnb25 := NB524_520.out; have hnc25 := NB520_524.out; have hcz26_0 := yZ0 BK524.out; have hcz26_1 := yZ1 BK524.out; have hfz26_0 := blk_frozen BK524.out 0; have hfz26_1 := blk_frozen BK524.out 1) | ((with_reducible refine gate_callee (f := 24) rfl ?_); refine goesL_ (some 23) rfl rfl Try.func24 (by kernel_rfl) rfl #[.slice A523_1 ((rd_T58 l0_1 x17_2).f1).length c523_1, .int .i64 40] rfl yQ ?_; (with_reducible refine (swarflaw43_valid.calls k2 _ _ ((rd_T58 l0_1 x17_2).f1) 40 false _ ?side1 ?side2 A18.out).mono ?_); (case side1 => exact Kd.C_below HR523_1.out yB); (case side2 => exact HC523_1.out); rintro e w27 ⟨rfl, hb⟩; refine ⟨_, rfl, ?_⟩; replace BK520 := Aside0.mk (blk_below (g := gb520) (o := .cells #[.slice A0_0 l0_0.length c0_0, .slice (some ad523) l0_1.length c0_1] 48 (0, 0)) (by refine yH ?_; refine blk_far ?_ NB520_524.out _; refine yH ?_; refine blk_far ?_ NB520_524.out _; refine yH ?_; exact BK520.out) hb); replace BK524 := Aside0.mk (blk_below (g := gb524) (o := .cells #[.int .i64 ((rd_T58 l0_1 x17_2).f0), .slice A523_1 ((rd_T58 l0_1 x17_2).f1).length c523_1] 58 (0, 0)) (by refine yH ?_; refine blk_put (cs := #[.int .i64 ((rd_T58 l0_1 x17_2).f0), .slice none 0 0]) ?_ 1 _ rfl; refine yH ?_; refine blk_put (cs := #[.int .i64 0, .slice none 0 0]) ?_ 0 _ rfl; refine yH ?_; exact BK524.out) hb); replace HB := Aside0.mk (below_step yB hb); (try clear hb)))
        go_ret
        exact ⟨yE, yB⟩
       rw [if_neg c17] at H
       exact absurd H (by simp)
      rw [if_neg c16] at H
      exact absurd H (by simp)
     rw [if_neg c15] at H
     have c15b0 := decide_eq_false c15
     clear c15
     obtain rfl := Option.some.inj H
     go_wp2
     go_ret
     exact ⟨yE, yB⟩
def swarflaw43_own.l0 : Nat → List (S58) → Int → Int → List (S32) → List (S81) → Option ((List (S32)) × (List (S81)))
 | 0, _, _, _, _, _ => none
 | k + 1, x11, x12, x13, x532000, x532001 => if x13 < x12 then (if 0 ≤ x13 then (if x13 < (x11.length : Int) then ((Clone_Block.f ((rd_T58 x11 x13).f1)).bind fun t534 => (if x532001.length < 4398046511104 then (swarflaw43_own.l0 k x11 x12 (wrap64 (x13 + 1)) x532000 (x532001 ++ [(⟨(rd_T58 x11 x13).f0, t534⟩ : S81)])) else (none))) else (none)) else (none)) else (some (x532000, x532001))
def swarflaw43_own.f (k : Nat) (l0_0 : List (S32)) (l0_1 : List (S58)) : Option ((List (S32)) × (List (S81))) := (Clone_Block.f l0_0).bind fun t528 => (swarflaw43_own.l0 k l0_1 (l0_1.length : Int) 0 t528 ([] : List (S81)))
def swarflaw43_own.T5 : Bool × List (List Nat × List Nat) := (true, [([], []), ([0], [0]), ([], []), ([2], [2]), ([], []), ([4], [4]), ([5], [5]), ([3, 6], [3, 6]), ([7], [7]), ([1, 8, 6], [1, 8]), ([0, 1, 2, 3, 4, 5, 6, 7, 8, 9], []), ([10, 9, 9, 0, 1, 2, 3, 4, 5, 6, 7, 8, 9], [9, 10])])
def swarflaw43_own.B5 : List Nat := [0, 1, 0, 4, 0, 16, 48, 124, 252, 511, 1023, 2047]
theorem swarflaw43_own.tab5 : rtab .any (opsOf Try.f29 5) = swarflaw43_own.T5 := by kernel_rfl
theorem swarflaw43_own.bits5 : waitsOk swarflaw43_own.T5.2 swarflaw43_own.B5 = true := by kernel_rfl
set_option maxHeartbeats 8000000 in
set_option maxRecDepth 100000 in
theorem swarflaw43_own.calls (k : Nat) (P0_0_ : Nat → Prop) (A0_0 : Option Addr) (c0_0 : Nat) (l0_0 : List (S32)) (P0_1_ : Nat → Prop) (A0_1 : Option Addr) (c0_1 : Nat) (l0_1 : List (S58)) (r1 : List (S32)) (r2 : List (S81)) (w : World) (hs0_0 : Kd.V k32 32 w w.heap.size (fun k_ => P0_0_ k_) (.slice A0_0 l0_0.length c0_0) l0_0) (hs0_1 : Kd.V k58 58 w w.heap.size (fun k_ => P0_1_ k_) (.slice A0_1 l0_1.length c0_1) l0_1) (h : swarflaw43_own.f k l0_0 l0_1 = some (r1, r2)) :
  Calls Try.prog 29 #[.agg #[.slice A0_0 l0_0.length c0_0, .slice A0_1 l0_1.length c0_1]] w fun e w' => ∃ v0_ v1_ : Value, e = .returned (.agg #[v0_, v1_]) ∧ Kd.N k32 32 w' w.heap.size (fun k_ => ((P0_0_ k_ ∨ P0_1_ k_) ∨ w.heap.size ≤ k_) ∧ some k_ ≠ (v1_ : Value).ownBlock) v0_ r1 ∧ Kd.N k81 81 w' w.heap.size (fun k_ => ((P0_0_ k_ ∨ P0_1_ k_) ∨ w.heap.size ≤ k_) ∧ some k_ ≠ (v0_ : Value).ownBlock) v1_ r2 ∧ Below w.heap.size w w' := by
 have hu48 := Try.underlying48
 have hu54 := Try.underlying54
 have hu58 := Try.underlying58
 have hu81 := Try.underlying81
 have HO0_0 := Aside0.mk (show Kd.V k32 32 w w.heap.size (fun k_ => ((P0_0_ k_ ∨ P0_1_ k_) ∨ w.heap.size ≤ k_)) (.slice A0_0 l0_0.length c0_0) l0_0 from Kd.V_mono hs0_0 (fun k_ hk => .inl (.inl hk)))
 have HO0_1 := Aside0.mk (show Kd.V k58 58 w w.heap.size (fun k_ => ((P0_0_ k_ ∨ P0_1_ k_) ∨ w.heap.size ≤ k_)) (.slice A0_1 l0_1.length c0_1) l0_1 from Kd.V_mono hs0_1 (fun k_ hk => .inl (.inr hk)))
 have HB := Aside0.mk (Below.refl w.heap.size w)
 have H : ((Clone_Block.f l0_0).bind fun t528 => (swarflaw43_own.l0 k l0_1 (l0_1.length : Int) 0 t528 ([] : List (S81)))) = some (r1, r2) := h
 clear h
 replace H := Option.bind_eq_some_iff.mp H
 obtain ⟨t528, A20, H⟩ := H
 have A2 := Aside0.mk A20
 clear A20
 have H' := Aside0.mk H
 clear H
 go_enter Try.func29, Try.ntmps29
 go_wp2_with (first | ((with_reducible refine gate_dst (N := 1) rfl ?_); refine yX 1 #[.slice A0_0 l0_0.length c0_0, .slice A0_1 l0_1.length c0_1] 48 ?_; intro gb526 hg w3 hbox hb; replace HO0_0 := Aside0.mk (Kd.V_below (Kd.V_elderB (yV HO0_0.out) gb526 (Nat.le_of_eq hg.symm)) hb); replace HO0_1 := Aside0.mk (Kd.V_below (Kd.V_elderB (yV HO0_1.out) gb526 (Nat.le_of_eq hg.symm)) hb); have BK526 := Aside0.mk (hbox); have GE526 := Aside0.mk ((yG hg : w.heap.size ≤ gb526)); replace HB := Aside0.mk (below_step yB hb); clear hb hbox hg) | ((with_reducible refine gate_dst (N := 2) rfl ?_); refine yX 2 #[.slice none 0 0, .slice none 0 0] 54 ?_; intro gb527 hg w4 hbox hb; replace HO0_0 := Aside0.mk (Kd.V_below (Kd.V_elderB (yV HO0_0.out) gb527 (Nat.le_of_eq hg.symm)) hb); replace HO0_1 := Aside0.mk (Kd.V_below (Kd.V_elderB (yV HO0_1.out) gb527 (Nat.le_of_eq hg.symm)) hb); have BK527 := Aside0.mk (hbox); have GE527 := Aside0.mk ((yG hg : w.heap.size ≤ gb527)); replace HB := Aside0.mk (below_step yB hb); have NB526_527 := Aside0.mk ((yJ hg yK : gb526 ≠ gb527)); have NB527_526 := Aside0.mk ((yI hg yK : gb527 ≠ gb526)); replace BK526 := Aside0.mk (blk_below (g := gb526) yK hb); clear hb hbox hg; have hnb5 := NB526_527.out; have hnc5 := NB527_526.out; have hcz6_0 := yZ0 BK526.out; have hcz6_1 := yZ1 BK526.out; have hfz6_0 := blk_frozen BK526.out 0; have hfz6_1 := blk_frozen BK526.out 1) | ((with_reducible refine gate_callee (f := 33) rfl ?_); refine goesL_ (some 8) rfl rfl Try.func33 (by kernel_rfl) rfl #[.slice A0_0 l0_0.length c0_0] rfl yQ ?_; (with_reducible refine (Clone_Block.calls (fun k_ => ((((P0_0_ k_ ∨ P0_1_ k_) ∨ w.heap.size ≤ k_) ∧ k_ ≠ gb526) ∧ k_ ≠ gb527)) _ _ l0_0 t528 _ ?side1 A2.out).mono ?_); (case side1 => exact HO0_0.out); rintro e w7 ⟨v529, rfl, ho0, hb⟩; refine ⟨_, rfl, ?_⟩; replace HO0_0 := Aside0.mk (Kd.V_elder' (yV HO0_0.out) (by first | exact Kd.N_base ho0 | exact Kd.S_base ho0) hb); replace HO0_1 := Aside0.mk (Kd.V_elder' (yV HO0_1.out) (by first | exact Kd.N_base ho0 | exact Kd.S_base ho0) hb); have HO530 := Aside0.mk (Kd.N_lower (Kd.N_mono (ok' := fun k_ => ((P0_0_ k_ ∨ P0_1_ k_) ∨ w.heap.size ≤ k_) ∧ k_ ≠ gb526 ∧ k_ ≠ gb527) ho0 (fun k_ hk_ => ⟨Or.elim hk_ (fun hs_ => hs_.1.1) (fun hn_ => (.inr (Nat.le_trans (below_size yB) hn_))), Or.elim hk_ (fun hs_ => hs_.1.2) (fun hn_ => (Kd.freshB (g := gb526) yK k_ hn_)), Or.elim hk_ (fun hs_ => hs_.2) (fun hn_ => (Kd.freshB (g := gb527) yK k_ hn_))⟩)) (below_size yB)); replace BK526 := Aside0.mk (blk_below (g := gb526) yK hb); replace BK527 := Aside0.mk (blk_below (g := gb527) yK hb); replace HB := Aside0.mk (below_step yB hb); (try clear hb); (try clear ho0); obtain ⟨Ao8, co8, eo8⟩ := Kd.N_slice HO530.out; subst eo8) | ((with_reducible refine gate_dst (N := 3) rfl ?_); refine yX 3 #[.slice none 0 0, .slice none 0 0] 54 ?_; intro gb531 hg w9 hbox hb; replace HO0_0 := Aside0.mk (Kd.V_below (Kd.V_elderB (yV HO0_0.out) gb531 (Nat.le_of_eq hg.symm)) hb); replace HO0_1 := Aside0.mk (Kd.V_below (Kd.V_elderB (yV HO0_1.out) gb531 (Nat.le_of_eq hg.symm)) hb); replace HO530 := Aside0.mk (Kd.N_below (Kd.N_elderB (yN HO530.out) gb531 (Nat.le_of_eq hg.symm)) hb); have BK531 := Aside0.mk (hbox); have GE531 := Aside0.mk ((yG hg : w.heap.size ≤ gb531)); replace HB := Aside0.mk (below_step yB hb); have NB526_531 := Aside0.mk ((yJ hg yK : gb526 ≠ gb531)); have NB531_526 := Aside0.mk ((yI hg yK : gb531 ≠ gb526)); replace BK526 := Aside0.mk (blk_below (g := gb526) yK hb); have NB527_531 := Aside0.mk ((yJ hg yK : gb527 ≠ gb531)); have NB531_527 := Aside0.mk ((yI hg yK : gb531 ≠ gb527)); replace BK527 := Aside0.mk (blk_below (g := gb527) yK hb); clear hb hbox hg; have hnb10 := NB531_526.out; have hnc10 := NB526_531.out; have hnb11 := NB531_527.out; have hnc11 := NB527_531.out; have hcz12_0 := yZ0 BK531.out; have hcz12_1 := yZ1 BK531.out; have hfz12_0 := blk_frozen BK531.out 0; have hfz12_1 := blk_frozen BK531.out 1; have hcz13_0 := yZ0 BK526.out; have hcz13_1 := yZ1 BK526.out; have hfz13_0 := blk_frozen BK526.out 0; have hfz13_1 := blk_frozen BK526.out 1))
 go_loopg [13] k (fun kq v13 w' => ∃ (x13_1 : Int) (x532001_1 : List (S81)) (u532001 : Value), v13 = .int .i64 x13_1 ∧ Aside0 (swarflaw43_own.l0 kq l0_1 (l0_1.length : Int) x13_1 t528 x532001_1 = some (r1, r2)) ∧ Aside0 (kq ≤ k) ∧ Aside0 (Kd.V k58 58 w' w.heap.size (fun k_ => ((P0_0_ k_ ∨ P0_1_ k_) ∨ w.heap.size ≤ k_) ∧ some k_ ≠ ((.slice Ao8 t528.length co8) : Value).ownBlock ∧ some k_ ≠ (u532001 : Value).ownBlock ∧ k_ ≠ gb526 ∧ k_ ≠ gb527 ∧ k_ ≠ gb531) (.slice A0_1 l0_1.length c0_1) l0_1) ∧ Aside0 (Kd.V k32 32 w' w.heap.size (fun k_ => ((P0_0_ k_ ∨ P0_1_ k_) ∨ w.heap.size ≤ k_) ∧ some k_ ≠ ((.slice Ao8 t528.length co8) : Value).ownBlock ∧ some k_ ≠ (u532001 : Value).ownBlock ∧ k_ ≠ gb526 ∧ k_ ≠ gb527 ∧ k_ ≠ gb531) (.slice A0_0 l0_0.length c0_0) l0_0) ∧ Aside0 (Kd.V k58 58 w' w.heap.size (fun k_ => ((P0_0_ k_ ∨ P0_1_ k_) ∨ w.heap.size ≤ k_) ∧ some k_ ≠ ((.slice Ao8 t528.length co8) : Value).ownBlock ∧ some k_ ≠ (u532001 : Value).ownBlock ∧ k_ ≠ gb526 ∧ k_ ≠ gb527 ∧ k_ ≠ gb531) (.slice A0_1 l0_1.length c0_1) l0_1) ∧ Aside0 (Kd.N k32 32 w' w.heap.size (fun k_ => ((P0_0_ k_ ∨ P0_1_ k_) ∨ w.heap.size ≤ k_) ∧ some k_ ≠ (u532001 : Value).ownBlock ∧ k_ ≠ gb526 ∧ k_ ≠ gb527 ∧ k_ ≠ gb531) (.slice Ao8 t528.length co8) t528) ∧ Aside0 (Kd.N k81 81 w' w.heap.size (fun k_ => ((P0_0_ k_ ∨ P0_1_ k_) ∨ w.heap.size ≤ k_) ∧ some k_ ≠ ((.slice Ao8 t528.length co8) : Value).ownBlock ∧ k_ ≠ gb526 ∧ k_ ≠ gb527 ∧ k_ ≠ gb531) u532001 x532001_1) ∧ Aside0 (w'.heap[gb526]? = some (.cells #[(.slice A0_0 l0_0.length c0_0), (.slice A0_1 l0_1.length c0_1)] 48 (0, 0))) ∧ Aside0 (w'.heap[gb527]? = some (.cells #[(.slice none 0 0), (.slice none 0 0)] 54 (0, 0))) ∧ Aside0 (w'.heap[gb531]? = some (.cells #[(.slice Ao8 t528.length co8), u532001] 54 (0, 0))) ∧ Aside0 (Below w.heap.size w w'))
 case atStart => exact ⟨(0), (([] : List (S81))), (.slice none 0 0), yS, H', ⟨Nat.le_refl _⟩, ⟨by refine yV ?_; exact Kd.V_mono (Kd.V_far (p := ⟨gb531, 1, none⟩) (Kd.V_far (p := ⟨gb531, 0, none⟩) (Kd.V_mono HO0_1.out (fun k_ hk => (⟨hk, hk.2⟩ : _ ∧ k_ ≠ gb531))) (fun _ hk => hk.2) (.slice Ao8 t528.length co8)) (fun _ hk => hk.2) (.slice none 0 0)) (fun _ hk => ⟨hk.1.1.1.1.1, ⟨hk.1.1.2, ⟨(by simp [Value.ownBlock]), ⟨hk.1.1.1.1.2, ⟨hk.1.1.1.2, hk.1.2⟩⟩⟩⟩⟩)⟩, ⟨by refine yV ?_; exact Kd.V_mono (Kd.V_far (p := ⟨gb531, 1, none⟩) (Kd.V_far (p := ⟨gb531, 0, none⟩) (Kd.V_mono HO0_0.out (fun k_ hk => (⟨hk, hk.2⟩ : _ ∧ k_ ≠ gb531))) (fun _ hk => hk.2) (.slice Ao8 t528.length co8)) (fun _ hk => hk.2) (.slice none 0 0)) (fun _ hk => ⟨hk.1.1.1.1.1, ⟨hk.1.1.2, ⟨(by simp [Value.ownBlock]), ⟨hk.1.1.1.1.2, ⟨hk.1.1.1.2, hk.1.2⟩⟩⟩⟩⟩)⟩, ⟨by refine yV ?_; exact Kd.V_mono (Kd.V_far (p := ⟨gb531, 1, none⟩) (Kd.V_far (p := ⟨gb531, 0, none⟩) (Kd.V_mono HO0_1.out (fun k_ hk => (⟨hk, hk.2⟩ : _ ∧ k_ ≠ gb531))) (fun _ hk => hk.2) (.slice Ao8 t528.length co8)) (fun _ hk => hk.2) (.slice none 0 0)) (fun _ hk => ⟨hk.1.1.1.1.1, ⟨hk.1.1.2, ⟨(by simp [Value.ownBlock]), ⟨hk.1.1.1.1.2, ⟨hk.1.1.1.2, hk.1.2⟩⟩⟩⟩⟩)⟩, ⟨by refine yN ?_; exact Kd.N_mono (Kd.N_far (p := ⟨gb531, 1, none⟩) (Kd.N_far (p := ⟨gb531, 0, none⟩) (Kd.N_mono HO530.out (fun k_ hk => (⟨hk, hk.2⟩ : _ ∧ k_ ≠ gb531))) (fun _ hk => hk.2) (.slice Ao8 t528.length co8)) (fun _ hk => hk.2) (.slice none 0 0)) (fun _ hk => ⟨hk.1.1.1, ⟨(by simp [Value.ownBlock]), ⟨hk.1.1.2.1, ⟨hk.1.1.2.2, hk.1.2⟩⟩⟩⟩)⟩, ⟨by first | exact Kd.R_nil _ _ _ _ _ | exact Kd.N_nil _ _ _ _ _ | exact Kd.V_nil _ _ _ _ _ | exact Kd.Q_nil _ _ _ _ _ | exact Kd.S_nil _ _ _ _ _⟩, ⟨by refine yH ?_; refine blk_far ?_ NB526_531.out _; refine yH ?_; refine blk_far ?_ NB526_531.out _; refine yH ?_; exact BK526.out⟩, ⟨by refine yH ?_; refine blk_far ?_ NB527_531.out _; refine yH ?_; refine blk_far ?_ NB527_531.out _; refine yH ?_; exact BK527.out⟩, ⟨by refine yH ?_; refine blk_put (cs := #[.slice Ao8 t528.length co8, .slice none 0 0]) ?_ 1 _ rfl; refine yH ?_; refine blk_put (cs := #[.slice none 0 0, .slice none 0 0]) ?_ 0 _ rfl; refine yH ?_; exact BK531.out⟩, ⟨yB⟩⟩
 case round =>
  clear H'
  try clear c1
  try clear c2
  try clear p2
  try clear c3
  try clear c5
  try clear c10
  try clear c11
  try clear hcz12_0
  try clear hcz12_1
  try clear hcz13_0
  try clear hcz13_1
  try clear hcz6_0
  try clear hcz6_1
  try clear hfz12_0
  try clear hfz12_1
  try clear hfz13_0
  try clear hfz13_1
  try clear hfz6_0
  try clear hfz6_1
  obtain ⟨x13_1, x532001_1, u532001, rfl, HA, HK1, HO_11, HO_527000, HO_527001, HO_532000, HO_532001, BK526, BK527, BK531, HB⟩ := hrel
  cases gk with
  | zero => exact absurd HA.out (by simp [swarflaw43_own.l0])
  | succ k1 =>
   have H := HA.out
   clear HA
   simp only [swarflaw43_own.l0] at H
   by_cases c14 : x13_1 < (l0_1.length : Int)
   ·rw [if_pos c14] at H
    have c14b0 := decide_eq_true c14
    clear c14
    by_cases c15 : 0 ≤ x13_1
    ·rw [if_pos c15] at H
     have c15b0 := decide_eq_true c15
     clear c15
     by_cases c16 : x13_1 < (l0_1.length : Int)
     ·rw [if_pos c16] at H
      have c16b0 := decide_eq_true c16
      clear c16
      replace H := Option.bind_eq_some_iff.mp H
      obtain ⟨t534, A170, H⟩ := H
      have A17 := Aside0.mk A170
      clear A170
      by_cases c18 : x532001_1.length < 4398046511104
      ·rw [if_pos c18] at H
       have LMc18 := Aside0.mk c18
       clear c18
       obtain ⟨y537, hy537⟩ : ∃ y_ : List (S81), y_ = (x532001_1 ++ [(⟨(rd_T58 l0_1 x13_1).f0, t534⟩ : S81)]) := ⟨_, rfl⟩
       replace H : (swarflaw43_own.l0 k1 l0_1 (l0_1.length : Int) (wrap64 (x13_1 + 1)) t528 y537) = some (r1, r2) := by first | (rw [hy537]; with_reducible exact H) | (have H2_ := (Option.bind_some _ _).symm.trans H; rw [hy537]; with_reducible exact H2_) | (have H2_ := (Option.bind_some _ _).symm.trans H; with_reducible exact H2_) | with_reducible exact H | (rw [hy537]; exact H) | exact H
       have Ny537 := Aside0.mk hy537
       clear hy537
       have H' := Aside0.mk H
       clear H
       have p532 : 0 ≤ (x13_1 : Int) := yD
       have q532 : x13_1 < (l0_1.length : Int) := yD
       obtain ⟨ad532, A532_1, c532_1, e532, hx532_0, hx532_1, hl532_1, hi532_1⟩ := at_T58 (Kd.V_reads' HO_11.out).2.2 x13_1 p532 q532
       cases e532
       obtain ⟨ce532, hce532, hMe532, hcc532⟩ := Kd.V_get HO_11.out z58 x13_1 p532 (by first | exact q532 | exact yD | (have e_ := (Kd.V_reads' HO_11.out).1; omega))
       obtain ⟨ua532_1, uc532_1, rfl, ul532_1, ge532_1⟩ := k58_openF hMe532
       have hv532_1 := hcc532 1 _ rfl
       rw [add_field _ _ 1 (by omega)] at hv532_1
       replace hv532_1 := Option.some.inj (hv532_1.symm.trans hx532_1)
       injection hv532_1 with hva_ hvn_ hvc_
       rw [hva_] at ge532_1
       rw [hvc_] at ul532_1
       have HL532_1 := Aside0.mk (show Kd.V k32 32 _ w.heap.size _ _ ((rd_T58 l0_1 x13_1).f1) from Kd.V_mk ul532_1 ge532_1)
       clear hva_ hvn_ hvc_ ge532_1 ul532_1
       clear hcc532 hce532
       have HR532_1 := Aside0.mk hi532_1
       have HC532_1 := Aside0.mk hl532_1
       clear hi532_1 hl532_1
       replace p532 := eq_true p532
       replace q532 := eq_true q532
       try go_wp2_with (first | ((with_reducible refine gate_dst (N := 5) rfl ?_); refine yX 5 #[.int .i64 0, .slice none 0 0] 58 ?_; intro gb533 hg w19 hbox hb; replace HO_11 := Aside0.mk (Kd.V_below (Kd.V_elderB (yV HO_11.out) gb533 (Nat.le_of_eq hg.symm)) hb); replace HO_527000 := Aside0.mk (Kd.V_below (Kd.V_elderB (yV HO_527000.out) gb533 (Nat.le_of_eq hg.symm)) hb); replace HO_527001 := Aside0.mk (Kd.V_below (Kd.V_elderB (yV HO_527001.out) gb533 (Nat.le_of_eq hg.symm)) hb); replace HO_532000 := Aside0.mk (Kd.N_below (Kd.N_elderB (yN HO_532000.out) gb533 (Nat.le_of_eq hg.symm)) hb); replace HO_532001 := Aside0.mk (Kd.N_below (Kd.N_elderB (yN HO_532001.out) gb533 (Nat.le_of_eq hg.symm)) hb); replace HL532_1 := Aside0.mk (Kd.V_below (Kd.V_elderB (yV HL532_1.out) gb533 (Nat.le_of_eq hg.symm)) hb); replace HR532_1 := Aside0.mk (Kd.C_below (by repeat (first | (with_reducible exact HR532_1.out) | (with_reducible refine Kd.C_alloc ?_ _) | (with_reducible refine Kd.C_drewN ?_ _) | (with_reducible refine Kd.C_drew ?_) | exact HR532_1.out)) hb); have BK533 := Aside0.mk (hbox); have GE533 := Aside0.mk ((yG hg : w.heap.size ≤ gb533)); replace HB := Aside0.mk (below_step yB hb); have NB526_533 := Aside0.mk ((yJ hg yK : gb526 ≠ gb533)); have NB533_526 := Aside0.mk ((yI hg yK : gb533 ≠ gb526)); replace BK526 := Aside0.mk (blk_below (g := gb526) yK hb); have NB527_533 := Aside0.mk ((yJ hg yK : gb527 ≠ gb533)); have NB533_527 := Aside0.mk ((yI hg yK : gb533 ≠ gb527)); replace BK527 := Aside0.mk (blk_below (g := gb527) yK hb); have NB531_533 := Aside0.mk ((yJ hg yK : gb531 ≠ gb533)); have NB533_531 := Aside0.mk ((yI hg yK : gb533 ≠ gb531)); replace BK531 := Aside0.mk (blk_below (g := gb531) yK hb); clear hb hbox hg; have hnb20 := NB533_526.out; have hnc20 := NB526_533.out; have hnb21 := NB533_527.out; have hnc21 := NB527_533.out; have hnb22 := NB533_531.out; have hnc22 := NB531_533.out; have hcz23_0 := yZ0 BK533.out; have hcz23_1 := yZ1 BK533.out; have hfz23_0 := blk_frozen BK533.out 0; have hfz23_1 := blk_frozen BK533.out 1))
       have n0_ : Aside0 (Kd.V k58 58 ((w19.setCell ⟨gb533, 0, none⟩ (.int .i64 ((rd_T58 l0_1 x13_1).f0))).setCell ⟨gb533, 1, none⟩ (.slice A532_1 ((rd_T58 l0_1 x13_1).f1).length c532_1)) w.heap.size (fun k_ => ((P0_0_ k_ ∨ P0_1_ k_) ∨ w.heap.size ≤ k_) ∧ some k_ ≠ (.slice Ao8 t528.length co8 : Value).ownBlock ∧ some k_ ≠ (u532001 : Value).ownBlock ∧ k_ ≠ gb526 ∧ k_ ≠ gb527 ∧ k_ ≠ gb531 ∧ k_ ≠ gb533) (.slice (some ad532) l0_1.length c0_1) l0_1) := ⟨by refine yV ?_; exact Kd.V_mono (Kd.V_far (p := ⟨gb533, 1, none⟩) (Kd.V_far (p := ⟨gb533, 0, none⟩) (Kd.V_mono HO_11.out (fun k_ hk => (⟨hk, hk.2⟩ : _ ∧ k_ ≠ gb533))) (fun _ hk => hk.2) (.int .i64 ((rd_T58 l0_1 x13_1).f0))) (fun _ hk => hk.2) (.slice A532_1 ((rd_T58 l0_1 x13_1).f1).length c532_1)) (fun _ hk => ⟨hk.1.1.1, ⟨hk.1.1.2.1, ⟨hk.1.1.2.2.1, ⟨hk.1.1.2.2.2.1, ⟨hk.1.1.2.2.2.2.1, ⟨hk.1.1.2.2.2.2.2, hk.1.2⟩⟩⟩⟩⟩⟩)⟩
       have n1_ : Aside0 (Kd.V k32 32 ((w19.setCell ⟨gb533, 0, none⟩ (.int .i64 ((rd_T58 l0_1 x13_1).f0))).setCell ⟨gb533, 1, none⟩ (.slice A532_1 ((rd_T58 l0_1 x13_1).f1).length c532_1)) w.heap.size (fun k_ => ((P0_0_ k_ ∨ P0_1_ k_) ∨ w.heap.size ≤ k_) ∧ some k_ ≠ (.slice Ao8 t528.length co8 : Value).ownBlock ∧ some k_ ≠ (u532001 : Value).ownBlock ∧ k_ ≠ gb526 ∧ k_ ≠ gb527 ∧ k_ ≠ gb531 ∧ k_ ≠ gb533) (.slice A0_0 l0_0.length c0_0) l0_0) := ⟨by refine yV ?_; exact Kd.V_mono (Kd.V_far (p := ⟨gb533, 1, none⟩) (Kd.V_far (p := ⟨gb533, 0, none⟩) (Kd.V_mono HO_527000.out (fun k_ hk => (⟨hk, hk.2⟩ : _ ∧ k_ ≠ gb533))) (fun _ hk => hk.2) (.int .i64 ((rd_T58 l0_1 x13_1).f0))) (fun _ hk => hk.2) (.slice A532_1 ((rd_T58 l0_1 x13_1).f1).length c532_1)) (fun _ hk => ⟨hk.1.1.1, ⟨hk.1.1.2.1, ⟨hk.1.1.2.2.1, ⟨hk.1.1.2.2.2.1, ⟨hk.1.1.2.2.2.2.1, ⟨hk.1.1.2.2.2.2.2, hk.1.2⟩⟩⟩⟩⟩⟩)⟩
       have n2_ : Aside0 (Kd.V k58 58 ((w19.setCell ⟨gb533, 0, none⟩ (.int .i64 ((rd_T58 l0_1 x13_1).f0))).setCell ⟨gb533, 1, none⟩ (.slice A532_1 ((rd_T58 l0_1 x13_1).f1).length c532_1)) w.heap.size (fun k_ => ((P0_0_ k_ ∨ P0_1_ k_) ∨ w.heap.size ≤ k_) ∧ some k_ ≠ (.slice Ao8 t528.length co8 : Value).ownBlock ∧ some k_ ≠ (u532001 : Value).ownBlock ∧ k_ ≠ gb526 ∧ k_ ≠ gb527 ∧ k_ ≠ gb531 ∧ k_ ≠ gb533) (.slice (some ad532) l0_1.length c0_1) l0_1) := ⟨by refine yV ?_; exact Kd.V_mono (Kd.V_far (p := ⟨gb533, 1, none⟩) (Kd.V_far (p := ⟨gb533, 0, none⟩) (Kd.V_mono HO_527001.out (fun k_ hk => (⟨hk, hk.2⟩ : _ ∧ k_ ≠ gb533))) (fun _ hk => hk.2) (.int .i64 ((rd_T58 l0_1 x13_1).f0))) (fun _ hk => hk.2) (.slice A532_1 ((rd_T58 l0_1 x13_1).f1).length c532_1)) (fun _ hk => ⟨hk.1.1.1, ⟨hk.1.1.2.1, ⟨hk.1.1.2.2.1, ⟨hk.1.1.2.2.2.1, ⟨hk.1.1.2.2.2.2.1, ⟨hk.1.1.2.2.2.2.2, hk.1.2⟩⟩⟩⟩⟩⟩)⟩
       have n3_ : Aside0 (Kd.N k32 32 ((w19.setCell ⟨gb533, 0, none⟩ (.int .i64 ((rd_T58 l0_1 x13_1).f0))).setCell ⟨gb533, 1, none⟩ (.slice A532_1 ((rd_T58 l0_1 x13_1).f1).length c532_1)) w.heap.size (fun k_ => ((P0_0_ k_ ∨ P0_1_ k_) ∨ w.heap.size ≤ k_) ∧ some k_ ≠ (u532001 : Value).ownBlock ∧ k_ ≠ gb526 ∧ k_ ≠ gb527 ∧ k_ ≠ gb531 ∧ k_ ≠ gb533) (.slice Ao8 t528.length co8) t528) := ⟨by refine yN ?_; exact Kd.N_mono (Kd.N_far (p := ⟨gb533, 1, none⟩) (Kd.N_far (p := ⟨gb533, 0, none⟩) (Kd.N_mono HO_532000.out (fun k_ hk => (⟨hk, hk.2⟩ : _ ∧ k_ ≠ gb533))) (fun _ hk => hk.2) (.int .i64 ((rd_T58 l0_1 x13_1).f0))) (fun _ hk => hk.2) (.slice A532_1 ((rd_T58 l0_1 x13_1).f1).length c532_1)) (fun _ hk => ⟨hk.1.1.1, ⟨hk.1.1.2.1, ⟨hk.1.1.2.2.1, ⟨hk.1.1.2.2.2.1, ⟨hk.1.1.2.2.2.2, hk.1.2⟩⟩⟩⟩⟩)⟩
       have n4_ : Aside0 (Kd.N k81 81 ((w19.setCell ⟨gb533, 0, none⟩ (.int .i64 ((rd_T58 l0_1 x13_1).f0))).setCell ⟨gb533, 1, none⟩ (.slice A532_1 ((rd_T58 l0_1 x13_1).f1).length c532_1)) w.heap.size (fun k_ => ((P0_0_ k_ ∨ P0_1_ k_) ∨ w.heap.size ≤ k_) ∧ some k_ ≠ (.slice Ao8 t528.length co8 : Value).ownBlock ∧ k_ ≠ gb526 ∧ k_ ≠ gb527 ∧ k_ ≠ gb531 ∧ k_ ≠ gb533) u532001 x532001_1) := ⟨by refine yN ?_; exact Kd.N_mono (Kd.N_far (p := ⟨gb533, 1, none⟩) (Kd.N_far (p := ⟨gb533, 0, none⟩) (Kd.N_mono HO_532001.out (fun k_ hk => (⟨hk, hk.2⟩ : _ ∧ k_ ≠ gb533))) (fun _ hk => hk.2) (.int .i64 ((rd_T58 l0_1 x13_1).f0))) (fun _ hk => hk.2) (.slice A532_1 ((rd_T58 l0_1 x13_1).f1).length c532_1)) (fun _ hk => ⟨hk.1.1.1, ⟨hk.1.1.2.1, ⟨hk.1.1.2.2.1, ⟨hk.1.1.2.2.2.1, ⟨hk.1.1.2.2.2.2, hk.1.2⟩⟩⟩⟩⟩)⟩
       have n5_ : Aside0 (Kd.V k32 32 ((w19.setCell ⟨gb533, 0, none⟩ (.int .i64 ((rd_T58 l0_1 x13_1).f0))).setCell ⟨gb533, 1, none⟩ (.slice A532_1 ((rd_T58 l0_1 x13_1).f1).length c532_1)) w.heap.size (fun k_ => ((P0_0_ k_ ∨ P0_1_ k_) ∨ w.heap.size ≤ k_) ∧ some k_ ≠ (.slice Ao8 t528.length co8 : Value).ownBlock ∧ some k_ ≠ (u532001 : Value).ownBlock ∧ k_ ≠ gb526 ∧ k_ ≠ gb527 ∧ k_ ≠ gb531 ∧ k_ ≠ gb533) (.slice A532_1 ((rd_T58 l0_1 x13_1).f1).length c532_1) ((rd_T58 l0_1 x13_1).f1)) := ⟨by refine yV ?_; exact Kd.V_mono (Kd.V_far (p := ⟨gb533, 1, none⟩) (Kd.V_far (p := ⟨gb533, 0, none⟩) (Kd.V_mono HL532_1.out (fun k_ hk => (⟨hk, hk.2⟩ : _ ∧ k_ ≠ gb533))) (fun _ hk => hk.2) (.int .i64 ((rd_T58 l0_1 x13_1).f0))) (fun _ hk => hk.2) (.slice A532_1 ((rd_T58 l0_1 x13_1).f1).length c532_1)) (fun _ hk => ⟨hk.1.1.1, ⟨hk.1.1.2.1, ⟨hk.1.1.2.2.1, ⟨hk.1.1.2.2.2.1, ⟨hk.1.1.2.2.2.2.1, ⟨hk.1.1.2.2.2.2.2, hk.1.2⟩⟩⟩⟩⟩⟩)⟩
       have n6_ : Aside0 (((w19.setCell ⟨gb533, 0, none⟩ (.int .i64 ((rd_T58 l0_1 x13_1).f0))).setCell ⟨gb533, 1, none⟩ (.slice A532_1 ((rd_T58 l0_1 x13_1).f1).length c532_1)).heap[gb526]? = some (.cells #[.slice A0_0 l0_0.length c0_0, .slice (some ad532) l0_1.length c0_1] 48 (0, 0))) := ⟨by refine yH ?_; refine blk_far ?_ NB526_533.out _; refine yH ?_; refine blk_far ?_ NB526_533.out _; refine yH ?_; exact BK526.out⟩
       have n7_ : Aside0 (((w19.setCell ⟨gb533, 0, none⟩ (.int .i64 ((rd_T58 l0_1 x13_1).f0))).setCell ⟨gb533, 1, none⟩ (.slice A532_1 ((rd_T58 l0_1 x13_1).f1).length c532_1)).heap[gb527]? = some (.cells #[.slice none 0 0, .slice none 0 0] 54 (0, 0))) := ⟨by refine yH ?_; refine blk_far ?_ NB527_533.out _; refine yH ?_; refine blk_far ?_ NB527_533.out _; refine yH ?_; exact BK527.out⟩
       have n8_ : Aside0 (((w19.setCell ⟨gb533, 0, none⟩ (.int .i64 ((rd_T58 l0_1 x13_1).f0))).setCell ⟨gb533, 1, none⟩ (.slice A532_1 ((rd_T58 l0_1 x13_1).f1).length c532_1)).heap[gb531]? = some (.cells #[.slice Ao8 t528.length co8, u532001] 54 (0, 0))) := ⟨by refine yH ?_; refine blk_far ?_ NB531_533.out _; refine yH ?_; refine blk_far ?_ NB531_533.out _; refine yH ?_; exact BK531.out⟩
       have n9_ : Aside0 (((w19.setCell ⟨gb533, 0, none⟩ (.int .i64 ((rd_T58 l0_1 x13_1).f0))).setCell ⟨gb533, 1, none⟩ (.slice A532_1 ((rd_T58 l0_1 x13_1).f1).length c532_1)).heap[gb533]? = some (.cells #[.int .i64 ((rd_T58 l0_1 x13_1).f0), .slice A532_1 ((rd_T58 l0_1 x13_1).f1).length c532_1] 58 (0, 0))) := ⟨by refine yH ?_; refine blk_put (cs := #[.int .i64 ((rd_T58 l0_1 x13_1).f0), .slice none 0 0]) ?_ 1 _ rfl; refine yH ?_; refine blk_put (cs := #[.int .i64 0, .slice none 0 0]) ?_ 0 _ rfl; refine yH ?_; exact BK533.out⟩
       have n10_ : Aside0 (Below w.heap.size w ((w19.setCell ⟨gb533, 0, none⟩ (.int .i64 ((rd_T58 l0_1 x13_1).f0))).setCell ⟨gb533, 1, none⟩ (.slice A532_1 ((rd_T58 l0_1 x13_1).f1).length c532_1))) := ⟨yB⟩
       (try clear HO_11)
       (try clear HO_527000)
       (try clear HO_527001)
       (try clear HO_532000)
       (try clear HO_532001)
       (try clear HL532_1)
       (try clear BK526)
       (try clear BK527)
       (try clear BK531)
       (try clear BK533)
       (try clear HB)
       generalize ((w19.setCell ⟨gb533, 0, none⟩ (.int .i64 ((rd_T58 l0_1 x13_1).f0))).setCell ⟨gb533, 1, none⟩ (.slice A532_1 ((rd_T58 l0_1 x13_1).f1).length c532_1)) = w24 at n0_ n1_ n2_ n3_ n4_ n5_ n6_ n7_ n8_ n9_ n10_ ⊢
       have HO_11 := n0_
       have HO_527000 := n1_
       have HO_527001 := n2_
       have HO_532000 := n3_
       have HO_532001 := n4_
       have HL532_1 := n5_
       have BK526 := n6_
       have BK527 := n7_
       have BK531 := n8_
       have BK533 := n9_
       have HB := n10_
       clear n0_ n1_ n2_ n3_ n4_ n5_ n6_ n7_ n8_ n9_ n10_
       replace HO_11 := Aside0.mk (Kd.V_drew HO_11.out)
       replace HO_527000 := Aside0.mk (Kd.V_drew HO_527000.out)
       replace HO_527001 := Aside0.mk (Kd.V_drew HO_527001.out)
       replace HO_532000 := Aside0.mk (Kd.N_drew HO_532000.out)
       replace HO_532001 := Aside0.mk (Kd.N_drew HO_532001.out)
       replace HL532_1 := Aside0.mk (Kd.V_drew HL532_1.out)
       replace BK526 := Aside0.mk (blk_drew BK526.out)
       replace BK527 := Aside0.mk (blk_drew BK527.out)
       replace BK531 := Aside0.mk (blk_drew BK531.out)
       replace BK533 := Aside0.mk (blk_drew BK533.out)
       replace HB := Aside0.mk (below_drew1 HB.out)
       refine start_ (n := 12) (S := fun w' => w'.cell? ⟨gb531, 0, none⟩ = some (.slice Ao8 t528.length co8) ∧ w'.cell? ⟨gb531, 1, none⟩ = some (u532001) ∧ w'.cell? ⟨gb533, 0, none⟩ = some (.int .i64 ((rd_T58 l0_1 x13_1).f0)) ∧ w'.cell? ⟨gb533, 1, none⟩ = some (.slice A532_1 ((rd_T58 l0_1 x13_1).f1).length c532_1)) (ds := [11]) #[false, false, false, false, false, false, false, false, false, false, false, false] (by kernel_rfl) rfl rfl ⟨(blk_cell BK531.out 0).trans rfl, (blk_cell BK531.out 1).trans rfl, (blk_cell BK533.out 0).trans rfl, (blk_cell BK533.out 1).trans rfl⟩ (fun hHeld => ?_); refine with_tabW swarflaw43_own.tab5 swarflaw43_own.bits5 (fun HT_ HW_ => ?_)
       generalize w24.drew = w25 at HO_11 HO_527000 HO_527001 HO_532000 HO_532001 HL532_1 BK526 BK527 BK531 BK533 HB hHeld ⊢
       refine yp 0 17 ?_
       refine yp 2 19 ?_
       refine yp 4 21 ?_
       refine yt 1 18 hHeld ?_
       refine yt 3 20 hHeld ?_
       refine yt 5 22 hHeld ?_
       refine yo 6 (some 23) (fun K hK => ?_)
       refine goes_ Try.func33 (by kernel_rfl) rfl #[.slice A532_1 ((rd_T58 l0_1 x13_1).f1).length c532_1] (by rfl) rfl rfl yQ ?_
       with_reducible refine (Clone_Block.calls (fun k_ => (((P0_0_ k_ ∨ P0_1_ k_) ∨ w.heap.size ≤ k_) ∧ (some k_ ≠ (.slice Ao8 t528.length co8 : Value).ownBlock ∧ (some k_ ≠ (u532001 : Value).ownBlock ∧ (k_ ≠ gb526 ∧ (k_ ≠ gb527 ∧ (k_ ≠ gb531 ∧ k_ ≠ gb533))))))) _ _ ((rd_T58 l0_1 x13_1).f1) t534 _ ?side1 A17.out).mono ?_
       (case side1 => exact HL532_1.out)
       rintro e w26 ⟨v535, rfl, ho0, hb⟩
       refine ⟨_, rfl, ?_⟩
       replace HO_11 := Aside0.mk (Kd.V_elder' (yV HO_11.out) (by first | exact Kd.N_base ho0 | exact Kd.S_base ho0) hb)
       replace HO_527000 := Aside0.mk (Kd.V_elder' (yV HO_527000.out) (by first | exact Kd.N_base ho0 | exact Kd.S_base ho0) hb)
       replace HO_527001 := Aside0.mk (Kd.V_elder' (yV HO_527001.out) (by first | exact Kd.N_base ho0 | exact Kd.S_base ho0) hb)
       replace HL532_1 := Aside0.mk (Kd.V_elder' (yV HL532_1.out) (by first | exact Kd.N_base ho0 | exact Kd.S_base ho0) hb)
       have HO536 := Aside0.mk (Kd.N_lower (Kd.N_mono (ok' := fun k_ => ((P0_0_ k_ ∨ P0_1_ k_) ∨ w.heap.size ≤ k_) ∧ some k_ ≠ (.slice Ao8 t528.length co8 : Value).ownBlock ∧ some k_ ≠ (u532001 : Value).ownBlock ∧ k_ ≠ gb526 ∧ k_ ≠ gb527 ∧ k_ ≠ gb531 ∧ k_ ≠ gb533) ho0 (fun k_ hk_ => ⟨Or.elim hk_ (fun hs_ => hs_.1) (fun hn_ => (.inr (Nat.le_trans (below_size yB) hn_))), Or.elim hk_ (fun hs_ => hs_.2.1) (fun hn_ => (Kd.fresh' (Kd.N_lt (yN HO_532000.out)) k_ hn_)), Or.elim hk_ (fun hs_ => hs_.2.2.1) (fun hn_ => (Kd.fresh' (Kd.N_lt (yN HO_532001.out)) k_ hn_)), Or.elim hk_ (fun hs_ => hs_.2.2.2.1) (fun hn_ => (Kd.freshB (g := gb526) yK k_ hn_)), Or.elim hk_ (fun hs_ => hs_.2.2.2.2.1) (fun hn_ => (Kd.freshB (g := gb527) yK k_ hn_)), Or.elim hk_ (fun hs_ => hs_.2.2.2.2.2.1) (fun hn_ => (Kd.freshB (g := gb531) yK k_ hn_)), Or.elim hk_ (fun hs_ => hs_.2.2.2.2.2.2) (fun hn_ => (Kd.freshB (g := gb533) yK k_ hn_))⟩)) (below_size yB))
       replace HO_532000 := Aside0.mk (Kd.N_elder' (yN HO_532000.out) (by first | exact Kd.N_base ho0 | exact Kd.S_base ho0) hb)
       replace HO_532001 := Aside0.mk (Kd.N_elder' (yN HO_532001.out) (by first | exact Kd.N_base ho0 | exact Kd.S_base ho0) hb)
       replace BK526 := Aside0.mk (blk_below (g := gb526) yK hb)
       replace BK527 := Aside0.mk (blk_below (g := gb527) yK hb)
       replace BK531 := Aside0.mk (blk_below (g := gb531) yK hb)
       replace BK533 := Aside0.mk (blk_below (g := gb533) yK hb)
       replace HB := Aside0.mk (below_step yB hb)
       (try clear hb)
       (try clear ho0)
       obtain ⟨Ao27, co27, eo27⟩ := Kd.N_slice HO536.out
       (first | subst eo27 | (injection eo27 with f1_ f2_ f3_; have f4_ := f1_.symm; have f5_ := f3_.symm; clear f1_ f2_ f3_; subst f4_; subst f5_))
       refine hK.out _ _ ⟨(blk_cell BK531.out 0).trans rfl, (blk_cell BK531.out 1).trans rfl, (blk_cell BK533.out 0).trans rfl, (blk_cell BK533.out 1).trans rfl⟩ (fun hHeld => ?_)
       clear hK K
       refine yn 23 ?_
       refine yp 7 24 ?_
       refine yo 8 (some 25) (fun K hK => ?_)
       refine value_ (w1 := ?_) (v := ?_) (by rfl) rfl ?_ ?_
       rotate_left 2
       ·go_simp
        constructor
        ·rfl
        rfl
       refine hK.out _ _ ⟨(blk_cell (blk_alloc BK531.out _) 0).trans rfl, (blk_cell (blk_alloc BK531.out _) 1).trans rfl, (blk_cell (blk_alloc BK533.out _) 0).trans rfl, (blk_cell (blk_alloc BK533.out _) 1).trans rfl⟩ (fun hHeld => ?_)
       clear hK K
       refine yn 25 ?_
       refine yo 9 (some 26) (fun K hK => ?_)
       refine Kd.N_append_step k81 (w0 := w) w.heap.size (by rfl) (.tmp 18) (.tmp 25) 52 81 (.agg #[(.int .i64 0), (.slice none 0 0)]) 32 rfl Try.underlying52 info81 rfl (by decide) (by omega) u532001 x532001_1 (⟨(rd_T58 l0_1 x13_1).f0, t534⟩ : S81) [.int .i64 ((rd_T58 l0_1 x13_1).f0), .slice Ao27 t534.length co27] (fun k_ => ((P0_0_ k_ ∨ P0_1_ k_) ∨ w.heap.size ≤ k_) ∧ some k_ ≠ (.slice Ao8 t528.length co8 : Value).ownBlock ∧ k_ ≠ gb526 ∧ k_ ≠ gb527 ∧ k_ ≠ gb531 ∧ k_ ≠ gb533) (fun k_ => ((fun k_ => ((P0_0_ k_ ∨ P0_1_ k_) ∨ w.heap.size ≤ k_) ∧ some k_ ≠ (.slice Ao8 t528.length co8 : Value).ownBlock ∧ k_ ≠ gb526 ∧ k_ ≠ gb527 ∧ k_ ≠ gb531 ∧ k_ ≠ gb533)) k_ ∧ some k_ ≠ (u532001 : Value).ownBlock) rfl rfl ?aP (fun _ hk => hk) ?aF ?aO ?aB ?aS ?aL ?_
       (case aP => exact (k81_mkF _ _ (⟨(rd_T58 l0_1 x13_1).f0, t534⟩ : S81) (Kd.N_reads' (Kd.N_mono (ok' := (fun k_ => ((fun k_ => ((P0_0_ k_ ∨ P0_1_ k_) ∨ w.heap.size ≤ k_) ∧ some k_ ≠ (.slice Ao8 t528.length co8 : Value).ownBlock ∧ k_ ≠ gb526 ∧ k_ ≠ gb527 ∧ k_ ≠ gb531 ∧ k_ ≠ gb533)) k_ ∧ some k_ ≠ (u532001 : Value).ownBlock)) (HO536.out) (fun k_ hk => ⟨⟨hk.1, ⟨hk.2.1, ⟨hk.2.2.2.1, ⟨hk.2.2.2.2.1, ⟨hk.2.2.2.2.2.1, hk.2.2.2.2.2.2⟩⟩⟩⟩⟩, hk.2.2.1⟩))).2.1 (Kd.N_F (Kd.N_mono (ok' := (fun k_ => ((fun k_ => ((P0_0_ k_ ∨ P0_1_ k_) ∨ w.heap.size ≤ k_) ∧ some k_ ≠ (.slice Ao8 t528.length co8 : Value).ownBlock ∧ k_ ≠ gb526 ∧ k_ ≠ gb527 ∧ k_ ≠ gb531 ∧ k_ ≠ gb533)) k_ ∧ some k_ ≠ (u532001 : Value).ownBlock)) (HO536.out) (fun k_ hk => ⟨⟨hk.1, ⟨hk.2.1, ⟨hk.2.2.2.1, ⟨hk.2.2.2.2.1, ⟨hk.2.2.2.2.2.1, hk.2.2.2.2.2.2⟩⟩⟩⟩⟩, hk.2.2.1⟩)))))
       (case aB => exact yB)
       (case aF => exact (fun k_ hk => ⟨(.inr (Nat.le_trans (below_size yB) hk)), Kd.fresh' (Kd.N_lt (yN HO_532000.out)) k_ hk, Kd.freshB (g := gb526) yK k_ hk, Kd.freshB (g := gb527) yK k_ hk, Kd.freshB (g := gb531) yK k_ hk, Kd.freshB (g := gb533) yK k_ hk⟩))
       (case aO => exact (yN (Kd.N_mono HO_532001.out (fun _ hk => ⟨hk.1.1, ⟨hk.1.2.1, ⟨hk.1.2.2.1, ⟨hk.1.2.2.2.1, ⟨hk.1.2.2.2.2.1, hk.1.2.2.2.2.2⟩⟩⟩⟩⟩))))
       (case aS => exact (below_size yB))
       (case aL => have := LMc18.out; omega)
       intro v538 w28 ho hb hg hat
       rw [← Ny537.out] at ho
       have n0_ := Aside0.mk (Kd.V_afterv (ok := (fun k_ => ((P0_0_ k_ ∨ P0_1_ k_) ∨ w.heap.size ≤ k_) ∧ some k_ ≠ (.slice Ao8 t528.length co8 : Value).ownBlock ∧ some k_ ≠ (.slice Ao27 t534.length co27 : Value).ownBlock ∧ k_ ≠ gb526 ∧ k_ ≠ gb527 ∧ k_ ≠ gb531 ∧ k_ ≠ gb533)) (yV (Kd.V_mono HO_11.out (fun _ hk => ⟨⟨hk.1.1, ⟨hk.1.2.1, ⟨hk.2, ⟨hk.1.2.2.2.1, ⟨hk.1.2.2.2.2.1, ⟨hk.1.2.2.2.2.2.1, hk.1.2.2.2.2.2.2⟩⟩⟩⟩⟩⟩, hk.1.2.2.1⟩))) hg hat)
       have n1_ := Aside0.mk (Kd.V_afterv (ok := (fun k_ => ((P0_0_ k_ ∨ P0_1_ k_) ∨ w.heap.size ≤ k_) ∧ some k_ ≠ (.slice Ao8 t528.length co8 : Value).ownBlock ∧ some k_ ≠ (.slice Ao27 t534.length co27 : Value).ownBlock ∧ k_ ≠ gb526 ∧ k_ ≠ gb527 ∧ k_ ≠ gb531 ∧ k_ ≠ gb533)) (yV (Kd.V_mono HO_527000.out (fun _ hk => ⟨⟨hk.1.1, ⟨hk.1.2.1, ⟨hk.2, ⟨hk.1.2.2.2.1, ⟨hk.1.2.2.2.2.1, ⟨hk.1.2.2.2.2.2.1, hk.1.2.2.2.2.2.2⟩⟩⟩⟩⟩⟩, hk.1.2.2.1⟩))) hg hat)
       have n2_ := Aside0.mk (Kd.V_afterv (ok := (fun k_ => ((P0_0_ k_ ∨ P0_1_ k_) ∨ w.heap.size ≤ k_) ∧ some k_ ≠ (.slice Ao8 t528.length co8 : Value).ownBlock ∧ some k_ ≠ (.slice Ao27 t534.length co27 : Value).ownBlock ∧ k_ ≠ gb526 ∧ k_ ≠ gb527 ∧ k_ ≠ gb531 ∧ k_ ≠ gb533)) (yV (Kd.V_mono HO_527001.out (fun _ hk => ⟨⟨hk.1.1, ⟨hk.1.2.1, ⟨hk.2, ⟨hk.1.2.2.2.1, ⟨hk.1.2.2.2.2.1, ⟨hk.1.2.2.2.2.2.1, hk.1.2.2.2.2.2.2⟩⟩⟩⟩⟩⟩, hk.1.2.2.1⟩))) hg hat)
       have n3_ := Aside0.mk (Kd.N_afterv (ok := (fun k_ => ((P0_0_ k_ ∨ P0_1_ k_) ∨ w.heap.size ≤ k_) ∧ some k_ ≠ (.slice Ao27 t534.length co27 : Value).ownBlock ∧ k_ ≠ gb526 ∧ k_ ≠ gb527 ∧ k_ ≠ gb531 ∧ k_ ≠ gb533)) (yN (Kd.N_mono HO_532000.out (fun _ hk => ⟨⟨hk.1.1, ⟨hk.2, ⟨hk.1.2.2.1, ⟨hk.1.2.2.2.1, ⟨hk.1.2.2.2.2.1, hk.1.2.2.2.2.2⟩⟩⟩⟩⟩, hk.1.2.1⟩))) hg hat)
       have n4_ := Aside0.mk (blk_grown (g := gb526) yK hg (Kd.N_ne HO_532001.out BK526.out (by decide)))
       have n5_ := Aside0.mk (blk_grown (g := gb527) yK hg (Kd.N_ne HO_532001.out BK527.out (by decide)))
       have n6_ := Aside0.mk (blk_grown (g := gb531) yK hg (Kd.N_ne HO_532001.out BK531.out (by decide)))
       have n7_ := Aside0.mk (Kd.V_afterv (ok := (fun k_ => ((P0_0_ k_ ∨ P0_1_ k_) ∨ w.heap.size ≤ k_) ∧ some k_ ≠ (.slice Ao8 t528.length co8 : Value).ownBlock ∧ some k_ ≠ (.slice Ao27 t534.length co27 : Value).ownBlock ∧ k_ ≠ gb526 ∧ k_ ≠ gb527 ∧ k_ ≠ gb531 ∧ k_ ≠ gb533)) (yV (Kd.V_mono HL532_1.out (fun _ hk => ⟨⟨hk.1.1, ⟨hk.1.2.1, ⟨hk.2, ⟨hk.1.2.2.2.1, ⟨hk.1.2.2.2.2.1, ⟨hk.1.2.2.2.2.2.1, hk.1.2.2.2.2.2.2⟩⟩⟩⟩⟩⟩, hk.1.2.2.1⟩))) hg hat)
       have n8_ := Aside0.mk (blk_grown (g := gb533) yK hg (Kd.N_ne HO_532001.out BK533.out (by decide)))
       have n9_ := Aside0.mk (hb)
       have n10_ := Aside0.mk (ho)
       clear HO_11
       clear HO_527000
       clear HO_527001
       clear HO_532000
       clear BK526
       clear BK527
       clear BK531
       clear HL532_1
       clear BK533
       clear HB
       clear HO_532001
       clear HO536
       have HO_11 := n0_
       have HO_527000 := n1_
       have HO_527001 := n2_
       have HO_532000 := n3_
       have BK526 := n4_
       have BK527 := n5_
       have BK531 := n6_
       have HL532_1 := n7_
       have BK533 := n8_
       have HB := n9_
       have HO539 := n10_
       clear n0_ n1_ n2_ n3_ n4_ n5_ n6_ n7_ n8_ n9_ n10_
       clear ho hb hg hat
       obtain ⟨Ao29, co29, eo29⟩ := Kd.N_slice HO539.out
       (first | subst eo29 | (injection eo29 with f1_ f2_ f3_; have f4_ := f1_.symm; have f5_ := f3_.symm; clear f1_ f2_ f3_; subst f4_; subst f5_))
       refine hK.out _ _ ⟨(blk_cell BK531.out 0).trans rfl, (blk_cell BK531.out 1).trans rfl, (blk_cell BK533.out 0).trans rfl, (blk_cell BK533.out 1).trans rfl⟩ (fun hHeld => ?_)
       clear hK K
       refine yn 26 ?_
       refine yp 10 27 ?_
       refine last_ (i := 11) (N := none) #[true, true, true, true, true, true, true, true, true, true, true, true] rfl rfl (one_of HT_.out (by kernel_rfl)) (by decide) (fun K hK => ?_)
       have hs30 : w28.cell? ⟨gb531, 1, none⟩ = some (u532001) := (blk_cell BK531.out 1).trans rfl
       have hfs30 := blk_frozen BK531.out 1
       have hns30_0 := NB526_531.out
       have hns30_1 := NB527_531.out
       have hns30_3 := NB533_531.out
       have hms30_0 := NB531_526.out
       have hms30_1 := NB531_527.out
       have hms30_3 := NB531_533.out
       refine skip_ (w1 := ?_) (by rfl) rfl ?_ ?_
       rotate_left
       ·go_simp
        rfl
       refine hK.out _ _ ?_
       clear hK K
       refine done_ (done_of HT_.out (by kernel_rfl)) ?_
       try go_wp2
       go_roundg k1
       case measure => have := HK1.out; omega
       case rel => exact ⟨(wrap64 (x13_1 + 1)), (y537), (.slice Ao29 y537.length co29), yS, H', ⟨by have := HK1.out; omega⟩, ⟨by refine yV ?_; exact Kd.V_mono (Kd.V_far (p := ⟨gb531, 1, none⟩) (Kd.V_mono HO_11.out (fun k_ hk => (⟨hk, hk.1.2.2.2.2.2.1⟩ : _ ∧ k_ ≠ gb531))) (fun _ hk => hk.2) (.slice Ao29 y537.length co29)) (fun _ hk => ⟨hk.1.1.1, ⟨hk.1.1.2.1, ⟨hk.1.2, ⟨hk.1.1.2.2.2.1, ⟨hk.1.1.2.2.2.2.1, hk.1.1.2.2.2.2.2.1⟩⟩⟩⟩⟩)⟩, ⟨by refine yV ?_; exact Kd.V_mono (Kd.V_far (p := ⟨gb531, 1, none⟩) (Kd.V_mono HO_527000.out (fun k_ hk => (⟨hk, hk.1.2.2.2.2.2.1⟩ : _ ∧ k_ ≠ gb531))) (fun _ hk => hk.2) (.slice Ao29 y537.length co29)) (fun _ hk => ⟨hk.1.1.1, ⟨hk.1.1.2.1, ⟨hk.1.2, ⟨hk.1.1.2.2.2.1, ⟨hk.1.1.2.2.2.2.1, hk.1.1.2.2.2.2.2.1⟩⟩⟩⟩⟩)⟩, ⟨by refine yV ?_; exact Kd.V_mono (Kd.V_far (p := ⟨gb531, 1, none⟩) (Kd.V_mono HO_527001.out (fun k_ hk => (⟨hk, hk.1.2.2.2.2.2.1⟩ : _ ∧ k_ ≠ gb531))) (fun _ hk => hk.2) (.slice Ao29 y537.length co29)) (fun _ hk => ⟨hk.1.1.1, ⟨hk.1.1.2.1, ⟨hk.1.2, ⟨hk.1.1.2.2.2.1, ⟨hk.1.1.2.2.2.2.1, hk.1.1.2.2.2.2.2.1⟩⟩⟩⟩⟩)⟩, ⟨by refine yN ?_; exact Kd.N_mono (Kd.N_far (p := ⟨gb531, 1, none⟩) (Kd.N_mono HO_532000.out (fun k_ hk => (⟨hk, hk.1.2.2.2.2.1⟩ : _ ∧ k_ ≠ gb531))) (fun _ hk => hk.2) (.slice Ao29 y537.length co29)) (fun _ hk => ⟨hk.1.1.1, ⟨hk.1.2, ⟨hk.1.1.2.2.1, ⟨hk.1.1.2.2.2.1, hk.1.1.2.2.2.2.1⟩⟩⟩⟩)⟩, ⟨by refine yN ?_; exact Kd.N_mono (Kd.N_far (p := ⟨gb531, 1, none⟩) (Kd.N_mono HO539.out (fun k_ hk => (⟨hk, hk.2.2.2.2.1⟩ : _ ∧ k_ ≠ gb531))) (fun _ hk => hk.2) (.slice Ao29 y537.length co29)) (fun _ hk => ⟨hk.1.1, ⟨hk.1.2.1, ⟨hk.1.2.2.1, ⟨hk.1.2.2.2.1, hk.1.2.2.2.2.1⟩⟩⟩⟩)⟩, ⟨by refine yH ?_; refine blk_far ?_ NB526_531.out _; refine yH ?_; exact BK526.out⟩, ⟨by refine yH ?_; refine blk_far ?_ NB527_531.out _; refine yH ?_; exact BK527.out⟩, ⟨by refine yH ?_; refine blk_put (cs := #[.slice Ao8 t528.length co8, u532001]) ?_ 1 _ rfl; refine yH ?_; exact BK531.out⟩, ⟨yB⟩⟩
      rw [if_neg c18] at H
      exact absurd H (by simp)
     rw [if_neg c16] at H
     exact absurd H (by simp)
    rw [if_neg c15] at H
    exact absurd H (by simp)
   rw [if_neg c14] at H
   have c14b0 := decide_eq_false c14
   clear c14
   simp only [Option.some.injEq, Prod.mk.injEq] at H
   obtain ⟨rfl, rfl⟩ := H
   have hnb31 := NB531_526.out
   have hnc31 := NB526_531.out
   have hnb32 := NB531_527.out
   have hnc32 := NB527_531.out
   have hcz33_0 := yZ0 BK531.out
   have hcz33_1 := yZ1 BK531.out
   have hfz33_0 := blk_frozen BK531.out 0
   have hfz33_1 := blk_frozen BK531.out 1
   have hnb34 := NB527_526.out
   have hnc34 := NB526_527.out
   have hcz35_0 := yZ0 BK527.out
   have hcz35_1 := yZ1 BK527.out
   have hfz35_0 := blk_frozen BK527.out 0
   have hfz35_1 := blk_frozen BK527.out 1
   obtain ⟨Ao36, co36, eo36⟩ := Kd.N_slice HO_532001.out
   subst eo36
   go_wp2
   refine bodyPost_ret (results_cell_row rfl _ _ gb527 54 #[.slice Ao8 t528.length co8, .slice Ao36 x532001_1.length co36] (0, 0) _ rfl (by refine yH ?_; refine blk_put (cs := #[.slice Ao8 t528.length co8, .slice none 0 0]) ?_ 1 _ rfl; refine yH ?_; refine blk_put (cs := #[.slice none 0 0, .slice none 0 0]) ?_ 0 _ rfl; refine yH ?_; exact BK527.out) Try.underlying54 rfl (by kernel_rfl)) rfl ?_
   exact ⟨_, _, yE, by refine yN ?_; exact Kd.N_mono (Kd.N_far (p := ⟨gb527, 1, none⟩) (Kd.N_far (p := ⟨gb527, 0, none⟩) (Kd.N_mono HO_532000.out (fun k_ hk => (⟨hk, hk.2.2.2.1⟩ : _ ∧ k_ ≠ gb527))) (fun _ hk => hk.2) (.slice Ao8 t528.length co8)) (fun _ hk => hk.2) (.slice Ao36 x532001_1.length co36)) (fun _ hk => ⟨hk.1.1, hk.1.2.1⟩), by refine yN ?_; exact Kd.N_mono (Kd.N_far (p := ⟨gb527, 1, none⟩) (Kd.N_far (p := ⟨gb527, 0, none⟩) (Kd.N_mono HO_532001.out (fun k_ hk => (⟨hk, hk.2.2.2.1⟩ : _ ∧ k_ ≠ gb527))) (fun _ hk => hk.2) (.slice Ao8 t528.length co8)) (fun _ hk => hk.2) (.slice Ao36 x532001_1.length co36)) (fun _ hk => ⟨hk.1.1, hk.1.2.1⟩), yB⟩
def subprogram_Join.l0 : Nat → List (S32) → List (S81) → Int → Int → Option ((List (S32)))
 | 0, _, _, _, _ => none
 | k + 1, x3, x10, x11, x12 => if x12 < x11 then (if 0 ≤ x12 then (if x12 < (x10.length : Int) then (if x3.length < 2932031007402 then ((some (x3 ++ [(⟨false, (([(⟨79, wrap64 (1000 * ((rd_T81 x10 x12).f0))⟩ : S78)] : List (S78))), (⟨#[]⟩ : ByteArray)⟩ : S32)] : List (S32))).bind fun y886 => (if y886.length + ((rd_T81 x10 x12).f1).length < 2932031007402 then ((some (y886 ++ ((rd_T81 x10 x12).f1) : List (S32))).bind fun y889 => (if y889.length < 2932031007402 then (subprogram_Join.l0 k (y889 ++ [(⟨false, (([(⟨77, 99000⟩ : S78)] : List (S78))), (⟨#[]⟩ : ByteArray)⟩ : S32)]) x10 x11 (wrap64 (x12 + 1))) else (none))) else (none))) else (none)) else (none)) else (none)) else (some x3)
def subprogram_Join.f (k : Nat) (l0_0 : List (S32)) (l0_1 : List (S81)) : Option ((List (S32))) := (Clone_Block.f l0_0).bind fun t878 => (subprogram_Join.l0 k t878 l0_1 (l0_1.length : Int) 0)
set_option maxHeartbeats 8000000 in
set_option maxRecDepth 100000 in
theorem subprogram_Join.calls (k : Nat) (P0_0_ : Nat → Prop) (A0_0 : Option Addr) (c0_0 : Nat) (l0_0 : List (S32)) (P0_1_ : Nat → Prop) (A0_1 : Option Addr) (c0_1 : Nat) (l0_1 : List (S81)) (r : List (S32)) (w : World) (hs0_0 : Kd.V k32 32 w w.heap.size (fun k_ => P0_0_ k_) (.slice A0_0 l0_0.length c0_0) l0_0) (hs0_1 : Kd.V k81 81 w w.heap.size (fun k_ => P0_1_ k_) (.slice A0_1 l0_1.length c0_1) l0_1) (h : subprogram_Join.f k l0_0 l0_1 = some r) :
  Calls Try.prog 47 #[.agg #[.slice A0_0 l0_0.length c0_0, .slice A0_1 l0_1.length c0_1]] w fun e w' => ∃ v0_ : Value, e = .returned (v0_) ∧ Kd.N k32 32 w' w.heap.size (fun k_ => ((P0_0_ k_ ∨ P0_1_ k_) ∨ w.heap.size ≤ k_)) v0_ r ∧ Below w.heap.size w w' := by
 have hu54 := Try.underlying54
 have hu81 := Try.underlying81
 have hu78 := Try.underlying78
 have hu32 := Try.underlying32
 have HO0_0 := Aside0.mk (show Kd.V k32 32 w w.heap.size (fun k_ => ((P0_0_ k_ ∨ P0_1_ k_) ∨ w.heap.size ≤ k_)) (.slice A0_0 l0_0.length c0_0) l0_0 from Kd.V_mono hs0_0 (fun k_ hk => .inl (.inl hk)))
 have HO0_1 := Aside0.mk (show Kd.V k81 81 w w.heap.size (fun k_ => ((P0_0_ k_ ∨ P0_1_ k_) ∨ w.heap.size ≤ k_)) (.slice A0_1 l0_1.length c0_1) l0_1 from Kd.V_mono hs0_1 (fun k_ hk => .inl (.inr hk)))
 have HB := Aside0.mk (Below.refl w.heap.size w)
 have H : ((Clone_Block.f l0_0).bind fun t878 => (subprogram_Join.l0 k t878 l0_1 (l0_1.length : Int) 0)) = some r := h
 clear h
 replace H := Option.bind_eq_some_iff.mp H
 obtain ⟨t878, A20, H⟩ := H
 have A2 := Aside0.mk A20
 clear A20
 have H' := Aside0.mk H
 clear H
 go_enter Try.func47, Try.ntmps47
 go_wp2_with (first | ((with_reducible refine gate_dst (N := 1) rfl ?_); refine yX 1 #[.slice A0_0 l0_0.length c0_0, .slice A0_1 l0_1.length c0_1] 54 ?_; intro gb877 hg w3 hbox hb; replace HO0_0 := Aside0.mk (Kd.V_below (Kd.V_elderB (yV HO0_0.out) gb877 (Nat.le_of_eq hg.symm)) hb); replace HO0_1 := Aside0.mk (Kd.V_below (Kd.V_elderB (yV HO0_1.out) gb877 (Nat.le_of_eq hg.symm)) hb); have BK877 := Aside0.mk (hbox); have GE877 := Aside0.mk ((yG hg : w.heap.size ≤ gb877)); replace HB := Aside0.mk (below_step yB hb); clear hb hbox hg; have hcz4_0 := yZ0 BK877.out; have hcz4_1 := yZ1 BK877.out; have hfz4_0 := blk_frozen BK877.out 0; have hfz4_1 := blk_frozen BK877.out 1) | ((with_reducible refine gate_callee (f := 33) rfl ?_); refine goesL_ (some 8) rfl rfl Try.func33 (by kernel_rfl) rfl #[.slice A0_0 l0_0.length c0_0] rfl yQ ?_; (with_reducible refine (Clone_Block.calls (fun k_ => (((P0_0_ k_ ∨ P0_1_ k_) ∨ w.heap.size ≤ k_) ∧ k_ ≠ gb877)) _ _ l0_0 t878 _ ?side1 A2.out).mono ?_); (case side1 => exact HO0_0.out); rintro e w5 ⟨v879, rfl, ho0, hb⟩; refine ⟨_, rfl, ?_⟩; replace HO0_0 := Aside0.mk (Kd.V_elder' (yV HO0_0.out) (by first | exact Kd.N_base ho0 | exact Kd.S_base ho0) hb); replace HO0_1 := Aside0.mk (Kd.V_elder' (yV HO0_1.out) (by first | exact Kd.N_base ho0 | exact Kd.S_base ho0) hb); have HO880 := Aside0.mk (Kd.N_lower (Kd.N_mono (ok' := fun k_ => ((P0_0_ k_ ∨ P0_1_ k_) ∨ w.heap.size ≤ k_) ∧ k_ ≠ gb877) ho0 (fun k_ hk_ => ⟨Or.elim hk_ (fun hs_ => hs_.1) (fun hn_ => (.inr (Nat.le_trans (below_size yB) hn_))), Or.elim hk_ (fun hs_ => hs_.2) (fun hn_ => (Kd.freshB (g := gb877) yK k_ hn_))⟩)) (below_size yB)); replace BK877 := Aside0.mk (blk_below (g := gb877) yK hb); replace HB := Aside0.mk (below_step yB hb); (try clear hb); (try clear ho0); have hcz6_0 := yZ0 BK877.out; have hcz6_1 := yZ1 BK877.out; have hfz6_0 := blk_frozen BK877.out 0; have hfz6_1 := blk_frozen BK877.out 1))
 go_loopg [3, 12] k (fun kq v3 v12 w' => ∃ (x3_1 : List (S32)) (x12_1 : Int), v12 = .int .i64 x12_1 ∧ Aside0 (subprogram_Join.l0 kq x3_1 l0_1 (l0_1.length : Int) x12_1 = some r) ∧ Aside0 (kq ≤ k) ∧ Aside0 (Kd.N k32 32 w' w.heap.size (fun k_ => ((P0_0_ k_ ∨ P0_1_ k_) ∨ w.heap.size ≤ k_) ∧ k_ ≠ gb877) v3 x3_1) ∧ Aside0 (Kd.V k81 81 w' w.heap.size (fun k_ => ((P0_0_ k_ ∨ P0_1_ k_) ∨ w.heap.size ≤ k_) ∧ some k_ ≠ (v3 : Value).ownBlock ∧ k_ ≠ gb877) (.slice A0_1 l0_1.length c0_1) l0_1) ∧ Aside0 (Kd.V k32 32 w' w.heap.size (fun k_ => ((P0_0_ k_ ∨ P0_1_ k_) ∨ w.heap.size ≤ k_) ∧ some k_ ≠ (v3 : Value).ownBlock ∧ k_ ≠ gb877) (.slice A0_0 l0_0.length c0_0) l0_0) ∧ Aside0 (Kd.V k81 81 w' w.heap.size (fun k_ => ((P0_0_ k_ ∨ P0_1_ k_) ∨ w.heap.size ≤ k_) ∧ some k_ ≠ (v3 : Value).ownBlock ∧ k_ ≠ gb877) (.slice A0_1 l0_1.length c0_1) l0_1) ∧ Aside0 (w'.heap[gb877]? = some (.cells #[(.slice A0_0 l0_0.length c0_0), (.slice A0_1 l0_1.length c0_1)] 54 (0, 0))) ∧ Aside0 (Below w.heap.size w w'))
 case atStart => exact ⟨(t878), (0), yS, H', ⟨Nat.le_refl _⟩, ⟨by refine yN ?_; exact HO880.out⟩, ⟨by refine yV ?_; exact Kd.V_mono HO0_1.out (fun _ hk => ⟨hk.1.1, ⟨hk.2, hk.1.2⟩⟩)⟩, ⟨by refine yV ?_; exact Kd.V_mono HO0_0.out (fun _ hk => ⟨hk.1.1, ⟨hk.2, hk.1.2⟩⟩)⟩, ⟨by refine yV ?_; exact Kd.V_mono HO0_1.out (fun _ hk => ⟨hk.1.1, ⟨hk.2, hk.1.2⟩⟩)⟩, ⟨by refine yH ?_; exact BK877.out⟩, ⟨yB⟩⟩
 case round =>
  clear H'
  try clear p2
  try clear c3
  try clear c4
  try clear hcz4_0
  try clear hcz4_1
  try clear hcz6_0
  try clear hcz6_1
  try clear hfz4_0
  try clear hfz4_1
  try clear hfz6_0
  try clear hfz6_1
  obtain ⟨x3_1, x12_1, rfl, HA, HK1, HO_3, HO_10, HO_878000, HO_878001, BK877, HB⟩ := hrel
  cases gk with
  | zero => exact absurd HA.out (by simp [subprogram_Join.l0])
  | succ k1 =>
   have H := HA.out
   clear HA
   simp only [subprogram_Join.l0] at H
   by_cases c7 : x12_1 < (l0_1.length : Int)
   ·rw [if_pos c7] at H
    have c7b0 := decide_eq_true c7
    clear c7
    by_cases c8 : 0 ≤ x12_1
    ·rw [if_pos c8] at H
     have c8b0 := decide_eq_true c8
     clear c8
     by_cases c9 : x12_1 < (l0_1.length : Int)
     ·rw [if_pos c9] at H
      have c9b0 := decide_eq_true c9
      clear c9
      obtain ⟨y883, hy883⟩ : ∃ y_ : List (S78), y_ = (([(⟨79, wrap64 (1000 * ((rd_T81 l0_1 x12_1).f0))⟩ : S78)] : List (S78))) := ⟨_, rfl⟩
      replace H : (if x3_1.length < 2932031007402 then ((some (x3_1 ++ [(⟨false, y883, (⟨#[]⟩ : ByteArray)⟩ : S32)] : List (S32))).bind fun y886 => (if y886.length + ((rd_T81 l0_1 x12_1).f1).length < 2932031007402 then ((some (y886 ++ ((rd_T81 l0_1 x12_1).f1) : List (S32))).bind fun y889 => (if y889.length < 2932031007402 then (subprogram_Join.l0 k1 (y889 ++ [(⟨false, (([(⟨77, 99000⟩ : S78)] : List (S78))), (⟨#[]⟩ : ByteArray)⟩ : S32)]) l0_1 (l0_1.length : Int) (wrap64 (x12_1 + 1))) else (none))) else (none))) else (none)) = some r := by first | (rw [hy883]; with_reducible exact H) | (have H2_ := (Option.bind_some _ _).symm.trans H; rw [hy883]; with_reducible exact H2_) | (have H2_ := (Option.bind_some _ _).symm.trans H; with_reducible exact H2_) | with_reducible exact H | (rw [hy883]; exact H) | exact H
      have Ny883 := Aside0.mk hy883
      clear hy883
      by_cases c10 : x3_1.length < 2932031007402
      ·rw [if_pos c10] at H
       have LMc10 := Aside0.mk c10
       clear c10
       obtain ⟨y886, hy886⟩ : ∃ y_ : List (S32), y_ = (x3_1 ++ [(⟨false, y883, (⟨#[]⟩ : ByteArray)⟩ : S32)]) := ⟨_, rfl⟩
       replace H : (if y886.length + ((rd_T81 l0_1 x12_1).f1).length < 2932031007402 then ((some (y886 ++ ((rd_T81 l0_1 x12_1).f1) : List (S32))).bind fun y889 => (if y889.length < 2932031007402 then (subprogram_Join.l0 k1 (y889 ++ [(⟨false, (([(⟨77, 99000⟩ : S78)] : List (S78))), (⟨#[]⟩ : ByteArray)⟩ : S32)]) l0_1 (l0_1.length : Int) (wrap64 (x12_1 + 1))) else (none))) else (none)) = some r := by first | (rw [hy886]; with_reducible exact H) | (have H2_ := (Option.bind_some _ _).symm.trans H; rw [hy886]; with_reducible exact H2_) | (have H2_ := (Option.bind_some _ _).symm.trans H; with_reducible exact H2_) | with_reducible exact H | (rw [hy886]; exact H) | exact H
       have Ny886 := Aside0.mk hy886
       clear hy886
       by_cases c11 : y886.length + ((rd_T81 l0_1 x12_1).f1).length < 2932031007402
       ·rw [if_pos c11] at H
        have LMc11 := Aside0.mk c11
        clear c11
        obtain ⟨y889, hy889⟩ : ∃ y_ : List (S32), y_ = (y886 ++ ((rd_T81 l0_1 x12_1).f1)) := ⟨_, rfl⟩
        replace H : (if y889.length < 2932031007402 then (subprogram_Join.l0 k1 (y889 ++ [(⟨false, (([(⟨77, 99000⟩ : S78)] : List (S78))), (⟨#[]⟩ : ByteArray)⟩ : S32)]) l0_1 (l0_1.length : Int) (wrap64 (x12_1 + 1))) else (none)) = some r := by first | (rw [hy889]; with_reducible exact H) | (have H2_ := (Option.bind_some _ _).symm.trans H; rw [hy889]; with_reducible exact H2_) | (have H2_ := (Option.bind_some _ _).symm.trans H; with_reducible exact H2_) | with_reducible exact H | (rw [hy889]; exact H) | exact H
        have Ny889 := Aside0.mk hy889
        clear hy889
        obtain ⟨y892, hy892⟩ : ∃ y_ : List (S78), y_ = (([(⟨77, 99000⟩ : S78)] : List (S78))) := ⟨_, rfl⟩
        replace H : (if y889.length < 2932031007402 then (subprogram_Join.l0 k1 (y889 ++ [(⟨false, y892, (⟨#[]⟩ : ByteArray)⟩ : S32)]) l0_1 (l0_1.length : Int) (wrap64 (x12_1 + 1))) else (none)) = some r := by first | (rw [hy892]; with_reducible exact H) | (have H2_ := (Option.bind_some _ _).symm.trans H; rw [hy892]; with_reducible exact H2_) | (have H2_ := (Option.bind_some _ _).symm.trans H; with_reducible exact H2_) | with_reducible exact H | (rw [hy892]; exact H) | exact H
        have Ny892 := Aside0.mk hy892
        clear hy892
        by_cases c12 : y889.length < 2932031007402
        ·rw [if_pos c12] at H
         have LMc12 := Aside0.mk c12
         clear c12
         obtain ⟨y895, hy895⟩ : ∃ y_ : List (S32), y_ = (y889 ++ [(⟨false, y892, (⟨#[]⟩ : ByteArray)⟩ : S32)]) := ⟨_, rfl⟩
         replace H : (subprogram_Join.l0 k1 y895 l0_1 (l0_1.length : Int) (wrap64 (x12_1 + 1))) = some r := by first | (rw [hy895]; with_reducible exact H) | (have H2_ := (Option.bind_some _ _).symm.trans H; rw [hy895]; with_reducible exact H2_) | (have H2_ := (Option.bind_some _ _).symm.trans H; with_reducible exact H2_) | with_reducible exact H | (rw [hy895]; exact H) | exact H
         have Ny895 := Aside0.mk hy895
         clear hy895
         have H' := Aside0.mk H
         clear H
         have p881 : 0 ≤ (x12_1 : Int) := yD
         have q881 : x12_1 < (l0_1.length : Int) := yD
         obtain ⟨ad881, A881_1, c881_1, e881, hx881_0, hx881_1, hl881_1, hi881_1⟩ := at_T81 (Kd.V_reads' HO_10.out).2.2 x12_1 p881 q881
         cases e881
         obtain ⟨ce881, hce881, hMe881, hcc881⟩ := Kd.V_get HO_10.out z81 x12_1 p881 (by first | exact q881 | exact yD | (have e_ := (Kd.V_reads' HO_10.out).1; omega))
         obtain ⟨ua881_1, uc881_1, rfl, ul881_1, ge881_1⟩ := k81_openF hMe881
         have hv881_1 := hcc881 1 _ rfl
         rw [add_field _ _ 1 (by omega)] at hv881_1
         replace hv881_1 := Option.some.inj (hv881_1.symm.trans hx881_1)
         injection hv881_1 with hva_ hvn_ hvc_
         rw [hva_] at ge881_1
         rw [hvc_] at ul881_1
         have HL881_1 := Aside0.mk (show Kd.V k32 32 _ w.heap.size _ _ ((rd_T81 l0_1 x12_1).f1) from Kd.V_mk ul881_1 ge881_1)
         clear hva_ hvn_ hvc_ ge881_1 ul881_1
         clear hcc881 hce881
         have HR881_1 := Aside0.mk hi881_1
         have HC881_1 := Aside0.mk hl881_1
         clear hi881_1 hl881_1
         replace p881 := eq_true p881
         replace q881 := eq_true q881
         go_wp2_with (first | ((with_reducible refine gate_dst (N := 5) rfl ?_); refine yX 5 #[.int .i64 0, .slice none 0 0] 81 ?_; intro gb882 hg w13 hbox hb; replace HO_3 := Aside0.mk (Kd.N_below (Kd.N_elderB (yN HO_3.out) gb882 (Nat.le_of_eq hg.symm)) hb); replace HO_10 := Aside0.mk (Kd.V_below (Kd.V_elderB (yV HO_10.out) gb882 (Nat.le_of_eq hg.symm)) hb); replace HO_878000 := Aside0.mk (Kd.V_below (Kd.V_elderB (yV HO_878000.out) gb882 (Nat.le_of_eq hg.symm)) hb); replace HO_878001 := Aside0.mk (Kd.V_below (Kd.V_elderB (yV HO_878001.out) gb882 (Nat.le_of_eq hg.symm)) hb); replace HL881_1 := Aside0.mk (Kd.V_below (Kd.V_elderB (yV HL881_1.out) gb882 (Nat.le_of_eq hg.symm)) hb); replace HR881_1 := Aside0.mk (Kd.C_below (by repeat (first | (with_reducible exact HR881_1.out) | (with_reducible refine Kd.C_alloc ?_ _) | (with_reducible refine Kd.C_drewN ?_ _) | (with_reducible refine Kd.C_drew ?_) | exact HR881_1.out)) hb); have BK882 := Aside0.mk (hbox); have GE882 := Aside0.mk ((yG hg : w.heap.size ≤ gb882)); replace HB := Aside0.mk (below_step yB hb); have NB877_882 := Aside0.mk ((yJ hg yK : gb877 ≠ gb882)); have NB882_877 := Aside0.mk ((yI hg yK : gb882 ≠ gb877)); replace BK877 := Aside0.mk (blk_below (g := gb877) yK hb); clear hb hbox hg; have hnb14 := NB882_877.out; have hnc14 := NB877_882.out; have hcz15_0 := yZ0 BK882.out; have hcz15_1 := yZ1 BK882.out; have hfz15_0 := blk_frozen BK882.out 0; have hfz15_1 := blk_frozen BK882.out 1) | ((with_reducible refine gate_dst (N := 21) rfl ?_); refine Kd.R_lit k78 _ 78 ?hg (N := 21) ?hd (xs := ([(⟨79, wrap64 (1000 * ((rd_T81 l0_1 x12_1).f0))⟩ : S78)] : List (S78))) (inner := [.int .u8 79, .int .i64 (wrap64 (1000 * ((rd_T81 l0_1 x12_1).f0)))]) (ok := fun _ => True) (okp := fun _ => True) ?hr ?hp (fun _ hk => hk) trivial (Below.refl _ _) (Nat.le_refl _) (by simp) ?_; (case hd => rfl); (case hg => rfl); (case hr => first | (go_simp; done) | (go_simp; rfl)); (case hp => exact (Reps.c2 (show Kd.M k78 _ _ _ (⟨79, wrap64 (1000 * ((rd_T81 l0_1 x12_1).f0))⟩ : S78) [.int .u8 79, .int .i64 (wrap64 (1000 * ((rd_T81 l0_1 x12_1).f0)))] from (k78_mkM _ _ _ (⟨79, wrap64 (1000 * ((rd_T81 l0_1 x12_1).f0))⟩ : S78) )) (Reps.none _ _))); intro v884 w16 ho17 hb hg_ hnew_; clear hg_ hnew_; (first | rw [← Ny883.out] at ho17 | (simp only [Int.reduceToNat] at ho17; rw [← Ny883.out] at ho17)); replace HO_3 := Aside0.mk (Kd.N_elder' (yN (Kd.N_mono (Kd.N_far (p := ⟨gb882, 1, none⟩) (Kd.N_far (p := ⟨gb882, 0, none⟩) (Kd.N_mono HO_3.out (fun k_ hk => (⟨hk, hk.2⟩ : _ ∧ k_ ≠ gb882))) (fun _ hk => hk.2) (.int .i64 ((rd_T81 l0_1 x12_1).f0))) (fun _ hk => hk.2) (.slice A881_1 ((rd_T81 l0_1 x12_1).f1).length c881_1)) (fun _ h_ => h_.1))) (Kd.R_base ho17) hb); replace HO_10 := Aside0.mk (Kd.V_elder' (yV (Kd.V_mono (Kd.V_far (p := ⟨gb882, 1, none⟩) (Kd.V_far (p := ⟨gb882, 0, none⟩) (Kd.V_mono HO_10.out (fun k_ hk => (⟨hk, hk.2⟩ : _ ∧ k_ ≠ gb882))) (fun _ hk => hk.2) (.int .i64 ((rd_T81 l0_1 x12_1).f0))) (fun _ hk => hk.2) (.slice A881_1 ((rd_T81 l0_1 x12_1).f1).length c881_1)) (fun _ h_ => h_.1))) (Kd.R_base ho17) hb); replace HO_878000 := Aside0.mk (Kd.V_elder' (yV (Kd.V_mono (Kd.V_far (p := ⟨gb882, 1, none⟩) (Kd.V_far (p := ⟨gb882, 0, none⟩) (Kd.V_mono HO_878000.out (fun k_ hk => (⟨hk, hk.2⟩ : _ ∧ k_ ≠ gb882))) (fun _ hk => hk.2) (.int .i64 ((rd_T81 l0_1 x12_1).f0))) (fun _ hk => hk.2) (.slice A881_1 ((rd_T81 l0_1 x12_1).f1).length c881_1)) (fun _ h_ => h_.1))) (Kd.R_base ho17) hb); replace HO_878001 := Aside0.mk (Kd.V_elder' (yV (Kd.V_mono (Kd.V_far (p := ⟨gb882, 1, none⟩) (Kd.V_far (p := ⟨gb882, 0, none⟩) (Kd.V_mono HO_878001.out (fun k_ hk => (⟨hk, hk.2⟩ : _ ∧ k_ ≠ gb882))) (fun _ hk => hk.2) (.int .i64 ((rd_T81 l0_1 x12_1).f0))) (fun _ hk => hk.2) (.slice A881_1 ((rd_T81 l0_1 x12_1).f1).length c881_1)) (fun _ h_ => h_.1))) (Kd.R_base ho17) hb); have HO885 := Aside0.mk (Kd.R_lower (Kd.R_newM (M := fun k_ => (w.heap.size ≤ k_)) ho17 (below_size yB) (fun k_ h_ => h_)) (below_size yB)); replace BK877 := Aside0.mk (blk_below (g := gb877) (o := .cells #[.slice A0_0 l0_0.length c0_0, .slice (some ad881) l0_1.length c0_1] 54 (0, 0)) (by refine yH ?_; refine blk_far ?_ NB877_882.out _; refine yH ?_; refine blk_far ?_ NB877_882.out _; refine yH ?_; exact BK877.out) hb); replace HR881_1 := Aside0.mk (Kd.C_below ((Kd.V_reads' (yV (Kd.V_mono (Kd.V_far (p := ⟨gb882, 1, none⟩) (Kd.V_far (p := ⟨gb882, 0, none⟩) (Kd.V_mono HL881_1.out (fun k_ hk => (⟨hk, hk.2⟩ : _ ∧ k_ ≠ gb882))) (fun _ hk => hk.2) (.int .i64 ((rd_T81 l0_1 x12_1).f0))) (fun _ hk => hk.2) (.slice A881_1 ((rd_T81 l0_1 x12_1).f1).length c881_1)) (fun _ h_ => h_.1)))).2.2) hb); replace HL881_1 := Aside0.mk (Kd.V_elder' (yV (Kd.V_mono (Kd.V_far (p := ⟨gb882, 1, none⟩) (Kd.V_far (p := ⟨gb882, 0, none⟩) (Kd.V_mono HL881_1.out (fun k_ hk => (⟨hk, hk.2⟩ : _ ∧ k_ ≠ gb882))) (fun _ hk => hk.2) (.int .i64 ((rd_T81 l0_1 x12_1).f0))) (fun _ hk => hk.2) (.slice A881_1 ((rd_T81 l0_1 x12_1).f1).length c881_1)) (fun _ h_ => h_.1))) (Kd.R_base ho17) hb); replace BK882 := Aside0.mk (blk_below (g := gb882) (o := .cells #[.int .i64 ((rd_T81 l0_1 x12_1).f0), .slice A881_1 ((rd_T81 l0_1 x12_1).f1).length c881_1] 81 (0, 0)) (by refine yH ?_; refine blk_put (cs := #[.int .i64 ((rd_T81 l0_1 x12_1).f0), .slice none 0 0]) ?_ 1 _ rfl; refine yH ?_; refine blk_put (cs := #[.int .i64 0, .slice none 0 0]) ?_ 0 _ rfl; refine yH ?_; exact BK882.out) hb); replace HB := Aside0.mk (below_step yB hb); clear hb ho17; obtain ⟨Ao18, co18, eo18⟩ := Kd.R_slice HO885.out; subst eo18) | ((with_reducible refine gate_builtin (b := .append) (xs := #[.tmp 16, .tmp 23]) rfl ?_); at_builtin; refine Kd.N_append k32 (w0 := w) w.heap.size rfl (.tmp 16) (.tmp 23) 35 32 (.agg #[(.bool false), (.slice none 0 0), (.string ⟨#[]⟩)]) 48 rfl Try.underlying35 info32 rfl (by decide) (by omega) u3 x3_1 (⟨false, y883, (⟨#[]⟩ : ByteArray)⟩ : S32) [.bool false, .slice Ao18 y883.length co18, .string (⟨#[]⟩ : ByteArray)] (fun k_ => ((P0_0_ k_ ∨ P0_1_ k_) ∨ w.heap.size ≤ k_) ∧ k_ ≠ gb877 ∧ k_ ≠ gb882) (fun k_ => ((fun k_ => ((P0_0_ k_ ∨ P0_1_ k_) ∨ w.heap.size ≤ k_) ∧ k_ ≠ gb877 ∧ k_ ≠ gb882)) k_ ∧ some k_ ≠ (u3 : Value).ownBlock) rfl rfl ?aP (fun _ hk => hk) ?aF ?aO ?aB ?aS ?aL ?_; (case aP => exact (k32_mkF _ _ (⟨false, y883, (⟨#[]⟩ : ByteArray)⟩ : S32) (Kd.R_reads' (Kd.R_mono (ok' := (fun k_ => ((fun k_ => ((P0_0_ k_ ∨ P0_1_ k_) ∨ w.heap.size ≤ k_) ∧ k_ ≠ gb877 ∧ k_ ≠ gb882)) k_ ∧ some k_ ≠ (u3 : Value).ownBlock)) (Kd.R_types (Kd.R_types (Kd.R_apart' (HO885.out) (Kd.N_typed HO_3.out) (by decide)) BK877.out (by decide)) BK882.out (by decide)) (fun k_ hk => ⟨⟨(.inr (hk.1.1.1.1)), ⟨hk.1.2, hk.2⟩⟩, hk.1.1.2⟩))).2.1 (Kd.R_F (Kd.R_mono (ok' := (fun k_ => ((fun k_ => ((P0_0_ k_ ∨ P0_1_ k_) ∨ w.heap.size ≤ k_) ∧ k_ ≠ gb877 ∧ k_ ≠ gb882)) k_ ∧ some k_ ≠ (u3 : Value).ownBlock)) (Kd.R_types (Kd.R_types (Kd.R_apart' (HO885.out) (Kd.N_typed HO_3.out) (by decide)) BK877.out (by decide)) BK882.out (by decide)) (fun k_ hk => ⟨⟨(.inr (hk.1.1.1.1)), ⟨hk.1.2, hk.2⟩⟩, hk.1.1.2⟩))))); (case aB => exact yB); (case aF => exact (fun k_ hk => ⟨(.inr (Nat.le_trans (below_size yB) hk)), Kd.freshB (g := gb877) yK k_ hk, Kd.freshB (g := gb882) yK k_ hk⟩)); (case aO => exact (yN (Kd.N_mono HO_3.out (fun _ hk => ⟨hk.1.1.1, ⟨hk.1.1.2, hk.1.2⟩⟩)))); (case aS => exact (below_size yB)); (case aL => have := LMc10.out; omega); intro v887 w19 ho hb hg hat; rw [← Ny886.out] at ho; have n0_ := Aside0.mk (Kd.V_afterv (ok := (fun k_ => ((P0_0_ k_ ∨ P0_1_ k_) ∨ w.heap.size ≤ k_) ∧ some k_ ≠ (.slice Ao18 y883.length co18 : Value).ownBlock ∧ k_ ≠ gb877 ∧ k_ ≠ gb882)) (yV (Kd.V_mono HO_10.out (fun _ hk => ⟨⟨hk.1.1.1, ⟨hk.2, ⟨hk.1.1.2.2, hk.1.2⟩⟩⟩, hk.1.1.2.1⟩))) hg hat); have n1_ := Aside0.mk (Kd.V_afterv (ok := (fun k_ => ((P0_0_ k_ ∨ P0_1_ k_) ∨ w.heap.size ≤ k_) ∧ some k_ ≠ (.slice Ao18 y883.length co18 : Value).ownBlock ∧ k_ ≠ gb877 ∧ k_ ≠ gb882)) (yV (Kd.V_mono HO_878000.out (fun _ hk => ⟨⟨hk.1.1.1, ⟨hk.2, ⟨hk.1.1.2.2, hk.1.2⟩⟩⟩, hk.1.1.2.1⟩))) hg hat); have n2_ := Aside0.mk (Kd.V_afterv (ok := (fun k_ => ((P0_0_ k_ ∨ P0_1_ k_) ∨ w.heap.size ≤ k_) ∧ some k_ ≠ (.slice Ao18 y883.length co18 : Value).ownBlock ∧ k_ ≠ gb877 ∧ k_ ≠ gb882)) (yV (Kd.V_mono HO_878001.out (fun _ hk => ⟨⟨hk.1.1.1, ⟨hk.2, ⟨hk.1.1.2.2, hk.1.2⟩⟩⟩, hk.1.1.2.1⟩))) hg hat); have n3_ := Aside0.mk (blk_grown (g := gb877) yK hg (Kd.N_ne HO_3.out BK877.out (by decide))); have n4_ := Aside0.mk (Kd.V_afterv (ok := (fun k_ => ((P0_0_ k_ ∨ P0_1_ k_) ∨ w.heap.size ≤ k_) ∧ some k_ ≠ (.slice Ao18 y883.length co18 : Value).ownBlock ∧ k_ ≠ gb877 ∧ k_ ≠ gb882)) (yV (Kd.V_mono HL881_1.out (fun _ hk => ⟨⟨hk.1.1.1, ⟨hk.2, ⟨hk.1.1.2.2, hk.1.2⟩⟩⟩, hk.1.1.2.1⟩))) hg hat); have n5_ := Aside0.mk (blk_grown (g := gb882) yK hg (Kd.N_ne HO_3.out BK882.out (by decide))); have n6_ := Aside0.mk (hb); have n7_ := Aside0.mk (ho); clear HO_10; clear HO_878000; clear HO_878001; clear BK877; clear HL881_1; clear BK882; clear HB; clear HO_3; clear HO885; have HO_10 := n0_; have HO_878000 := n1_; have HO_878001 := n2_; have BK877 := n3_; have HL881_1 := n4_; have BK882 := n5_; have HB := n6_; have HO888 := n7_; clear n0_ n1_ n2_ n3_ n4_ n5_ n6_ n7_; clear ho hb hg hat; have hcz20_0 := yZ0 BK882.out; have hcz20_1 := yZ1 BK882.out; have hfz20_0 := blk_frozen BK882.out 0; have hfz20_1 := blk_frozen BK882.out 1) | ((with_reducible refine gate_builtin (b := .append) (xs := #[.tmp 25, .tmp 27]) rfl ?_); at_builtin; refine Kd.N_append_rows k32 (w0 := w) w.heap.size rfl (.tmp 25) (.tmp 27) 35 32 (.agg #[(.bool false), (.slice none 0 0), (.string ⟨#[]⟩)]) 48 rfl Try.underlying35 info32 rfl (by decide) (by omega) v887 y886 ((rd_T81 l0_1 x12_1).f1) _ _ _ (fun k_ => ((P0_0_ k_ ∨ P0_1_ k_) ∨ w.heap.size ≤ k_) ∧ k_ ≠ gb877 ∧ k_ ≠ gb882) (fun k_ => ((fun k_ => ((P0_0_ k_ ∨ P0_1_ k_) ∨ w.heap.size ≤ k_) ∧ k_ ≠ gb877 ∧ k_ ≠ gb882)) k_ ∧ some k_ ≠ (v887 : Value).ownBlock) rfl rfl ?aO ?aR (fun _ hk => hk) ?aF ?aB ?aS ?aL ?_; (case aR => exact (by skip; exact Kd.V_F (Kd.V_mono (ok' := (fun k_ => ((fun k_ => ((P0_0_ k_ ∨ P0_1_ k_) ∨ w.heap.size ≤ k_) ∧ k_ ≠ gb877 ∧ k_ ≠ gb882)) k_ ∧ some k_ ≠ (v887 : Value).ownBlock)) (HL881_1.out) (fun k_ hk => ⟨⟨hk.1.1, ⟨hk.1.2.2.1, hk.1.2.2.2⟩⟩, hk.2⟩)))); (case aB => exact yB); (case aF => exact (fun k_ hk => ⟨(.inr (Nat.le_trans (below_size yB) hk)), Kd.freshB (g := gb877) yK k_ hk, Kd.freshB (g := gb882) yK k_ hk⟩)); (case aO => exact (yN HO888.out)); (case aS => exact (below_size yB)); (case aL => have := LMc11.out; omega); intro v890 w21 ho hb hg hat; rw [← Ny889.out] at ho; have n0_ := Aside0.mk (Kd.V_afterv (ok := (fun k_ => ((P0_0_ k_ ∨ P0_1_ k_) ∨ w.heap.size ≤ k_) ∧ k_ ≠ gb877 ∧ k_ ≠ gb882)) (yV (Kd.V_mono HO_10.out (fun _ hk => ⟨⟨hk.1.1, ⟨hk.1.2.2.1, hk.1.2.2.2⟩⟩, hk.2⟩))) hg hat); have n1_ := Aside0.mk (Kd.V_afterv (ok := (fun k_ => ((P0_0_ k_ ∨ P0_1_ k_) ∨ w.heap.size ≤ k_) ∧ k_ ≠ gb877 ∧ k_ ≠ gb882)) (yV (Kd.V_mono HO_878000.out (fun _ hk => ⟨⟨hk.1.1, ⟨hk.1.2.2.1, hk.1.2.2.2⟩⟩, hk.2⟩))) hg hat); have n2_ := Aside0.mk (Kd.V_afterv (ok := (fun k_ => ((P0_0_ k_ ∨ P0_1_ k_) ∨ w.heap.size ≤ k_) ∧ k_ ≠ gb877 ∧ k_ ≠ gb882)) (yV (Kd.V_mono HO_878001.out (fun _ hk => ⟨⟨hk.1.1, ⟨hk.1.2.2.1, hk.1.2.2.2⟩⟩, hk.2⟩))) hg hat); have n3_ := Aside0.mk (blk_grown (g := gb877) yK hg (Kd.N_ne HO888.out BK877.out (by decide))); have n4_ := Aside0.mk (Kd.V_afterv (ok := (fun k_ => ((P0_0_ k_ ∨ P0_1_ k_) ∨ w.heap.size ≤ k_) ∧ k_ ≠ gb877 ∧ k_ ≠ gb882)) (yV (Kd.V_mono HL881_1.out (fun _ hk => ⟨⟨hk.1.1, ⟨hk.1.2.2.1, hk.1.2.2.2⟩⟩, hk.2⟩))) hg hat); have n5_ := Aside0.mk (blk_grown (g := gb882) yK hg (Kd.N_ne HO888.out BK882.out (by decide))); have n6_ := Aside0.mk (hb); have n7_ := Aside0.mk (ho); clear HO_10; clear HO_878000; clear HO_878001; clear BK877; clear HL881_1; clear BK882; clear HB; clear HO888; have HO_10 := n0_; have HO_878000 := n1_; have HO_878001 := n2_; have BK877 := n3_; have HL881_1 := n4_; have BK882 := n5_; have HB := n6_; have HO891 := n7_; clear n0_ n1_ n2_ n3_ n4_ n5_ n6_ n7_; clear ho hb hg hat) | ((with_reducible refine gate_dst (N := 31) rfl ?_); refine Kd.R_lit k78 _ 78 ?hg (N := 31) ?hd (xs := ([(⟨77, 99000⟩ : S78)] : List (S78))) (inner := [.int .u8 77, .int .i64 99000]) (ok := fun _ => True) (okp := fun _ => True) ?hr ?hp (fun _ hk => hk) trivial (Below.refl _ _) (Nat.le_refl _) (by simp) ?_; (case hd => rfl); (case hg => rfl); (case hr => first | (go_simp; done) | (go_simp; rfl)); (case hp => exact (Reps.c2 (show Kd.M k78 _ _ _ (⟨77, 99000⟩ : S78) [.int .u8 77, .int .i64 99000] from (k78_mkM _ _ _ (⟨77, 99000⟩ : S78) )) (Reps.none _ _))); intro v893 w22 ho23 hb hg_ hnew_; clear hg_ hnew_; (first | rw [← Ny892.out] at ho23 | (simp only [Int.reduceToNat] at ho23; rw [← Ny892.out] at ho23)); replace HO_10 := Aside0.mk (Kd.V_elder' (yV HO_10.out) (Kd.R_base ho23) hb); replace HO_878000 := Aside0.mk (Kd.V_elder' (yV HO_878000.out) (Kd.R_base ho23) hb); replace HO_878001 := Aside0.mk (Kd.V_elder' (yV HO_878001.out) (Kd.R_base ho23) hb); replace HL881_1 := Aside0.mk (Kd.V_elder' (yV HL881_1.out) (Kd.R_base ho23) hb); replace HO891 := Aside0.mk (Kd.N_elder' (yN HO891.out) (Kd.R_base ho23) hb); have HO894 := Aside0.mk (Kd.R_lower (Kd.R_newM (M := fun k_ => (w.heap.size ≤ k_)) ho23 (below_size yB) (fun k_ h_ => h_)) (below_size yB)); replace BK877 := Aside0.mk (blk_below (g := gb877) yK hb); replace BK882 := Aside0.mk (blk_below (g := gb882) yK hb); replace HB := Aside0.mk (below_step yB hb); clear hb ho23; obtain ⟨Ao24, co24, eo24⟩ := Kd.R_slice HO894.out; subst eo24) | ((with_reducible refine gate_builtin (b := .append) (xs := #[.tmp 29, .tmp 33]) rfl ?_); at_builtin; refine Kd.N_append k32 (w0 := w) w.heap.size rfl (.tmp 29) (.tmp 33) 35 32 (.agg #[(.bool false), (.slice none 0 0), (.string ⟨#[]⟩)]) 48 rfl Try.underlying35 info32 rfl (by decide) (by omega) v890 y889 (⟨false, y892, (⟨#[]⟩ : ByteArray)⟩ : S32) [.bool false, .slice Ao24 y892.length co24, .string (⟨#[]⟩ : ByteArray)] (fun k_ => ((P0_0_ k_ ∨ P0_1_ k_) ∨ w.heap.size ≤ k_) ∧ k_ ≠ gb877 ∧ k_ ≠ gb882) (fun k_ => ((fun k_ => ((P0_0_ k_ ∨ P0_1_ k_) ∨ w.heap.size ≤ k_) ∧ k_ ≠ gb877 ∧ k_ ≠ gb882)) k_ ∧ some k_ ≠ (v890 : Value).ownBlock) rfl rfl ?aP (fun _ hk => hk) ?aF ?aO ?aB ?aS ?aL ?_; (case aP => exact (k32_mkF _ _ (⟨false, y892, (⟨#[]⟩ : ByteArray)⟩ : S32) (Kd.R_reads' (Kd.R_mono (ok' := (fun k_ => ((fun k_ => ((P0_0_ k_ ∨ P0_1_ k_) ∨ w.heap.size ≤ k_) ∧ k_ ≠ gb877 ∧ k_ ≠ gb882)) k_ ∧ some k_ ≠ (v890 : Value).ownBlock)) (Kd.R_types (Kd.R_types (Kd.R_apart' (HO894.out) (Kd.N_typed HO891.out) (by decide)) BK877.out (by decide)) BK882.out (by decide)) (fun k_ hk => ⟨⟨(.inr (hk.1.1.1.1)), ⟨hk.1.2, hk.2⟩⟩, hk.1.1.2⟩))).2.1 (Kd.R_F (Kd.R_mono (ok' := (fun k_ => ((fun k_ => ((P0_0_ k_ ∨ P0_1_ k_) ∨ w.heap.size ≤ k_) ∧ k_ ≠ gb877 ∧ k_ ≠ gb882)) k_ ∧ some k_ ≠ (v890 : Value).ownBlock)) (Kd.R_types (Kd.R_types (Kd.R_apart' (HO894.out) (Kd.N_typed HO891.out) (by decide)) BK877.out (by decide)) BK882.out (by decide)) (fun k_ hk => ⟨⟨(.inr (hk.1.1.1.1)), ⟨hk.1.2, hk.2⟩⟩, hk.1.1.2⟩))))); (case aB => exact yB); (case aF => exact (fun k_ hk => ⟨(.inr (Nat.le_trans (below_size yB) hk)), Kd.freshB (g := gb877) yK k_ hk, Kd.freshB (g := gb882) yK k_ hk⟩)); (case aO => exact (yN (Kd.N_mono HO891.out (fun _ hk => ⟨hk.1.1, ⟨hk.1.2.1, hk.1.2.2⟩⟩)))); (case aS => exact (below_size yB)); (case aL => have := LMc12.out; omega); intro v896 w25 ho hb hg hat; rw [← Ny895.out] at ho; have n0_ := Aside0.mk (Kd.V_afterv (ok := (fun k_ => ((P0_0_ k_ ∨ P0_1_ k_) ∨ w.heap.size ≤ k_) ∧ some k_ ≠ (.slice Ao24 y892.length co24 : Value).ownBlock ∧ k_ ≠ gb877 ∧ k_ ≠ gb882)) (yV (Kd.V_mono HO_10.out (fun _ hk => ⟨⟨hk.1.1.1, ⟨hk.2, ⟨hk.1.1.2.1, hk.1.1.2.2⟩⟩⟩, hk.1.2⟩))) hg hat); have n1_ := Aside0.mk (Kd.V_afterv (ok := (fun k_ => ((P0_0_ k_ ∨ P0_1_ k_) ∨ w.heap.size ≤ k_) ∧ some k_ ≠ (.slice Ao24 y892.length co24 : Value).ownBlock ∧ k_ ≠ gb877 ∧ k_ ≠ gb882)) (yV (Kd.V_mono HO_878000.out (fun _ hk => ⟨⟨hk.1.1.1, ⟨hk.2, ⟨hk.1.1.2.1, hk.1.1.2.2⟩⟩⟩, hk.1.2⟩))) hg hat); have n2_ := Aside0.mk (Kd.V_afterv (ok := (fun k_ => ((P0_0_ k_ ∨ P0_1_ k_) ∨ w.heap.size ≤ k_) ∧ some k_ ≠ (.slice Ao24 y892.length co24 : Value).ownBlock ∧ k_ ≠ gb877 ∧ k_ ≠ gb882)) (yV (Kd.V_mono HO_878001.out (fun _ hk => ⟨⟨hk.1.1.1, ⟨hk.2, ⟨hk.1.1.2.1, hk.1.1.2.2⟩⟩⟩, hk.1.2⟩))) hg hat); have n3_ := Aside0.mk (blk_grown (g := gb877) yK hg (Kd.N_ne HO891.out BK877.out (by decide))); have n4_ := Aside0.mk (Kd.V_afterv (ok := (fun k_ => ((P0_0_ k_ ∨ P0_1_ k_) ∨ w.heap.size ≤ k_) ∧ some k_ ≠ (.slice Ao24 y892.length co24 : Value).ownBlock ∧ k_ ≠ gb877 ∧ k_ ≠ gb882)) (yV (Kd.V_mono HL881_1.out (fun _ hk => ⟨⟨hk.1.1.1, ⟨hk.2, ⟨hk.1.1.2.1, hk.1.1.2.2⟩⟩⟩, hk.1.2⟩))) hg hat); have n5_ := Aside0.mk (blk_grown (g := gb882) yK hg (Kd.N_ne HO891.out BK882.out (by decide))); have n6_ := Aside0.mk (hb); have n7_ := Aside0.mk (ho); clear HO_10; clear HO_878000; clear HO_878001; clear BK877; clear HL881_1; clear BK882; clear HB; clear HO891; clear HO894; have HO_10 := n0_; have HO_878000 := n1_; have HO_878001 := n2_; have BK877 := n3_; have HL881_1 := n4_; have BK882 := n5_; have HB := n6_; have HO897 := n7_; clear n0_ n1_ n2_ n3_ n4_ n5_ n6_ n7_; clear ho hb hg hat))
         go_roundg k1
         case measure => have := HK1.out; omega
         case rel => exact ⟨(y895), (wrap64 (x12_1 + 1)), yS, H', ⟨by have := HK1.out; omega⟩, ⟨by refine yN ?_; exact Kd.N_mono HO897.out (fun _ hk => ⟨hk.1, hk.2.1⟩)⟩, ⟨by refine yV ?_; exact Kd.V_mono HO_10.out (fun _ hk => ⟨hk.1.1, ⟨hk.2, hk.1.2.2.1⟩⟩)⟩, ⟨by refine yV ?_; exact Kd.V_mono HO_878000.out (fun _ hk => ⟨hk.1.1, ⟨hk.2, hk.1.2.2.1⟩⟩)⟩, ⟨by refine yV ?_; exact Kd.V_mono HO_878001.out (fun _ hk => ⟨hk.1.1, ⟨hk.2, hk.1.2.2.1⟩⟩)⟩, ⟨by refine yH ?_; exact BK877.out⟩, ⟨yB⟩⟩
        rw [if_neg c12] at H
        exact absurd H (by simp)
       rw [if_neg c11] at H
       exact absurd H (by simp)
      rw [if_neg c10] at H
      exact absurd H (by simp)
     rw [if_neg c9] at H
     exact absurd H (by simp)
    rw [if_neg c8] at H
    exact absurd H (by simp)
   rw [if_neg c7] at H
   have c7b0 := decide_eq_false c7
   clear c7
   obtain rfl := Option.some.inj H
   go_wp2
   go_ret
   exact ⟨_, yE, by refine yN ?_; exact Kd.N_mono HO_3.out (fun _ hk => hk.1), yB⟩
def swarfref43_Join.l0 : Nat → List (S32) → Int → List (S32) → List (S58) → Option ((List (S32)))
 | 0, _, _, _, _ => none
 | k + 1, x3, x4, x932000, x932001 => if x4 < (x932001.length : Int) then (if 0 ≤ x4 then (if x3.length < 2932031007402 then ((some (x3 ++ [(⟨false, (([(⟨79, wrap64 (1000 * ((rd_T58 x932001 x4).f0))⟩ : S78)] : List (S78))), (⟨#[]⟩ : ByteArray)⟩ : S32)] : List (S32))).bind fun y942 => (if y942.length + ((rd_T58 x932001 x4).f1).length < 2932031007402 then ((some (y942 ++ ((rd_T58 x932001 x4).f1) : List (S32))).bind fun y946 => (if y946.length < 2932031007402 then (swarfref43_Join.l0 k (y946 ++ [(⟨false, (([(⟨77, 99000⟩ : S78)] : List (S78))), (⟨#[]⟩ : ByteArray)⟩ : S32)]) (wrap64 (x4 + 1)) x932000 x932001) else (none))) else (none))) else (none)) else (none)) else (some x3)
def swarfref43_Join.f (k : Nat) (l0_0 : List (S32)) (l0_1 : List (S58)) : Option ((List (S32))) := (some (([] : List (S32)) : List (S32))).bind fun y932 => (if y932.length + l0_0.length < 2932031007402 then (swarfref43_Join.l0 k (y932 ++ l0_0) 0 l0_0 l0_1) else (none))
set_option maxHeartbeats 8000000 in
set_option maxRecDepth 100000 in
theorem swarfref43_Join.calls (k : Nat) (P0_0_ : Nat → Prop) (A0_0 : Option Addr) (c0_0 : Nat) (l0_0 : List (S32)) (P0_1_ : Nat → Prop) (A0_1 : Option Addr) (c0_1 : Nat) (l0_1 : List (S58)) (r : List (S32)) (w : World) (hs0_0 : Kd.V k32 32 w w.heap.size (fun k_ => P0_0_ k_) (.slice A0_0 l0_0.length c0_0) l0_0) (hs0_1 : Kd.V k58 58 w w.heap.size (fun k_ => P0_1_ k_) (.slice A0_1 l0_1.length c0_1) l0_1) (h : swarfref43_Join.f k l0_0 l0_1 = some r) :
  Calls Try.prog 48 #[.agg #[.slice A0_0 l0_0.length c0_0, .slice A0_1 l0_1.length c0_1]] w fun e w' => ∃ v0_ : Value, e = .returned (v0_) ∧ Kd.N k32 32 w' w.heap.size (fun k_ => ((P0_0_ k_ ∨ P0_1_ k_) ∨ w.heap.size ≤ k_)) v0_ r ∧ Below w.heap.size w w' := by
 have hu48 := Try.underlying48
 have hu78 := Try.underlying78
 have hu32 := Try.underlying32
 have HO0_0 := Aside0.mk (show Kd.V k32 32 w w.heap.size (fun k_ => ((P0_0_ k_ ∨ P0_1_ k_) ∨ w.heap.size ≤ k_)) (.slice A0_0 l0_0.length c0_0) l0_0 from Kd.V_mono hs0_0 (fun k_ hk => .inl (.inl hk)))
 have HO0_1 := Aside0.mk (show Kd.V k58 58 w w.heap.size (fun k_ => ((P0_0_ k_ ∨ P0_1_ k_) ∨ w.heap.size ≤ k_)) (.slice A0_1 l0_1.length c0_1) l0_1 from Kd.V_mono hs0_1 (fun k_ hk => .inl (.inr hk)))
 have HB := Aside0.mk (Below.refl w.heap.size w)
 have H : ((some (([] : List (S32)) : List (S32))).bind fun y932 => (if y932.length + l0_0.length < 2932031007402 then (swarfref43_Join.l0 k (y932 ++ l0_0) 0 l0_0 l0_1) else (none))) = some r := h
 clear h
 obtain ⟨y932, hy932⟩ : ∃ y_ : List (S32), y_ = (([] : List (S32))) := ⟨_, rfl⟩
 replace H : (if y932.length + l0_0.length < 2932031007402 then (swarfref43_Join.l0 k (y932 ++ l0_0) 0 l0_0 l0_1) else (none)) = some r := by first | (rw [hy932]; with_reducible exact H) | (have H2_ := (Option.bind_some _ _).symm.trans H; rw [hy932]; with_reducible exact H2_) | (have H2_ := (Option.bind_some _ _).symm.trans H; with_reducible exact H2_) | with_reducible exact H | (rw [hy932]; exact H) | exact H
 have Ny932 := Aside0.mk hy932
 clear hy932
 by_cases c2 : y932.length + l0_0.length < 2932031007402
 ·rw [if_pos c2] at H
  have LMc2 := Aside0.mk c2
  clear c2
  obtain ⟨y935, hy935⟩ : ∃ y_ : List (S32), y_ = (y932 ++ l0_0) := ⟨_, rfl⟩
  replace H : (swarfref43_Join.l0 k y935 0 l0_0 l0_1) = some r := by first | (rw [hy935]; with_reducible exact H) | (have H2_ := (Option.bind_some _ _).symm.trans H; rw [hy935]; with_reducible exact H2_) | (have H2_ := (Option.bind_some _ _).symm.trans H; with_reducible exact H2_) | with_reducible exact H | (rw [hy935]; exact H) | exact H
  have Ny935 := Aside0.mk hy935
  clear hy935
  have H' := Aside0.mk H
  clear H
  go_enter Try.func48, Try.ntmps48
  go_wp2_with (first | ((with_reducible refine gate_dst (N := 1) rfl ?_); refine yX 1 #[.slice A0_0 l0_0.length c0_0, .slice A0_1 l0_1.length c0_1] 48 ?_; intro gb931 hg w3 hbox hb; replace HO0_0 := Aside0.mk (Kd.V_below (Kd.V_elderB (yV HO0_0.out) gb931 (Nat.le_of_eq hg.symm)) hb); replace HO0_1 := Aside0.mk (Kd.V_below (Kd.V_elderB (yV HO0_1.out) gb931 (Nat.le_of_eq hg.symm)) hb); have BK931 := Aside0.mk (hbox); have GE931 := Aside0.mk ((yG hg : w.heap.size ≤ gb931)); replace HB := Aside0.mk (below_step yB hb); clear hb hbox hg) | ((with_reducible refine gate_dst (N := 5) rfl ?_); refine Kd.N_lit k32 _ 32 ?hg (N' := 5) ?hd (xs := ([] : List (S32))) (inner := []) (ok := (fun k_ => ((P0_0_ k_ ∨ P0_1_ k_) ∨ w.heap.size ≤ k_) ∧ k_ ≠ gb931)) (okp := (fun k_ => ((P0_0_ k_ ∨ P0_1_ k_) ∨ w.heap.size ≤ k_) ∧ k_ ≠ gb931)) ?hr ?hp (fun _ hk => hk) ((show ∀ k_, w3.heap.size ≤ k_ → (fun k_ => ((P0_0_ k_ ∨ P0_1_ k_) ∨ w.heap.size ≤ k_) ∧ k_ ≠ gb931) k_ from fun k_ hk => ⟨(.inr (Nat.le_trans (below_size yB) hk)), Kd.freshB (g := gb931) yK k_ hk⟩) _ (Nat.le_refl _)) (Below.refl _ _) (Nat.le_refl _) (by simp) ?_; (case hd => rfl); (case hg => rfl); (case hr => first | (go_simp; done) | (go_simp; rfl)); (case hp => exact (Reps.none _ _)); intro v933 w4 ho5 hb hg_ hnew_; clear hg_ hnew_; (first | rw [← Ny932.out] at ho5 | (simp only [Int.reduceToNat] at ho5; rw [← Ny932.out] at ho5)); replace HO0_0 := Aside0.mk (Kd.V_elder' (yV HO0_0.out) (Kd.N_base ho5) hb); replace HO0_1 := Aside0.mk (Kd.V_elder' (yV HO0_1.out) (Kd.N_base ho5) hb); have HO934 := Aside0.mk (Kd.N_lower ho5 (below_size yB)); replace BK931 := Aside0.mk (blk_below (g := gb931) yK hb); replace HB := Aside0.mk (below_step yB hb); clear hb ho5; have hcz6_0 := yZ0 BK931.out; have hcz6_1 := yZ1 BK931.out; have hfz6_0 := blk_frozen BK931.out 0; have hfz6_1 := blk_frozen BK931.out 1) | ((with_reducible refine gate_builtin (b := .append) (xs := #[.tmp 5, .tmp 7]) rfl ?_); at_builtin; refine Kd.N_append_rows k32 (w0 := w) w.heap.size rfl (.tmp 5) (.tmp 7) 35 32 (.agg #[(.bool false), (.slice none 0 0), (.string ⟨#[]⟩)]) 48 rfl Try.underlying35 info32 rfl (by decide) (by omega) v933 y932 l0_0 _ _ _ (fun k_ => ((P0_0_ k_ ∨ P0_1_ k_) ∨ w.heap.size ≤ k_) ∧ k_ ≠ gb931) (fun k_ => ((fun k_ => ((P0_0_ k_ ∨ P0_1_ k_) ∨ w.heap.size ≤ k_) ∧ k_ ≠ gb931)) k_ ∧ some k_ ≠ (v933 : Value).ownBlock) rfl rfl ?aO ?aR (fun _ hk => hk) ?aF ?aB ?aS ?aL ?_; (case aR => exact (by skip; exact Kd.V_F (Kd.V_mono (ok' := (fun k_ => ((fun k_ => ((P0_0_ k_ ∨ P0_1_ k_) ∨ w.heap.size ≤ k_) ∧ k_ ≠ gb931)) k_ ∧ some k_ ≠ (v933 : Value).ownBlock)) (HO0_0.out) (fun k_ hk => ⟨⟨hk.1.1, hk.1.2⟩, hk.2⟩)))); (case aB => exact yB); (case aF => exact (fun k_ hk => ⟨(.inr (Nat.le_trans (below_size yB) hk)), Kd.freshB (g := gb931) yK k_ hk⟩)); (case aO => exact (yN HO934.out)); (case aS => exact (below_size yB)); (case aL => have := LMc2.out; omega); intro v936 w7 ho hb hg hat; rw [← Ny935.out] at ho; have n0_ := Aside0.mk (Kd.V_afterv (ok := (fun k_ => ((P0_0_ k_ ∨ P0_1_ k_) ∨ w.heap.size ≤ k_) ∧ k_ ≠ gb931)) (yV HO0_0.out) hg hat); have n1_ := Aside0.mk (Kd.V_afterv (ok := (fun k_ => ((P0_0_ k_ ∨ P0_1_ k_) ∨ w.heap.size ≤ k_) ∧ k_ ≠ gb931)) (yV HO0_1.out) hg hat); have n2_ := Aside0.mk (blk_grown (g := gb931) yK hg (Kd.N_ne HO934.out BK931.out (by decide))); have n3_ := Aside0.mk (hb); have n4_ := Aside0.mk (ho); clear HO0_0; clear HO0_1; clear BK931; clear HB; clear HO934; have HO0_0 := n0_; have HO0_1 := n1_; have BK931 := n2_; have HB := n3_; have HO937 := n4_; clear n0_ n1_ n2_ n3_ n4_; clear ho hb hg hat))
  go_loopg [3, 4] k (fun kq v3 v4 w' => ∃ (x3_1 : List (S32)) (x4_1 : Int), v4 = .int .i64 x4_1 ∧ Aside0 (swarfref43_Join.l0 kq x3_1 x4_1 l0_0 l0_1 = some r) ∧ Aside0 (kq ≤ k) ∧ Aside0 (Kd.N k32 32 w' w.heap.size (fun k_ => ((P0_0_ k_ ∨ P0_1_ k_) ∨ w.heap.size ≤ k_) ∧ k_ ≠ gb931) v3 x3_1) ∧ Aside0 (Kd.V k32 32 w' w.heap.size (fun k_ => ((P0_0_ k_ ∨ P0_1_ k_) ∨ w.heap.size ≤ k_) ∧ some k_ ≠ (v3 : Value).ownBlock ∧ k_ ≠ gb931) (.slice A0_0 l0_0.length c0_0) l0_0) ∧ Aside0 (Kd.V k58 58 w' w.heap.size (fun k_ => ((P0_0_ k_ ∨ P0_1_ k_) ∨ w.heap.size ≤ k_) ∧ some k_ ≠ (v3 : Value).ownBlock ∧ k_ ≠ gb931) (.slice A0_1 l0_1.length c0_1) l0_1) ∧ Aside0 (w'.heap[gb931]? = some (.cells #[(.slice A0_0 l0_0.length c0_0), (.slice A0_1 l0_1.length c0_1)] 48 (0, 0))) ∧ Aside0 (Below w.heap.size w w'))
  case atStart => exact ⟨(y935), (0), yS, H', ⟨Nat.le_refl _⟩, ⟨by refine yN ?_; exact HO937.out⟩, ⟨by refine yV ?_; exact Kd.V_mono HO0_0.out (fun _ hk => ⟨hk.1.1, ⟨hk.2, hk.1.2⟩⟩)⟩, ⟨by refine yV ?_; exact Kd.V_mono HO0_1.out (fun _ hk => ⟨hk.1.1, ⟨hk.2, hk.1.2⟩⟩)⟩, ⟨by refine yH ?_; exact BK931.out⟩, ⟨yB⟩⟩
  case round =>
   clear H'
   try clear c2
   try clear p2
   try clear c4
   try clear hcz6_0
   try clear hcz6_1
   try clear hfz6_0
   try clear hfz6_1
   obtain ⟨x3_1, x4_1, rfl, HA, HK1, HO_3, HO_932000, HO_932001, BK931, HB⟩ := hrel
   cases gk with
   | zero => exact absurd HA.out (by simp [swarfref43_Join.l0])
   | succ k1 =>
    have H := HA.out
    clear HA
    simp only [swarfref43_Join.l0] at H
    by_cases c8 : x4_1 < (l0_1.length : Int)
    ·rw [if_pos c8] at H
     have c8b0 := decide_eq_true c8
     clear c8
     by_cases c9 : 0 ≤ x4_1
     ·rw [if_pos c9] at H
      have c9b0 := decide_eq_true c9
      clear c9
      obtain ⟨y939, hy939⟩ : ∃ y_ : List (S78), y_ = (([(⟨79, wrap64 (1000 * ((rd_T58 l0_1 x4_1).f0))⟩ : S78)] : List (S78))) := ⟨_, rfl⟩
      replace H : (if x3_1.length < 2932031007402 then ((some (x3_1 ++ [(⟨false, y939, (⟨#[]⟩ : ByteArray)⟩ : S32)] : List (S32))).bind fun y942 => (if y942.length + ((rd_T58 l0_1 x4_1).f1).length < 2932031007402 then ((some (y942 ++ ((rd_T58 l0_1 x4_1).f1) : List (S32))).bind fun y946 => (if y946.length < 2932031007402 then (swarfref43_Join.l0 k1 (y946 ++ [(⟨false, (([(⟨77, 99000⟩ : S78)] : List (S78))), (⟨#[]⟩ : ByteArray)⟩ : S32)]) (wrap64 (x4_1 + 1)) l0_0 l0_1) else (none))) else (none))) else (none)) = some r := by first | (rw [hy939]; with_reducible exact H) | (have H2_ := (Option.bind_some _ _).symm.trans H; rw [hy939]; with_reducible exact H2_) | (have H2_ := (Option.bind_some _ _).symm.trans H; with_reducible exact H2_) | with_reducible exact H | (rw [hy939]; exact H) | exact H
      have Ny939 := Aside0.mk hy939
      clear hy939
      by_cases c10 : x3_1.length < 2932031007402
      ·rw [if_pos c10] at H
       have LMc10 := Aside0.mk c10
       clear c10
       obtain ⟨y942, hy942⟩ : ∃ y_ : List (S32), y_ = (x3_1 ++ [(⟨false, y939, (⟨#[]⟩ : ByteArray)⟩ : S32)]) := ⟨_, rfl⟩
       replace H : (if y942.length + ((rd_T58 l0_1 x4_1).f1).length < 2932031007402 then ((some (y942 ++ ((rd_T58 l0_1 x4_1).f1) : List (S32))).bind fun y946 => (if y946.length < 2932031007402 then (swarfref43_Join.l0 k1 (y946 ++ [(⟨false, (([(⟨77, 99000⟩ : S78)] : List (S78))), (⟨#[]⟩ : ByteArray)⟩ : S32)]) (wrap64 (x4_1 + 1)) l0_0 l0_1) else (none))) else (none)) = some r := by first | (rw [hy942]; with_reducible exact H) | (have H2_ := (Option.bind_some _ _).symm.trans H; rw [hy942]; with_reducible exact H2_) | (have H2_ := (Option.bind_some _ _).symm.trans H; with_reducible exact H2_) | with_reducible exact H | (rw [hy942]; exact H) | exact H
       have Ny942 := Aside0.mk hy942
       clear hy942
       by_cases c11 : y942.length + ((rd_T58 l0_1 x4_1).f1).length < 2932031007402
       ·rw [if_pos c11] at H
        have LMc11 := Aside0.mk c11
        clear c11
        obtain ⟨y946, hy946⟩ : ∃ y_ : List (S32), y_ = (y942 ++ ((rd_T58 l0_1 x4_1).f1)) := ⟨_, rfl⟩
        replace H : (if y946.length < 2932031007402 then (swarfref43_Join.l0 k1 (y946 ++ [(⟨false, (([(⟨77, 99000⟩ : S78)] : List (S78))), (⟨#[]⟩ : ByteArray)⟩ : S32)]) (wrap64 (x4_1 + 1)) l0_0 l0_1) else (none)) = some r := by first | (rw [hy946]; with_reducible exact H) | (have H2_ := (Option.bind_some _ _).symm.trans H; rw [hy946]; with_reducible exact H2_) | (have H2_ := (Option.bind_some _ _).symm.trans H; with_reducible exact H2_) | with_reducible exact H | (rw [hy946]; exact H) | exact H
        have Ny946 := Aside0.mk hy946
        clear hy946
        obtain ⟨y949, hy949⟩ : ∃ y_ : List (S78), y_ = (([(⟨77, 99000⟩ : S78)] : List (S78))) := ⟨_, rfl⟩
        replace H : (if y946.length < 2932031007402 then (swarfref43_Join.l0 k1 (y946 ++ [(⟨false, y949, (⟨#[]⟩ : ByteArray)⟩ : S32)]) (wrap64 (x4_1 + 1)) l0_0 l0_1) else (none)) = some r := by first | (rw [hy949]; with_reducible exact H) | (have H2_ := (Option.bind_some _ _).symm.trans H; rw [hy949]; with_reducible exact H2_) | (have H2_ := (Option.bind_some _ _).symm.trans H; with_reducible exact H2_) | with_reducible exact H | (rw [hy949]; exact H) | exact H
        have Ny949 := Aside0.mk hy949
        clear hy949
        by_cases c12 : y946.length < 2932031007402
        ·rw [if_pos c12] at H
         have LMc12 := Aside0.mk c12
         clear c12
         obtain ⟨y952, hy952⟩ : ∃ y_ : List (S32), y_ = (y946 ++ [(⟨false, y949, (⟨#[]⟩ : ByteArray)⟩ : S32)]) := ⟨_, rfl⟩
         replace H : (swarfref43_Join.l0 k1 y952 (wrap64 (x4_1 + 1)) l0_0 l0_1) = some r := by first | (rw [hy952]; with_reducible exact H) | (have H2_ := (Option.bind_some _ _).symm.trans H; rw [hy952]; with_reducible exact H2_) | (have H2_ := (Option.bind_some _ _).symm.trans H; with_reducible exact H2_) | with_reducible exact H | (rw [hy952]; exact H) | exact H
         have Ny952 := Aside0.mk hy952
         clear hy952
         have H' := Aside0.mk H
         clear H
         have hcz13_0 := yZ0 BK931.out
         have hcz13_1 := yZ1 BK931.out
         have hfz13_0 := blk_frozen BK931.out 0
         have hfz13_1 := blk_frozen BK931.out 1
         have p938 : 0 ≤ (x4_1 : Int) := yD
         have q938 : x4_1 < (l0_1.length : Int) := yD
         obtain ⟨ad938, A938_1, c938_1, e938, hx938_0, hx938_1, hl938_1, hi938_1⟩ := at_T58 (Kd.V_reads' HO_932001.out).2.2 x4_1 p938 q938
         cases e938
         obtain ⟨ce938, hce938, hMe938, hcc938⟩ := Kd.V_get HO_932001.out z58 x4_1 p938 (by first | exact q938 | exact yD | (have e_ := (Kd.V_reads' HO_932001.out).1; omega))
         obtain ⟨ua938_1, uc938_1, rfl, ul938_1, ge938_1⟩ := k58_openF hMe938
         have hv938_1 := hcc938 1 _ rfl
         rw [add_field _ _ 1 (by omega)] at hv938_1
         replace hv938_1 := Option.some.inj (hv938_1.symm.trans hx938_1)
         injection hv938_1 with hva_ hvn_ hvc_
         rw [hva_] at ge938_1
         rw [hvc_] at ul938_1
         have HL938_1 := Aside0.mk (show Kd.V k32 32 _ w.heap.size _ _ ((rd_T58 l0_1 x4_1).f1) from Kd.V_mk ul938_1 ge938_1)
         clear hva_ hvn_ hvc_ ge938_1 ul938_1
         clear hcc938 hce938
         have HR938_1 := Aside0.mk hi938_1
         have HC938_1 := Aside0.mk hl938_1
         clear hi938_1 hl938_1
         replace p938 := eq_true p938
         replace q938 := eq_true q938
         go_wp2_with (first | ((with_reducible refine gate_dst (N := 25) rfl ?_); refine Kd.R_lit k78 _ 78 ?hg (N := 25) ?hd (xs := ([(⟨79, wrap64 (1000 * ((rd_T58 l0_1 x4_1).f0))⟩ : S78)] : List (S78))) (inner := [.int .u8 79, .int .i64 (wrap64 (1000 * ((rd_T58 l0_1 x4_1).f0)))]) (ok := fun _ => True) (okp := fun _ => True) ?hr ?hp (fun _ hk => hk) trivial (Below.refl _ _) (Nat.le_refl _) (by simp) ?_; (case hd => rfl); (case hg => rfl); (case hr => first | (go_simp; done) | (go_simp; rfl)); (case hp => exact (Reps.c2 (show Kd.M k78 _ _ _ (⟨79, wrap64 (1000 * ((rd_T58 l0_1 x4_1).f0))⟩ : S78) [.int .u8 79, .int .i64 (wrap64 (1000 * ((rd_T58 l0_1 x4_1).f0)))] from (k78_mkM _ _ _ (⟨79, wrap64 (1000 * ((rd_T58 l0_1 x4_1).f0))⟩ : S78) )) (Reps.none _ _))); intro v940 w14 ho15 hb hg_ hnew_; clear hg_ hnew_; (first | rw [← Ny939.out] at ho15 | (simp only [Int.reduceToNat] at ho15; rw [← Ny939.out] at ho15)); replace HO_3 := Aside0.mk (Kd.N_elder' (yN HO_3.out) (Kd.R_base ho15) hb); replace HO_932000 := Aside0.mk (Kd.V_elder' (yV HO_932000.out) (Kd.R_base ho15) hb); replace HO_932001 := Aside0.mk (Kd.V_elder' (yV HO_932001.out) (Kd.R_base ho15) hb); replace HL938_1 := Aside0.mk (Kd.V_elder' (yV HL938_1.out) (Kd.R_base ho15) hb); have HO941 := Aside0.mk (Kd.R_lower (Kd.R_newM (M := fun k_ => (w.heap.size ≤ k_)) ho15 (below_size yB) (fun k_ h_ => h_)) (below_size yB)); replace BK931 := Aside0.mk (blk_below (g := gb931) yK hb); replace HR938_1 := Aside0.mk (Kd.C_below (by repeat (first | (with_reducible exact HR938_1.out) | (with_reducible refine Kd.C_alloc ?_ _) | (with_reducible refine Kd.C_drewN ?_ _) | (with_reducible refine Kd.C_drew ?_) | exact HR938_1.out)) hb); replace HB := Aside0.mk (below_step yB hb); clear hb ho15; obtain ⟨Ao16, co16, eo16⟩ := Kd.R_slice HO941.out; subst eo16) | ((with_reducible refine gate_builtin (b := .append) (xs := #[.tmp 16, .tmp 27]) rfl ?_); at_builtin; refine Kd.N_append k32 (w0 := w) w.heap.size rfl (.tmp 16) (.tmp 27) 35 32 (.agg #[(.bool false), (.slice none 0 0), (.string ⟨#[]⟩)]) 48 rfl Try.underlying35 info32 rfl (by decide) (by omega) u3 x3_1 (⟨false, y939, (⟨#[]⟩ : ByteArray)⟩ : S32) [.bool false, .slice Ao16 y939.length co16, .string (⟨#[]⟩ : ByteArray)] (fun k_ => ((P0_0_ k_ ∨ P0_1_ k_) ∨ w.heap.size ≤ k_) ∧ k_ ≠ gb931) (fun k_ => ((fun k_ => ((P0_0_ k_ ∨ P0_1_ k_) ∨ w.heap.size ≤ k_) ∧ k_ ≠ gb931)) k_ ∧ some k_ ≠ (u3 : Value).ownBlock) rfl rfl ?aP (fun _ hk => hk) ?aF ?aO ?aB ?aS ?aL ?_; (case aP => exact (k32_mkF _ _ (⟨false, y939, (⟨#[]⟩ : ByteArray)⟩ : S32) (Kd.R_reads' (Kd.R_mono (ok' := (fun k_ => ((fun k_ => ((P0_0_ k_ ∨ P0_1_ k_) ∨ w.heap.size ≤ k_) ∧ k_ ≠ gb931)) k_ ∧ some k_ ≠ (u3 : Value).ownBlock)) (Kd.R_types (Kd.R_apart' (HO941.out) (Kd.N_typed HO_3.out) (by decide)) BK931.out (by decide)) (fun k_ hk => ⟨⟨(.inr (hk.1.1.1)), hk.2⟩, hk.1.2⟩))).2.1 (Kd.R_F (Kd.R_mono (ok' := (fun k_ => ((fun k_ => ((P0_0_ k_ ∨ P0_1_ k_) ∨ w.heap.size ≤ k_) ∧ k_ ≠ gb931)) k_ ∧ some k_ ≠ (u3 : Value).ownBlock)) (Kd.R_types (Kd.R_apart' (HO941.out) (Kd.N_typed HO_3.out) (by decide)) BK931.out (by decide)) (fun k_ hk => ⟨⟨(.inr (hk.1.1.1)), hk.2⟩, hk.1.2⟩))))); (case aB => exact yB); (case aF => exact (fun k_ hk => ⟨(.inr (Nat.le_trans (below_size yB) hk)), Kd.freshB (g := gb931) yK k_ hk⟩)); (case aO => exact (yN (Kd.N_mono HO_3.out (fun _ hk => ⟨hk.1.1, hk.1.2⟩)))); (case aS => exact (below_size yB)); (case aL => have := LMc10.out; omega); intro v943 w17 ho hb hg hat; rw [← Ny942.out] at ho; have n0_ := Aside0.mk (Kd.V_afterv (ok := (fun k_ => ((P0_0_ k_ ∨ P0_1_ k_) ∨ w.heap.size ≤ k_) ∧ some k_ ≠ (.slice Ao16 y939.length co16 : Value).ownBlock ∧ k_ ≠ gb931)) (yV (Kd.V_mono HO_932000.out (fun _ hk => ⟨⟨hk.1.1, ⟨hk.2, hk.1.2.2⟩⟩, hk.1.2.1⟩))) hg hat); have n1_ := Aside0.mk (Kd.V_afterv (ok := (fun k_ => ((P0_0_ k_ ∨ P0_1_ k_) ∨ w.heap.size ≤ k_) ∧ some k_ ≠ (.slice Ao16 y939.length co16 : Value).ownBlock ∧ k_ ≠ gb931)) (yV (Kd.V_mono HO_932001.out (fun _ hk => ⟨⟨hk.1.1, ⟨hk.2, hk.1.2.2⟩⟩, hk.1.2.1⟩))) hg hat); have n2_ := Aside0.mk (blk_grown (g := gb931) yK hg (Kd.N_ne HO_3.out BK931.out (by decide))); have n3_ := Aside0.mk (Kd.V_afterv (ok := (fun k_ => ((P0_0_ k_ ∨ P0_1_ k_) ∨ w.heap.size ≤ k_) ∧ some k_ ≠ (.slice Ao16 y939.length co16 : Value).ownBlock ∧ k_ ≠ gb931)) (yV (Kd.V_mono HL938_1.out (fun _ hk => ⟨⟨hk.1.1, ⟨hk.2, hk.1.2.2⟩⟩, hk.1.2.1⟩))) hg hat); have n4_ := Aside0.mk (hb); have n5_ := Aside0.mk (ho); clear HO_932000; clear HO_932001; clear BK931; clear HL938_1; clear HB; clear HO_3; clear HO941; have HO_932000 := n0_; have HO_932001 := n1_; have BK931 := n2_; have HL938_1 := n3_; have HB := n4_; have HO944 := n5_; clear n0_ n1_ n2_ n3_ n4_ n5_; clear ho hb hg hat; have hcz18_0 := yZ0 BK931.out; have hcz18_1 := yZ1 BK931.out; have hfz18_0 := blk_frozen BK931.out 0; have hfz18_1 := blk_frozen BK931.out 1; have p945 : 0 ≤ (x4_1 : Int) := yD; have q945 : x4_1 < (l0_1.length : Int) := yD; obtain ⟨ad945, A945_1, c945_1, e945, hx945_0, hx945_1, hl945_1, hi945_1⟩ := at_T58 (Kd.V_reads' HO_932001.out).2.2 x4_1 p945 q945; obtain rfl : ad938 = ad945 := (by injection e945); obtain ⟨ce945, hce945, hMe945, hcc945⟩ := Kd.V_get HO_932001.out z58 x4_1 p945 (by first | exact q945 | exact yD | (have e_ := (Kd.V_reads' HO_932001.out).1; omega)); obtain ⟨ua945_1, uc945_1, rfl, ul945_1, ge945_1⟩ := k58_openF hMe945; have hv945_1 := hcc945 1 _ rfl; rw [add_field _ _ 1 (by omega)] at hv945_1; replace hv945_1 := Option.some.inj (hv945_1.symm.trans hx945_1); injection hv945_1 with hva_ hvn_ hvc_; rw [hva_] at ge945_1; rw [hvc_] at ul945_1; have HL945_1 := Aside0.mk (show Kd.V k32 32 _ w.heap.size _ _ ((rd_T58 l0_1 x4_1).f1) from Kd.V_mk ul945_1 ge945_1); clear hva_ hvn_ hvc_ ge945_1 ul945_1; clear hcc945 hce945; have HR945_1 := Aside0.mk hi945_1; have HC945_1 := Aside0.mk hl945_1; clear hi945_1 hl945_1; replace p945 := eq_true p945; replace q945 := eq_true q945) | ((with_reducible refine gate_builtin (b := .append) (xs := #[.tmp 29, .tmp 35]) rfl ?_); at_builtin; refine Kd.N_append_rows k32 (w0 := w) w.heap.size rfl (.tmp 29) (.tmp 35) 35 32 (.agg #[(.bool false), (.slice none 0 0), (.string ⟨#[]⟩)]) 48 rfl Try.underlying35 info32 rfl (by decide) (by omega) v943 y942 ((rd_T58 l0_1 x4_1).f1) _ _ _ (fun k_ => ((P0_0_ k_ ∨ P0_1_ k_) ∨ w.heap.size ≤ k_) ∧ k_ ≠ gb931) (fun k_ => ((fun k_ => ((P0_0_ k_ ∨ P0_1_ k_) ∨ w.heap.size ≤ k_) ∧ k_ ≠ gb931)) k_ ∧ some k_ ≠ (v943 : Value).ownBlock) rfl rfl ?aO ?aR (fun _ hk => hk) ?aF ?aB ?aS ?aL ?_; (case aR => exact (by skip; exact Kd.V_F (Kd.V_mono (ok' := (fun k_ => ((fun k_ => ((P0_0_ k_ ∨ P0_1_ k_) ∨ w.heap.size ≤ k_) ∧ k_ ≠ gb931)) k_ ∧ some k_ ≠ (v943 : Value).ownBlock)) (HL945_1.out) (fun k_ hk => ⟨⟨hk.1.1, hk.1.2.2⟩, hk.2⟩)))); (case aB => exact yB); (case aF => exact (fun k_ hk => ⟨(.inr (Nat.le_trans (below_size yB) hk)), Kd.freshB (g := gb931) yK k_ hk⟩)); (case aO => exact (yN HO944.out)); (case aS => exact (below_size yB)); (case aL => have := LMc11.out; omega); intro v947 w19 ho hb hg hat; rw [← Ny946.out] at ho; have n0_ := Aside0.mk (Kd.V_afterv (ok := (fun k_ => ((P0_0_ k_ ∨ P0_1_ k_) ∨ w.heap.size ≤ k_) ∧ k_ ≠ gb931)) (yV (Kd.V_mono HO_932000.out (fun _ hk => ⟨⟨hk.1.1, hk.1.2.2⟩, hk.2⟩))) hg hat); have n1_ := Aside0.mk (Kd.V_afterv (ok := (fun k_ => ((P0_0_ k_ ∨ P0_1_ k_) ∨ w.heap.size ≤ k_) ∧ k_ ≠ gb931)) (yV (Kd.V_mono HO_932001.out (fun _ hk => ⟨⟨hk.1.1, hk.1.2.2⟩, hk.2⟩))) hg hat); have n2_ := Aside0.mk (blk_grown (g := gb931) yK hg (Kd.N_ne HO944.out BK931.out (by decide))); have n3_ := Aside0.mk (Kd.V_afterv (ok := (fun k_ => ((P0_0_ k_ ∨ P0_1_ k_) ∨ w.heap.size ≤ k_) ∧ k_ ≠ gb931)) (yV (Kd.V_mono HL938_1.out (fun _ hk => ⟨⟨hk.1.1, hk.1.2.2⟩, hk.2⟩))) hg hat); have n4_ := Aside0.mk (Kd.V_afterv (ok := (fun k_ => ((P0_0_ k_ ∨ P0_1_ k_) ∨ w.heap.size ≤ k_) ∧ k_ ≠ gb931)) (yV (Kd.V_mono HL945_1.out (fun _ hk => ⟨⟨hk.1.1, hk.1.2.2⟩, hk.2⟩))) hg hat); have n5_ := Aside0.mk (hb); have n6_ := Aside0.mk (ho); clear HO_932000; clear HO_932001; clear BK931; clear HL938_1; clear HL945_1; clear HB; clear HO944; have HO_932000 := n0_; have HO_932001 := n1_; have BK931 := n2_; have HL938_1 := n3_; have HL945_1 := n4_; have HB := n5_; have HO948 := n6_; clear n0_ n1_ n2_ n3_ n4_ n5_ n6_; clear ho hb hg hat) | ((with_reducible refine gate_dst (N := 39) rfl ?_); refine Kd.R_lit k78 _ 78 ?hg (N := 39) ?hd (xs := ([(⟨77, 99000⟩ : S78)] : List (S78))) (inner := [.int .u8 77, .int .i64 99000]) (ok := fun _ => True) (okp := fun _ => True) ?hr ?hp (fun _ hk => hk) trivial (Below.refl _ _) (Nat.le_refl _) (by simp) ?_; (case hd => rfl); (case hg => rfl); (case hr => first | (go_simp; done) | (go_simp; rfl)); (case hp => exact (Reps.c2 (show Kd.M k78 _ _ _ (⟨77, 99000⟩ : S78) [.int .u8 77, .int .i64 99000] from (k78_mkM _ _ _ (⟨77, 99000⟩ : S78) )) (Reps.none _ _))); intro v950 w20 ho21 hb hg_ hnew_; clear hg_ hnew_; (first | rw [← Ny949.out] at ho21 | (simp only [Int.reduceToNat] at ho21; rw [← Ny949.out] at ho21)); replace HO_932000 := Aside0.mk (Kd.V_elder' (yV HO_932000.out) (Kd.R_base ho21) hb); replace HO_932001 := Aside0.mk (Kd.V_elder' (yV HO_932001.out) (Kd.R_base ho21) hb); replace HL938_1 := Aside0.mk (Kd.V_elder' (yV HL938_1.out) (Kd.R_base ho21) hb); replace HL945_1 := Aside0.mk (Kd.V_elder' (yV HL945_1.out) (Kd.R_base ho21) hb); replace HO948 := Aside0.mk (Kd.N_elder' (yN HO948.out) (Kd.R_base ho21) hb); have HO951 := Aside0.mk (Kd.R_lower (Kd.R_newM (M := fun k_ => (w.heap.size ≤ k_)) ho21 (below_size yB) (fun k_ h_ => h_)) (below_size yB)); replace BK931 := Aside0.mk (blk_below (g := gb931) yK hb); replace HB := Aside0.mk (below_step yB hb); clear hb ho21; obtain ⟨Ao22, co22, eo22⟩ := Kd.R_slice HO951.out; subst eo22) | ((with_reducible refine gate_builtin (b := .append) (xs := #[.tmp 37, .tmp 41]) rfl ?_); at_builtin; refine Kd.N_append k32 (w0 := w) w.heap.size rfl (.tmp 37) (.tmp 41) 35 32 (.agg #[(.bool false), (.slice none 0 0), (.string ⟨#[]⟩)]) 48 rfl Try.underlying35 info32 rfl (by decide) (by omega) v947 y946 (⟨false, y949, (⟨#[]⟩ : ByteArray)⟩ : S32) [.bool false, .slice Ao22 y949.length co22, .string (⟨#[]⟩ : ByteArray)] (fun k_ => ((P0_0_ k_ ∨ P0_1_ k_) ∨ w.heap.size ≤ k_) ∧ k_ ≠ gb931) (fun k_ => ((fun k_ => ((P0_0_ k_ ∨ P0_1_ k_) ∨ w.heap.size ≤ k_) ∧ k_ ≠ gb931)) k_ ∧ some k_ ≠ (v947 : Value).ownBlock) rfl rfl ?aP (fun _ hk => hk) ?aF ?aO ?aB ?aS ?aL ?_; (case aP => exact (k32_mkF _ _ (⟨false, y949, (⟨#[]⟩ : ByteArray)⟩ : S32) (Kd.R_reads' (Kd.R_mono (ok' := (fun k_ => ((fun k_ => ((P0_0_ k_ ∨ P0_1_ k_) ∨ w.heap.size ≤ k_) ∧ k_ ≠ gb931)) k_ ∧ some k_ ≠ (v947 : Value).ownBlock)) (Kd.R_types (Kd.R_apart' (HO951.out) (Kd.N_typed HO948.out) (by decide)) BK931.out (by decide)) (fun k_ hk => ⟨⟨(.inr (hk.1.1.1)), hk.2⟩, hk.1.2⟩))).2.1 (Kd.R_F (Kd.R_mono (ok' := (fun k_ => ((fun k_ => ((P0_0_ k_ ∨ P0_1_ k_) ∨ w.heap.size ≤ k_) ∧ k_ ≠ gb931)) k_ ∧ some k_ ≠ (v947 : Value).ownBlock)) (Kd.R_types (Kd.R_apart' (HO951.out) (Kd.N_typed HO948.out) (by decide)) BK931.out (by decide)) (fun k_ hk => ⟨⟨(.inr (hk.1.1.1)), hk.2⟩, hk.1.2⟩))))); (case aB => exact yB); (case aF => exact (fun k_ hk => ⟨(.inr (Nat.le_trans (below_size yB) hk)), Kd.freshB (g := gb931) yK k_ hk⟩)); (case aO => exact (yN (Kd.N_mono HO948.out (fun _ hk => ⟨hk.1.1, hk.1.2⟩)))); (case aS => exact (below_size yB)); (case aL => have := LMc12.out; omega); intro v953 w23 ho hb hg hat; rw [← Ny952.out] at ho; have n0_ := Aside0.mk (Kd.V_afterv (ok := (fun k_ => ((P0_0_ k_ ∨ P0_1_ k_) ∨ w.heap.size ≤ k_) ∧ some k_ ≠ (.slice Ao22 y949.length co22 : Value).ownBlock ∧ k_ ≠ gb931)) (yV (Kd.V_mono HO_932000.out (fun _ hk => ⟨⟨hk.1.1.1, ⟨hk.2, hk.1.1.2⟩⟩, hk.1.2⟩))) hg hat); have n1_ := Aside0.mk (Kd.V_afterv (ok := (fun k_ => ((P0_0_ k_ ∨ P0_1_ k_) ∨ w.heap.size ≤ k_) ∧ some k_ ≠ (.slice Ao22 y949.length co22 : Value).ownBlock ∧ k_ ≠ gb931)) (yV (Kd.V_mono HO_932001.out (fun _ hk => ⟨⟨hk.1.1.1, ⟨hk.2, hk.1.1.2⟩⟩, hk.1.2⟩))) hg hat); have n2_ := Aside0.mk (blk_grown (g := gb931) yK hg (Kd.N_ne HO948.out BK931.out (by decide))); have n3_ := Aside0.mk (Kd.V_afterv (ok := (fun k_ => ((P0_0_ k_ ∨ P0_1_ k_) ∨ w.heap.size ≤ k_) ∧ some k_ ≠ (.slice Ao22 y949.length co22 : Value).ownBlock ∧ k_ ≠ gb931)) (yV (Kd.V_mono HL938_1.out (fun _ hk => ⟨⟨hk.1.1.1, ⟨hk.2, hk.1.1.2⟩⟩, hk.1.2⟩))) hg hat); have n4_ := Aside0.mk (Kd.V_afterv (ok := (fun k_ => ((P0_0_ k_ ∨ P0_1_ k_) ∨ w.heap.size ≤ k_) ∧ some k_ ≠ (.slice Ao22 y949.length co22 : Value).ownBlock ∧ k_ ≠ gb931)) (yV (Kd.V_mono HL945_1.out (fun _ hk => ⟨⟨hk.1.1.1, ⟨hk.2, hk.1.1.2⟩⟩, hk.1.2⟩))) hg hat); have n5_ := Aside0.mk (hb); have n6_ := Aside0.mk (ho); clear HO_932000; clear HO_932001; clear BK931; clear HL938_1; clear HL945_1; clear HB; clear HO948; clear HO951; have HO_932000 := n0_; have HO_932001 := n1_; have BK931 := n2_; have HL938_1 := n3_; have HL945_1 := n4_; have HB := n5_; have HO954 := n6_; clear n0_ n1_ n2_ n3_ n4_ n5_ n6_; clear ho hb hg hat))
         go_roundg k1
         case measure => have := HK1.out; omega
         case rel => exact ⟨(y952), (wrap64 (x4_1 + 1)), yS, H', ⟨by have := HK1.out; omega⟩, ⟨by refine yN ?_; exact HO954.out⟩, ⟨by refine yV ?_; exact Kd.V_mono HO_932000.out (fun _ hk => ⟨hk.1.1, ⟨hk.2, hk.1.2.2⟩⟩)⟩, ⟨by refine yV ?_; exact Kd.V_mono HO_932001.out (fun _ hk => ⟨hk.1.1, ⟨hk.2, hk.1.2.2⟩⟩)⟩, ⟨by refine yH ?_; exact BK931.out⟩, ⟨yB⟩⟩
        rw [if_neg c12] at H
        exact absurd H (by simp)
       rw [if_neg c11] at H
       exact absurd H (by simp)
      rw [if_neg c10] at H
      exact absurd H (by simp)
     rw [if_neg c9] at H
     exact absurd H (by simp)
    rw [if_neg c8] at H
    have c8b0 := decide_eq_false c8
    clear c8
    obtain rfl := Option.some.inj H
    have hcz24_0 := yZ0 BK931.out
    have hcz24_1 := yZ1 BK931.out
    have hfz24_0 := blk_frozen BK931.out 0
    have hfz24_1 := blk_frozen BK931.out 1
    go_wp2
    go_ret
    exact ⟨_, yE, by refine yN ?_; exact Kd.N_mono HO_3.out (fun _ hk => hk.1), yB⟩
 rw [if_neg c2] at H
 exact absurd H (by simp)
end Go.Proofs.Ytehkhbnhmehobaa.P
namespace Go.Proofs.Ytehkhbnhmehobaa.P
open Go.RowKit Go.Proofs.YtehkhbnhmehobaaW.PrintWords Go.Proofs.YtehkhbnhmehobaaW.PrintLast Go.Proofs.YtehkhbnhmehobaaW.PrintMore
set_option linter.unusedVariables false
set_option linter.unusedSimpArgs false
def goodL (l : List Bk) : Prop := l.length ≤ 40 ∧ ∀ b ∈ l, goodB b
def goodP (m : List Bk) (s : List Rb) : Prop := goodL m ∧ s.length ≤ 12 ∧ ∀ x ∈ s, goodL x.f1
theorem FewP_l0 (m : List Bk) (s : List Rb) (hs : s.length ≤ 9223372036854775807) (hk : ∀ x ∈ s, x.f1.length ≤ 9223372036854775807) : ∀ (n j : Nat), j + n = s.length → ∃ r, Ev (fun k => swarfref43_Few.l0 k (j : Int) m s) r := by
  intro n
  induction n with
  | zero =>
    intro j hj
    exact ⟨true, Ev.step (fun k => by rw [swarfref43_Few.l0]) (Ev.neg (by omega) Ev.some)⟩
  | succ n ih =>
    intro j hj
    obtain ⟨r, h⟩ := ih (j + 1) (by omega)
    have hx := Few_ev (s[j]'(by omega)).f1 40 (hk _ (List.getElem_mem _))
    by_cases h1 : fewS (s[j]'(by omega)).f1 40 = true
    · by_cases h2 : (s[j]'(by omega)).f0 > 1000000
      · refine ⟨false, Ev.step (fun k => by rw [swarfref43_Few.l0]) (Ev.pos (by omega) (Ev.pos (by omega) ?_))⟩
        rw [rd_Rb (show j < s.length by omega)]
        exact Ev.bind hx (Ev.pos h1 (Ev.pos h2 Ev.some))
      by_cases h3 : (s[j]'(by omega)).f0 < -1000000
      · refine ⟨false, Ev.step (fun k => by rw [swarfref43_Few.l0]) (Ev.pos (by omega) (Ev.pos (by omega) ?_))⟩
        rw [rd_Rb (show j < s.length by omega)]
        exact Ev.bind hx (Ev.pos h1 (Ev.neg h2 (Ev.pos h3 Ev.some)))
      refine ⟨r, Ev.step (fun k => by rw [swarfref43_Few.l0]) (Ev.pos (by omega) (Ev.pos (by omega) ?_))⟩
      rw [rd_Rb (show j < s.length by omega), wrapI (by omega)]
      exact Ev.bind hx (Ev.pos h1 (Ev.neg h2 (Ev.neg h3 h)))
    refine ⟨false, Ev.step (fun k => by rw [swarfref43_Few.l0]) (Ev.pos (by omega) (Ev.pos (by omega) ?_))⟩
    rw [rd_Rb (show j < s.length by omega)]
    exact Ev.bind hx (Ev.neg h1 Ev.some)
theorem FewP_ev (m : List Bk) (s : List Rb) (hm : m.length ≤ 9223372036854775807) (hs : s.length ≤ 9223372036854775807) (hk : ∀ x ∈ s, x.f1.length ≤ 9223372036854775807) : ∃ r, Ev (fun k => swarfref43_Few.f k m s) r ∧ (r = true → s.length ≤ 12) := by
  unfold swarfref43_Few.f
  by_cases h : (s.length : Int) > 12
  · refine ⟨false, Ev.pos h (Ev.step (fun k => by rw [swarfref43_Few.j0]) ?_), fun h => by cases h⟩
    exact Ev.pos rfl Ev.some
  have h1 := Few_ev m 40 hm
  obtain ⟨r, h2⟩ := FewP_l0 m s hs hk s.length 0 (by omega)
  cases h3 : fewS m 40 with
  | false =>
    rw [h3] at h1
    refine ⟨false, Ev.neg h (Ev.bind h1 (Ev.step (fun k => by rw [swarfref43_Few.j0]) ?_)), fun h => by cases h⟩
    exact Ev.pos rfl Ev.some
  | true =>
    rw [h3] at h1
    refine ⟨r, Ev.neg h (Ev.bind h1 (Ev.step (fun k => by rw [swarfref43_Few.j0]) ?_)), fun _ => by omega⟩
    exact Ev.neg (by decide) h2
theorem few_l0 (s : List Rb) (hs : s.length ≤ 9223372036854775807) (hk : ∀ x ∈ s, x.f1.length ≤ 9223372036854775807 ∧ ∀ b ∈ x.f1, okBlock b) : ∀ (n j : Nat), j + n = s.length → ∃ r, Ev (fun k => swarflaw43_few.l0 k s (s.length : Int) (j : Int)) r ∧ (r = true → ∀ x ∈ s.drop j, goodL x.f1) := by
  intro n
  induction n with
  | zero =>
    intro j hj
    refine ⟨true, Ev.step (fun k => by rw [swarflaw43_few.l0]) (Ev.neg (by omega) Ev.some), fun _ => ?_⟩
    rw [List.drop_eq_nil_of_le (by omega)]
    exact fun x hx => by cases hx
  | succ n ih =>
    intro j hj
    obtain ⟨r, h, h'⟩ := ih (j + 1) (by omega)
    have hx := hk _ (List.getElem_mem (l := s) (n := j) (by omega))
    obtain ⟨v, h1, h2⟩ := valid_ev (s[j]'(by omega)).f1 40 hx.1 hx.2
    cases hv : v with
    | false =>
      subst hv
      refine ⟨false, Ev.step (fun k => by rw [swarflaw43_few.l0]) (Ev.pos (by omega) (Ev.pos (by omega) (Ev.pos (by omega) ?_))), fun h => by cases h⟩
      rw [rd_Rb (show j < s.length by omega)]
      exact Ev.bind h1 (Ev.neg (by decide) Ev.some)
    | true =>
      subst hv
      refine ⟨r, Ev.step (fun k => by rw [swarflaw43_few.l0]) (Ev.pos (by omega) (Ev.pos (by omega) (Ev.pos (by omega) ?_))), fun hr => ?_⟩
      · rw [rd_Rb (show j < s.length by omega), wrapI (by omega)]
        exact Ev.bind h1 (Ev.pos rfl h)
      rw [List.drop_eq_getElem_cons (show j < s.length by omega)]
      intro x hx
      rcases List.mem_cons.mp hx with rfl | hx
      · exact ⟨by have := (h2 rfl).1; omega, (h2 rfl).2⟩
      exact h' hr x hx
theorem few_ev (m : List Bk) (s : List Rb) (hp : okProg (m, s)) : ∃ r, Ev (fun k => swarflaw43_few.f k m s) r ∧ (r = true → goodP m s) := by
  obtain ⟨⟨hm, hb⟩, hs, hk⟩ := hp
  replace hm : m.length ≤ maxLen := hm
  replace hs : s.length ≤ maxLen := hs
  unfold maxLen at hm hs
  have hk1 : ∀ x ∈ s, x.f1.length ≤ 9223372036854775807 := fun x hx => by have := (hk x hx).2.1; unfold maxLen at this; omega
  obtain ⟨r1, e1, g1⟩ := FewP_ev m s (by omega) hs hk1
  obtain ⟨r2, e2, g2⟩ := valid_ev m 40 (by omega) hb
  obtain ⟨r3, e3, g3⟩ := few_l0 s hs (fun x hx => ⟨hk1 x hx, (hk x hx).2.2⟩) s.length 0 (by omega)
  unfold swarflaw43_few.f
  cases r1 with
  | false =>
    refine ⟨false, Ev.bind e1 (Ev.neg (by decide) (Ev.step (fun k => by rw [swarflaw43_few.j0]) ?_)), fun h => by cases h⟩
    exact Ev.pos rfl Ev.some
  | true =>
    cases r2 with
    | false =>
      refine ⟨false, Ev.bind e1 (Ev.pos rfl (Ev.bind e2 (Ev.step (fun k => by rw [swarflaw43_few.j0]) ?_))), fun h => by cases h⟩
      exact Ev.pos rfl Ev.some
    | true =>
      refine ⟨r3, Ev.bind e1 (Ev.pos rfl (Ev.bind e2 (Ev.step (fun k => by rw [swarflaw43_few.j0]) ?_))), fun h => ⟨⟨by have := (g2 rfl).1; omega, (g2 rfl).2⟩, g1 rfl, fun x hx => g3 h x (by simpa using hx)⟩⟩
      exact Ev.neg (by decide) e3
def sOf (s : Rb) : Sb := ⟨s.f0, s.f1⟩
theorem own_l0 (m : List Bk) (s : List Rb) (hs : s.length ≤ 1000000) (hk : ∀ x ∈ s, x.f1.length ≤ 1000000) : ∀ (n j : Nat) (acc : List Sb), j + n = s.length → acc.length ≤ j → Ev (fun k => swarflaw43_own.l0 k s (s.length : Int) (j : Int) m acc) (m, acc ++ (s.drop j).map sOf) := by
  intro n
  induction n with
  | zero =>
    intro j acc hj ha
    refine Ev.step (fun k => by rw [swarflaw43_own.l0]) (Ev.neg (by omega) ?_)
    rw [List.drop_eq_nil_of_le (by omega)]
    simpa using Ev.some
  | succ n ih =>
    intro j acc hj ha
    have h0 := ih (j + 1) (acc ++ [sOf (s[j]'(by omega))]) (by omega) (by simp; omega)
    refine Ev.step (fun k => by rw [swarflaw43_own.l0]) (Ev.pos (by omega) (Ev.pos (by omega) (Ev.pos (by omega) ?_)))
    have hc : Clone_Block.f (s[j]'(by omega)).f1 = some (s[j]'(by omega)).f1 := by unfold Clone_Block.f; rw [if_pos (by have := hk _ (List.getElem_mem (l := s) (n := j) (by omega)); omega)]
    rw [rd_Rb (show j < s.length by omega), wrapI (by omega), hc]
    refine Ev.bind Ev.some (Ev.pos (by omega) ?_)
    rw [List.drop_eq_getElem_cons (show j < s.length by omega), List.map_cons]
    have e : acc ++ sOf (s[j]'(by omega)) :: (s.drop (j + 1)).map sOf = acc ++ [sOf (s[j]'(by omega))] ++ (s.drop (j + 1)).map sOf := by rw [List.append_assoc]; rfl
    rw [e]
    exact h0
theorem own_ev (m : List Bk) (s : List Rb) (hm : m.length ≤ 1000000) (hs : s.length ≤ 1000000) (hk : ∀ x ∈ s, x.f1.length ≤ 1000000) : Ev (fun k => swarflaw43_own.f k m s) (m, s.map sOf) := by
  unfold swarflaw43_own.f
  have hc : Clone_Block.f m = some m := by unfold Clone_Block.f; rw [if_pos (by omega)]
  rw [hc]
  exact Ev.bind Ev.some (by simpa using own_l0 m s hs hk s.length 0 [] (by omega) (by simp))
theorem sOf_back (s : List Rb) : (s.map sOf).map rOf = s := by
  rw [List.map_map]
  exact List.map_id'' (fun x => rfl) s
def oB (n : Int) : Bk := ⟨false, [⟨79, wrap64 (1000 * n)⟩], ⟨#[]⟩⟩
def mB : Bk := ⟨false, [⟨77, 99000⟩], ⟨#[]⟩⟩
def joinT : List Rb → List Bk
  | [] => []
  | x :: s => oB x.f0 :: (x.f1 ++ mB :: joinT s)
theorem rd_sOf {s : List Rb} {j : Nat} (h : j < s.length) : rd_T81 (s.map sOf) (j : Int) = sOf s[j] := by rw [rd_Sb (by simpa using h), List.getElem_map]
theorem joinO_l0 (s : List Rb) (hs : s.length ≤ 1000000) (hk : ∀ x ∈ s, x.f1.length ≤ 1000000) : ∀ (n j : Nat) (acc : List Bk), j + n = s.length → acc.length ≤ 1000000 + 1000002 * j → Ev (fun k => subprogram_Join.l0 k acc (s.map sOf) (s.length : Int) (j : Int)) (acc ++ joinT (s.drop j)) := by
  intro n
  induction n with
  | zero =>
    intro j acc hj ha
    refine Ev.step (fun k => by rw [subprogram_Join.l0]) (Ev.neg (by omega) ?_)
    rw [List.drop_eq_nil_of_le (by omega)]
    simpa [joinT] using Ev.some
  | succ n ih =>
    intro j acc hj ha
    have hkj := hk _ (List.getElem_mem (l := s) (n := j) (by omega))
    have h0 := ih (j + 1) (acc ++ [oB (s[j]'(by omega)).f0] ++ (s[j]'(by omega)).f1 ++ [mB]) (by omega) (by simp; omega)
    refine Ev.step (fun k => by rw [subprogram_Join.l0]) (Ev.pos (by omega) (Ev.pos (by omega) (Ev.pos (by rw [List.length_map]; omega) (Ev.pos (by omega) ?_))))
    rw [rd_sOf (show j < s.length by omega), wrapI (by omega), List.drop_eq_getElem_cons (show j < s.length by omega), joinT]
    have e : acc ++ (oB (s[j]'(by omega)).f0 :: ((s[j]'(by omega)).f1 ++ mB :: joinT (s.drop (j + 1)))) = acc ++ [oB (s[j]'(by omega)).f0] ++ (s[j]'(by omega)).f1 ++ [mB] ++ joinT (s.drop (j + 1)) := by simp
    rw [e]
    refine Ev.bind Ev.some (Ev.pos ?_ (Ev.bind Ev.some (Ev.pos ?_ h0)))
    · simp [sOf]; omega
    simp [sOf]; omega
theorem joinR_l0 (m : List Bk) (s : List Rb) (hs : s.length ≤ 1000000) (hk : ∀ x ∈ s, x.f1.length ≤ 1000000) : ∀ (n j : Nat) (acc : List Bk), j + n = s.length → acc.length ≤ 1000000 + 1000002 * j → Ev (fun k => swarfref43_Join.l0 k acc (j : Int) m s) (acc ++ joinT (s.drop j)) := by
  intro n
  induction n with
  | zero =>
    intro j acc hj ha
    refine Ev.step (fun k => by rw [swarfref43_Join.l0]) (Ev.neg (by omega) ?_)
    rw [List.drop_eq_nil_of_le (by omega)]
    simpa [joinT] using Ev.some
  | succ n ih =>
    intro j acc hj ha
    have hkj := hk _ (List.getElem_mem (l := s) (n := j) (by omega))
    have h0 := ih (j + 1) (acc ++ [oB (s[j]'(by omega)).f0] ++ (s[j]'(by omega)).f1 ++ [mB]) (by omega) (by simp; omega)
    refine Ev.step (fun k => by rw [swarfref43_Join.l0]) (Ev.pos (by omega) (Ev.pos (by omega) (Ev.pos (by omega) ?_)))
    rw [rd_Rb (show j < s.length by omega), wrapI (by omega), List.drop_eq_getElem_cons (show j < s.length by omega), joinT]
    have e : acc ++ (oB (s[j]'(by omega)).f0 :: ((s[j]'(by omega)).f1 ++ mB :: joinT (s.drop (j + 1)))) = acc ++ [oB (s[j]'(by omega)).f0] ++ (s[j]'(by omega)).f1 ++ [mB] ++ joinT (s.drop (j + 1)) := by simp
    rw [e]
    refine Ev.bind Ev.some (Ev.pos ?_ (Ev.bind Ev.some (Ev.pos ?_ h0)))
    · simp; omega
    simp; omega
theorem joinO_ev (m : List Bk) (s : List Rb) (hm : m.length ≤ 1000000) (hs : s.length ≤ 1000000) (hk : ∀ x ∈ s, x.f1.length ≤ 1000000) : Ev (fun k => subprogram_Join.f k m (s.map sOf)) (m ++ joinT s) := by
  unfold subprogram_Join.f
  have hc : Clone_Block.f m = some m := by unfold Clone_Block.f; rw [if_pos (by omega)]
  rw [hc, List.length_map]
  exact Ev.bind Ev.some (by simpa using joinO_l0 s hs hk s.length 0 m (by omega) (by omega))
theorem joinR_ev (m : List Bk) (s : List Rb) (hm : m.length ≤ 1000000) (hs : s.length ≤ 1000000) (hk : ∀ x ∈ s, x.f1.length ≤ 1000000) : Ev (fun k => swarfref43_Join.f k m s) (m ++ joinT s) := by
  unfold swarfref43_Join.f
  refine Ev.bind Ev.some (Ev.pos (by simp; omega) ?_)
  simpa using joinR_l0 m s hs hk s.length 0 m (by omega) (by omega)
end Go.Proofs.Ytehkhbnhmehobaa.P
namespace Go.Proofs.Ytehkhbnhmehobaa.P
open Go.RowKit Go.Proofs.YtehkhbnhmehobaaW.PrintWords Go.Proofs.YtehkhbnhmehobaaW.PrintLast Go.Proofs.YtehkhbnhmehobaaW.PrintMore
attribute [local go_sem] max2_int min2_int max_two min_two max_three min_three max_four min_four
set_option linter.unusedVariables false
set_option linter.unusedSimpArgs false
def subprogram_plain.f (a0_0 : Bool) (l0_1 : List (S78)) (a0_2 : ByteArray) : Option (Bool) := if (l0_1.length : Int) = 1 then (if a0_0 = true then (some false) else (some (a0_2.toList == ([] : List UInt8)))) else (some false)
set_option maxHeartbeats 8000000 in
set_option maxRecDepth 100000 in
theorem subprogram_plain.calls (a0_0 : Bool) (A0_1 : Option Addr) (c0_1 : Nat) (l0_1 : List (S78)) (a0_2 : ByteArray) (r : Bool) (w : World) (hr0_1 : Kd.C k78 w A0_1 l0_1.length l0_1) (hc0_1 : l0_1.length ≤ c0_1) (h : subprogram_plain.f a0_0 l0_1 a0_2 = some r) :
  Calls Try.prog 78 #[.agg #[.bool a0_0, .slice A0_1 l0_1.length c0_1, .string a0_2]] w fun e w' => e = .returned (.bool r) ∧ Below w.heap.size w w' := by
 have hu32 := Try.underlying32
 have HR0_1 := Aside0.mk hr0_1
 have HC0_1 := Aside0.mk hc0_1
 clear hr0_1 hc0_1
 have HB := Aside0.mk (Below.refl w.heap.size w)
 have H : (if (l0_1.length : Int) = 1 then (if a0_0 = true then (some false) else (some (a0_2.toList == ([] : List UInt8)))) else (some false)) = some r := h
 clear h
 by_cases c2 : (l0_1.length : Int) = 1
 ·rw [if_pos c2] at H
  have c2b0 : ((l0_1.length : Int) == 1) = true := beq_iff_eq.mpr c2
  have c2b1 : ((l0_1.length : Int) != 1) = false := bne_eq_false_iff_eq.mpr c2
  clear c2
  by_cases c3 : a0_0 = true
  ·subst c3
   rw [if_pos rfl] at H
   obtain rfl := Option.some.inj H
   go_enter Try.func78, Try.ntmps78
   go_wp2_with (first | ((with_reducible refine gate_dst (N := 1) rfl ?_); refine yX 1 #[.bool true, .slice A0_1 l0_1.length c0_1, .string a0_2] 32 ?_; intro gb448 hg w4 hbox hb; have BK448 := Aside0.mk (hbox); have GW448 := Aside0.mk ((yG hg : w.heap.size ≤ gb448)); have GE448 := Aside0.mk ((yG hg : w.heap.size ≤ gb448)); replace HB := Aside0.mk (below_step yB hb); clear hb hbox hg; have hcz5_0 := yZ0 BK448.out; have hcz5_1 := yZ1 BK448.out; have hcz5_2 := yZ2 BK448.out; have hfz5_0 := blk_frozen BK448.out 0; have hfz5_1 := blk_frozen BK448.out 1; have hfz5_2 := blk_frozen BK448.out 2))
   go_ret
   exact ⟨yE, yB⟩
  replace c3 := Bool.eq_false_iff.mpr c3
  subst c3
  replace H : (some (a0_2.toList == ([] : List UInt8))) = some r := by rw [if_neg (show ¬ (false = true) by decide)] at H; exact H
  obtain rfl := Option.some.inj H
  go_enter Try.func78, Try.ntmps78
  go_wp2_with (first | ((with_reducible refine gate_dst (N := 1) rfl ?_); refine yX 1 #[.bool false, .slice A0_1 l0_1.length c0_1, .string a0_2] 32 ?_; intro gb448 hg w6 hbox hb; have BK448 := Aside0.mk (hbox); have GW448 := Aside0.mk ((yG hg : w.heap.size ≤ gb448)); have GE448 := Aside0.mk ((yG hg : w.heap.size ≤ gb448)); replace HB := Aside0.mk (below_step yB hb); clear hb hbox hg; have hcz7_0 := yZ0 BK448.out; have hcz7_1 := yZ1 BK448.out; have hcz7_2 := yZ2 BK448.out; have hfz7_0 := blk_frozen BK448.out 0; have hfz7_1 := blk_frozen BK448.out 1; have hfz7_2 := blk_frozen BK448.out 2))
  go_ret
  exact ⟨yE, yB⟩
 rw [if_neg c2] at H
 have c2b0 : ((l0_1.length : Int) == 1) = false := beq_eq_false_iff_ne.mpr c2
 have c2b1 : ((l0_1.length : Int) != 1) = true := bne_iff_ne.mpr c2
 obtain rfl := Option.some.inj H
 go_enter Try.func78, Try.ntmps78
 go_wp2_with (first | ((with_reducible refine gate_dst (N := 1) rfl ?_); refine yX 1 #[.bool a0_0, .slice A0_1 l0_1.length c0_1, .string a0_2] 32 ?_; intro gb448 hg w8 hbox hb; have BK448 := Aside0.mk (hbox); have GW448 := Aside0.mk ((yG hg : w.heap.size ≤ gb448)); have GE448 := Aside0.mk ((yG hg : w.heap.size ≤ gb448)); replace HB := Aside0.mk (below_step yB hb); clear hb hbox hg; have hcz9_0 := yZ0 BK448.out; have hcz9_1 := yZ1 BK448.out; have hcz9_2 := yZ2 BK448.out; have hfz9_0 := blk_frozen BK448.out 0; have hfz9_1 := blk_frozen BK448.out 1; have hfz9_2 := blk_frozen BK448.out 2))
 go_ret
 exact ⟨yE, yB⟩
end Go.Proofs.Ytehkhbnhmehobaa.P
