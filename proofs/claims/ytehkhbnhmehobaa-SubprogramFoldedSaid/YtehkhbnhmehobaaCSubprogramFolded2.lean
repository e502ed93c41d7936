/- A part of the proof of SubprogramFolded. -/
import Derived.Maps.Range
import Derived.StillTailTactics
import Derived.Lib.SliceRun
import Derived.Test.YtehkhbnhmehobaaCSubprogramFolded1
namespace Go.Proofs.Ytehkhbnhmehobaa.P
open Go.RowKit Go.Proofs.YtehkhbnhmehobaaW.PrintWords Go.Proofs.YtehkhbnhmehobaaW.PrintLast Go.Proofs.YtehkhbnhmehobaaW.PrintMore
set_option linter.unusedVariables false
set_option linter.unusedSimpArgs false
def wordsW (l : List S78) : Prop := ∀ x ∈ l, 0 ≤ x.f0 ∧ x.f0 ≤ 255
instance (l : List S78) : Decidable (wordsW l) := by unfold wordsW; infer_instance
def callL : List S78 → (Int → Int) → Int → Int → Bool → Option ((Int → Int) × Int × Int × Bool)
  | [], C, n, t, ok => some (C, n, t, ok)
  | x :: l, C, n, t, ok => (subprogram_whole.f x.f1).bind fun r => callL l (fun y => if y = x.f0 then wrap64 (C y + 1) else C y) (if x.f0 = 80 then r.1 else n) (if x.f0 = 76 then r.1 else t)
      (if x.f0 = 80 ∨ x.f0 = 76 then ok && r.2 else if x.f0 = 77 ∨ x.f0 = 78 then ok else false)
def callR (r : (Int → Int) × Int × Int × Bool) : Int × Int × Bool × Int :=
  if r.2.2.2 = false then (0, 0, false, 1) else if ¬ r.1 77 = 1 then (0, 0, false, 1) else if ¬ r.1 80 = 1 then (0, 0, false, 1) else if r.1 76 > 1 then (0, 0, false, 1) else if r.1 78 > 1 then (0, 0, false, 1) else (r.2.1, r.2.2.1, true, 0)
def subprogram_Call.f (k : Nat) (a0_0 : Bool) (l0_1 : List (S78)) (a0_2 : ByteArray) : Option (Int × Int × Bool × Int) :=
  if wordsW l0_1 then (subprogram_has.f k a0_0 l0_1 a0_2 77 98000).bind fun h => if h = true then (callL l0_1 (fun _ => 0) 0 1 true).map callR else some (0, 0, false, 0) else none
theorem subprogram_Call.mono : ∀ a0 l0 a2 k, LeO (subprogram_Call.f k a0 l0 a2) (subprogram_Call.f (k + 1) a0 l0 a2) := by
  intro a0 l0 a2 k
  unfold subprogram_Call.f
  refine LeO.ite ?_ (LeO.none _)
  exact LeO.bind (subprogram_has.mono _ _ _ _ _ k) (fun _ => LeO.refl _)
theorem call_step {l : List S78} {j : Nat} (h : j < l.length) {C : Int → Int} {n t : Int} {ok : Bool} {r : (Int → Int) × Int × Int × Bool} (hr : callL (l.drop j) C n t ok = some r) :
    ∃ v b, subprogram_whole.f l[j].f1 = some (v, b) ∧ callL (l.drop (j + 1)) (fun y => if y = l[j].f0 then wrap64 (C y + 1) else C y) (if l[j].f0 = 80 then v else n) (if l[j].f0 = 76 then v else t) (if l[j].f0 = 80 ∨ l[j].f0 = 76 then ok && b else if l[j].f0 = 77 ∨ l[j].f0 = 78 then ok else false) = some r := by
  rw [List.drop_eq_getElem_cons h, callL] at hr
  obtain ⟨⟨v, b⟩, h1, h2⟩ := Option.bind_eq_some_iff.mp hr
  exact ⟨v, b, h1, h2⟩
theorem below_alloc_lt (w : World) (o : Obj) : w.heap.size < (w.alloc o).heap.size := by
  show _ < (w.heap.push o).size
  simp
theorem alloc_at (w : World) (o : Obj) : (w.alloc o).heap[w.heap.size]? = some o := by
  show (w.heap.push o)[w.heap.size]? = _
  simp
theorem cnt_put {F : Int → Option Value} {C : Int → Int} (h : ∀ y, (F y).getD (.int .i64 0) = .int .i64 (C y)) (a : Int) : ∀ y, ((if y = a then some (Value.int .i64 (wrap64 (C a + 1))) else F y).getD (.int .i64 0)) = .int .i64 ((fun y => if y = a then wrap64 (C y + 1) else C y) y) := by
  intro y
  by_cases hy : y = a
  · subst hy; simp
  simp [hy, h]
theorem zero_int3 (w : World) : (zeroValue 3).run Try.prog w = .ok (.int .i64 0) w := by kernel_rfl
set_option maxHeartbeats 4000000 in
set_option maxRecDepth 100000 in
theorem subprogram_Call.calls (k : Nat) (a0_0 : Bool) (A0_1 : Option Addr) (c0_1 : Nat) (l0_1 : List (S78)) (a0_2 : ByteArray) (r1 : Int) (r2 : Int) (r3 : Bool) (r4 : Int) (w : World) (hr0_1 : Kd.C k78 w A0_1 l0_1.length l0_1) (hc0_1 : l0_1.length ≤ c0_1) (h : subprogram_Call.f k a0_0 l0_1 a0_2 = some (r1, r2, r3, r4)) :
    Calls Try.prog 25 #[.agg #[.bool a0_0, .slice A0_1 l0_1.length c0_1, .string a0_2]] w fun e w' => e = .returned (.tuple #[.int .i64 r1, .int .i64 r2, .bool r3, .int .i64 r4]) ∧ Below w.heap.size w w' := by
  unfold subprogram_Call.f at h
  by_cases hbw : wordsW l0_1
  rotate_left
  · rw [if_neg hbw] at h; cases h
  rw [if_pos hbw] at h
  obtain ⟨hs, hs1, h⟩ := Option.bind_eq_some_iff.mp h
  have HS := Aside0.mk hs1
  have H := Aside0.mk h
  have HW := Aside0.mk hbw
  clear hbw h hs1
  have hu32 := Try.underlying32
  have hu78 := Try.underlying78
  have HR := Aside0.mk hr0_1
  have HC := Aside0.mk hc0_1
  have HM := Aside0.mk (Kd.C_max hr0_1)
  clear hr0_1 hc0_1
  cases hs with
  | false =>
    have H2 := H.out
    rw [if_neg (by decide)] at H2
    simp only [Option.some.injEq, Prod.mk.injEq] at H2
    obtain ⟨rfl, rfl, rfl, rfl⟩ := H2
    go_enter Try.func25, Try.ntmps25
    go_wp2_with (first | ((with_reducible refine gate_dst (N := 1) rfl ?_); refine yX 1 #[.bool a0_0, .slice A0_1 l0_1.length c0_1, .string a0_2] 32 ?_; intro gb hg w1 hbox hb; have HG := Aside0.mk hg; have BK := Aside0.mk hbox; have HB1 := Aside0.mk hb; clear hg hbox hb; have hz0 : w1.cell? ⟨gb, 0, none⟩ = some (.bool a0_0) := (blk_cell BK.out 0).trans rfl; have hz1 : w1.cell? ⟨gb, 1, none⟩ = some (.slice A0_1 l0_1.length c0_1) := (blk_cell BK.out 1).trans rfl; have hz2 : w1.cell? ⟨gb, 2, none⟩ = some (.string a0_2) := (blk_cell BK.out 2).trans rfl) | (go_at_call 58; (with_reducible refine (subprogram_has.calls k a0_0 _ _ l0_1 a0_2 77 98000 false _ (Kd.C_below HR.out HB1.out) HC.out HS.out).mono ?_); rintro e w2 ⟨rfl, hb2⟩; have HB2 := Aside0.mk (below_then HB1.out HB1.out.size hb2); have BK2 := Aside0.mk (blk_below BK.out hb2); clear hb2 hz0 hz1 hz2))
    refine bodyPost_ret (results_list (rs := [.tmp 2, .tmp 3, .tmp 4, .tmp 5]) rfl (by simp) (.tmp (.tmp (.tmp (.tmp .nil))))) rfl ?_
    exact ⟨rfl, HB2.out⟩
  | true =>
    have H2 := H.out
    rw [if_pos rfl] at H2
    obtain ⟨R, hR, hE⟩ := Option.map_eq_some_iff.mp H2
    have HL0 := Aside0.mk hR
    have HE := Aside0.mk hE
    clear hR hE H2 H
    go_enter Try.func25, Try.ntmps25
    go_wp2_with (first | ((with_reducible refine gate_dst (N := 1) rfl ?_); refine yX 1 #[.bool a0_0, .slice A0_1 l0_1.length c0_1, .string a0_2] 32 ?_; intro gb hg w1 hbox hb; have HG := Aside0.mk hg; have BK := Aside0.mk hbox; have HB1 := Aside0.mk hb; clear hg hbox hb; have hz0 : w1.cell? ⟨gb, 0, none⟩ = some (.bool a0_0) := (blk_cell BK.out 0).trans rfl; have hz1 : w1.cell? ⟨gb, 1, none⟩ = some (.slice A0_1 l0_1.length c0_1) := (blk_cell BK.out 1).trans rfl; have hz2 : w1.cell? ⟨gb, 2, none⟩ = some (.string a0_2) := (blk_cell BK.out 2).trans rfl) | (go_at_call 58; (with_reducible refine (subprogram_has.calls k a0_0 _ _ l0_1 a0_2 77 98000 true _ (Kd.C_below HR.out HB1.out) HC.out HS.out).mono ?_); rintro e w2 ⟨rfl, hb2⟩; have HB2 := Aside0.mk (below_then HB1.out HB1.out.size hb2); have BK2 := Aside0.mk (blk_below BK.out hb2); clear hb2 hz0 hz1 hz2) | ((with_reducible refine gate_dst (N := 17) rfl ?_); refine map_make 17 rfl rfl .u8 5 rfl ?_; intro gm w3 hgm hmm hb3; have HGM := Aside0.mk (show w.heap.size ≤ gm from by rw [hgm]; exact HB2.out.size); have HL := Aside0.mk hmm; have BK3 := Aside0.mk (blk_below BK2.out hb3); have HB3 := Aside0.mk (below_then HB2.out HB2.out.size hb3); have hz1 : w3.cell? ⟨gb, 1, none⟩ = some (.slice A0_1 l0_1.length c0_1) := (blk_cell BK3.out 1).trans rfl; clear hgm hmm hb3))
    go_loopw [21, 7, 8, 9] (fun i vn vt vo w' => ∃ (j : Nat) (C : Int → Int) (n t : Int) (ok : Bool) (F : Int → Option Value), i = .int .i64 j ∧ vn = .int .i64 n ∧ vt = .int .i64 t ∧ vo = .bool ok ∧ Aside0 (j ≤ l0_1.length) ∧ Aside0 (callL (l0_1.drop j) C n t ok = some R) ∧ Aside0 (MapIs Try.prog 5 .u8 w' gm j F) ∧ Aside0 (∀ y, (F y).getD (.int .i64 0) = .int .i64 (C y)) ∧ Aside0 (Below w.heap.size w w')) (fun i _ _ _ _ => l0_1.length - (intOf i).toNat)
    case atStart => exact ⟨0, fun _ => 0, 0, 1, true, _, rfl, rfl, rfl, rfl, ⟨Nat.zero_le _⟩, ⟨HL0.out⟩, ⟨HL.out⟩, ⟨fun _ => rfl⟩, ⟨HB3.out⟩⟩
    case round =>
      obtain ⟨j, C, n, t, ok, F, rfl, rfl, rfl, rfl, HJ, HI, HMr, HF, HBr⟩ := hrel
      clear HL HL0 hz1 BK BK2 BK3 HB2 HB3 HS HG HB1
      by_cases hlt : j < l0_1.length
      · obtain ⟨ad, e, hx0, hx1⟩ := at_T78 (Kd.C_below HR.out HBr.out) (j : Int) (by omega) (by omega)
        cases e
        have hrd : rd_T78 l0_1 (j : Int) = l0_1[j] := by simp [rd_T78, hlt]
        rw [hrd] at hx0 hx1
        have hwl := HW.out l0_1[j] (List.getElem_mem hlt)
        obtain ⟨v, b, hv, hI2⟩ := call_step hlt HI.out
        have HV := Aside0.mk hv
        have HI2 := Aside0.mk hI2
        clear hrd hv hI2
        generalize l0_1[j] = x at *
        have WFL := Aside0.mk (show (Lit.int .u8 x.f0).wf = true from WalkArith.wf_u8 (by omega))
        have NJ := Aside0.mk (show j < maxLen from by have := HM.out; unfold maxLen; omega)
        clear hwl
        simp only [Int.toNat_natCast] at hx0 hx1
        have hlt' : decide ((j : Int) < (l0_1.length : Int)) = true := by simp; omega
        by_cases c80 : x.f0 = 80
        · have t80 : (x.f0 == 80) = true := beq_iff_eq.mpr c80
          have c76 : ¬ x.f0 = 76 := by omega
          have c77 : ¬ x.f0 = 77 := by omega
          have c78 : ¬ x.f0 = 78 := by omega
          have C80 := Aside0.mk c80
          have C76 := Aside0.mk c76
          have C77 := Aside0.mk c77
          have C78 := Aside0.mk c78
          clear c80 c76 c77 c78
          cases ok with
          | true =>
            have HI3 := Aside0.mk (show callL (l0_1.drop (j + 1)) (fun y => if y = x.f0 then wrap64 (C y + 1) else C y) v t b = some R from by have h_ := HI2.out; rw [if_pos C80.out, if_neg C76.out, if_pos (Or.inl C80.out)] at h_; exact h_)
            go_wp2_with (first | ((with_reducible refine gate_dst (N := 28) rfl ?_); refine map_look 28 rfl rfl rfl Try.underlying5 Try.underlying96 zero_int3 (HMr.out.alloc _) rfl x.f0 rfl WFL.out _ (HF.out x.f0) ?_) | (refine map_put rfl rfl Try.underlying5 Try.underlying96 (HMr.out.alloc _) NJ.out rfl x.f0 rfl WFL.out (.int .i64 (wrap64 (C x.f0 + 1))) (by first | rfl | (go_simp; rfl)) ?_; intro w4 hm4 hg4; have hB : w4.heap[wr.heap.size]? = some (.cells #[.int .u8 x.f0, .int .i64 x.f1] 78 (0, 0)) := (hg4.block _ (below_alloc_lt wr _) (fun e => Nat.ne_of_gt HMr.out.lt (by injection e))).trans (alloc_at wr _); have BW := Aside0.mk hB; have HM4 := Aside0.mk hm4; have HF4 := Aside0.mk (cnt_put HF.out x.f0); have HB4 := Aside0.mk ((below_alloc HBr.out _).grown hg4 (Nat.le_trans HBr.out.size (Nat.le_of_lt (below_alloc_lt wr _))) (fun k_ e_ => by injection e_ with e_; rw [← e_]; exact HGM.out)); clear hm4 hg4 hB; have hy0 : w4.cell? ⟨wr.heap.size, 0, none⟩ = some (.int .u8 x.f0) := (blk_cell BW.out 0).trans rfl; have hy1 : w4.cell? ⟨wr.heap.size, 1, none⟩ = some (.int .i64 x.f1) := (blk_cell BW.out 1).trans rfl) | (go_at_call 59; (with_reducible refine (subprogram_whole.calls x.f1 v b _ HV.out).mono ?_); rintro e w5 ⟨rfl, hd5⟩; have hb5 := hd5.below; have BW5 := Aside0.mk (blk_below BW.out hb5); have HM5 := Aside0.mk (HM4.out.below hb5); have HB5 := Aside0.mk (below_then HB4.out HB4.out.size hb5); clear hd5 hb5 hy0 hy1; have hq0 : w5.cell? ⟨wr.heap.size, 0, none⟩ = some (.int .u8 x.f0) := (blk_cell BW5.out 0).trans rfl; have hq1 : w5.cell? ⟨wr.heap.size, 1, none⟩ = some (.int .i64 x.f1) := (blk_cell BW5.out 1).trans rfl))
            go_roundw
            case rel => exact ⟨j + 1, _, v, t, b, _, by rw [wrap_succ hlt HM.out], rfl, rfl, rfl, ⟨by omega⟩, ⟨HI3.out⟩, ⟨HM5.out⟩, ⟨HF4.out⟩, ⟨HB5.out⟩⟩
            case measure => rw [wrap_succ hlt HM.out]; simp only [intOf, Int.toNat_natCast]; omega
          | false =>
            have HI3 := Aside0.mk (show callL (l0_1.drop (j + 1)) (fun y => if y = x.f0 then wrap64 (C y + 1) else C y) v t false = some R from by have h_ := HI2.out; rw [if_pos C80.out, if_neg C76.out, if_pos (Or.inl C80.out)] at h_; exact h_)
            go_wp2_with (first | ((with_reducible refine gate_dst (N := 28) rfl ?_); refine map_look 28 rfl rfl rfl Try.underlying5 Try.underlying96 zero_int3 (HMr.out.alloc _) rfl x.f0 rfl WFL.out _ (HF.out x.f0) ?_) | (refine map_put rfl rfl Try.underlying5 Try.underlying96 (HMr.out.alloc _) NJ.out rfl x.f0 rfl WFL.out (.int .i64 (wrap64 (C x.f0 + 1))) (by first | rfl | (go_simp; rfl)) ?_; intro w4 hm4 hg4; have hB : w4.heap[wr.heap.size]? = some (.cells #[.int .u8 x.f0, .int .i64 x.f1] 78 (0, 0)) := (hg4.block _ (below_alloc_lt wr _) (fun e => Nat.ne_of_gt HMr.out.lt (by injection e))).trans (alloc_at wr _); have BW := Aside0.mk hB; have HM4 := Aside0.mk hm4; have HF4 := Aside0.mk (cnt_put HF.out x.f0); have HB4 := Aside0.mk ((below_alloc HBr.out _).grown hg4 (Nat.le_trans HBr.out.size (Nat.le_of_lt (below_alloc_lt wr _))) (fun k_ e_ => by injection e_ with e_; rw [← e_]; exact HGM.out)); clear hm4 hg4 hB; have hy0 : w4.cell? ⟨wr.heap.size, 0, none⟩ = some (.int .u8 x.f0) := (blk_cell BW.out 0).trans rfl; have hy1 : w4.cell? ⟨wr.heap.size, 1, none⟩ = some (.int .i64 x.f1) := (blk_cell BW.out 1).trans rfl) | (go_at_call 59; (with_reducible refine (subprogram_whole.calls x.f1 v b _ HV.out).mono ?_); rintro e w5 ⟨rfl, hd5⟩; have hb5 := hd5.below; have BW5 := Aside0.mk (blk_below BW.out hb5); have HM5 := Aside0.mk (HM4.out.below hb5); have HB5 := Aside0.mk (below_then HB4.out HB4.out.size hb5); clear hd5 hb5 hy0 hy1; have hq0 : w5.cell? ⟨wr.heap.size, 0, none⟩ = some (.int .u8 x.f0) := (blk_cell BW5.out 0).trans rfl; have hq1 : w5.cell? ⟨wr.heap.size, 1, none⟩ = some (.int .i64 x.f1) := (blk_cell BW5.out 1).trans rfl))
            go_roundw
            case rel => exact ⟨j + 1, _, v, t, false, _, by rw [wrap_succ hlt HM.out], rfl, rfl, rfl, ⟨by omega⟩, ⟨HI3.out⟩, ⟨HM5.out⟩, ⟨HF4.out⟩, ⟨HB5.out⟩⟩
            case measure => rw [wrap_succ hlt HM.out]; simp only [intOf, Int.toNat_natCast]; omega
        have t80 : (x.f0 == 80) = false := beq_eq_false_iff_ne.mpr c80
        by_cases c76 : x.f0 = 76
        · have t76 : (x.f0 == 76) = true := beq_iff_eq.mpr c76
          have c77 : ¬ x.f0 = 77 := by omega
          have c78 : ¬ x.f0 = 78 := by omega
          have C76 := Aside0.mk c76
          have C80 := Aside0.mk c80
          have C77 := Aside0.mk c77
          have C78 := Aside0.mk c78
          clear c80 c76 c77 c78
          cases ok with
          | true =>
            have HI3 := Aside0.mk (show callL (l0_1.drop (j + 1)) (fun y => if y = x.f0 then wrap64 (C y + 1) else C y) n v b = some R from by have h_ := HI2.out; rw [if_neg C80.out, if_pos C76.out, if_pos (Or.inr C76.out)] at h_; exact h_)
            go_wp2_with (first | ((with_reducible refine gate_dst (N := 28) rfl ?_); refine map_look 28 rfl rfl rfl Try.underlying5 Try.underlying96 zero_int3 (HMr.out.alloc _) rfl x.f0 rfl WFL.out _ (HF.out x.f0) ?_) | (refine map_put rfl rfl Try.underlying5 Try.underlying96 (HMr.out.alloc _) NJ.out rfl x.f0 rfl WFL.out (.int .i64 (wrap64 (C x.f0 + 1))) (by first | rfl | (go_simp; rfl)) ?_; intro w4 hm4 hg4; have hB : w4.heap[wr.heap.size]? = some (.cells #[.int .u8 x.f0, .int .i64 x.f1] 78 (0, 0)) := (hg4.block _ (below_alloc_lt wr _) (fun e => Nat.ne_of_gt HMr.out.lt (by injection e))).trans (alloc_at wr _); have BW := Aside0.mk hB; have HM4 := Aside0.mk hm4; have HF4 := Aside0.mk (cnt_put HF.out x.f0); have HB4 := Aside0.mk ((below_alloc HBr.out _).grown hg4 (Nat.le_trans HBr.out.size (Nat.le_of_lt (below_alloc_lt wr _))) (fun k_ e_ => by injection e_ with e_; rw [← e_]; exact HGM.out)); clear hm4 hg4 hB; have hy0 : w4.cell? ⟨wr.heap.size, 0, none⟩ = some (.int .u8 x.f0) := (blk_cell BW.out 0).trans rfl; have hy1 : w4.cell? ⟨wr.heap.size, 1, none⟩ = some (.int .i64 x.f1) := (blk_cell BW.out 1).trans rfl) | (go_at_call 59; (with_reducible refine (subprogram_whole.calls x.f1 v b _ HV.out).mono ?_); rintro e w5 ⟨rfl, hd5⟩; have hb5 := hd5.below; have BW5 := Aside0.mk (blk_below BW.out hb5); have HM5 := Aside0.mk (HM4.out.below hb5); have HB5 := Aside0.mk (below_then HB4.out HB4.out.size hb5); clear hd5 hb5 hy0 hy1; have hq0 : w5.cell? ⟨wr.heap.size, 0, none⟩ = some (.int .u8 x.f0) := (blk_cell BW5.out 0).trans rfl; have hq1 : w5.cell? ⟨wr.heap.size, 1, none⟩ = some (.int .i64 x.f1) := (blk_cell BW5.out 1).trans rfl))
            go_roundw
            case rel => exact ⟨j + 1, _, n, v, b, _, by rw [wrap_succ hlt HM.out], rfl, rfl, rfl, ⟨by omega⟩, ⟨HI3.out⟩, ⟨HM5.out⟩, ⟨HF4.out⟩, ⟨HB5.out⟩⟩
            case measure => rw [wrap_succ hlt HM.out]; simp only [intOf, Int.toNat_natCast]; omega
          | false =>
            have HI3 := Aside0.mk (show callL (l0_1.drop (j + 1)) (fun y => if y = x.f0 then wrap64 (C y + 1) else C y) n v false = some R from by have h_ := HI2.out; rw [if_neg C80.out, if_pos C76.out, if_pos (Or.inr C76.out)] at h_; exact h_)
            go_wp2_with (first | ((with_reducible refine gate_dst (N := 28) rfl ?_); refine map_look 28 rfl rfl rfl Try.underlying5 Try.underlying96 zero_int3 (HMr.out.alloc _) rfl x.f0 rfl WFL.out _ (HF.out x.f0) ?_) | (refine map_put rfl rfl Try.underlying5 Try.underlying96 (HMr.out.alloc _) NJ.out rfl x.f0 rfl WFL.out (.int .i64 (wrap64 (C x.f0 + 1))) (by first | rfl | (go_simp; rfl)) ?_; intro w4 hm4 hg4; have hB : w4.heap[wr.heap.size]? = some (.cells #[.int .u8 x.f0, .int .i64 x.f1] 78 (0, 0)) := (hg4.block _ (below_alloc_lt wr _) (fun e => Nat.ne_of_gt HMr.out.lt (by injection e))).trans (alloc_at wr _); have BW := Aside0.mk hB; have HM4 := Aside0.mk hm4; have HF4 := Aside0.mk (cnt_put HF.out x.f0); have HB4 := Aside0.mk ((below_alloc HBr.out _).grown hg4 (Nat.le_trans HBr.out.size (Nat.le_of_lt (below_alloc_lt wr _))) (fun k_ e_ => by injection e_ with e_; rw [← e_]; exact HGM.out)); clear hm4 hg4 hB; have hy0 : w4.cell? ⟨wr.heap.size, 0, none⟩ = some (.int .u8 x.f0) := (blk_cell BW.out 0).trans rfl; have hy1 : w4.cell? ⟨wr.heap.size, 1, none⟩ = some (.int .i64 x.f1) := (blk_cell BW.out 1).trans rfl) | (go_at_call 59; (with_reducible refine (subprogram_whole.calls x.f1 v b _ HV.out).mono ?_); rintro e w5 ⟨rfl, hd5⟩; have hb5 := hd5.below; have BW5 := Aside0.mk (blk_below BW.out hb5); have HM5 := Aside0.mk (HM4.out.below hb5); have HB5 := Aside0.mk (below_then HB4.out HB4.out.size hb5); clear hd5 hb5 hy0 hy1; have hq0 : w5.cell? ⟨wr.heap.size, 0, none⟩ = some (.int .u8 x.f0) := (blk_cell BW5.out 0).trans rfl; have hq1 : w5.cell? ⟨wr.heap.size, 1, none⟩ = some (.int .i64 x.f1) := (blk_cell BW5.out 1).trans rfl))
            go_roundw
            case rel => exact ⟨j + 1, _, n, v, false, _, by rw [wrap_succ hlt HM.out], rfl, rfl, rfl, ⟨by omega⟩, ⟨HI3.out⟩, ⟨HM5.out⟩, ⟨HF4.out⟩, ⟨HB5.out⟩⟩
            case measure => rw [wrap_succ hlt HM.out]; simp only [intOf, Int.toNat_natCast]; omega
        have t76 : (x.f0 == 76) = false := beq_eq_false_iff_ne.mpr c76
        by_cases c77 : x.f0 = 77
        · have t77 : (x.f0 == 77) = true := beq_iff_eq.mpr c77
          have c78 : ¬ x.f0 = 78 := by omega
          have C77 := Aside0.mk c77
          have C80 := Aside0.mk c80
          have C76 := Aside0.mk c76
          have C78 := Aside0.mk c78
          clear c80 c76 c77 c78
          have HI3 := Aside0.mk (show callL (l0_1.drop (j + 1)) (fun y => if y = x.f0 then wrap64 (C y + 1) else C y) n t ok = some R from by have h_ := HI2.out; rw [if_neg C80.out, if_neg C76.out, if_neg (fun h => h.elim C80.out C76.out), if_pos (Or.inl C77.out)] at h_; exact h_)
          go_wp2_with (first | ((with_reducible refine gate_dst (N := 28) rfl ?_); refine map_look 28 rfl rfl rfl Try.underlying5 Try.underlying96 zero_int3 (HMr.out.alloc _) rfl x.f0 rfl WFL.out _ (HF.out x.f0) ?_) | (refine map_put rfl rfl Try.underlying5 Try.underlying96 (HMr.out.alloc _) NJ.out rfl x.f0 rfl WFL.out (.int .i64 (wrap64 (C x.f0 + 1))) (by first | rfl | (go_simp; rfl)) ?_; intro w4 hm4 hg4; have hB : w4.heap[wr.heap.size]? = some (.cells #[.int .u8 x.f0, .int .i64 x.f1] 78 (0, 0)) := (hg4.block _ (below_alloc_lt wr _) (fun e => Nat.ne_of_gt HMr.out.lt (by injection e))).trans (alloc_at wr _); have BW := Aside0.mk hB; have HM4 := Aside0.mk hm4; have HF4 := Aside0.mk (cnt_put HF.out x.f0); have HB4 := Aside0.mk ((below_alloc HBr.out _).grown hg4 (Nat.le_trans HBr.out.size (Nat.le_of_lt (below_alloc_lt wr _))) (fun k_ e_ => by injection e_ with e_; rw [← e_]; exact HGM.out)); clear hm4 hg4 hB; have hy0 : w4.cell? ⟨wr.heap.size, 0, none⟩ = some (.int .u8 x.f0) := (blk_cell BW.out 0).trans rfl; have hy1 : w4.cell? ⟨wr.heap.size, 1, none⟩ = some (.int .i64 x.f1) := (blk_cell BW.out 1).trans rfl) | (go_at_call 59; (with_reducible refine (subprogram_whole.calls x.f1 v b _ HV.out).mono ?_); rintro e w5 ⟨rfl, hd5⟩; have hb5 := hd5.below; have BW5 := Aside0.mk (blk_below BW.out hb5); have HM5 := Aside0.mk (HM4.out.below hb5); have HB5 := Aside0.mk (below_then HB4.out HB4.out.size hb5); clear hd5 hb5 hy0 hy1; have hq0 : w5.cell? ⟨wr.heap.size, 0, none⟩ = some (.int .u8 x.f0) := (blk_cell BW5.out 0).trans rfl; have hq1 : w5.cell? ⟨wr.heap.size, 1, none⟩ = some (.int .i64 x.f1) := (blk_cell BW5.out 1).trans rfl))
          go_roundw
          case rel => exact ⟨j + 1, _, n, t, ok, _, by rw [wrap_succ hlt HM.out], rfl, rfl, rfl, ⟨by omega⟩, ⟨HI3.out⟩, ⟨HM5.out⟩, ⟨HF4.out⟩, ⟨HB5.out⟩⟩
          case measure => rw [wrap_succ hlt HM.out]; simp only [intOf, Int.toNat_natCast]; omega
        have t77 : (x.f0 == 77) = false := beq_eq_false_iff_ne.mpr c77
        by_cases c78 : x.f0 = 78
        · have t78 : (x.f0 == 78) = true := beq_iff_eq.mpr c78
          have C78 := Aside0.mk c78
          have C80 := Aside0.mk c80
          have C76 := Aside0.mk c76
          have C77 := Aside0.mk c77
          clear c80 c76 c77 c78
          have HI3 := Aside0.mk (show callL (l0_1.drop (j + 1)) (fun y => if y = x.f0 then wrap64 (C y + 1) else C y) n t ok = some R from by have h_ := HI2.out; rw [if_neg C80.out, if_neg C76.out, if_neg (fun h => h.elim C80.out C76.out), if_pos (Or.inr C78.out)] at h_; exact h_)
          go_wp2_with (first | ((with_reducible refine gate_dst (N := 28) rfl ?_); refine map_look 28 rfl rfl rfl Try.underlying5 Try.underlying96 zero_int3 (HMr.out.alloc _) rfl x.f0 rfl WFL.out _ (HF.out x.f0) ?_) | (refine map_put rfl rfl Try.underlying5 Try.underlying96 (HMr.out.alloc _) NJ.out rfl x.f0 rfl WFL.out (.int .i64 (wrap64 (C x.f0 + 1))) (by first | rfl | (go_simp; rfl)) ?_; intro w4 hm4 hg4; have hB : w4.heap[wr.heap.size]? = some (.cells #[.int .u8 x.f0, .int .i64 x.f1] 78 (0, 0)) := (hg4.block _ (below_alloc_lt wr _) (fun e => Nat.ne_of_gt HMr.out.lt (by injection e))).trans (alloc_at wr _); have BW := Aside0.mk hB; have HM4 := Aside0.mk hm4; have HF4 := Aside0.mk (cnt_put HF.out x.f0); have HB4 := Aside0.mk ((below_alloc HBr.out _).grown hg4 (Nat.le_trans HBr.out.size (Nat.le_of_lt (below_alloc_lt wr _))) (fun k_ e_ => by injection e_ with e_; rw [← e_]; exact HGM.out)); clear hm4 hg4 hB; have hy0 : w4.cell? ⟨wr.heap.size, 0, none⟩ = some (.int .u8 x.f0) := (blk_cell BW.out 0).trans rfl; have hy1 : w4.cell? ⟨wr.heap.size, 1, none⟩ = some (.int .i64 x.f1) := (blk_cell BW.out 1).trans rfl) | (go_at_call 59; (with_reducible refine (subprogram_whole.calls x.f1 v b _ HV.out).mono ?_); rintro e w5 ⟨rfl, hd5⟩; have hb5 := hd5.below; have BW5 := Aside0.mk (blk_below BW.out hb5); have HM5 := Aside0.mk (HM4.out.below hb5); have HB5 := Aside0.mk (below_then HB4.out HB4.out.size hb5); clear hd5 hb5 hy0 hy1; have hq0 : w5.cell? ⟨wr.heap.size, 0, none⟩ = some (.int .u8 x.f0) := (blk_cell BW5.out 0).trans rfl; have hq1 : w5.cell? ⟨wr.heap.size, 1, none⟩ = some (.int .i64 x.f1) := (blk_cell BW5.out 1).trans rfl))
          go_roundw
          case rel => exact ⟨j + 1, _, n, t, ok, _, by rw [wrap_succ hlt HM.out], rfl, rfl, rfl, ⟨by omega⟩, ⟨HI3.out⟩, ⟨HM5.out⟩, ⟨HF4.out⟩, ⟨HB5.out⟩⟩
          case measure => rw [wrap_succ hlt HM.out]; simp only [intOf, Int.toNat_natCast]; omega
        have t78 : (x.f0 == 78) = false := beq_eq_false_iff_ne.mpr c78
        have C80 := Aside0.mk c80
        have C76 := Aside0.mk c76
        have C77 := Aside0.mk c77
        have C78 := Aside0.mk c78
        clear c80 c76 c77 c78
        have HI3 := Aside0.mk (show callL (l0_1.drop (j + 1)) (fun y => if y = x.f0 then wrap64 (C y + 1) else C y) n t false = some R from by have h_ := HI2.out; rw [if_neg C80.out, if_neg C76.out, if_neg (fun h => h.elim C80.out C76.out), if_neg (fun h => h.elim C77.out C78.out)] at h_; exact h_)
        go_wp2_with (first | ((with_reducible refine gate_dst (N := 28) rfl ?_); refine map_look 28 rfl rfl rfl Try.underlying5 Try.underlying96 zero_int3 (HMr.out.alloc _) rfl x.f0 rfl WFL.out _ (HF.out x.f0) ?_) | (refine map_put rfl rfl Try.underlying5 Try.underlying96 (HMr.out.alloc _) NJ.out rfl x.f0 rfl WFL.out (.int .i64 (wrap64 (C x.f0 + 1))) (by first | rfl | (go_simp; rfl)) ?_; intro w4 hm4 hg4; have hB : w4.heap[wr.heap.size]? = some (.cells #[.int .u8 x.f0, .int .i64 x.f1] 78 (0, 0)) := (hg4.block _ (below_alloc_lt wr _) (fun e => Nat.ne_of_gt HMr.out.lt (by injection e))).trans (alloc_at wr _); have BW := Aside0.mk hB; have HM4 := Aside0.mk hm4; have HF4 := Aside0.mk (cnt_put HF.out x.f0); have HB4 := Aside0.mk ((below_alloc HBr.out _).grown hg4 (Nat.le_trans HBr.out.size (Nat.le_of_lt (below_alloc_lt wr _))) (fun k_ e_ => by injection e_ with e_; rw [← e_]; exact HGM.out)); clear hm4 hg4 hB; have hy0 : w4.cell? ⟨wr.heap.size, 0, none⟩ = some (.int .u8 x.f0) := (blk_cell BW.out 0).trans rfl; have hy1 : w4.cell? ⟨wr.heap.size, 1, none⟩ = some (.int .i64 x.f1) := (blk_cell BW.out 1).trans rfl) | (go_at_call 59; (with_reducible refine (subprogram_whole.calls x.f1 v b _ HV.out).mono ?_); rintro e w5 ⟨rfl, hd5⟩; have hb5 := hd5.below; have BW5 := Aside0.mk (blk_below BW.out hb5); have HM5 := Aside0.mk (HM4.out.below hb5); have HB5 := Aside0.mk (below_then HB4.out HB4.out.size hb5); clear hd5 hb5 hy0 hy1; have hq0 : w5.cell? ⟨wr.heap.size, 0, none⟩ = some (.int .u8 x.f0) := (blk_cell BW5.out 0).trans rfl; have hq1 : w5.cell? ⟨wr.heap.size, 1, none⟩ = some (.int .i64 x.f1) := (blk_cell BW5.out 1).trans rfl))
        go_roundw
        case rel => exact ⟨j + 1, _, n, t, false, _, by rw [wrap_succ hlt HM.out], rfl, rfl, rfl, ⟨by omega⟩, ⟨HI3.out⟩, ⟨HM5.out⟩, ⟨HF4.out⟩, ⟨HB5.out⟩⟩
        case measure => rw [wrap_succ hlt HM.out]; simp only [intOf, Int.toNat_natCast]; omega
      have hlt' : decide ((j : Int) < (l0_1.length : Int)) = false := by simp; omega
      have hI := HI.out
      rw [List.drop_eq_nil_of_le (by omega), callL] at hI
      have hR := Option.some.inj hI
      have HEE := HE.out
      rw [← hR] at HEE
      simp only [callR] at HEE
      clear hI hR HE HI
      have HX := Aside0.mk HEE
      clear HEE
      have wf77 : (Lit.int .u8 77).wf = true := rfl
      have wf80 : (Lit.int .u8 80).wf = true := rfl
      have wf76 : (Lit.int .u8 76).wf = true := rfl
      have wf78 : (Lit.int .u8 78).wf = true := rfl
      cases ok with
      | false =>
        have HY := HX.out
        simp only [if_true, Prod.mk.injEq] at HY
        obtain ⟨rfl, rfl, rfl, rfl⟩ := HY
        go_wp2_with (first | ((with_reducible refine gate_dst (N := 60) rfl ?_); (try (refine gate_guard (by rfl) ?_; dsimp only)); refine map_look 60 rfl rfl rfl Try.underlying5 Try.underlying96 zero_int3 HMr.out rfl 77 rfl wf77 _ (HF.out 77) ?_) | ((with_reducible refine gate_dst (N := 65) rfl ?_); (try (refine gate_guard (by rfl) ?_; dsimp only)); refine map_look 65 rfl rfl rfl Try.underlying5 Try.underlying96 zero_int3 HMr.out rfl 80 rfl wf80 _ (HF.out 80) ?_) | ((with_reducible refine gate_dst (N := 70) rfl ?_); (try (refine gate_guard (by rfl) ?_; dsimp only)); refine map_look 70 rfl rfl rfl Try.underlying5 Try.underlying96 zero_int3 HMr.out rfl 76 rfl wf76 _ (HF.out 76) ?_) | ((with_reducible refine gate_dst (N := 75) rfl ?_); (try (refine gate_guard (by rfl) ?_; dsimp only)); refine map_look 75 rfl rfl rfl Try.underlying5 Try.underlying96 zero_int3 HMr.out rfl 78 rfl wf78 _ (HF.out 78) ?_))
        refine bodyPost_ret (results_list (rs := [.tmp 2, .tmp 3, .tmp 4, .tmp 5]) rfl (by simp) (.tmp (.tmp (.tmp (.tmp .nil))))) rfl ?_
        exact ⟨rfl, HBr.out⟩
      | true =>
        by_cases k1 : C 77 = 1
        rotate_left
        · have qk1 : (C 77 != 1) = true := bne_iff_ne.mpr k1
          have HY : _ = _ := HX.out
          simp only [Bool.true_eq_false, if_false,  not_true_eq_false, not_false_eq_true, if_true, Prod.mk.injEq, k1] at HY
          obtain ⟨rfl, rfl, rfl, rfl⟩ := HY
          clear k1
          go_wp2_with (first | ((with_reducible refine gate_dst (N := 60) rfl ?_); (try (refine gate_guard (by rfl) ?_; dsimp only)); refine map_look 60 rfl rfl rfl Try.underlying5 Try.underlying96 zero_int3 HMr.out rfl 77 rfl wf77 _ (HF.out 77) ?_) | ((with_reducible refine gate_dst (N := 65) rfl ?_); (try (refine gate_guard (by rfl) ?_; dsimp only)); refine map_look 65 rfl rfl rfl Try.underlying5 Try.underlying96 zero_int3 HMr.out rfl 80 rfl wf80 _ (HF.out 80) ?_) | ((with_reducible refine gate_dst (N := 70) rfl ?_); (try (refine gate_guard (by rfl) ?_; dsimp only)); refine map_look 70 rfl rfl rfl Try.underlying5 Try.underlying96 zero_int3 HMr.out rfl 76 rfl wf76 _ (HF.out 76) ?_) | ((with_reducible refine gate_dst (N := 75) rfl ?_); (try (refine gate_guard (by rfl) ?_; dsimp only)); refine map_look 75 rfl rfl rfl Try.underlying5 Try.underlying96 zero_int3 HMr.out rfl 78 rfl wf78 _ (HF.out 78) ?_))
          refine bodyPost_ret (results_list (rs := [.tmp 2, .tmp 3, .tmp 4, .tmp 5]) rfl (by simp) (.tmp (.tmp (.tmp (.tmp .nil))))) rfl ?_
          exact ⟨rfl, HBr.out⟩
        have qk1 : (C 77 != 1) = false := bne_eq_false_iff_eq.mpr k1
        by_cases k2 : C 80 = 1
        rotate_left
        · have qk2 : (C 80 != 1) = true := bne_iff_ne.mpr k2
          have HY : _ = _ := HX.out
          simp only [Bool.true_eq_false, if_false, k1,  not_true_eq_false, not_false_eq_true, if_true, Prod.mk.injEq, k2] at HY
          obtain ⟨rfl, rfl, rfl, rfl⟩ := HY
          clear k1 k2
          go_wp2_with (first | ((with_reducible refine gate_dst (N := 60) rfl ?_); (try (refine gate_guard (by rfl) ?_; dsimp only)); refine map_look 60 rfl rfl rfl Try.underlying5 Try.underlying96 zero_int3 HMr.out rfl 77 rfl wf77 _ (HF.out 77) ?_) | ((with_reducible refine gate_dst (N := 65) rfl ?_); (try (refine gate_guard (by rfl) ?_; dsimp only)); refine map_look 65 rfl rfl rfl Try.underlying5 Try.underlying96 zero_int3 HMr.out rfl 80 rfl wf80 _ (HF.out 80) ?_) | ((with_reducible refine gate_dst (N := 70) rfl ?_); (try (refine gate_guard (by rfl) ?_; dsimp only)); refine map_look 70 rfl rfl rfl Try.underlying5 Try.underlying96 zero_int3 HMr.out rfl 76 rfl wf76 _ (HF.out 76) ?_) | ((with_reducible refine gate_dst (N := 75) rfl ?_); (try (refine gate_guard (by rfl) ?_; dsimp only)); refine map_look 75 rfl rfl rfl Try.underlying5 Try.underlying96 zero_int3 HMr.out rfl 78 rfl wf78 _ (HF.out 78) ?_))
          refine bodyPost_ret (results_list (rs := [.tmp 2, .tmp 3, .tmp 4, .tmp 5]) rfl (by simp) (.tmp (.tmp (.tmp (.tmp .nil))))) rfl ?_
          exact ⟨rfl, HBr.out⟩
        have qk2 : (C 80 != 1) = false := bne_eq_false_iff_eq.mpr k2
        by_cases k3 : ¬ C 76 > 1
        rotate_left
        · have qk3 : decide (1 < C 76) = true := decide_eq_true (by omega)
          have HY : _ = _ := HX.out
          simp only [Bool.true_eq_false, if_false, k1, k2,  not_true_eq_false, not_false_eq_true, if_true, Prod.mk.injEq, show C 76 > 1 from by omega] at HY
          obtain ⟨rfl, rfl, rfl, rfl⟩ := HY
          clear k1 k2 k3
          go_wp2_with (first | ((with_reducible refine gate_dst (N := 60) rfl ?_); (try (refine gate_guard (by rfl) ?_; dsimp only)); refine map_look 60 rfl rfl rfl Try.underlying5 Try.underlying96 zero_int3 HMr.out rfl 77 rfl wf77 _ (HF.out 77) ?_) | ((with_reducible refine gate_dst (N := 65) rfl ?_); (try (refine gate_guard (by rfl) ?_; dsimp only)); refine map_look 65 rfl rfl rfl Try.underlying5 Try.underlying96 zero_int3 HMr.out rfl 80 rfl wf80 _ (HF.out 80) ?_) | ((with_reducible refine gate_dst (N := 70) rfl ?_); (try (refine gate_guard (by rfl) ?_; dsimp only)); refine map_look 70 rfl rfl rfl Try.underlying5 Try.underlying96 zero_int3 HMr.out rfl 76 rfl wf76 _ (HF.out 76) ?_) | ((with_reducible refine gate_dst (N := 75) rfl ?_); (try (refine gate_guard (by rfl) ?_; dsimp only)); refine map_look 75 rfl rfl rfl Try.underlying5 Try.underlying96 zero_int3 HMr.out rfl 78 rfl wf78 _ (HF.out 78) ?_))
          refine bodyPost_ret (results_list (rs := [.tmp 2, .tmp 3, .tmp 4, .tmp 5]) rfl (by simp) (.tmp (.tmp (.tmp (.tmp .nil))))) rfl ?_
          exact ⟨rfl, HBr.out⟩
        have qk3 : decide (1 < C 76) = false := decide_eq_false k3
        by_cases k4 : ¬ C 78 > 1
        rotate_left
        · have qk4 : decide (1 < C 78) = true := decide_eq_true (by omega)
          have HY : _ = _ := HX.out
          simp only [Bool.true_eq_false, if_false, k1, k2, k3,  not_true_eq_false, not_false_eq_true, if_true, Prod.mk.injEq, show C 78 > 1 from by omega] at HY
          obtain ⟨rfl, rfl, rfl, rfl⟩ := HY
          clear k1 k2 k3 k4
          go_wp2_with (first | ((with_reducible refine gate_dst (N := 60) rfl ?_); (try (refine gate_guard (by rfl) ?_; dsimp only)); refine map_look 60 rfl rfl rfl Try.underlying5 Try.underlying96 zero_int3 HMr.out rfl 77 rfl wf77 _ (HF.out 77) ?_) | ((with_reducible refine gate_dst (N := 65) rfl ?_); (try (refine gate_guard (by rfl) ?_; dsimp only)); refine map_look 65 rfl rfl rfl Try.underlying5 Try.underlying96 zero_int3 HMr.out rfl 80 rfl wf80 _ (HF.out 80) ?_) | ((with_reducible refine gate_dst (N := 70) rfl ?_); (try (refine gate_guard (by rfl) ?_; dsimp only)); refine map_look 70 rfl rfl rfl Try.underlying5 Try.underlying96 zero_int3 HMr.out rfl 76 rfl wf76 _ (HF.out 76) ?_) | ((with_reducible refine gate_dst (N := 75) rfl ?_); (try (refine gate_guard (by rfl) ?_; dsimp only)); refine map_look 75 rfl rfl rfl Try.underlying5 Try.underlying96 zero_int3 HMr.out rfl 78 rfl wf78 _ (HF.out 78) ?_))
          refine bodyPost_ret (results_list (rs := [.tmp 2, .tmp 3, .tmp 4, .tmp 5]) rfl (by simp) (.tmp (.tmp (.tmp (.tmp .nil))))) rfl ?_
          exact ⟨rfl, HBr.out⟩
        have qk4 : decide (1 < C 78) = false := decide_eq_false k4
        have HY : _ = _ := HX.out
        simp only [Bool.true_eq_false, if_false, not_true_eq_false, not_false_eq_true, if_true, Prod.mk.injEq, k1, k2, k3, k4] at HY
        obtain ⟨rfl, rfl, rfl, rfl⟩ := HY
        clear k1 k2 k3 k4
        go_wp2_with (first | ((with_reducible refine gate_dst (N := 60) rfl ?_); (try (refine gate_guard (by rfl) ?_; dsimp only)); refine map_look 60 rfl rfl rfl Try.underlying5 Try.underlying96 zero_int3 HMr.out rfl 77 rfl wf77 _ (HF.out 77) ?_) | ((with_reducible refine gate_dst (N := 65) rfl ?_); (try (refine gate_guard (by rfl) ?_; dsimp only)); refine map_look 65 rfl rfl rfl Try.underlying5 Try.underlying96 zero_int3 HMr.out rfl 80 rfl wf80 _ (HF.out 80) ?_) | ((with_reducible refine gate_dst (N := 70) rfl ?_); (try (refine gate_guard (by rfl) ?_; dsimp only)); refine map_look 70 rfl rfl rfl Try.underlying5 Try.underlying96 zero_int3 HMr.out rfl 76 rfl wf76 _ (HF.out 76) ?_) | ((with_reducible refine gate_dst (N := 75) rfl ?_); (try (refine gate_guard (by rfl) ?_; dsimp only)); refine map_look 75 rfl rfl rfl Try.underlying5 Try.underlying96 zero_int3 HMr.out rfl 78 rfl wf78 _ (HF.out 78) ?_))
        refine bodyPost_ret (results_list (rs := [.tmp 2, .tmp 3, .tmp 4, .tmp 5]) rfl (by simp) (.tmp (.tmp (.tmp (.tmp .nil))))) rfl ?_
        exact ⟨rfl, HBr.out⟩
end Go.Proofs.Ytehkhbnhmehobaa.P
namespace Go.Proofs.Ytehkhbnhmehobaa.P
open Go.RowKit Go.Proofs.YtehkhbnhmehobaaW.PrintWords Go.Proofs.YtehkhbnhmehobaaW.PrintLast Go.Proofs.YtehkhbnhmehobaaW.PrintMore
open Go.Maps (Keyed)
set_option linter.unusedVariables false
theorem size_put_le {H : Type} {D : DataW H} {kl : Lit} (hk : WideAt.IsKeyLit kl) (d : DataW H) (hD : Maps.IsMap D) : Maps.size (D.put kl d) ≤ if Maps.has D kl = true then Maps.size D else Maps.size D + 1 := by
  obtain ⟨es, rfl⟩ := hD
  show (DataW.insert (kl, d) (es.filter fun p => !p.1.sameKey kl)).length ≤ _
  have e : (DataW.insert (kl, d) (es.filter fun p => !p.1.sameKey kl)).length = (es.filter fun p => !p.1.sameKey kl).length + 1 := by rw [length_insert]
  rw [e]
  have h1 := List.length_filter_le (fun p : Lit × DataW H => !p.1.sameKey kl) es
  show _ ≤ if es.any (fun p => p.1.sameKey kl) = true then es.length else es.length + 1
  split
  · rename_i h
    obtain ⟨p, hp, hpk⟩ := List.any_eq_true.1 h
    have : (es.filter fun p => !p.1.sameKey kl).length < es.length := List.length_filter_lt_length_iff_exists.2 ⟨p, hp, by simp [hpk]⟩
    omega
  omega
def cntF (f : Int → Option Value) : Nat := (List.range 10000).countP (fun y : Nat => (f (y : Int)).isSome)
theorem cntF_le (f : Int → Option Value) : cntF f ≤ 10000 := by
  have := List.countP_le_length (p := fun y : Nat => (f (y : Int)).isSome) (l := List.range 10000)
  rw [List.length_range] at this
  exact this
theorem countP_lt {α : Type} {p q : α → Bool} : ∀ (l : List α), (∀ y ∈ l, p y = true → q y = true) → (∃ y ∈ l, p y = false ∧ q y = true) → l.countP p + 1 ≤ l.countP q
  | [], _, ⟨y, hy, _⟩ => by simp at hy
  | x :: l, h, ⟨y, hy, h1, h2⟩ => by
    rw [List.countP_cons, List.countP_cons]
    have hm : l.countP p ≤ l.countP q := List.countP_mono_left (fun z hz hp => h z (List.mem_cons_of_mem _ hz) hp)
    rcases List.mem_cons.mp hy with rfl | hy
    · simp [h1, h2]; omega
    have := countP_lt l (fun z hz => h z (List.mem_cons_of_mem _ hz)) ⟨y, hy, h1, h2⟩
    have hx := h x List.mem_cons_self
    have e1 : (if p x = true then 1 else 0) ≤ (if q x = true then 1 else 0) := by
      by_cases hp : p x = true
      · rw [if_pos hp, if_pos (hx hp)]; exact Nat.le_refl _
      rw [if_neg hp]; exact Nat.zero_le _
    omega
section
variable {P : Program} {k : TypeId} {q : IntKind} {w w1 : World} {b n : Nat} {f : Int → Option Value}
def MapFew (P : Program) (k : TypeId) (q : IntKind) (w : World) (b : Nat) (f : Int → Option Value) : Prop := ∃ n, MapIs P k q w b n f ∧ n ≤ cntF f
theorem MapFew.made (P : Program) (k : TypeId) (q : IntKind) (w : World) : MapFew P k q (w.alloc (.map #[] 0)) w.heap.size (fun _ => none) := ⟨0, MapIs.made P k q w, Nat.zero_le _⟩
theorem MapFew.below (h : MapFew P k q w b f) (hb : Below w.heap.size w w1) : MapFew P k q w1 b f := by
  obtain ⟨n, h, hn⟩ := h
  exact ⟨n, h.below hb, hn⟩
theorem MapFew.kept {row : Option Nat} (h : MapFew P k q w b f) (hg : w.grownBy w1 row) (hne : some b ≠ row) : MapFew P k q w1 b f := by
  obtain ⟨n, h, hn⟩ := h
  exact ⟨n, h.kept hg hne, hn⟩
theorem MapFew.same (h : MapFew P k q w b f) (hb : w1.heap[b]? = w.heap[b]?) : MapFew P k q w1 b f := by
  obtain ⟨n, h, hn⟩ := h
  exact ⟨n, h.same hb, hn⟩
theorem MapFew.lt (h : MapFew P k q w b f) : b < w.heap.size := by
  obtain ⟨n, h, _⟩ := h
  exact h.lt
theorem MapFew.put {t e : TypeId} (h : MapFew P k q w b f) (hk : P.underlying k = some (.int q)) (ht : P.underlying t = some (.map k e)) {a : Int} (ha : (Lit.int q a).wf = true) (h0 : 0 ≤ a) (h1 : a < 10000) (v : Value) :
    ∃ w1, (Instr.mapUpdate t (.map (some b)) (.int q a) v).run P w = .ok () w1 ∧ MapFew P k q w1 b (fun x => if x = a then some v else f x) ∧ w.grownBy w1 (some b) := by
  obtain ⟨n, h, hn⟩ := h
  have hc := cntF_le f
  obtain ⟨D, hD, hf⟩ := h
  have hm := hD.isMap
  have hsz := hD.size_le
  obtain ⟨w1, hrun, hD1, hg⟩ := hD.update (Maps.int_keyed hk) ht (show n < maxLen by unfold maxLen; omega) (R := rawR) (Maps.keyOf_int_mk hk ha) (val := v) rfl
  refine ⟨w1, hrun, ?_, hg⟩
  have hp := size_put_le (kl := .int q a) (show WideAt.IsKeyLit (.int q a) from trivial) (.held v : DataW Value) hm
  rw [(hf a).1] at hp
  have hf' : ∀ x : Int, Maps.has (D.put (.int q a) (.held v)) (.int q x) = (if x = a then some v else f x).isSome ∧ ∀ z, (D.put (.int q a) (.held v)).atKey (.int q x) (.held z) = .held ((if x = a then some v else f x).getD z) := by
    intro x
    by_cases hx : x = a
    · subst hx
      rw [if_pos rfl]
      exact ⟨Maps.has_put_same hm (show WideAt.IsKeyLit (.int q x) from trivial) _, fun z => Maps.atKey_put_same hm (show WideAt.IsKeyLit (.int q x) from trivial) _ _⟩
    rw [if_neg hx]
    have hne : Lit.int q x ≠ Lit.int q a := fun e => hx (by injection e)
    exact ⟨(Maps.has_put_other hne _).trans (hf x).1, fun z => (Maps.atKey_put_other hne _ _).trans ((hf x).2 z)⟩
  have hcnt : cntF f + (if (f a).isSome = true then 0 else 1) ≤ cntF (fun x => if x = a then some v else f x) := by
    unfold cntF
    by_cases hs : (f a).isSome = true
    · rw [if_pos hs, Nat.add_zero]
      refine List.countP_mono_left (fun y _ hy => ?_)
      by_cases hy2 : (y : Int) = a <;> simp [hy2]
      simpa using hy
    rw [if_neg hs]
    refine countP_lt _ (fun y _ hy => ?_) ⟨a.toNat, by simp; omega, ?_, ?_⟩
    · by_cases hy2 : (y : Int) = a <;> simp [hy2]
      simpa using hy
    · rw [Int.toNat_of_nonneg h0]
      simpa using hs
    rw [Int.toNat_of_nonneg h0]
    simp
  refine ⟨if (f a).isSome = true then n else n + 1, ?_, by
    have e1 : (if (f a).isSome = true then n else n + 1) = n + (if (f a).isSome = true then 0 else 1) := by
      by_cases hs : (f a).isSome = true
      · rw [if_pos hs, if_pos hs]; rfl
      rw [if_neg hs, if_neg hs]
    rw [e1]; omega⟩
  obtain ⟨es, clock, hb, F, hn1, hDe⟩ := hD1
  refine ⟨D.put (.int q a) (.held v), ⟨es, clock, hb, F, ?_, hDe⟩, hf'⟩
  have : Maps.size (D.put (.int q a) (.held v)) = es.size := by rw [hDe]; simp [Maps.size, length_sorted]
  rw [← this]
  refine Nat.le_trans hp ?_
  by_cases hs : (f a).isSome = true
  · rw [if_pos hs, if_pos hs]; exact hsz
  rw [if_neg hs, if_neg hs]; omega
end
section
variable {P : Program} {ops : Array Oper} {rest : List Oper} {o : Oper} {a : Act} {Q : Exit → Act → World → Prop} {W : World} {k e t : TypeId} {q : IntKind} {b : Nat} {f : Int → Option Value}
theorem few_put (hg : o.guard = none) {m x y : Operand} (hop : o.op = Op.mapUpdate t m x y) (hk : P.underlying k = some (.int q)) (ht : P.underlying t = some (.map k e))
    (h : MapFew P k q W b f) (hm : a.eval m = .map (some b)) (i : Int) (hx : a.eval x = .int q i) (hi : (Lit.int q i).wf = true) (h0 : 0 ≤ i) (h1 : i < 10000) (v : Value) (hv : a.eval y = v)
    (hK : ∀ w1, MapFew P k q w1 b (fun x => if x = i then some v else f x) → W.grownBy w1 (some b) → wpList P ops Q rest (a.put o.dst undef) w1) : wpList P ops Q (o :: rest) a W := by
  refine wpList_plain hg fun K' hK' => ?_
  obtain ⟨w1, hrun, h1, h2⟩ := h.put hk ht hi h0 h1 v
  unfold Oper.wp
  simp [execOp, hop, hm, hx, hv, hrun, Result.andThen]
  exact hK' _ _ (hK w1 h1 h2)
theorem few_put_step {K : Act → World → Prop} {N : Option Tmp} (hw : Region.wanted o (yielded ops a.tmps) = true) (hN : o.dst = N) {m x y : Operand} (hop : o.op = Op.mapUpdate t m x y) (hk : P.underlying k = some (.int q)) (ht : P.underlying t = some (.map k e))
    (h : MapFew P k q W b f) (hm : a.eval m = .map (some b)) (i : Int) (hx : a.eval x = .int q i) (hi : (Lit.int q i).wf = true) (h0 : 0 ≤ i) (h1 : i < 10000) (v : Value) (hv : a.eval y = v)
    (hK : ∀ w1, MapFew P k q w1 b (fun x => if x = i then some v else f x) → W.grownBy w1 (some b) → K (a.put N undef) w1) : if Region.wanted o (yielded ops a.tmps) = true then Oper.wp P o a W K Q else K (a.put N undef) W := by
  rw [if_pos hw]
  subst hN
  obtain ⟨w1, hrun, h2, h3⟩ := h.put hk ht hi h0 h1 v
  unfold Oper.wp
  simp [execOp, hop, hm, hx, hv, hrun, Result.andThen]
  exact hK w1 h2 h3
end
end Go.Proofs.Ytehkhbnhmehobaa.P
namespace Go.Proofs.Ytehkhbnhmehobaa.P
open Go.RowKit Go.Proofs.YtehkhbnhmehobaaW.PrintWords Go.Proofs.YtehkhbnhmehobaaW.PrintLast Go.Proofs.YtehkhbnhmehobaaW.PrintMore
set_option linter.unusedVariables false
set_option linter.unusedSimpArgs false
attribute [local go_sem] max2_int min2_int max_two min_two
def callF (k : Nat) (b : S32) : Option (Int × Int × Bool × Int) := subprogram_Call.f k b.f0 b.f1 b.f2
theorem callF_mono (k : Nat) (b : S32) : LeO (callF k b) (callF (k + 1) b) := subprogram_Call.mono _ _ _ k
def mx (x y : Int) : Int := if x < y then y else x
def mn (x y : Int) : Int := if y < x then y else x
def IN (n : Int) : Prop := 1 ≤ n ∧ n ≤ 9999
instance (n : Int) : Decidable (IN n) := by unfold IN; infer_instance
theorem IN.wf {n : Int} (h : IN n) : (Lit.int .i64 n).wf = true := WalkArith.wf_i64 (by unfold IN at h; omega)
def ExpIs (W : World) (gx g0 g1 g2 g3 g4 : Nat) : Prop := W.heap[gx]? = some (.cells #[.map (some g0), .map (some g1), .map (some g2), .map (some g3), .map (some g4)] 139 (0, 0))
def IntMap (W : World) (g : Nat) (f : Int → Int) : Prop := ∃ F, MapFew Try.prog 2 .i64 W g F ∧ ∀ y, (F y).getD (.int .i64 0) = .int .i64 (f y)
theorem IntMap.below {w w1 : World} {g : Nat} {f : Int → Int} (h : IntMap w g f) (hb : Below w.heap.size w w1) : IntMap w1 g f := by
  obtain ⟨F, h, hf⟩ := h
  exact ⟨F, h.below hb, hf⟩
def sumL (k : Nat) (dp sz : Int → Int) : List S32 → Int → Int → Option (Int × Int)
  | [], d, s => some (d, s)
  | b :: l, d, s => (callF k b).bind fun r => if r.2.2.1 = true then (if IN r.1 then sumL k dp sz l (mx d (wrap64 (1 + dp r.1))) (mn (wrap64 (s + mn (wrap64 (r.2.1 * sz r.1)) 20001)) 20001) else none) else sumL k dp sz l d (mn (wrap64 (s + 1)) 20001)
theorem sum_step {k : Nat} {dp sz : Int → Int} {l : List S32} {j : Nat} (h : j < l.length) {d s : Int} {r : Int × Int} (hr : sumL k dp sz (l.drop j) d s = some r) :
    ∃ n t is e, callF k l[j] = some (n, t, is, e) ∧ (is = true → IN n ∧ sumL k dp sz (l.drop (j + 1)) (mx d (wrap64 (1 + dp n))) (mn (wrap64 (s + mn (wrap64 (t * sz n)) 20001)) 20001) = some r) ∧ (is = false → sumL k dp sz (l.drop (j + 1)) d (mn (wrap64 (s + 1)) 20001) = some r) := by
  rw [List.drop_eq_getElem_cons h, sumL] at hr
  obtain ⟨⟨n, t, is, e⟩, h1, h2⟩ := Option.bind_eq_some_iff.mp hr
  refine ⟨n, t, is, e, h1, fun hi => ?_, fun hi => ?_⟩
  · subst hi
    simp only [if_true] at h2
    by_cases hn : IN n
    · rw [if_pos hn] at h2; exact ⟨hn, h2⟩
    rw [if_neg hn] at h2; cases h2
  subst hi
  simpa using h2
theorem zero_i64 (w : World) : (zeroValue 2).run Try.prog w = .ok (.int .i64 0) w := by kernel_rfl
set_option maxHeartbeats 4000000 in
set_option maxRecDepth 100000 in
theorem sum_calls (k : Nat) (gx g0 g1 g2 g3 g4 : Nat) (dp sz : Int → Int) (A0 : Option Addr) (c0 : Nat) (l : List (S32)) (r1 r2 : Int) (w : World) (hx : ExpIs w gx g0 g1 g2 g3 g4) (h2 : IntMap w g2 dp) (h3 : IntMap w g3 sz)
    (hr0 : Kd.C k32 w A0 l.length l) (hc0 : l.length ≤ c0) (h : sumL k dp sz l 0 0 = some (r1, r2)) :
    Calls Try.prog 95 #[.pointer (some ⟨gx, 0, none⟩), .slice A0 l.length c0] w fun e w' => e = .returned (.tuple #[.int .i64 r1, .int .i64 r2]) ∧ Below w.heap.size w w' := by
  have hu32 := Try.underlying32
  have hu139 := Try.underlying139
  have HR := Aside0.mk hr0
  have HM := Aside0.mk (Kd.C_max hr0)
  have H := Aside0.mk h
  have HX := Aside0.mk hx
  have H2 := Aside0.mk h2
  have H3 := Aside0.mk h3
  clear hr0 hc0 h hx h2 h3
  go_enter Try.func95, Try.ntmps95
  go_wp2
  go_loopw [16, 6, 7] (fun i vd vs w' => ∃ (j : Nat) (d s : Int), i = .int .i64 j ∧ vd = .int .i64 d ∧ vs = .int .i64 s ∧ Aside0 (j ≤ l.length) ∧ Aside0 (sumL k dp sz (l.drop j) d s = some (r1, r2)) ∧ Aside0 (Below w.heap.size w w')) (fun i _ _ _ => l.length - (intOf i).toNat)
  case atStart => exact ⟨0, 0, 0, rfl, rfl, rfl, ⟨Nat.zero_le _⟩, ⟨H.out⟩, ⟨Below.refl _ _⟩⟩
  case round =>
    obtain ⟨j, d, s, rfl, rfl, rfl, HJ, HI, HB⟩ := hrel
    clear H
    by_cases hlt : j < l.length
    · obtain ⟨ad, A1, c1, e, hx0, hx1, hx2, hl1, hk1⟩ := at_T32 (Kd.C_below HR.out HB.out) (j : Int) (by omega) (by omega)
      cases e
      have hrd : rd_T32 l (j : Int) = l[j] := by simp [rd_T32, hlt]
      rw [hrd] at hx0 hx1 hx2 hl1 hk1
      obtain ⟨n, t, is, e, hcl, hyes, hno⟩ := sum_step hlt HI.out
      have HCL := Aside0.mk (show subprogram_Call.f k l[j].f0 l[j].f1 l[j].f2 = some (n, t, is, e) from hcl)
      have HYES := Aside0.mk hyes
      have HNO := Aside0.mk hno
      have HL1 := Aside0.mk hl1
      have HK1 := Aside0.mk hk1
      clear hrd hcl hyes hno hl1 hk1
      generalize l[j] = x at *
      simp only [Int.toNat_natCast] at hx0 hx1 hx2
      have hlt' : decide ((j : Int) < (l.length : Int)) = true := by simp; omega
      cases is with
      | true =>
        obtain ⟨hin, hnext⟩ := HYES.out rfl
        have HIN := Aside0.mk hin
        have HN := Aside0.mk hnext
        clear hin hnext HNO
        go_wp2_with (first | (go_at_call 25; (with_reducible refine (subprogram_Call.calls k x.f0 A1 c1 x.f1 x.f2 n t true e _ (Kd.C_alloc HK1.out _) HL1.out HCL.out).mono ?_); rintro e2 w2 ⟨rfl, hb2⟩; have HB2 := Aside0.mk (below_then (below_alloc HB.out _) (Nat.le_trans HB.out.size (below_alloc (Below.refl _ _) _).size) hb2); have HXX := Aside0.mk (blk_below HX.out HB2.out); have HZ2 := Aside0.mk (H2.out.below HB2.out); have HZ3 := Aside0.mk (H3.out.below HB2.out); clear hb2; have hq2 : w2.cell? ⟨gx, 2, none⟩ = some (.map (some g2)) := (blk_cell HXX.out 2).trans rfl; have hq3 : w2.cell? ⟨gx, 3, none⟩ = some (.map (some g3)) := (blk_cell HXX.out 3).trans rfl; obtain ⟨F2, ⟨n2, m2, _⟩, f2⟩ := HZ2.out; obtain ⟨F3, ⟨n3, m3, _⟩, f3⟩ := HZ3.out; have HM2 := Aside0.mk m2; have HM3 := Aside0.mk m3; have HF2 := Aside0.mk f2; have HF3 := Aside0.mk f3; clear m2 m3 f2 f3) | ((with_reducible refine gate_dst (N := 37) rfl ?_); refine map_look 37 rfl rfl rfl Try.underlying2 Try.underlying136 zero_int3 HM2.out rfl n rfl HIN.out.wf _ (HF2.out n) ?_) | ((with_reducible refine gate_dst (N := 47) rfl ?_); refine map_look 47 rfl rfl rfl Try.underlying2 Try.underlying137 zero_i64 HM3.out rfl n rfl HIN.out.wf _ (HF3.out n) ?_))
        go_roundw
        case rel => exact ⟨j + 1, _, _, by rw [wrap_succ hlt HM.out], rfl, rfl, ⟨by omega⟩, ⟨HN.out⟩, ⟨HB2.out⟩⟩
        case measure => rw [wrap_succ hlt HM.out]; simp only [intOf, Int.toNat_natCast]; omega
      | false =>
        have HN := Aside0.mk (HNO.out rfl)
        clear HYES
        go_wp2_with (go_at_call 25; (with_reducible refine (subprogram_Call.calls k x.f0 A1 c1 x.f1 x.f2 n t false e _ (Kd.C_alloc HK1.out _) HL1.out HCL.out).mono ?_); rintro e2 w2 ⟨rfl, hb2⟩; have HB2 := Aside0.mk (below_then (below_alloc HB.out _) (Nat.le_trans HB.out.size (below_alloc (Below.refl _ _) _).size) hb2); clear hb2)
        go_roundw
        case rel => exact ⟨j + 1, _, _, by rw [wrap_succ hlt HM.out], rfl, rfl, ⟨by omega⟩, ⟨HN.out⟩, ⟨HB2.out⟩⟩
        case measure => rw [wrap_succ hlt HM.out]; simp only [intOf, Int.toNat_natCast]; omega
    have hlt' : decide ((j : Int) < (l.length : Int)) = false := by simp; omega
    have hI := HI.out
    rw [List.drop_eq_nil_of_le (by omega)] at hI
    simp only [sumL, Option.some.injEq, Prod.mk.injEq] at hI
    obtain ⟨rfl, rfl⟩ := hI
    go_wp2
    refine bodyPost_ret (results_list (rs := [.tmp 4, .tmp 5]) rfl (by simp) (.tmp (.tmp .nil))) rfl ?_
    exact ⟨rfl, HB.out⟩
end Go.Proofs.Ytehkhbnhmehobaa.P
namespace Go.Proofs.Ytehkhbnhmehobaa.P
open Go.RowKit Go.Proofs.YtehkhbnhmehobaaW.PrintWords Go.Proofs.YtehkhbnhmehobaaW.PrintLast Go.Proofs.YtehkhbnhmehobaaW.PrintMore
set_option linter.unusedVariables false
set_option linter.unusedSimpArgs false
def SubMap (w0 W : World) (g : Nat) (subs : Int → List S32) : Prop := ∃ F, MapFew Try.prog 2 .i64 W g F ∧ ∀ y, ∃ A c, (F y).getD (.slice none 0 0) = .slice A (subs y).length c ∧ (subs y).length ≤ c ∧ Kd.C k32 w0 A (subs y).length (subs y)
abbrev St3 := (Int → Int) × (Int → Int) × (Int → Int)
structure ExpW (w0 W : World) (gx g0 g1 g2 g3 g4 : Nat) (subs : Int → List S32) (S : St3) : Prop where
  below : Below w0.heap.size w0 W
  exp : ExpIs W gx g0 g1 g2 g3 g4
  sub : SubMap w0 W g0 subs
  m1 : IntMap W g1 S.1
  m2 : IntMap W g2 S.2.1
  m3 : IntMap W g3 S.2.2
  m4 : MapFew Try.prog 2 .i64 W g4 (fun _ => none)
  ge1 : w0.heap.size ≤ g1
  ge2 : w0.heap.size ≤ g2
  ge3 : w0.heap.size ≤ g3
  ge4 : w0.heap.size ≤ g4
  n01 : g0 ≠ g1
  n02 : g0 ≠ g2
  n03 : g0 ≠ g3
  n04 : g0 ≠ g4
  n12 : g1 ≠ g2
  n13 : g1 ≠ g3
  n14 : g1 ≠ g4
  n23 : g2 ≠ g3
  n24 : g2 ≠ g4
  n34 : g3 ≠ g4
section
variable {w0 W W' : World} {gx g0 g1 g2 g3 g4 : Nat} {subs : Int → List S32} {S : St3}
theorem IntMap.kept {row : Option Nat} {g : Nat} {f : Int → Int} (h : IntMap W g f) (hg : W.grownBy W' row) (hne : some g ≠ row) : IntMap W' g f := by
  obtain ⟨F, h, hf⟩ := h
  exact ⟨F, h.kept hg hne, hf⟩
theorem SubMap.kept {row : Option Nat} {g : Nat} (h : SubMap w0 W g subs) (hg : W.grownBy W' row) (hne : some g ≠ row) : SubMap w0 W' g subs := by
  obtain ⟨F, h, hf⟩ := h
  exact ⟨F, h.kept hg hne, hf⟩
theorem IntMap.ne_exp {g : Nat} {f : Int → Int} (h : IntMap W g f) (hx : ExpIs W gx g0 g1 g2 g3 g4) : some gx ≠ some g := by
  obtain ⟨F, ⟨n, h, _⟩, _⟩ := h
  intro e
  injection e with e
  exact h.ne hx e.symm
theorem ExpW.step (h : ExpW w0 W gx g0 g1 g2 g3 g4 subs S) (hb : Below W.heap.size W W') : ExpW w0 W' gx g0 g1 g2 g3 g4 subs S :=
  { h with below := below_then h.below h.below.size hb, exp := blk_below h.exp hb, sub := by obtain ⟨F, hm, hf⟩ := h.sub; exact ⟨F, hm.below hb, hf⟩, m1 := h.m1.below hb, m2 := h.m2.below hb, m3 := h.m3.below hb, m4 := h.m4.below hb }
theorem below_row {g : Nat} (h : Below w0.heap.size w0 W) (hg : W.grownBy W' (some g)) (hge : w0.heap.size ≤ g) : Below w0.heap.size w0 W' := h.grown hg h.size (fun k_ e_ => by injection e_ with e_; rw [← e_]; exact hge)
theorem ExpIs.kept {g : Nat} (h : ExpIs W gx g0 g1 g2 g3 g4) (hg : W.grownBy W' (some g)) (hne : some gx ≠ some g) : ExpIs W' gx g0 g1 g2 g3 g4 := (hg.block gx (blk_lt h) hne).trans h
theorem someNe {a b : Nat} (h : a ≠ b) : some a ≠ some b := fun e => h (by injection e)
theorem ExpW.put1 (h : ExpW w0 W gx g0 g1 g2 g3 g4 subs S) {f : Int → Int} (hg : W.grownBy W' (some g1)) (hm : IntMap W' g1 f) : ExpW w0 W' gx g0 g1 g2 g3 g4 subs (f, S.2.1, S.2.2) :=
  { h with below := below_row h.below hg h.ge1, exp := h.exp.kept hg (h.m1.ne_exp h.exp), sub := h.sub.kept hg (someNe h.n01), m1 := hm, m2 := h.m2.kept hg (someNe h.n12.symm), m3 := h.m3.kept hg (someNe h.n13.symm), m4 := h.m4.kept hg (someNe h.n14.symm) }
theorem ExpW.put2 (h : ExpW w0 W gx g0 g1 g2 g3 g4 subs S) {f : Int → Int} (hg : W.grownBy W' (some g2)) (hm : IntMap W' g2 f) : ExpW w0 W' gx g0 g1 g2 g3 g4 subs (S.1, f, S.2.2) :=
  { h with below := below_row h.below hg h.ge2, exp := h.exp.kept hg (h.m2.ne_exp h.exp), sub := h.sub.kept hg (someNe h.n02), m1 := h.m1.kept hg (someNe h.n12), m2 := hm, m3 := h.m3.kept hg (someNe h.n23.symm), m4 := h.m4.kept hg (someNe h.n24.symm) }
theorem ExpW.put3 (h : ExpW w0 W gx g0 g1 g2 g3 g4 subs S) {f : Int → Int} (hg : W.grownBy W' (some g3)) (hm : IntMap W' g3 f) : ExpW w0 W' gx g0 g1 g2 g3 g4 subs (S.1, S.2.1, f) :=
  { h with below := below_row h.below hg h.ge3, exp := h.exp.kept hg (h.m3.ne_exp h.exp), sub := h.sub.kept hg (someNe h.n03), m1 := h.m1.kept hg (someNe h.n13), m2 := h.m2.kept hg (someNe h.n23), m3 := hm, m4 := h.m4.kept hg (someNe h.n34.symm) }
end
def upd (f : Int → Int) (n v : Int) : Int → Int := fun y => if y = n then v else f y
theorem upd_get {F : Int → Option Value} {f : Int → Int} (h : ∀ y, (F y).getD (.int .i64 0) = .int .i64 (f y)) (n v : Int) : ∀ y, ((if y = n then some (Value.int .i64 v) else F y).getD (.int .i64 0)) = .int .i64 (upd f n v y) := by
  intro y
  unfold upd
  by_cases hy : y = n <;> simp [hy, h]
def measL (rec_ : Int → St3 → Option (Bool × St3)) (kc : Nat) : List S32 → St3 → Option (Bool × St3)
  | [], S => some (true, S)
  | b :: l, S => (callF kc b).bind fun r => if r.2.2.1 = true then (if IN r.1 then (rec_ r.1 S).bind fun m => if m.1 = true then measL rec_ kc l m.2 else some (false, m.2) else none) else measL rec_ kc l S
def measF (subs : Int → List S32) (kc : Nat) : Nat → Int → St3 → Option (Bool × St3)
  | 0, _, _ => none
  | k + 1, n, S => if S.1 n = 1 then some (false, S) else if S.1 n = 2 then some (true, S) else
    (measL (measF subs kc k) kc (subs n) (upd S.1 n 1, S.2.1, S.2.2)).bind fun m => if m.1 = true then (sumL kc m.2.2.1 m.2.2.2 (subs n) 0 0).bind fun s => some (true, (upd m.2.1 n 2, upd m.2.2.1 n s.1, upd m.2.2.2 n s.2)) else some (false, m.2)
theorem meas_step {rec_ : Int → St3 → Option (Bool × St3)} {kc : Nat} {l : List S32} {j : Nat} (h : j < l.length) {S : St3} {r : Bool × St3} (hr : measL rec_ kc (l.drop j) S = some r) :
    ∃ n t is e, callF kc l[j] = some (n, t, is, e) ∧ (is = true → IN n ∧ ∃ b S2, rec_ n S = some (b, S2) ∧ (b = true → measL rec_ kc (l.drop (j + 1)) S2 = some r) ∧ (b = false → r = (false, S2))) ∧ (is = false → measL rec_ kc (l.drop (j + 1)) S = some r) := by
  rw [List.drop_eq_getElem_cons h, measL] at hr
  obtain ⟨⟨n, t, is, e⟩, h1, h2⟩ := Option.bind_eq_some_iff.mp hr
  refine ⟨n, t, is, e, h1, fun hi => ?_, fun hi => ?_⟩
  · subst hi
    simp only [if_true] at h2
    by_cases hn : IN n
    · rw [if_pos hn] at h2
      obtain ⟨⟨b, S2⟩, h3, h4⟩ := Option.bind_eq_some_iff.mp h2
      refine ⟨hn, b, S2, h3, fun hb => ?_, fun hb => ?_⟩
      · subst hb; simpa using h4
      subst hb; simpa using h4.symm
    rw [if_neg hn] at h2; cases h2
  subst hi
  simpa using h2
theorem zero_rows (w : World) : (zeroValue 35).run Try.prog w = .ok (.slice none 0 0) w := by kernel_rfl
set_option maxHeartbeats 8000000 in
set_option maxRecDepth 100000 in
theorem measure_calls (kc : Nat) (w0 : World) (gx g0 g1 g2 g3 g4 : Nat) (subs : Int → List S32) : ∀ (kf : Nat) (n : Int) (S S' : St3) (b : Bool) (W : World), IN n → ExpW w0 W gx g0 g1 g2 g3 g4 subs S → measF subs kc kf n S = some (b, S') →
    Calls Try.prog 111 #[.pointer (some ⟨gx, 0, none⟩), .int .i64 n] W fun e W' => e = .returned (.bool b) ∧ ExpW w0 W' gx g0 g1 g2 g3 g4 subs S' := by
  intro kf
  induction kf with
  | zero => intro n S S' b W hn hE h; simp [measF] at h
  | succ kf ih =>
    intro n S S' b W hn hE h
    have IH := Aside0.mk ih
    clear ih
    rw [measF] at h
    have hu139 := Try.underlying139
    have hu32 := Try.underlying32
    have hq1 : W.cell? ⟨gx, 1, none⟩ = some (.map (some g1)) := (blk_cell hE.exp 1).trans rfl
    have HE := Aside0.mk hE
    have HN := Aside0.mk hn
    obtain ⟨F1, fw1, f1⟩ := hE.m1
    have FW1 := Aside0.mk fw1
    obtain ⟨q1, m1, _⟩ := fw1
    have M1 := Aside0.mk m1
    have F1H := Aside0.mk f1
    clear m1 f1 hE hn
    by_cases c1 : S.1 n = 1
    · rw [if_pos c1] at h
      simp only [Option.some.injEq, Prod.mk.injEq] at h
      obtain ⟨rfl, rfl⟩ := h
      have t1 : (S.1 n == 1) = true := beq_iff_eq.mpr c1
      clear c1
      go_enter Try.func111, Try.ntmps111
      go_wp2_with ((with_reducible refine gate_dst (N := 16) rfl ?_); refine map_look 16 rfl rfl rfl Try.underlying2 Try.underlying136 zero_int3 M1.out rfl n rfl HN.out.wf _ (F1H.out n) ?_)
      go_ret
      exact ⟨rfl, HE.out⟩
    rw [if_neg c1] at h
    have t1 : (S.1 n == 1) = false := beq_eq_false_iff_ne.mpr c1
    clear c1
    by_cases c2 : S.1 n = 2
    · rw [if_pos c2] at h
      simp only [Option.some.injEq, Prod.mk.injEq] at h
      obtain ⟨rfl, rfl⟩ := h
      have t2 : (S.1 n == 2) = true := beq_iff_eq.mpr c2
      clear c2
      go_enter Try.func111, Try.ntmps111
      go_wp2_with ((with_reducible refine gate_dst (N := 16) rfl ?_); refine map_look 16 rfl rfl rfl Try.underlying2 Try.underlying136 zero_int3 M1.out rfl n rfl HN.out.wf _ (F1H.out n) ?_)
      go_ret
      exact ⟨rfl, HE.out⟩
    rw [if_neg c2] at h
    have t2 : (S.1 n == 2) = false := beq_eq_false_iff_ne.mpr c2
    clear c2
    obtain ⟨m, hm, h⟩ := Option.bind_eq_some_iff.mp h
    have HM := Aside0.mk hm
    have H := Aside0.mk h
    clear hm h
    go_enter Try.func111, Try.ntmps111
    go_wp2_with (first | ((with_reducible refine gate_dst (N := 16) rfl ?_); refine map_look 16 rfl rfl rfl Try.underlying2 Try.underlying136 zero_int3 M1.out rfl n rfl HN.out.wf _ (F1H.out n) ?_) | ((with_reducible refine gate_dst (N := 31) rfl ?_); refine map_look 31 rfl rfl rfl Try.underlying2 Try.underlying135 zero_rows M0.out rfl n rfl HN.out.wf (.slice A0 (subs n).length c0) E0.out ?_) | (refine few_put rfl rfl Try.underlying2 Try.underlying136 FW1.out rfl n rfl HN.out.wf (by have := HN.out; unfold IN at this; omega) (by have := HN.out; unfold IN at this; omega) (.int .i64 1) rfl ?_; intro w1 hm1 hg1; have HE1 := Aside0.mk (ExpW.put1 (f := upd S.1 n 1) HE.out hg1 ⟨_, hm1, upd_get F1H.out n 1⟩); clear hm1 hg1; have hq0_w1 : w1.cell? ⟨gx, 0, none⟩ = some (.map (some g0)) := (blk_cell HE1.out.exp 0).trans rfl; obtain ⟨F0, ⟨q0, m0, _⟩, f0⟩ := HE1.out.sub; obtain ⟨A0, c0, e0, hl0, hC0⟩ := f0 n; have M0 := Aside0.mk m0; have E0 := Aside0.mk e0; have HL0 := Aside0.mk hl0; have HC0 := Aside0.mk hC0; clear m0 f0 e0 hl0 hC0))
    have HMX := Aside0.mk (Kd.C_max HC0.out)
    go_loopw [33] (fun i w' => ∃ (j : Nat) (S2 : St3), i = .int .i64 j ∧ Aside0 (j ≤ (subs n).length) ∧ Aside0 (measL (measF subs kc kf) kc ((subs n).drop j) S2 = some m) ∧ Aside0 (ExpW w0 w' gx g0 g1 g2 g3 g4 subs S2)) (fun i _ => (subs n).length - (intOf i).toNat)
    case atStart => exact ⟨0, _, rfl, ⟨Nat.zero_le _⟩, ⟨HM.out⟩, ⟨HE1.out⟩⟩
    case round =>
      obtain ⟨j, S2, rfl, HJ, HI, HE2⟩ := hrel
      clear HM HE HE1 M0 M1 FW1 F1H E0 hq1 hq0_w1
      by_cases hlt : j < (subs n).length
      · obtain ⟨ad, A1, c1, e, hx0, hx1, hx2, hl1, hk1⟩ := at_T32 (Kd.C_below HC0.out HE2.out.below) (j : Int) (by omega) (by omega)
        cases e
        have hrd : rd_T32 (subs n) (j : Int) = (subs n)[j] := by simp [rd_T32, hlt]
        rw [hrd] at hx0 hx1 hx2 hl1 hk1
        obtain ⟨nn, t, is, e, hcl, hyes, hno⟩ := meas_step hlt HI.out
        have HCL := Aside0.mk (show subprogram_Call.f kc (subs n)[j].f0 (subs n)[j].f1 (subs n)[j].f2 = some (nn, t, is, e) from hcl)
        have HYES := Aside0.mk hyes
        have HNO := Aside0.mk hno
        have HL1 := Aside0.mk hl1
        have HK1 := Aside0.mk hk1
        clear hrd hcl hyes hno hl1 hk1
        generalize (subs n)[j] = x at *
        simp only [Int.toNat_natCast] at hx0 hx1 hx2
        have hlt' : decide ((j : Int) < ((subs n).length : Int)) = true := by simp; omega
        cases is with
        | true =>
          obtain ⟨hin, bb, S3, hr, hy, hnn⟩ := HYES.out rfl
          have HIN := Aside0.mk hin
          have HR := Aside0.mk hr
          have HY := Aside0.mk hy
          have HNN := Aside0.mk hnn
          clear hin hr hy hnn HNO HYES
          cases bb with
          | true =>
            have HY2 := Aside0.mk (HY.out rfl)
            go_wp2_with (first | (go_at_call 25; (with_reducible refine (subprogram_Call.calls kc x.f0 A1 c1 x.f1 x.f2 nn t true e _ (Kd.C_alloc HK1.out _) HL1.out HCL.out).mono ?_); rintro e2 w2 ⟨rfl, hb2⟩; have HE3 := Aside0.mk (HE2.out.step (below_then (below_alloc (Below.refl _ _) _) (below_alloc (Below.refl _ _) _).size hb2)); clear hb2) | (go_at_call 111; (with_reducible refine (IH.out nn S2 S3 true _ HIN.out HE3.out HR.out).mono ?_); rintro e3 w3 ⟨rfl, he4⟩; have HE4 := Aside0.mk he4; clear he4))
            go_roundw
            case rel => exact ⟨j + 1, S3, by rw [wrap_succ hlt HMX.out], ⟨by omega⟩, ⟨HY2.out⟩, ⟨HE4.out⟩⟩
            case measure => rw [wrap_succ hlt HMX.out]; simp only [intOf, Int.toNat_natCast]; omega
          | false =>
            have hmv := HNN.out rfl
            have HH := H.out
            rw [hmv] at HH
            simp only [Bool.false_eq_true, if_false, Option.some.injEq, Prod.mk.injEq] at HH
            obtain ⟨rfl, rfl⟩ := HH
            go_wp2_with (first | (go_at_call 25; (with_reducible refine (subprogram_Call.calls kc x.f0 A1 c1 x.f1 x.f2 nn t true e _ (Kd.C_alloc HK1.out _) HL1.out HCL.out).mono ?_); rintro e2 w2 ⟨rfl, hb2⟩; have HE3 := Aside0.mk (HE2.out.step (below_then (below_alloc (Below.refl _ _) _) (below_alloc (Below.refl _ _) _).size hb2)); clear hb2) | (go_at_call 111; (with_reducible refine (IH.out nn S2 S3 false _ HIN.out HE3.out HR.out).mono ?_); rintro e3 w3 ⟨rfl, he4⟩; have HE4 := Aside0.mk he4; clear he4))
            go_ret
            exact ⟨rfl, HE4.out⟩
        | false =>
          have HY2 := Aside0.mk (HNO.out rfl)
          clear HYES
          go_wp2_with (go_at_call 25; (with_reducible refine (subprogram_Call.calls kc x.f0 A1 c1 x.f1 x.f2 nn t false e _ (Kd.C_alloc HK1.out _) HL1.out HCL.out).mono ?_); rintro e2 w2 ⟨rfl, hb2⟩; have HE3 := Aside0.mk (HE2.out.step (below_then (below_alloc (Below.refl _ _) _) (below_alloc (Below.refl _ _) _).size hb2)); clear hb2)
          go_roundw
          case rel => exact ⟨j + 1, S2, by rw [wrap_succ hlt HMX.out], ⟨by omega⟩, ⟨HY2.out⟩, ⟨HE3.out⟩⟩
          case measure => rw [wrap_succ hlt HMX.out]; simp only [intOf, Int.toNat_natCast]; omega
      have hlt' : decide ((j : Int) < ((subs n).length : Int)) = false := by simp; omega
      have hI := HI.out
      rw [List.drop_eq_nil_of_le (by omega)] at hI
      simp only [measL, Option.some.injEq] at hI
      subst hI
      have HH := H.out
      simp only [if_true] at HH
      obtain ⟨s, hs, HH⟩ := Option.bind_eq_some_iff.mp HH
      simp only [Option.some.injEq, Prod.mk.injEq] at HH
      obtain ⟨rfl, rfl⟩ := HH
      obtain ⟨F1, fw1, f1⟩ := HE2.out.m1
      have FW1 := Aside0.mk fw1
      have F1H := Aside0.mk f1
      clear fw1 f1
      have hq1 : wr.cell? ⟨gx, 1, none⟩ = some (.map (some g1)) := (blk_cell HE2.out.exp 1).trans rfl
      have HS := Aside0.mk hs
      clear hs
      go_wp2_with (refine few_put rfl rfl Try.underlying2 Try.underlying136 FW1.out rfl n rfl HN.out.wf (by have := HN.out; unfold IN at this; omega) (by have := HN.out; unfold IN at this; omega) (.int .i64 2) rfl ?_; intro w5 hm5 hg5; have HE5 := Aside0.mk (ExpW.put1 (f := upd S2.1 n 2) HE2.out hg5 ⟨_, hm5, upd_get F1H.out n 2⟩); clear hm5 hg5)
      clear FW1 F1H HE2 hq1
      obtain ⟨F0, ⟨q0, m0, _⟩, f0⟩ := HE5.out.sub
      obtain ⟨A2, c2_, e2_, hl2, hC2⟩ := f0 n
      have HL2 := Aside0.mk hl2
      have HC2 := Aside0.mk hC2
      have E2 := Aside0.mk e2_
      clear hl2 hC2 f0 e2_
      refine start_ (n := 23) (S := fun w' => w'.cell? ⟨gx, 0, none⟩ = some (.map (some g0)) ∧ w'.cell? ⟨gx, 2, none⟩ = some (.map (some g2)) ∧ w'.cell? ⟨gx, 3, none⟩ = some (.map (some g3)) ∧ MapIs Try.prog 2 .i64 w' g0 q0 F0) (ds := []) #[false, false, false, false, false, false, false, false, false, false, false, false, false, false, false, false, false, false, false, false, false, false, false] (by kernel_rfl) rfl rfl ⟨(blk_cell HE5.out.exp 0).trans rfl, (blk_cell HE5.out.exp 2).trans rfl, (blk_cell HE5.out.exp 3).trans rfl, m0.drew⟩ (fun hHeld => ?_)
      have HE6 := Aside0.mk (HE5.out.step (below_drew (Below.refl _ _)))
      clear HE5 m0
      generalize w5.drew = w6 at HE6 hHeld ⊢
      refine yp 0 58 ?_
      refine yp 1 59 ?_
      refine yp 2 60 ?_
      refine yp 4 62 ?_
      refine yp 5 63 ?_
      refine yp 6 64 ?_
      refine yp 7 65 ?_
      refine yp 9 67 ?_
      refine yp 10 68 ?_
      refine yp 11 69 ?_
      refine yp 12 70 ?_
      refine yp 13 71 ?_
      refine yp 15 73 ?_
      refine take_ (i := 3) (N := some 61) (v := ?_) (a' := ?_) #[true, true, true, true, true, true, true, true, false, true, true, true, true, true, false, true, false, false, false, false, false, false, false] rfl rfl (by kernel_rfl) (fun _ _ _ h => h) (Or.inl ⟨by rfl, ?_⟩) hHeld ?_ ?_
      rotate_left
      · rintro w' ⟨s0, s2, s3, sM⟩
        go_simp
        with_reducible rfl
      rotate_left
      · simp only [Act.put, List.setIfInBounds_toArray, List.set_cons_zero, List.set_cons_succ, i64_w, i32_w]
        rfl
      refine take_ (i := 8) (N := some 66) (v := ?_) (a' := ?_) #[true, true, true, true, true, true, true, true, true, true, true, true, true, true, false, true, false, false, false, false, false, false, false] rfl rfl (by kernel_rfl) (fun _ _ _ h => h) (Or.inl ⟨by rfl, ?_⟩) hHeld ?_ ?_
      rotate_left
      · rintro w' ⟨s0, s2, s3, sM⟩
        go_simp
        with_reducible rfl
      rotate_left
      · simp only [Act.put, List.setIfInBounds_toArray, List.set_cons_zero, List.set_cons_succ, i64_w, i32_w]
        rfl
      refine take_ (i := 14) (N := some 72) (v := ?_) (a' := ?_) #[true, true, true, true, true, true, true, true, true, true, true, true, true, true, true, true, false, false, false, false, false, false, false] rfl rfl (by kernel_rfl) (fun _ _ _ h => h) (Or.inl ⟨by rfl, ?_⟩) hHeld ?_ ?_
      rotate_left
      · rintro w' ⟨s0, s2, s3, sM⟩
        go_simp
        with_reducible rfl
      rotate_left
      · simp only [Act.put, List.setIfInBounds_toArray, List.set_cons_zero, List.set_cons_succ, i64_w, i32_w]
        rfl
      refine take_ (i := 16) (N := some 74) (v := ?_) (a' := ?_) #[true, true, true, true, true, true, true, true, true, true, true, true, true, true, true, true, true, false, false, false, false, false, false] rfl rfl (by kernel_rfl) (fun _ _ _ h => h) (Or.inl ⟨by rfl, ?_⟩) hHeld ?_ ?_
      rotate_left
      · rintro w' ⟨s0, s2, s3, sM⟩
        have hl := sM.look (t := 135) Try.underlying2 Try.underlying135 (zero_rows w') (a := n) HN.out.wf
        rw [E2.out] at hl
        go_simp
        with_reducible rfl
      rotate_left
      · simp only [Act.put, List.setIfInBounds_toArray, List.set_cons_zero, List.set_cons_succ, i64_w, i32_w]
        rfl
      refine yo 17 (some 75) (fun K hK => ?_)
      refine goes_ Try.func95 (by kernel_rfl) rfl #[.pointer (some ⟨gx, 0, none⟩), .slice A2 (subs n).length c2_] (by rfl) rfl rfl (by (try simp only [List.map_toArray, List.map_cons, List.map_nil]); first | done | rfl) ?_
      refine (sum_calls kc gx g0 g1 g2 g3 g4 S2.2.1 S2.2.2 A2 c2_ (subs n) s.1 s.2 _ HE6.out.exp HE6.out.m2 HE6.out.m3 (Kd.C_below HC2.out HE6.out.below) HL2.out HS.out).mono ?_
      rintro e7 w7 ⟨rfl, hb7⟩
      refine ⟨_, rfl, ?_⟩
      have HE7 := Aside0.mk (HE6.out.step hb7)
      have mk7 := (hHeld.2.2.2).below hb7
      clear hb7 hHeld
      refine hK.out _ _ ⟨(blk_cell HE7.out.exp 0).trans rfl, (blk_cell HE7.out.exp 2).trans rfl, (blk_cell HE7.out.exp 3).trans rfl, mk7⟩ (fun hHeld => ?_)
      clear hK K mk7
      refine yn 75 ?_
      refine yp 18 57 ?_
      refine yp 19 76 ?_
      refine yp 20 77 ?_
      obtain ⟨F2, fw2, f2⟩ := HE7.out.m2
      have FW2 := Aside0.mk fw2
      have F2H := Aside0.mk f2
      clear fw2 f2
      refine yo 21 (none) (fun K hK => ?_)
      refine few_put_step (by rfl) rfl rfl Try.underlying2 Try.underlying136 FW2.out rfl n rfl HN.out.wf (by have := HN.out; unfold IN at this; omega) (by have := HN.out; unfold IN at this; omega) (.int .i64 s.1) rfl ?_
      intro w8 hm_ hg_
      have HE8 := Aside0.mk (ExpW.put2 (f := upd S2.2.1 n s.1) HE7.out hg_ ⟨_, hm_, upd_get F2H.out n s.1⟩)
      have mk8 := (hHeld.2.2.2).kept hg_ (someNe HE7.out.n02)
      clear hm_ hg_ hHeld
      refine hK.out _ _ ⟨(blk_cell HE8.out.exp 0).trans rfl, (blk_cell HE8.out.exp 2).trans rfl, (blk_cell HE8.out.exp 3).trans rfl, mk8⟩ (fun hHeld => ?_)
      clear hK K mk8
      refine norm_ (a' := ?_) ?_ ?_
      rotate_left
      · show Act.put _ none _ = _
        rfl
      obtain ⟨F3, fw3, f3⟩ := HE8.out.m3
      have FW3 := Aside0.mk fw3
      have F3H := Aside0.mk f3
      clear fw3 f3
      refine yo 22 (none) (fun K hK => ?_)
      refine few_put_step (by rfl) rfl rfl Try.underlying2 Try.underlying137 FW3.out rfl n rfl HN.out.wf (by have := HN.out; unfold IN at this; omega) (by have := HN.out; unfold IN at this; omega) (.int .i64 s.2) rfl ?_
      intro w9 hm_ hg_
      have HE9 := Aside0.mk (ExpW.put3 (f := upd S2.2.2 n s.2) HE8.out hg_ ⟨_, hm_, upd_get F3H.out n s.2⟩)
      have mk9 := (hHeld.2.2.2).kept hg_ (someNe HE8.out.n03)
      clear hm_ hg_ hHeld
      refine hK.out _ _ ⟨(blk_cell HE9.out.exp 0).trans rfl, (blk_cell HE9.out.exp 2).trans rfl, (blk_cell HE9.out.exp 3).trans rfl, mk9⟩ (fun hHeld => ?_)
      clear hK K mk9
      refine norm_ (a' := ?_) ?_ ?_
      rotate_left
      · show Act.put _ none _ = _
        rfl
      refine done_ (by kernel_rfl) ?_
      go_wp2
      go_ret
      exact ⟨rfl, HE9.out⟩
def Grow_Block.f (n : Int) : Option (List (S32)) := if 0 ≤ n ∧ n < 2932031007402 then some [] else none
set_option maxHeartbeats 1000000 in
set_option maxRecDepth 100000 in
theorem Grow_Block.calls (n : Int) (r : List (S32)) (w : World) (h : Grow_Block.f n = some r) :
    Calls Try.prog 66 #[.slice none 0 0, .int .i64 n] w fun e w' => ∃ v0_ : Value, e = .returned (v0_) ∧ Kd.N k32 32 w' w.heap.size (fun k_ => w.heap.size ≤ k_) v0_ r ∧ Below w.heap.size w w' := by
  unfold Grow_Block.f at h
  by_cases hn : 0 ≤ n ∧ n < 2932031007402
  rotate_left
  · rw [if_neg hn] at h; cases h
  rw [if_pos hn] at h
  obtain rfl := Option.some.inj h
  obtain ⟨h0, h1⟩ := hn
  have H0 := Aside0.mk h0
  have H1 := Aside0.mk h1
  have hw : wrap64 n = n := by unfold wrap64; omega
  have hw0 : wrap64 0 = 0 := by unfold wrap64; omega
  have hng : decide (n < 0) = false := by simp; omega
  clear h h0 h1
  by_cases hp : 0 < n
  · have hgt : decide (n > 0) = true := by simpa using hp
    have hgt2 : decide (0 < n) = true := by simpa using hp
    clear hp
    go_enter Try.func66, Try.ntmps66
    go_wp2_with ((with_reducible refine gate_builtin (b := .append) (xs := #[.tmp 20, .tmp 21]) rfl ?_); at_builtin; refine Kd.N_append_zeros k32 (w0 := w) w.heap.size rfl (.tmp 20) (.tmp 21) 35 3 32 (.agg #[(.bool false), (.slice none 0 0), (.string ⟨#[]⟩)]) 48 rfl Try.underlying35 Try.underlying3 info32 rfl (by decide) (by omega) (.slice none 0 0) [] z32 n (fun k_ => w.heap.size ≤ k_) rfl (by first | rfl | exact congrArg (Value.int .i64) hw) (k32_mkF _ _ z32 (Nat.le_refl _) (fun W' _ => ⟨rfl, by simp [z32], fun hlt => by simp [z32] at hlt⟩)) (fun _ hk => hk) (Kd.N_nil _ _ _ _ _) H0.out (Below.refl _ _) (Nat.le_refl _) (by have := H1.out; have := H0.out; simp only [List.length_nil]; omega) ?_; intro v22 w1 ho hb hg hat; obtain ⟨A, c, rfl⟩ := Kd.N_slice ho; have HO := Aside0.mk ho; have HB := Aside0.mk hb; have HL := Aside0.mk (Kd.N_reads' ho).2.1; clear ho hb hg hat; have hq : (([] : List S32) ++ List.replicate n.toNat z32).length = n.toNat := by simp)
    go_ret
    exact ⟨_, rfl, by have := Kd.N_take (m := 0) HO.out (Nat.zero_le _); simpa using this, HB.out⟩
  have hgt : decide (n > 0) = false := by simpa using hp
  have hgt2 : decide (0 < n) = false := by simpa using hp
  clear hp
  go_enter Try.func66, Try.ntmps66
  go_wp2
  go_ret
  exact ⟨_, rfl, Kd.N_nil _ _ _ _ _, Below.refl _ _⟩
end Go.Proofs.Ytehkhbnhmehobaa.P
namespace Go.Proofs.Ytehkhbnhmehobaa.P
open Go.RowKit Go.Proofs.YtehkhbnhmehobaaW.PrintWords Go.Proofs.YtehkhbnhmehobaaW.PrintLast Go.Proofs.YtehkhbnhmehobaaW.PrintMore
attribute [local go_sem] max2_int min2_int max_two min_two max_three min_three max_four min_four
set_option linter.unusedVariables false
set_option linter.unusedSimpArgs false
mutual
def Concat_Block.l0 : Nat → List (List (S32)) → Int → List (List (S32)) → Int → Int → Option ((List (S32)))
 | 0, _, _, _, _, _ => none
 | k + 1, x0, x3, x9, x10, x11 => if x11 < x10 then (if 0 ≤ x11 then (if x11 < (x9.length : Int) then (if (wrap64 (x3 + ((rd_L7 x9 x11).length : Int))) < 0 then (none) else (Concat_Block.l0 k x0 (wrap64 (x3 + ((rd_L7 x9 x11).length : Int))) x9 x10 (wrap64 (x11 + 1)))) else (none)) else (none)) else ((Grow_Block.f x3).bind fun t373 => (Concat_Block.l1 k t373 x0 (x0.length : Int) 0))
def Concat_Block.l1 : Nat → List (S32) → List (List (S32)) → Int → Int → Option ((List (S32)))
 | 0, _, _, _, _ => none
 | k + 1, x6, x25, x26, x27 => if x27 < x26 then (if 0 ≤ x27 then (if x27 < (x25.length : Int) then (if x6.length + (rd_L7 x25 x27).length < 2932031007402 then (Concat_Block.l1 k (x6 ++ (rd_L7 x25 x27)) x25 x26 (wrap64 (x27 + 1))) else (none)) else (none)) else (none)) else (some x6)
end
def Concat_Block.f (k : Nat) (l0 : List (List (S32))) : Option ((List (S32))) := Concat_Block.l0 k l0 0 l0 (l0.length : Int) 0
set_option maxHeartbeats 8000000 in
set_option maxRecDepth 100000 in
theorem Concat_Block.calls (k : Nat) (P0_ : Nat → Prop) (A0 : Option Addr) (c0 : Nat) (l0 : List (List (S32))) (r : List (S32)) (w : World) (hs0 : Kd.V (Kd.slice 32 k32) 35 w w.heap.size (fun k_ => P0_ k_) (.slice A0 l0.length c0) l0) (h : Concat_Block.f k l0 = some r) :
  Calls Try.prog 31 #[.slice A0 l0.length c0] w fun e w' => ∃ v0_ : Value, e = .returned (v0_) ∧ Kd.N k32 32 w' w.heap.size (fun k_ => (P0_ k_ ∨ w.heap.size ≤ k_)) v0_ r ∧ Below w.heap.size w w' := by
 have HO0 := Aside0.mk (show Kd.V (Kd.slice 32 k32) 35 w w.heap.size (fun k_ => (P0_ k_ ∨ w.heap.size ≤ k_)) (.slice A0 l0.length c0) l0 from Kd.V_mono hs0 (fun k_ hk => .inl hk))
 have HB := Aside0.mk (Below.refl w.heap.size w)
 have H : (Concat_Block.l0 k l0 0 l0 (l0.length : Int) 0) = some r := h
 clear h
 have H' := Aside0.mk H
 clear H
 go_enter Try.func31, Try.ntmps31
 go_wp2
 go_loopg [3, 11] k (fun kq v3 v11 w' => ∃ (x3_1 : Int) (x11_1 : Int), v3 = .int .i64 x3_1 ∧ v11 = .int .i64 x11_1 ∧ Aside0 (Concat_Block.l0 kq l0 x3_1 l0 (l0.length : Int) x11_1 = some r) ∧ Aside0 (kq ≤ k) ∧ Aside0 (Kd.V (Kd.slice 32 k32) 35 w' w.heap.size (fun k_ => (P0_ k_ ∨ w.heap.size ≤ k_)) (.slice A0 l0.length c0) l0) ∧ Aside0 (Kd.V (Kd.slice 32 k32) 35 w' w.heap.size (fun k_ => (P0_ k_ ∨ w.heap.size ≤ k_)) (.slice A0 l0.length c0) l0) ∧ Aside0 (Below w.heap.size w w'))
 case atStart => exact ⟨(0), (0), yS, yS, H', ⟨Nat.le_refl _⟩, ⟨by refine yV ?_; exact HO0.out⟩, ⟨by refine yV ?_; exact HO0.out⟩, ⟨yB⟩⟩
 case round =>
  clear H'
  obtain ⟨x3_1, x11_1, rfl, rfl, HA, HK1, HO_0, HO_9, HB⟩ := hrel
  cases gk with
  | zero => exact absurd HA.out (by simp [Concat_Block.l0])
  | succ k1 =>
   have H := HA.out
   clear HA
   simp only [Concat_Block.l0] at H
   by_cases c2 : x11_1 < (l0.length : Int)
   ·rw [if_pos c2] at H
    have c2b0 := decide_eq_true c2
    clear c2
    by_cases c3 : 0 ≤ x11_1
    ·rw [if_pos c3] at H
     have c3b0 := decide_eq_true c3
     clear c3
     by_cases c4 : x11_1 < (l0.length : Int)
     ·rw [if_pos c4] at H
      have c4b0 := decide_eq_true c4
      clear c4
      by_cases c5 : (wrap64 (x3_1 + ((rd_L7 l0 x11_1).length : Int))) < 0
      ·rw [if_pos c5] at H
       exact absurd H (by simp)
      rw [if_neg c5] at H
      have c5b0 := decide_eq_false c5
      clear c5
      have H' := Aside0.mk H
      clear H
      have p372 : 0 ≤ (x11_1 : Int) := yD
      have q372 : x11_1 < (l0.length : Int) := yD
      obtain ⟨ad372, A372_0, c372_0, e372, hx372_0, hl372_0, hi372_0⟩ := at_L7 (Kd.V_reads' HO_9.out).2.2 x11_1 p372 q372
      cases e372
      obtain ⟨ce372, hce372, hMe372, hcc372⟩ := Kd.V_get HO_9.out [] x11_1 p372 (by first | exact q372 | exact yD | (have e_ := (Kd.V_reads' HO_9.out).1; omega))
      obtain ⟨ua372_0, uc372_0, rfl, ul372_0, ge372_0⟩ := Kd.FK_slice_open hMe372
      have hv372_0 := hcc372 0 _ rfl
      rw [Nat.add_zero, show ((Kd.slice 32 k32)).sz = 1 from rfl, Nat.mul_one] at hv372_0
      replace hv372_0 := Option.some.inj (hv372_0.symm.trans hx372_0)
      injection hv372_0 with hva_ hvn_ hvc_
      rw [hva_] at ge372_0
      rw [hvc_] at ul372_0
      have HL372_0 := Aside0.mk (show Kd.V k32 32 _ w.heap.size _ _ (rd_L7 l0 x11_1) from Kd.V_mk ul372_0 ge372_0)
      clear hva_ hvn_ hvc_ ge372_0 ul372_0
      clear hcc372 hce372
      have HR372_0 := Aside0.mk hi372_0
      have HC372_0 := Aside0.mk hl372_0
      clear hi372_0 hl372_0
      replace p372 := eq_true p372
      replace q372 := eq_true q372
      go_wp2
      go_roundg k1
      case measure => have := HK1.out; omega
      case rel => exact ⟨(wrap64 (x3_1 + ((rd_L7 l0 x11_1).length : Int))), (wrap64 (x11_1 + 1)), yS, yS, H', ⟨by have := HK1.out; omega⟩, ⟨by refine yV ?_; exact HO_0.out⟩, ⟨by refine yV ?_; exact HO_9.out⟩, ⟨yB⟩⟩
     rw [if_neg c4] at H
     exact absurd H (by simp)
    rw [if_neg c3] at H
    exact absurd H (by simp)
   rw [if_neg c2] at H
   have c2b0 := decide_eq_false c2
   clear c2
   replace H := Option.bind_eq_some_iff.mp H
   obtain ⟨t373, A60, H⟩ := H
   have A6 := Aside0.mk A60
   clear A60
   have H' := Aside0.mk H
   clear H
   go_wp2_with (first | ((with_reducible refine gate_callee (f := 66) rfl ?_); refine goesL_ (some 24) rfl rfl Try.func66 (by kernel_rfl) rfl #[.slice none 0 0, .int .i64 x3_1] rfl yQ ?_; (with_reducible refine (Grow_Block.calls x3_1 t373 _ A6.out).mono ?_); rintro e w7 ⟨v374, rfl, ho0, hb⟩; refine ⟨_, rfl, ?_⟩; replace HO_0 := Aside0.mk (Kd.V_elder' (yV HO_0.out) (by first | exact Kd.N_base ho0 | exact Kd.S_base ho0) hb); replace HO_9 := Aside0.mk (Kd.V_elder' (yV HO_9.out) (by first | exact Kd.N_base ho0 | exact Kd.S_base ho0) hb); have HO375 := Aside0.mk (Kd.N_lower (Kd.N_mono (ok' := fun k_ => (P0_ k_ ∨ w.heap.size ≤ k_)) ho0 (fun k_ hk_ => (.inr (Nat.le_trans (below_size yB) hk_)))) (below_size yB)); replace HB := Aside0.mk (below_step yB hb); (try clear hb); (try clear ho0)))
   go_loopg [6, 27] k1 (fun kq v6 v27 w' => ∃ (x6_2 : List (S32)) (x27_2 : Int), v27 = .int .i64 x27_2 ∧ Aside0 (Concat_Block.l1 kq x6_2 l0 (l0.length : Int) x27_2 = some r) ∧ Aside0 (kq ≤ k1) ∧ Aside0 (Kd.N k32 32 w' w.heap.size (fun k_ => (P0_ k_ ∨ w.heap.size ≤ k_)) v6 x6_2) ∧ Aside0 (Kd.V (Kd.slice 32 k32) 35 w' w.heap.size (fun k_ => (P0_ k_ ∨ w.heap.size ≤ k_) ∧ some k_ ≠ (v6 : Value).ownBlock) (.slice A0 l0.length c0) l0) ∧ Aside0 (Below w.heap.size w w'))
   case atStart => exact ⟨(t373), (0), yS, H', ⟨Nat.le_refl _⟩, ⟨by refine yN ?_; exact HO375.out⟩, ⟨by refine yV ?_; exact HO_0.out⟩, ⟨yB⟩⟩
   case round =>
    clear H'
    try clear c2
    try clear c2b0
    try clear p2
    try clear c3
    try clear c3b0
    try clear p3
    try clear q3
    try clear hx3
    try clear c4
    try clear c4b0
    try clear c5
    try clear c5b0
    try clear c6
    try clear p6
    try clear hx372_0
    try clear p372
    try clear q372
    obtain ⟨x6_2, x27_2, rfl, HA, HK2, HO_6, HO_25, HB⟩ := hrel
    cases gk with
    | zero => exact absurd HA.out (by simp [Concat_Block.l1])
    | succ k2 =>
     have H := HA.out
     clear HA
     simp only [Concat_Block.l1] at H
     by_cases c8 : x27_2 < (l0.length : Int)
     ·rw [if_pos c8] at H
      have c8b0 := decide_eq_true c8
      clear c8
      by_cases c9 : 0 ≤ x27_2
      ·rw [if_pos c9] at H
       have c9b0 := decide_eq_true c9
       clear c9
       by_cases c10 : x27_2 < (l0.length : Int)
       ·rw [if_pos c10] at H
        have c10b0 := decide_eq_true c10
        clear c10
        by_cases c11 : x6_2.length + (rd_L7 l0 x27_2).length < 2932031007402
        ·rw [if_pos c11] at H
         have LMc11 := Aside0.mk c11
         clear c11
         obtain ⟨y377, hy377⟩ : ∃ y_ : List (S32), y_ = (x6_2 ++ (rd_L7 l0 x27_2)) := ⟨_, rfl⟩
         replace H : (Concat_Block.l1 k2 y377 l0 (l0.length : Int) (wrap64 (x27_2 + 1))) = some r := by first | (rw [hy377]; with_reducible exact H) | (have H2_ := (Option.bind_some _ _).symm.trans H; rw [hy377]; with_reducible exact H2_) | (have H2_ := (Option.bind_some _ _).symm.trans H; with_reducible exact H2_) | with_reducible exact H | (rw [hy377]; exact H) | exact H
         have Ny377 := Aside0.mk hy377
         clear hy377
         have H' := Aside0.mk H
         clear H
         have p376 : 0 ≤ (x27_2 : Int) := yD
         have q376 : x27_2 < (l0.length : Int) := yD
         obtain ⟨ad376, A376_0, c376_0, e376, hx376_0, hl376_0, hi376_0⟩ := at_L7 (Kd.V_reads' HO_25.out).2.2 x27_2 p376 q376
         cases e376
         obtain ⟨ce376, hce376, hMe376, hcc376⟩ := Kd.V_get HO_25.out [] x27_2 p376 (by first | exact q376 | exact yD | (have e_ := (Kd.V_reads' HO_25.out).1; omega))
         obtain ⟨ua376_0, uc376_0, rfl, ul376_0, ge376_0⟩ := Kd.FK_slice_open hMe376
         have hv376_0 := hcc376 0 _ rfl
         rw [Nat.add_zero, show ((Kd.slice 32 k32)).sz = 1 from rfl, Nat.mul_one] at hv376_0
         replace hv376_0 := Option.some.inj (hv376_0.symm.trans hx376_0)
         injection hv376_0 with hva_ hvn_ hvc_
         rw [hva_] at ge376_0
         rw [hvc_] at ul376_0
         have HL376_0 := Aside0.mk (show Kd.V k32 32 _ w.heap.size _ _ (rd_L7 l0 x27_2) from Kd.V_mk ul376_0 ge376_0)
         clear hva_ hvn_ hvc_ ge376_0 ul376_0
         clear hcc376 hce376
         have HR376_0 := Aside0.mk hi376_0
         have HC376_0 := Aside0.mk hl376_0
         clear hi376_0 hl376_0
         replace p376 := eq_true p376
         replace q376 := eq_true q376
         go_wp2_with (first | ((with_reducible refine gate_builtin (b := .append) (xs := #[.tmp 31, .tmp 32]) rfl ?_); at_builtin; refine Kd.N_append_rows k32 (w0 := w) w.heap.size rfl (.tmp 31) (.tmp 32) 35 32 (.agg #[(.bool false), (.slice none 0 0), (.string ⟨#[]⟩)]) 48 rfl Try.underlying35 info32 rfl (by decide) (by omega) u6 x6_2 (rd_L7 l0 x27_2) _ _ _ (fun k_ => (P0_ k_ ∨ w.heap.size ≤ k_)) (fun k_ => ((fun k_ => (P0_ k_ ∨ w.heap.size ≤ k_))) k_ ∧ some k_ ≠ (u6 : Value).ownBlock) rfl rfl ?aO ?aR (fun _ hk => hk) ?aF ?aB ?aS ?aL ?_; (case aR => exact (by skip; exact Kd.V_F (Kd.V_mono (ok' := (fun k_ => ((fun k_ => (P0_ k_ ∨ w.heap.size ≤ k_))) k_ ∧ some k_ ≠ (u6 : Value).ownBlock)) (HL376_0.out) (fun k_ hk => ⟨hk.1, hk.2⟩)))); (case aB => exact yB); (case aF => exact (fun k_ hk => (.inr (Nat.le_trans (below_size yB) hk)))); (case aO => exact (yN HO_6.out)); (case aS => exact (below_size yB)); (case aL => have := LMc11.out; omega); intro v378 w12 ho hb hg hat; rw [← Ny377.out] at ho; have n0_ := Aside0.mk (Kd.V_afterv (ok := (fun k_ => (P0_ k_ ∨ w.heap.size ≤ k_))) (yV HO_25.out) hg hat); have n1_ := Aside0.mk (Kd.V_afterv (ok := (fun k_ => (P0_ k_ ∨ w.heap.size ≤ k_))) (yV HL376_0.out) hg hat); have n2_ := Aside0.mk (hb); have n3_ := Aside0.mk (ho); clear HO_25; clear HL376_0; clear HB; clear HO_6; have HO_25 := n0_; have HL376_0 := n1_; have HB := n2_; have HO379 := n3_; clear n0_ n1_ n2_ n3_; clear ho hb hg hat))
         go_roundg k2
         case measure => have := HK1.out; have := HK2.out; omega
         case rel => exact ⟨(y377), (wrap64 (x27_2 + 1)), yS, H', ⟨by have := HK1.out; have := HK2.out; omega⟩, ⟨by refine yN ?_; exact HO379.out⟩, ⟨by refine yV ?_; exact HO_25.out⟩, ⟨yB⟩⟩
        rw [if_neg c11] at H
        exact absurd H (by simp)
       rw [if_neg c10] at H
       exact absurd H (by simp)
      rw [if_neg c9] at H
      exact absurd H (by simp)
     rw [if_neg c8] at H
     have c8b0 := decide_eq_false c8
     clear c8
     obtain rfl := Option.some.inj H
     go_wp2
     go_ret
     exact ⟨_, yE, by refine yN ?_; exact HO_6.out, yB⟩
def subprogram_Split_1.f (k : Nat) (a0_0 : Bool) (l0_1 : List (S78)) (a0_2 : ByteArray) : Option (Bool) := (subprogram_has.f k a0_0 l0_1 a0_2 77 30000).bind fun t990 => (some t990)
set_option maxHeartbeats 8000000 in
set_option maxRecDepth 100000 in
theorem subprogram_Split_1.calls (k : Nat) (a0_0 : Bool) (A0_1 : Option Addr) (c0_1 : Nat) (l0_1 : List (S78)) (a0_2 : ByteArray) (r : Bool) (w : World) (hr0_1 : Kd.C k78 w A0_1 l0_1.length l0_1) (hc0_1 : l0_1.length ≤ c0_1) (h : subprogram_Split_1.f k a0_0 l0_1 a0_2 = some r) :
  Calls Try.prog 75 #[.agg #[.bool a0_0, .slice A0_1 l0_1.length c0_1, .string a0_2]] w fun e w' => e = .returned (.bool r) ∧ Below w.heap.size w w' := by
 have hu32 := Try.underlying32
 have HR0_1 := Aside0.mk hr0_1
 have HC0_1 := Aside0.mk hc0_1
 clear hr0_1 hc0_1
 have HB := Aside0.mk (Below.refl w.heap.size w)
 have H : ((subprogram_has.f k a0_0 l0_1 a0_2 77 30000).bind fun t990 => (some t990)) = some r := h
 clear h
 replace H := Option.bind_eq_some_iff.mp H
 obtain ⟨t990, A20, H⟩ := H
 have A2 := Aside0.mk A20
 clear A20
 obtain rfl := Option.some.inj H
 go_enter Try.func75, Try.ntmps75
 go_wp2_with (first | ((with_reducible refine gate_dst (N := 1) rfl ?_); refine yX 1 #[.bool a0_0, .slice A0_1 l0_1.length c0_1, .string a0_2] 32 ?_; intro gb989 hg w3 hbox hb; have BK989 := Aside0.mk (hbox); have GE989 := Aside0.mk ((yG hg : w.heap.size ≤ gb989)); replace HB := Aside0.mk (below_step yB hb); clear hb hbox hg; have hcz4_0 := yZ0 BK989.out; have hcz4_1 := yZ1 BK989.out; have hcz4_2 := yZ2 BK989.out; have hfz4_0 := blk_frozen BK989.out 0; have hfz4_1 := blk_frozen BK989.out 1; have hfz4_2 := blk_frozen BK989.out 2) | ((with_reducible refine gate_callee (f := 58) rfl ?_); refine goesL_ (some 4) rfl rfl Try.func58 (by kernel_rfl) rfl #[.agg #[.bool a0_0, .slice A0_1 l0_1.length c0_1, .string a0_2], .int .u8 77, .int .i64 30000] rfl yQ ?_; (with_reducible refine (subprogram_has.calls k a0_0 _ _ l0_1 a0_2 77 30000 t990 _ ?side1 ?side2 A2.out).mono ?_); (case side1 => exact yC HR0_1.out); (case side2 => exact HC0_1.out); rintro e w5 ⟨rfl, hb⟩; refine ⟨_, rfl, ?_⟩; replace BK989 := Aside0.mk (blk_below (g := gb989) yK hb); replace HB := Aside0.mk (below_step yB hb); (try clear hb)))
 go_ret
 exact ⟨yE, yB⟩
def subprogram_plain.f (a0_0 : Bool) (l0_1 : List (S78)) (a0_2 : ByteArray) : Option (Bool) := if (l0_1.length : Int) = 1 then (if a0_0 = true then (some false) else (some (a0_2.toList == ([] : List UInt8)))) else (some false)
set_option maxHeartbeats 8000000 in
set_option maxRecDepth 100000 in
theorem subprogram_plain.calls (a0_0 : Bool) (A0_1 : Option Addr) (c0_1 : Nat) (l0_1 : List (S78)) (a0_2 : ByteArray) (r : Bool) (w : World) (hr0_1 : Kd.C k78 w A0_1 l0_1.length l0_1) (hc0_1 : l0_1.length ≤ c0_1) (h : subprogram_plain.f a0_0 l0_1 a0_2 = some r) :
  Calls Try.prog 78 #[.agg #[.bool a0_0, .slice A0_1 l0_1.length c0_1, .string a0_2]] w fun e w' => e = .returned (.bool r) ∧ Below w.heap.size w w' := by
 have hu32 := Try.underlying32
 have HR0_1 := Aside0.mk hr0_1
 have HC0_1 := Aside0.mk hc0_1
 clear hr0_1 hc0_1
 have HB := Aside0.mk (Below.refl w.heap.size w)
 have H : (if (l0_1.length : Int) = 1 then (if a0_0 = true then (some false) else (some (a0_2.toList == ([] : List UInt8)))) else (some false)) = some r := h
 clear h
 by_cases c2 : (l0_1.length : Int) = 1
 ·rw [if_pos c2] at H
  have c2b0 : ((l0_1.length : Int) == 1) = true := beq_iff_eq.mpr c2
  have c2b1 : ((l0_1.length : Int) != 1) = false := bne_eq_false_iff_eq.mpr c2
  clear c2
  by_cases c3 : a0_0 = true
  ·subst c3
   rw [if_pos rfl] at H
   obtain rfl := Option.some.inj H
   go_enter Try.func78, Try.ntmps78
   go_wp2_with (first | ((with_reducible refine gate_dst (N := 1) rfl ?_); refine yX 1 #[.bool true, .slice A0_1 l0_1.length c0_1, .string a0_2] 32 ?_; intro gb448 hg w4 hbox hb; have BK448 := Aside0.mk (hbox); have GW448 := Aside0.mk ((yG hg : w.heap.size ≤ gb448)); have GE448 := Aside0.mk ((yG hg : w.heap.size ≤ gb448)); replace HB := Aside0.mk (below_step yB hb); clear hb hbox hg; have hcz5_0 := yZ0 BK448.out; have hcz5_1 := yZ1 BK448.out; have hcz5_2 := yZ2 BK448.out; have hfz5_0 := blk_frozen BK448.out 0; have hfz5_1 := blk_frozen BK448.out 1; have hfz5_2 := blk_frozen BK448.out 2))
   go_ret
   exact ⟨yE, yB⟩
  replace c3 := Bool.eq_false_iff.mpr c3
  subst c3
  replace H : (some (a0_2.toList == ([] : List UInt8))) = some r := by rw [if_neg (show ¬ (false = true) by decide)] at H; exact H
  obtain rfl := Option.some.inj H
  go_enter Try.func78, Try.ntmps78
  go_wp2_with (first | ((with_reducible refine gate_dst (N := 1) rfl ?_); refine yX 1 #[.bool false, .slice A0_1 l0_1.length c0_1, .string a0_2] 32 ?_; intro gb448 hg w6 hbox hb; have BK448 := Aside0.mk (hbox); have GW448 := Aside0.mk ((yG hg : w.heap.size ≤ gb448)); have GE448 := Aside0.mk ((yG hg : w.heap.size ≤ gb448)); replace HB := Aside0.mk (below_step yB hb); clear hb hbox hg; have hcz7_0 := yZ0 BK448.out; have hcz7_1 := yZ1 BK448.out; have hcz7_2 := yZ2 BK448.out; have hfz7_0 := blk_frozen BK448.out 0; have hfz7_1 := blk_frozen BK448.out 1; have hfz7_2 := blk_frozen BK448.out 2))
  go_ret
  exact ⟨yE, yB⟩
 rw [if_neg c2] at H
 have c2b0 : ((l0_1.length : Int) == 1) = false := beq_eq_false_iff_ne.mpr c2
 have c2b1 : ((l0_1.length : Int) != 1) = true := bne_iff_ne.mpr c2
 obtain rfl := Option.some.inj H
 go_enter Try.func78, Try.ntmps78
 go_wp2_with (first | ((with_reducible refine gate_dst (N := 1) rfl ?_); refine yX 1 #[.bool a0_0, .slice A0_1 l0_1.length c0_1, .string a0_2] 32 ?_; intro gb448 hg w8 hbox hb; have BK448 := Aside0.mk (hbox); have GW448 := Aside0.mk ((yG hg : w.heap.size ≤ gb448)); have GE448 := Aside0.mk ((yG hg : w.heap.size ≤ gb448)); replace HB := Aside0.mk (below_step yB hb); clear hb hbox hg; have hcz9_0 := yZ0 BK448.out; have hcz9_1 := yZ1 BK448.out; have hcz9_2 := yZ2 BK448.out; have hfz9_0 := blk_frozen BK448.out 0; have hfz9_1 := blk_frozen BK448.out 1; have hfz9_2 := blk_frozen BK448.out 2))
 go_ret
 exact ⟨yE, yB⟩
def subprogram_Split_2.f (k : Nat) (a0_0 : Bool) (l0_1 : List (S78)) (a0_2 : ByteArray) : Option (Bool) := (subprogram_plain.f a0_0 l0_1 a0_2).bind fun t992 => (if t992 = true then ((subprogram_has.f k a0_0 l0_1 a0_2 77 99000).bind fun t993 => (some t993)) else (some false))
set_option maxHeartbeats 8000000 in
set_option maxRecDepth 100000 in
theorem subprogram_Split_2.calls (k : Nat) (a0_0 : Bool) (A0_1 : Option Addr) (c0_1 : Nat) (l0_1 : List (S78)) (a0_2 : ByteArray) (r : Bool) (w : World) (hr0_1 : Kd.C k78 w A0_1 l0_1.length l0_1) (hc0_1 : l0_1.length ≤ c0_1) (h : subprogram_Split_2.f k a0_0 l0_1 a0_2 = some r) :
  Calls Try.prog 77 #[.agg #[.bool a0_0, .slice A0_1 l0_1.length c0_1, .string a0_2]] w fun e w' => e = .returned (.bool r) ∧ Below w.heap.size w w' := by
 have hu32 := Try.underlying32
 have HR0_1 := Aside0.mk hr0_1
 have HC0_1 := Aside0.mk hc0_1
 clear hr0_1 hc0_1
 have HB := Aside0.mk (Below.refl w.heap.size w)
 have H : ((subprogram_plain.f a0_0 l0_1 a0_2).bind fun t992 => (if t992 = true then ((subprogram_has.f k a0_0 l0_1 a0_2 77 99000).bind fun t993 => (some t993)) else (some false))) = some r := h
 clear h
 replace H := Option.bind_eq_some_iff.mp H
 obtain ⟨t992, A20, H⟩ := H
 have A2 := Aside0.mk A20
 clear A20
 by_cases c3 : t992 = true
 ·subst c3
  rw [if_pos rfl] at H
  replace H := Option.bind_eq_some_iff.mp H
  obtain ⟨t993, A40, H⟩ := H
  have A4 := Aside0.mk A40
  clear A40
  obtain rfl := Option.some.inj H
  go_enter Try.func77, Try.ntmps77
  go_wp2_with (first | ((with_reducible refine gate_dst (N := 1) rfl ?_); refine yX 1 #[.bool a0_0, .slice A0_1 l0_1.length c0_1, .string a0_2] 32 ?_; intro gb991 hg w5 hbox hb; have BK991 := Aside0.mk (hbox); have GW991 := Aside0.mk ((yG hg : w.heap.size ≤ gb991)); have GE991 := Aside0.mk ((yG hg : w.heap.size ≤ gb991)); replace HB := Aside0.mk (below_step yB hb); clear hb hbox hg; have hcz6_0 := yZ0 BK991.out; have hcz6_1 := yZ1 BK991.out; have hcz6_2 := yZ2 BK991.out; have hfz6_0 := blk_frozen BK991.out 0; have hfz6_1 := blk_frozen BK991.out 1; have hfz6_2 := blk_frozen BK991.out 2) | ((with_reducible refine gate_callee (f := 78) rfl ?_); refine goesL_ (some 4) rfl rfl Try.func78 (by kernel_rfl) rfl #[.agg #[.bool a0_0, .slice A0_1 l0_1.length c0_1, .string a0_2]] rfl yQ ?_; (with_reducible refine (subprogram_plain.calls a0_0 _ _ l0_1 a0_2 true _ ?side1 ?side2 A2.out).mono ?_); (case side1 => exact yC HR0_1.out); (case side2 => exact HC0_1.out); rintro e w7 ⟨rfl, hb⟩; refine ⟨_, rfl, ?_⟩; replace BK991 := Aside0.mk (blk_below (g := gb991) yK hb); replace HB := Aside0.mk (below_step yB hb); (try clear hb); have hcz8_0 := yZ0 BK991.out; have hcz8_1 := yZ1 BK991.out; have hcz8_2 := yZ2 BK991.out; have hfz8_0 := blk_frozen BK991.out 0; have hfz8_1 := blk_frozen BK991.out 1; have hfz8_2 := blk_frozen BK991.out 2) | (go_at_call 58; (with_reducible refine (subprogram_has.calls k a0_0 _ _ l0_1 a0_2 77 99000 t993 _ ?side1 ?side2 A4.out).mono ?_); (case side1 => exact yC HR0_1.out); (case side2 => exact HC0_1.out); rintro e w9 ⟨rfl, hb⟩; replace BK991 := Aside0.mk (blk_below (g := gb991) yK hb); replace HB := Aside0.mk (below_step yB hb); (try clear hb)))
  go_ret
  exact ⟨yE, yB⟩
 replace c3 := Bool.eq_false_iff.mpr c3
 subst c3
 replace H : (some false) = some r := by rw [if_neg (show ¬ (false = true) by decide)] at H; exact H
 obtain rfl := Option.some.inj H
 go_enter Try.func77, Try.ntmps77
 go_wp2_with (first | ((with_reducible refine gate_dst (N := 1) rfl ?_); refine yX 1 #[.bool a0_0, .slice A0_1 l0_1.length c0_1, .string a0_2] 32 ?_; intro gb991 hg w10 hbox hb; have BK991 := Aside0.mk (hbox); have GW991 := Aside0.mk ((yG hg : w.heap.size ≤ gb991)); have GE991 := Aside0.mk ((yG hg : w.heap.size ≤ gb991)); replace HB := Aside0.mk (below_step yB hb); clear hb hbox hg; have hcz11_0 := yZ0 BK991.out; have hcz11_1 := yZ1 BK991.out; have hcz11_2 := yZ2 BK991.out; have hfz11_0 := blk_frozen BK991.out 0; have hfz11_1 := blk_frozen BK991.out 1; have hfz11_2 := blk_frozen BK991.out 2) | ((with_reducible refine gate_callee (f := 78) rfl ?_); refine goesL_ (some 4) rfl rfl Try.func78 (by kernel_rfl) rfl #[.agg #[.bool a0_0, .slice A0_1 l0_1.length c0_1, .string a0_2]] rfl yQ ?_; (with_reducible refine (subprogram_plain.calls a0_0 _ _ l0_1 a0_2 false _ ?side1 ?side2 A2.out).mono ?_); (case side1 => exact yC HR0_1.out); (case side2 => exact HC0_1.out); rintro e w12 ⟨rfl, hb⟩; refine ⟨_, rfl, ?_⟩; replace BK991 := Aside0.mk (blk_below (g := gb991) yK hb); replace HB := Aside0.mk (below_step yB hb); (try clear hb)))
 go_ret
 exact ⟨yE, yB⟩
def subprogram_marked.f (k : Nat) (a0_0 : Bool) (l0_1 : List (S78)) (a0_2 : ByteArray) : Option (Bool) := (block_Codes.f k a0_0 l0_1 a0_2 79).bind fun t373 => (if (t373.length : Int) > 0 then (some true) else ((subprogram_has.f k a0_0 l0_1 a0_2 77 30000).bind fun t376 => (if t376 = true then (some true) else ((subprogram_has.f k a0_0 l0_1 a0_2 77 99000).bind fun t377 => (some t377)))))
set_option maxHeartbeats 8000000 in
set_option maxRecDepth 100000 in
theorem subprogram_marked.calls (k : Nat) (a0_0 : Bool) (A0_1 : Option Addr) (c0_1 : Nat) (l0_1 : List (S78)) (a0_2 : ByteArray) (r : Bool) (w : World) (hr0_1 : Kd.C k78 w A0_1 l0_1.length l0_1) (hc0_1 : l0_1.length ≤ c0_1) (h : subprogram_marked.f k a0_0 l0_1 a0_2 = some r) :
  Calls Try.prog 100 #[.agg #[.bool a0_0, .slice A0_1 l0_1.length c0_1, .string a0_2]] w fun e w' => e = .returned (.bool r) ∧ Below w.heap.size w w' := by
 have hu32 := Try.underlying32
 have HR0_1 := Aside0.mk hr0_1
 have HC0_1 := Aside0.mk hc0_1
 clear hr0_1 hc0_1
 have HB := Aside0.mk (Below.refl w.heap.size w)
 have H : ((block_Codes.f k a0_0 l0_1 a0_2 79).bind fun t373 => (if (t373.length : Int) > 0 then (some true) else ((subprogram_has.f k a0_0 l0_1 a0_2 77 30000).bind fun t376 => (if t376 = true then (some true) else ((subprogram_has.f k a0_0 l0_1 a0_2 77 99000).bind fun t377 => (some t377)))))) = some r := h
 clear h
 replace H := Option.bind_eq_some_iff.mp H
 obtain ⟨t373, A20, H⟩ := H
 have A2 := Aside0.mk A20
 clear A20
 by_cases c3 : (t373.length : Int) > 0
 ·rw [if_pos c3] at H
  have c3b0 := decide_eq_true c3
  have c3b1 : decide (0 < t373.length) = true := decide_eq_true (by omega)
  clear c3
  obtain rfl := Option.some.inj H
  go_enter Try.func100, Try.ntmps100
  go_wp2_with (first | ((with_reducible refine gate_dst (N := 1) rfl ?_); refine yX 1 #[.bool a0_0, .slice A0_1 l0_1.length c0_1, .string a0_2] 32 ?_; intro gb372 hg w4 hbox hb; have BK372 := Aside0.mk (hbox); have GW372 := Aside0.mk ((yG hg : w.heap.size ≤ gb372)); have GE372 := Aside0.mk ((yG hg : w.heap.size ≤ gb372)); replace HB := Aside0.mk (below_step yB hb); clear hb hbox hg; have hcz5_0 := yZ0 BK372.out; have hcz5_1 := yZ1 BK372.out; have hcz5_2 := yZ2 BK372.out; have hfz5_0 := blk_frozen BK372.out 0; have hfz5_1 := blk_frozen BK372.out 1; have hfz5_2 := blk_frozen BK372.out 2) | ((with_reducible refine gate_callee (f := 93) rfl ?_); refine goesL_ (some 4) rfl rfl Try.func93 (by kernel_rfl) rfl #[.agg #[.bool a0_0, .slice A0_1 l0_1.length c0_1, .string a0_2], .int .u8 79] rfl yQ ?_; (with_reducible refine (block_Codes.calls k a0_0 _ _ l0_1 a0_2 79 t373 _ ?side1 ?side2 A2.out).mono ?_); (case side1 => exact yC HR0_1.out); (case side2 => exact HC0_1.out); rintro e w6 ⟨v374, rfl, ho0, hb⟩; refine ⟨_, rfl, ?_⟩; have HO375 := Aside0.mk (Kd.R_lower ho0 (below_size yB)); replace BK372 := Aside0.mk (blk_below (g := gb372) yK hb); replace HB := Aside0.mk (below_step yB hb); (try clear hb); (try clear ho0); obtain ⟨Ao7, co7, eo7⟩ := Kd.R_slice HO375.out; subst eo7))
  go_ret
  exact ⟨yE, yB⟩
 rw [if_neg c3] at H
 have c3b0 := decide_eq_false c3
 have c3b1 : decide (0 < t373.length) = false := decide_eq_false (by omega)
 clear c3
 replace H := Option.bind_eq_some_iff.mp H
 obtain ⟨t376, A80, H⟩ := H
 have A8 := Aside0.mk A80
 clear A80
 by_cases c9 : t376 = true
 ·subst c9
  rw [if_pos rfl] at H
  obtain rfl := Option.some.inj H
  go_enter Try.func100, Try.ntmps100
  go_wp2_with (first | ((with_reducible refine gate_dst (N := 1) rfl ?_); refine yX 1 #[.bool a0_0, .slice A0_1 l0_1.length c0_1, .string a0_2] 32 ?_; intro gb372 hg w10 hbox hb; have BK372 := Aside0.mk (hbox); have GW372 := Aside0.mk ((yG hg : w.heap.size ≤ gb372)); have GE372 := Aside0.mk ((yG hg : w.heap.size ≤ gb372)); replace HB := Aside0.mk (below_step yB hb); clear hb hbox hg; have hcz11_0 := yZ0 BK372.out; have hcz11_1 := yZ1 BK372.out; have hcz11_2 := yZ2 BK372.out; have hfz11_0 := blk_frozen BK372.out 0; have hfz11_1 := blk_frozen BK372.out 1; have hfz11_2 := blk_frozen BK372.out 2) | ((with_reducible refine gate_callee (f := 93) rfl ?_); refine goesL_ (some 4) rfl rfl Try.func93 (by kernel_rfl) rfl #[.agg #[.bool a0_0, .slice A0_1 l0_1.length c0_1, .string a0_2], .int .u8 79] rfl yQ ?_; (with_reducible refine (block_Codes.calls k a0_0 _ _ l0_1 a0_2 79 t373 _ ?side1 ?side2 A2.out).mono ?_); (case side1 => exact yC HR0_1.out); (case side2 => exact HC0_1.out); rintro e w12 ⟨v374, rfl, ho0, hb⟩; refine ⟨_, rfl, ?_⟩; have HO375 := Aside0.mk (Kd.R_lower ho0 (below_size yB)); replace BK372 := Aside0.mk (blk_below (g := gb372) yK hb); replace HB := Aside0.mk (below_step yB hb); (try clear hb); (try clear ho0); obtain ⟨Ao13, co13, eo13⟩ := Kd.R_slice HO375.out; subst eo13; have hcz14_0 := yZ0 BK372.out; have hcz14_1 := yZ1 BK372.out; have hcz14_2 := yZ2 BK372.out; have hfz14_0 := blk_frozen BK372.out 0; have hfz14_1 := blk_frozen BK372.out 1; have hfz14_2 := blk_frozen BK372.out 2) | (go_at_call 58; (with_reducible refine (subprogram_has.calls k a0_0 _ _ l0_1 a0_2 77 30000 true _ ?side1 ?side2 A8.out).mono ?_); (case side1 => exact yC HR0_1.out); (case side2 => exact HC0_1.out); rintro e w15 ⟨rfl, hb⟩; replace HO375 := Aside0.mk (Kd.R_below (yR HO375.out) hb); replace BK372 := Aside0.mk (blk_below (g := gb372) yK hb); replace HB := Aside0.mk (below_step yB hb); (try clear hb)))
  go_ret
  exact ⟨yE, yB⟩
 replace c9 := Bool.eq_false_iff.mpr c9
 subst c9
 replace H : ((subprogram_has.f k a0_0 l0_1 a0_2 77 99000).bind fun t377 => (some t377)) = some r := by rw [if_neg (show ¬ (false = true) by decide)] at H; exact H
 replace H := Option.bind_eq_some_iff.mp H
 obtain ⟨t377, A160, H⟩ := H
 have A16 := Aside0.mk A160
 clear A160
 obtain rfl := Option.some.inj H
 go_enter Try.func100, Try.ntmps100
 go_wp2_with (first | ((with_reducible refine gate_dst (N := 1) rfl ?_); refine yX 1 #[.bool a0_0, .slice A0_1 l0_1.length c0_1, .string a0_2] 32 ?_; intro gb372 hg w17 hbox hb; have BK372 := Aside0.mk (hbox); have GW372 := Aside0.mk ((yG hg : w.heap.size ≤ gb372)); have GE372 := Aside0.mk ((yG hg : w.heap.size ≤ gb372)); replace HB := Aside0.mk (below_step yB hb); clear hb hbox hg; have hcz18_0 := yZ0 BK372.out; have hcz18_1 := yZ1 BK372.out; have hcz18_2 := yZ2 BK372.out; have hfz18_0 := blk_frozen BK372.out 0; have hfz18_1 := blk_frozen BK372.out 1; have hfz18_2 := blk_frozen BK372.out 2) | ((with_reducible refine gate_callee (f := 93) rfl ?_); refine goesL_ (some 4) rfl rfl Try.func93 (by kernel_rfl) rfl #[.agg #[.bool a0_0, .slice A0_1 l0_1.length c0_1, .string a0_2], .int .u8 79] rfl yQ ?_; (with_reducible refine (block_Codes.calls k a0_0 _ _ l0_1 a0_2 79 t373 _ ?side1 ?side2 A2.out).mono ?_); (case side1 => exact yC HR0_1.out); (case side2 => exact HC0_1.out); rintro e w19 ⟨v374, rfl, ho0, hb⟩; refine ⟨_, rfl, ?_⟩; have HO375 := Aside0.mk (Kd.R_lower ho0 (below_size yB)); replace BK372 := Aside0.mk (blk_below (g := gb372) yK hb); replace HB := Aside0.mk (below_step yB hb); (try clear hb); (try clear ho0); obtain ⟨Ao20, co20, eo20⟩ := Kd.R_slice HO375.out; subst eo20; have hcz21_0 := yZ0 BK372.out; have hcz21_1 := yZ1 BK372.out; have hcz21_2 := yZ2 BK372.out; have hfz21_0 := blk_frozen BK372.out 0; have hfz21_1 := blk_frozen BK372.out 1; have hfz21_2 := blk_frozen BK372.out 2) | (go_at_call 58; (with_reducible refine (subprogram_has.calls k a0_0 _ _ l0_1 a0_2 77 30000 false _ ?side1 ?side2 A8.out).mono ?_); (case side1 => exact yC HR0_1.out); (case side2 => exact HC0_1.out); rintro e w22 ⟨rfl, hb⟩; replace HO375 := Aside0.mk (Kd.R_below (yR HO375.out) hb); replace BK372 := Aside0.mk (blk_below (g := gb372) yK hb); replace HB := Aside0.mk (below_step yB hb); (try clear hb); have hcz23_0 := yZ0 BK372.out; have hcz23_1 := yZ1 BK372.out; have hcz23_2 := yZ2 BK372.out; have hfz23_0 := blk_frozen BK372.out 0; have hfz23_1 := blk_frozen BK372.out 1; have hfz23_2 := blk_frozen BK372.out 2) | (go_at_call 58; (with_reducible refine (subprogram_has.calls k a0_0 _ _ l0_1 a0_2 77 99000 t377 _ ?side1 ?side2 A16.out).mono ?_); (case side1 => exact yC HR0_1.out); (case side2 => exact HC0_1.out); rintro e w24 ⟨rfl, hb⟩; replace HO375 := Aside0.mk (Kd.R_below (yR HO375.out) hb); replace BK372 := Aside0.mk (blk_below (g := gb372) yK hb); replace HB := Aside0.mk (below_step yB hb); (try clear hb)))
 go_ret
 exact ⟨yE, yB⟩
end Go.Proofs.Ytehkhbnhmehobaa.P
namespace Go.Proofs.Ytehkhbnhmehobaa.P
open Go.RowKit Go.Proofs.YtehkhbnhmehobaaW.PrintWords Go.Proofs.YtehkhbnhmehobaaW.PrintLast Go.Proofs.YtehkhbnhmehobaaW.PrintMore
set_option linter.unusedVariables false
def idxF {α : Type} (p : α → Option Bool) : List α → Int → Option Int
  | [], _ => some (-1)
  | x :: l, i => (p x).bind fun b => if b = true then some i else idxF p l (i + 1)
theorem idxF_step {α : Type} {p : α → Option Bool} {l : List α} {j : Nat} {r : Int} (hj : j < l.length) (h : idxF p (l.drop j) (j : Int) = some r) :
    ∃ b, p (l[j]) = some b ∧ (if b = true then r = (j : Int) else idxF p (l.drop (j + 1)) ((j + 1 : Nat) : Int) = some r) := by
  rw [List.drop_eq_getElem_cons hj] at h
  simp only [idxF] at h
  obtain ⟨b, hb, h⟩ := Option.bind_eq_some_iff.mp h
  refine ⟨b, hb, ?_⟩
  cases b with
  | true => simp at h; simp [← h]
  | false =>
    simp at h ⊢
    exact h
set_option maxHeartbeats 1000000 in
set_option maxRecDepth 100000 in
theorem IndexFunc_any (g : Nat) (fn : Func) (hf : Try.prog.funcs[g]? = some fn) (hname : (fn.name == "runtime.NumGoroutine") = false) (hbody : fn.body.isSome = true) (caps : Array Value) (p : S32 → Option Bool) (w : World)
    (hp : Aside0 (∀ (x : S32) (A1 : Option Addr) (c1 : Nat) (b : Bool) (W : World), Below w.heap.size w W → Kd.C k78 W A1 x.f1.length x.f1 → x.f1.length ≤ c1 → p x = some b →
      Calls Try.prog g (#[.agg #[.bool x.f0, .slice A1 x.f1.length c1, .string x.f2]] ++ caps) W fun e W' => e = .returned (.bool b) ∧ Below W.heap.size W W'))
    (A0 : Option Addr) (c0 : Nat) (l0 : List S32) (r : Int) (hr0 : Kd.C k32 w A0 l0.length l0) (hc0 : l0.length ≤ c0) (h : idxF p l0 0 = some r) :
    Calls Try.prog 73 #[.slice A0 l0.length c0, .func (.func g) #[] caps] w fun e w' => e = .returned (.int .i64 r) ∧ Below w.heap.size w w' := by
  have hu := Try.underlying32
  have HR0 := Aside0.mk hr0
  have HM := Aside0.mk (Kd.C_max hr0)
  have H := Aside0.mk h
  clear hr0 h
  go_enter Try.func73, Try.ntmps73
  go_wp2
  go_loopw [8] (fun i w' => ∃ j : Nat, i = .int .i64 j ∧ Aside0 (j ≤ l0.length) ∧ Aside0 (idxF p (l0.drop j) (j : Int) = some r) ∧ Aside0 (Below w.heap.size w w')) (fun i _ => l0.length - (intOf i).toNat)
  case atStart => exact ⟨0, rfl, ⟨Nat.zero_le _⟩, ⟨H.out⟩, ⟨Below.refl _ _⟩⟩
  case round =>
    obtain ⟨j, rfl, HJ, HI, HB⟩ := hrel
    by_cases hlt : j < l0.length
    · obtain ⟨b, hb, hI⟩ := idxF_step hlt HI.out
      obtain ⟨ad, A1, c1, e, hx0, hx1, hx2, hl1, hi1⟩ := at_T32 (Kd.C_below HR0.out HB.out) (j : Int) (by omega) (by omega)
      cases e
      have hrd : rd_T32 l0 (j : Int) = l0[j] := by simp [rd_T32, hlt]
      rw [hrd] at hx0 hx1 hx2 hl1 hi1
      generalize l0[j] = x at *
      clear hrd
      simp only [Int.toNat_natCast] at hx0 hx1 hx2
      have hlt' : decide ((j : Int) < (l0.length : Int)) = true := by simp; omega
      have HI2 := Aside0.mk hI
      have HL1 := Aside0.mk hl1
      have HI1 := Aside0.mk hi1
      have HP := Aside0.mk hb
      clear hI hl1 hi1 hb
      go_wp2_with ((with_reducible refine gate_dst (N := 16) rfl ?_); refine goesV_ (some 16) rfl rfl (caps := caps) rfl hf hname hbody (#[.agg #[.bool x.f0, .slice A1 x.f1.length c1, .string x.f2]] ++ caps) rfl (congrArg (fun z => z ++ caps) (by (try simp only [List.map_toArray, List.map_cons, List.map_nil]); rfl)) ?_; (with_reducible refine (hp.out x A1 c1 b _ HB.out HI1.out HL1.out HP.out).mono ?_); rintro e w2 ⟨rfl, hb2⟩; refine ⟨_, rfl, ?_⟩; have HB2 := Aside0.mk (below_then HB.out HB.out.size hb2); clear hb2)
      · have hbt : b = true := by assumption
        have hI3 := HI2.out
        rw [if_pos hbt] at hI3
        subst hI3
        go_ret
        exact ⟨rfl, HB2.out⟩
      have hbf : ¬ b = true := by simpa using (show b = false by assumption)
      have hI3 := HI2.out
      rw [if_neg hbf] at hI3
      have HI3 := Aside0.mk hI3
      clear hI3
      go_roundw
      case rel => exact ⟨j + 1, by rw [wrap_succ hlt HM.out], ⟨by omega⟩, ⟨HI3.out⟩, ⟨HB2.out⟩⟩
      case measure => rw [wrap_succ hlt HM.out]; simp only [intOf, Int.toNat_natCast]; omega
    have hlt' : decide ((j : Int) < (l0.length : Int)) = false := by simp; omega
    have hI := HI.out
    rw [List.drop_eq_nil_of_le (by omega)] at hI
    simp only [idxF, Option.some.injEq] at hI
    subst hI
    go_wp2
    go_ret
    exact ⟨rfl, HB.out⟩
set_option maxHeartbeats 1000000 in
set_option maxRecDepth 100000 in
theorem IndexFuncSub_any (g : Nat) (fn : Func) (hf : Try.prog.funcs[g]? = some fn) (hname : (fn.name == "runtime.NumGoroutine") = false) (hbody : fn.body.isSome = true) (caps : Array Value) (p : S81 → Option Bool) (w : World)
    (hp : Aside0 (∀ (x : S81) (A1 : Option Addr) (c1 : Nat) (b : Bool) (W : World), Below w.heap.size w W → Kd.C k32 W A1 x.f1.length x.f1 → x.f1.length ≤ c1 → p x = some b →
      Calls Try.prog g (#[.agg #[.int .i64 x.f0, .slice A1 x.f1.length c1]] ++ caps) W fun e W' => e = .returned (.bool b) ∧ Below W.heap.size W W'))
    (A0 : Option Addr) (c0 : Nat) (l0 : List S81) (r : Int) (hr0 : Kd.C k81 w A0 l0.length l0) (hc0 : l0.length ≤ c0) (h : idxF p l0 0 = some r) :
    Calls Try.prog 113 #[.slice A0 l0.length c0, .func (.func g) #[] caps] w fun e w' => e = .returned (.int .i64 r) ∧ Below w.heap.size w w' := by
  have hu := Try.underlying81
  have HR0 := Aside0.mk hr0
  have HM := Aside0.mk (Kd.C_max hr0)
  have H := Aside0.mk h
  clear hr0 h
  go_enter Try.func113, Try.ntmps113
  go_wp2
  go_loopw [8] (fun i w' => ∃ j : Nat, i = .int .i64 j ∧ Aside0 (j ≤ l0.length) ∧ Aside0 (idxF p (l0.drop j) (j : Int) = some r) ∧ Aside0 (Below w.heap.size w w')) (fun i _ => l0.length - (intOf i).toNat)
  case atStart => exact ⟨0, rfl, ⟨Nat.zero_le _⟩, ⟨H.out⟩, ⟨Below.refl _ _⟩⟩
  case round =>
    obtain ⟨j, rfl, HJ, HI, HB⟩ := hrel
    by_cases hlt : j < l0.length
    · obtain ⟨b, hb, hI⟩ := idxF_step hlt HI.out
      obtain ⟨ad, A1, c1, e, hx0, hx1, hl1, hi1⟩ := at_T81 (Kd.C_below HR0.out HB.out) (j : Int) (by omega) (by omega)
      cases e
      have hrd : rd_T81 l0 (j : Int) = l0[j] := by simp [rd_T81, hlt]
      rw [hrd] at hx0 hx1 hl1 hi1
      generalize l0[j] = x at *
      clear hrd
      simp only [Int.toNat_natCast] at hx0 hx1
      have hlt' : decide ((j : Int) < (l0.length : Int)) = true := by simp; omega
      have HI2 := Aside0.mk hI
      have HL1 := Aside0.mk hl1
      have HI1 := Aside0.mk hi1
      have HP := Aside0.mk hb
      clear hI hl1 hi1 hb
      go_wp2_with ((with_reducible refine gate_dst (N := 16) rfl ?_); refine goesV_ (some 16) rfl rfl (caps := caps) rfl hf hname hbody (#[.agg #[.int .i64 x.f0, .slice A1 x.f1.length c1]] ++ caps) rfl (congrArg (fun z => z ++ caps) (by (try simp only [List.map_toArray, List.map_cons, List.map_nil]); rfl)) ?_; (with_reducible refine (hp.out x A1 c1 b _ HB.out HI1.out HL1.out HP.out).mono ?_); rintro e w2 ⟨rfl, hb2⟩; refine ⟨_, rfl, ?_⟩; have HB2 := Aside0.mk (below_then HB.out HB.out.size hb2); clear hb2)
      · have hbt : b = true := by assumption
        have hI3 := HI2.out
        rw [if_pos hbt] at hI3
        subst hI3
        go_ret
        exact ⟨rfl, HB2.out⟩
      have hbf : ¬ b = true := by simpa using (show b = false by assumption)
      have hI3 := HI2.out
      rw [if_neg hbf] at hI3
      have HI3 := Aside0.mk hI3
      clear hI3
      go_roundw
      case rel => exact ⟨j + 1, by rw [wrap_succ hlt HM.out], ⟨by omega⟩, ⟨HI3.out⟩, ⟨HB2.out⟩⟩
      case measure => rw [wrap_succ hlt HM.out]; simp only [intOf, Int.toNat_natCast]; omega
    have hlt' : decide ((j : Int) < (l0.length : Int)) = false := by simp; omega
    have hI := HI.out
    rw [List.drop_eq_nil_of_le (by omega)] at hI
    simp only [idxF, Option.some.injEq] at hI
    subst hI
    go_wp2
    go_ret
    exact ⟨rfl, HB.out⟩
set_option maxRecDepth 100000 in
theorem ContainsFunc_any (g : Nat) (fn : Func) (hf : Try.prog.funcs[g]? = some fn) (hname : (fn.name == "runtime.NumGoroutine") = false) (hbody : fn.body.isSome = true) (caps : Array Value) (p : S32 → Option Bool) (w : World)
    (hp : Aside0 (∀ (x : S32) (A1 : Option Addr) (c1 : Nat) (b : Bool) (W : World), Below w.heap.size w W → Kd.C k78 W A1 x.f1.length x.f1 → x.f1.length ≤ c1 → p x = some b →
      Calls Try.prog g (#[.agg #[.bool x.f0, .slice A1 x.f1.length c1, .string x.f2]] ++ caps) W fun e W' => e = .returned (.bool b) ∧ Below W.heap.size W W'))
    (A0 : Option Addr) (c0 : Nat) (l0 : List S32) (r : Bool) (hr0 : Kd.C k32 w A0 l0.length l0) (hc0 : l0.length ≤ c0) (h : (idxF p l0 0).map (fun i => decide (i ≥ 0)) = some r) :
    Calls Try.prog 38 #[.slice A0 l0.length c0, .func (.func g) #[] caps] w fun e w' => e = .returned (.bool r) ∧ Below w.heap.size w w' := by
  obtain ⟨i, hi, hr⟩ := Option.map_eq_some_iff.mp h
  have HR0 := Aside0.mk hr0
  have HC0 := Aside0.mk hc0
  have H := Aside0.mk hi
  have HE := Aside0.mk hr
  clear hr0 h hi hc0 hr
  go_enter Try.func38, Try.ntmps38
  go_wp2_with (go_at_call 73; (with_reducible refine (IndexFunc_any g fn hf hname hbody caps p _ hp A0 c0 l0 i HR0.out HC0.out H.out).mono ?_); rintro e w2 ⟨rfl, hb2⟩; have HB2 := Aside0.mk hb2; clear hb2)
  go_ret
  exact ⟨by rw [← HE.out]; rfl, HB2.out⟩
set_option maxRecDepth 100000 in
theorem ContainsFuncSub_any (g : Nat) (fn : Func) (hf : Try.prog.funcs[g]? = some fn) (hname : (fn.name == "runtime.NumGoroutine") = false) (hbody : fn.body.isSome = true) (caps : Array Value) (p : S81 → Option Bool) (w : World)
    (hp : Aside0 (∀ (x : S81) (A1 : Option Addr) (c1 : Nat) (b : Bool) (W : World), Below w.heap.size w W → Kd.C k32 W A1 x.f1.length x.f1 → x.f1.length ≤ c1 → p x = some b →
      Calls Try.prog g (#[.agg #[.int .i64 x.f0, .slice A1 x.f1.length c1]] ++ caps) W fun e W' => e = .returned (.bool b) ∧ Below W.heap.size W W'))
    (A0 : Option Addr) (c0 : Nat) (l0 : List S81) (r : Bool) (hr0 : Kd.C k81 w A0 l0.length l0) (hc0 : l0.length ≤ c0) (h : (idxF p l0 0).map (fun i => decide (i ≥ 0)) = some r) :
    Calls Try.prog 101 #[.slice A0 l0.length c0, .func (.func g) #[] caps] w fun e w' => e = .returned (.bool r) ∧ Below w.heap.size w w' := by
  obtain ⟨i, hi, hr⟩ := Option.map_eq_some_iff.mp h
  have HR0 := Aside0.mk hr0
  have HC0 := Aside0.mk hc0
  have H := Aside0.mk hi
  have HE := Aside0.mk hr
  clear hr0 h hi hc0 hr
  go_enter Try.func101, Try.ntmps101
  go_wp2_with (go_at_call 113; (with_reducible refine (IndexFuncSub_any g fn hf hname hbody caps p _ hp A0 c0 l0 i HR0.out HC0.out H.out).mono ?_); rintro e w2 ⟨rfl, hb2⟩; have HB2 := Aside0.mk hb2; clear hb2)
  go_ret
  exact ⟨by rw [← HE.out]; rfl, HB2.out⟩
def IndexFunc_end.f (k : Nat) (l0 : List S32) : Option Int := idxF (fun x => subprogram_Split_1.f k x.f0 x.f1 x.f2) l0 0
theorem IndexFunc_end.calls (k : Nat) (A0 : Option Addr) (c0 : Nat) (l0 : List S32) (r : Int) (w : World) (hr0 : Kd.C k32 w A0 l0.length l0) (hc0 : l0.length ≤ c0) (h : IndexFunc_end.f k l0 = some r) :
    Calls Try.prog 73 #[.slice A0 l0.length c0, .func (.func 75) #[] #[]] w fun e w' => e = .returned (.int .i64 r) ∧ Below w.heap.size w w' :=
  IndexFunc_any 75 _ Try.func75 (by kernel_rfl) rfl #[] (fun x => subprogram_Split_1.f k x.f0 x.f1 x.f2) w ⟨fun x A1 c1 b W _ hk hc hb => subprogram_Split_1.calls k x.f0 A1 c1 x.f1 x.f2 b W hk hc hb⟩ A0 c0 l0 r hr0 hc0 h
def IndexFunc_back.f (k : Nat) (l0 : List S32) : Option Int := idxF (fun x => subprogram_Split_2.f k x.f0 x.f1 x.f2) l0 0
theorem IndexFunc_back.calls (k : Nat) (A0 : Option Addr) (c0 : Nat) (l0 : List S32) (r : Int) (w : World) (hr0 : Kd.C k32 w A0 l0.length l0) (hc0 : l0.length ≤ c0) (h : IndexFunc_back.f k l0 = some r) :
    Calls Try.prog 73 #[.slice A0 l0.length c0, .func (.func 77) #[] #[]] w fun e w' => e = .returned (.int .i64 r) ∧ Below w.heap.size w w' :=
  IndexFunc_any 77 _ Try.func77 (by kernel_rfl) rfl #[] (fun x => subprogram_Split_2.f k x.f0 x.f1 x.f2) w ⟨fun x A1 c1 b W _ hk hc hb => subprogram_Split_2.calls k x.f0 A1 c1 x.f1 x.f2 b W hk hc hb⟩ A0 c0 l0 r hr0 hc0 h
def ContainsFunc_marked.f (k : Nat) (l0 : List S32) : Option Bool := (idxF (fun x => subprogram_marked.f k x.f0 x.f1 x.f2) l0 0).map (fun i => decide (i ≥ 0))
theorem ContainsFunc_marked.calls (k : Nat) (A0 : Option Addr) (c0 : Nat) (l0 : List S32) (r : Bool) (w : World) (hr0 : Kd.C k32 w A0 l0.length l0) (hc0 : l0.length ≤ c0) (h : ContainsFunc_marked.f k l0 = some r) :
    Calls Try.prog 38 #[.slice A0 l0.length c0, .func (.func 100) #[] #[]] w fun e w' => e = .returned (.bool r) ∧ Below w.heap.size w w' :=
  ContainsFunc_any 100 _ Try.func100 (by kernel_rfl) rfl #[] (fun x => subprogram_marked.f k x.f0 x.f1 x.f2) w ⟨fun x A1 c1 b W _ hk hc hb => subprogram_marked.calls k x.f0 A1 c1 x.f1 x.f2 b W hk hc hb⟩ A0 c0 l0 r hr0 hc0 h
end Go.Proofs.Ytehkhbnhmehobaa.P
namespace Go.Proofs.Ytehkhbnhmehobaa.P
open Go.RowKit Go.Proofs.YtehkhbnhmehobaaW.PrintWords Go.Proofs.YtehkhbnhmehobaaW.PrintLast Go.Proofs.YtehkhbnhmehobaaW.PrintMore
attribute [local go_sem] max2_int min2_int max_two min_two max_three min_three max_four min_four
set_option linter.unusedVariables false
set_option linter.unusedSimpArgs false
def subprogram_ordered_1.f (k : Nat) (a0_0 : Int) (l0_1 : List (S32)) : Option (Bool) := (ContainsFunc_marked.f k l0_1).bind fun t995 => (some t995)
set_option maxHeartbeats 8000000 in
set_option maxRecDepth 100000 in
theorem subprogram_ordered_1.calls (k : Nat) (a0_0 : Int) (A0_1 : Option Addr) (c0_1 : Nat) (l0_1 : List (S32)) (r : Bool) (w : World) (hr0_1 : Kd.C k32 w A0_1 l0_1.length l0_1) (hc0_1 : l0_1.length ≤ c0_1) (h : subprogram_ordered_1.f k a0_0 l0_1 = some r) :
  Calls Try.prog 102 #[.agg #[.int .i64 a0_0, .slice A0_1 l0_1.length c0_1]] w fun e w' => e = .returned (.bool r) ∧ Below w.heap.size w w' := by
 have hu81 := Try.underlying81
 have HR0_1 := Aside0.mk hr0_1
 have HC0_1 := Aside0.mk hc0_1
 clear hr0_1 hc0_1
 have HB := Aside0.mk (Below.refl w.heap.size w)
 have H : ((ContainsFunc_marked.f k l0_1).bind fun t995 => (some t995)) = some r := h
 clear h
 replace H := Option.bind_eq_some_iff.mp H
 obtain ⟨t995, A20, H⟩ := H
 have A2 := Aside0.mk A20
 clear A20
 obtain rfl := Option.some.inj H
 go_enter Try.func102, Try.ntmps102
 go_wp2_with (first | ((with_reducible refine gate_dst (N := 1) rfl ?_); refine yX 1 #[.int .i64 a0_0, .slice A0_1 l0_1.length c0_1] 81 ?_; intro gb994 hg w3 hbox hb; have BK994 := Aside0.mk (hbox); have GE994 := Aside0.mk ((yG hg : w.heap.size ≤ gb994)); replace HB := Aside0.mk (below_step yB hb); clear hb hbox hg; have hcz4_0 := yZ0 BK994.out; have hcz4_1 := yZ1 BK994.out; have hfz4_0 := blk_frozen BK994.out 0; have hfz4_1 := blk_frozen BK994.out 1) | ((with_reducible refine gate_callee (f := 38) rfl ?_); refine goesL_ (some 5) rfl rfl Try.func38 (by kernel_rfl) rfl #[.slice A0_1 l0_1.length c0_1, .func (.func 100) #[] #[]] rfl yQ ?_; (with_reducible refine (ContainsFunc_marked.calls k _ _ l0_1  t995 _ ?side1 ?side2 A2.out).mono ?_); (case side1 => exact yC HR0_1.out); (case side2 => exact HC0_1.out); rintro e w5 ⟨rfl, hb⟩; refine ⟨_, rfl, ?_⟩; replace BK994 := Aside0.mk (blk_below (g := gb994) yK hb); replace HB := Aside0.mk (below_step yB hb); (try clear hb)))
 go_ret
 exact ⟨yE, yB⟩
end Go.Proofs.Ytehkhbnhmehobaa.P
namespace Go.Proofs.Ytehkhbnhmehobaa.P
open Go.RowKit Go.Proofs.YtehkhbnhmehobaaW.PrintWords Go.Proofs.YtehkhbnhmehobaaW.PrintLast Go.Proofs.YtehkhbnhmehobaaW.PrintMore
set_option linter.unusedVariables false
def ContainsFunc_ordered.f (k : Nat) (l0 : List S81) : Option Bool := (idxF (fun x => subprogram_ordered_1.f k x.f0 x.f1) l0 0).map (fun i => decide (i ≥ 0))
theorem ContainsFunc_ordered.calls (k : Nat) (A0 : Option Addr) (c0 : Nat) (l0 : List S81) (r : Bool) (w : World) (hr0 : Kd.C k81 w A0 l0.length l0) (hc0 : l0.length ≤ c0) (h : ContainsFunc_ordered.f k l0 = some r) :
    Calls Try.prog 101 #[.slice A0 l0.length c0, .func (.func 102) #[] #[]] w fun e w' => e = .returned (.bool r) ∧ Below w.heap.size w w' :=
  ContainsFuncSub_any 102 _ Try.func102 (by kernel_rfl) rfl #[] (fun x => subprogram_ordered_1.f k x.f0 x.f1) w ⟨fun x A1 c1 b W _ hk hc hb => subprogram_ordered_1.calls k x.f0 A1 c1 x.f1 b W hk hc hb⟩ A0 c0 l0 r hr0 hc0 h
end Go.Proofs.Ytehkhbnhmehobaa.P
namespace Go.Proofs.Ytehkhbnhmehobaa.P
open Go.RowKit Go.Proofs.YtehkhbnhmehobaaW.PrintWords Go.Proofs.YtehkhbnhmehobaaW.PrintLast Go.Proofs.YtehkhbnhmehobaaW.PrintMore
attribute [local go_sem] max2_int min2_int max_two min_two max_three min_three max_four min_four
set_option linter.unusedVariables false
set_option linter.unusedSimpArgs false
def subprogram_ordered.f (k : Nat) (l0_0 : List (S32)) (l0_1 : List (S81)) : Option (Bool) := if (wrap64 ((l0_0.length : Int) - 1)) < 0 then (some false) else (if 0 ≤ (wrap64 ((l0_0.length : Int) - 1)) then (if (wrap64 ((l0_0.length : Int) - 1)) < (l0_0.length : Int) then ((subprogram_has.f k ((rd_T32 l0_0 (wrap64 ((l0_0.length : Int) - 1))).f0) ((rd_T32 l0_0 (wrap64 ((l0_0.length : Int) - 1))).f1) ((rd_T32 l0_0 (wrap64 ((l0_0.length : Int) - 1))).f2) 77 30000).bind fun t380 => (if t380 = true then ((block_Codes.f k ((rd_T32 l0_0 (wrap64 ((l0_0.length : Int) - 1))).f0) ((rd_T32 l0_0 (wrap64 ((l0_0.length : Int) - 1))).f1) ((rd_T32 l0_0 (wrap64 ((l0_0.length : Int) - 1))).f2) 79).bind fun t382 => (if (t382.length : Int) > 0 then (some false) else ((subprogram_has.f k ((rd_T32 l0_0 (wrap64 ((l0_0.length : Int) - 1))).f0) ((rd_T32 l0_0 (wrap64 ((l0_0.length : Int) - 1))).f1) ((rd_T32 l0_0 (wrap64 ((l0_0.length : Int) - 1))).f2) 77 99000).bind fun t386 => (if t386 = true then (some false) else (if (wrap64 ((l0_0.length : Int) - 1)) ≤ (l0_0.length : Int) then ((ContainsFunc_marked.f k (l0_0.take ((wrap64 ((l0_0.length : Int) - 1)) : Int).toNat)).bind fun t391 => (if t391 = true then (some false) else ((ContainsFunc_ordered.f k l0_1).bind fun t392 => (some (!t392))))) else (none)))))) else (some false))) else (none)) else (none))
set_option maxHeartbeats 8000000 in
set_option maxRecDepth 100000 in
theorem subprogram_ordered.calls (k : Nat) (A0_0 : Option Addr) (c0_0 : Nat) (l0_0 : List (S32)) (A0_1 : Option Addr) (c0_1 : Nat) (l0_1 : List (S81)) (r : Bool) (w : World) (hr0_0 : Kd.C k32 w A0_0 l0_0.length l0_0) (hc0_0 : l0_0.length ≤ c0_0) (hr0_1 : Kd.C k81 w A0_1 l0_1.length l0_1) (hc0_1 : l0_1.length ≤ c0_1) (h : subprogram_ordered.f k l0_0 l0_1 = some r) :
  Calls Try.prog 79 #[.agg #[.slice A0_0 l0_0.length c0_0, .slice A0_1 l0_1.length c0_1]] w fun e w' => e = .returned (.bool r) ∧ Below w.heap.size w w' := by
 have hu54 := Try.underlying54
 have hu32 := Try.underlying32
 have HR0_0 := Aside0.mk hr0_0
 have HC0_0 := Aside0.mk hc0_0
 clear hr0_0 hc0_0
 have HR0_1 := Aside0.mk hr0_1
 have HC0_1 := Aside0.mk hc0_1
 clear hr0_1 hc0_1
 have HB := Aside0.mk (Below.refl w.heap.size w)
 have H : (if (wrap64 ((l0_0.length : Int) - 1)) < 0 then (some false) else (if 0 ≤ (wrap64 ((l0_0.length : Int) - 1)) then (if (wrap64 ((l0_0.length : Int) - 1)) < (l0_0.length : Int) then ((subprogram_has.f k ((rd_T32 l0_0 (wrap64 ((l0_0.length : Int) - 1))).f0) ((rd_T32 l0_0 (wrap64 ((l0_0.length : Int) - 1))).f1) ((rd_T32 l0_0 (wrap64 ((l0_0.length : Int) - 1))).f2) 77 30000).bind fun t380 => (if t380 = true then ((block_Codes.f k ((rd_T32 l0_0 (wrap64 ((l0_0.length : Int) - 1))).f0) ((rd_T32 l0_0 (wrap64 ((l0_0.length : Int) - 1))).f1) ((rd_T32 l0_0 (wrap64 ((l0_0.length : Int) - 1))).f2) 79).bind fun t382 => (if (t382.length : Int) > 0 then (some false) else ((subprogram_has.f k ((rd_T32 l0_0 (wrap64 ((l0_0.length : Int) - 1))).f0) ((rd_T32 l0_0 (wrap64 ((l0_0.length : Int) - 1))).f1) ((rd_T32 l0_0 (wrap64 ((l0_0.length : Int) - 1))).f2) 77 99000).bind fun t386 => (if t386 = true then (some false) else (if (wrap64 ((l0_0.length : Int) - 1)) ≤ (l0_0.length : Int) then ((ContainsFunc_marked.f k (l0_0.take ((wrap64 ((l0_0.length : Int) - 1)) : Int).toNat)).bind fun t391 => (if t391 = true then (some false) else ((ContainsFunc_ordered.f k l0_1).bind fun t392 => (some (!t392))))) else (none)))))) else (some false))) else (none)) else (none))) = some r := h
 clear h
 by_cases c2 : (wrap64 ((l0_0.length : Int) - 1)) < 0
 ·rw [if_pos c2] at H
  have c2b0 := decide_eq_true c2
  clear c2
  obtain rfl := Option.some.inj H
  go_enter Try.func79, Try.ntmps79
  go_wp2_with (first | ((with_reducible refine gate_dst (N := 1) rfl ?_); (try (refine gate_guard (by rfl) ?_; dsimp only)); refine yX 1 #[.slice A0_0 l0_0.length c0_0, .slice A0_1 l0_1.length c0_1] 54 ?_; intro gb378 hg w3 hbox hb; have BK378 := Aside0.mk (hbox); have GW378 := Aside0.mk ((yG hg : w.heap.size ≤ gb378)); have GE378 := Aside0.mk ((yG hg : w.heap.size ≤ gb378)); replace HB := Aside0.mk (below_step yB hb); clear hb hbox hg; have hcz4_0 := yZ0 BK378.out; have hcz4_1 := yZ1 BK378.out; have hfz4_0 := blk_frozen BK378.out 0; have hfz4_1 := blk_frozen BK378.out 1))
  go_ret
  exact ⟨yE, yB⟩
 rw [if_neg c2] at H
 have c2b0 := decide_eq_false c2
 clear c2
 obtain ⟨ji5, hji5⟩ : ∃ j_ : Int, (wrap64 ((l0_0.length : Int) - 1)) = j_ := ⟨_, rfl⟩
 replace H : (if 0 ≤ (ji5) then (if (ji5) < (l0_0.length : Int) then ((subprogram_has.f k ((rd_T32 l0_0 (ji5)).f0) ((rd_T32 l0_0 (ji5)).f1) ((rd_T32 l0_0 (ji5)).f2) 77 30000).bind fun t380 => (if t380 = true then ((block_Codes.f k ((rd_T32 l0_0 (ji5)).f0) ((rd_T32 l0_0 (ji5)).f1) ((rd_T32 l0_0 (ji5)).f2) 79).bind fun t382 => (if (t382.length : Int) > 0 then (some false) else ((subprogram_has.f k ((rd_T32 l0_0 (ji5)).f0) ((rd_T32 l0_0 (ji5)).f1) ((rd_T32 l0_0 (ji5)).f2) 77 99000).bind fun t386 => (if t386 = true then (some false) else (if (ji5) ≤ (l0_0.length : Int) then ((ContainsFunc_marked.f k (l0_0.take ((ji5) : Int).toNat)).bind fun t391 => (if t391 = true then (some false) else ((ContainsFunc_ordered.f k l0_1).bind fun t392 => (some (!t392))))) else (none)))))) else (some false))) else (none)) else (none)) = some r := by first | (rw [hji5] at H; exact H) | (simp only [hji5] at H ⊢; exact H)
 (try rw [hji5] at c2b0)
 have hji5w : (IntKind.i64.wrap ((l0_0.length : Int) - 1)) = ji5 := (i64_w _).trans hji5
 by_cases c6 : 0 ≤ (ji5)
 ·rw [if_pos c6] at H
  have c6b0 := decide_eq_true c6
  clear c6
  by_cases c7 : (ji5) < (l0_0.length : Int)
  ·rw [if_pos c7] at H
   have c7b0 := decide_eq_true c7
   clear c7
   replace H := Option.bind_eq_some_iff.mp H
   obtain ⟨t380, A80, H⟩ := H
   have A8 := Aside0.mk A80
   clear A80
   by_cases c9 : t380 = true
   ·subst c9
    rw [if_pos rfl] at H
    replace H := Option.bind_eq_some_iff.mp H
    obtain ⟨t382, A100, H⟩ := H
    have A10 := Aside0.mk A100
    clear A100
    by_cases c11 : (t382.length : Int) > 0
    ·rw [if_pos c11] at H
     have c11b0 := decide_eq_true c11
     have c11b1 : decide (0 < t382.length) = true := decide_eq_true (by omega)
     clear c11
     obtain rfl := Option.some.inj H
     go_enter Try.func79, Try.ntmps79
     go_wp2_with (first | ((with_reducible refine gate_dst (N := 1) rfl ?_); (try (refine gate_guard (by rfl) ?_; dsimp only)); refine yX 1 #[.slice A0_0 l0_0.length c0_0, .slice A0_1 l0_1.length c0_1] 54 ?_; intro gb378 hg w12 hbox hb; have BK378 := Aside0.mk (hbox); have GW378 := Aside0.mk ((yG hg : w.heap.size ≤ gb378)); have GE378 := Aside0.mk ((yG hg : w.heap.size ≤ gb378)); replace HB := Aside0.mk (below_step yB hb); clear hb hbox hg; have hcz13_0 := yZ0 BK378.out; have hcz13_1 := yZ1 BK378.out; have hfz13_0 := blk_frozen BK378.out 0; have hfz13_1 := blk_frozen BK378.out 1; have p379 : 0 ≤ ((ji5) : Int) := yD; have q379 : (ji5) < (l0_0.length : Int) := yD; obtain ⟨ad379, A379_1, c379_1, e379, hx379_0, hx379_1, hx379_2, hl379_1, hi379_1⟩ := at_T32 HR0_0.out (ji5) p379 q379; cases e379; replace hx379_0 := yM HB.out hx379_0; replace hx379_1 := yM HB.out hx379_1; replace hx379_2 := yM HB.out hx379_2; have HR379_1 := Aside0.mk hi379_1; have HC379_1 := Aside0.mk hl379_1; clear hi379_1 hl379_1; replace p379 := eq_true p379; replace q379 := eq_true q379) | (go_at_call 58; (with_reducible refine (subprogram_has.calls k ((rd_T32 l0_0 (ji5)).f0) _ _ ((rd_T32 l0_0 (ji5)).f1) ((rd_T32 l0_0 (ji5)).f2) 77 30000 true _ ?side1 ?side2 A8.out).mono ?_); (case side1 => exact yC HR379_1.out); (case side2 => exact HC379_1.out); rintro e w14 ⟨rfl, hb⟩; replace BK378 := Aside0.mk (blk_below (g := gb378) yK hb); replace HB := Aside0.mk (below_step yB hb); (try clear hb); have hcz15_0 := yZ0 BK378.out; have hcz15_1 := yZ1 BK378.out; have hfz15_0 := blk_frozen BK378.out 0; have hfz15_1 := blk_frozen BK378.out 1; have p381 : 0 ≤ ((ji5) : Int) := yD; have q381 : (ji5) < (l0_0.length : Int) := yD; obtain ⟨ad381, A381_1, c381_1, e381, hx381_0, hx381_1, hx381_2, hl381_1, hi381_1⟩ := at_T32 HR0_0.out (ji5) p381 q381; obtain rfl : ad379 = ad381 := (by injection e381); replace hx381_0 := yM HB.out hx381_0; replace hx381_1 := yM HB.out hx381_1; replace hx381_2 := yM HB.out hx381_2; have HR381_1 := Aside0.mk hi381_1; have HC381_1 := Aside0.mk hl381_1; clear hi381_1 hl381_1; replace p381 := eq_true p381; replace q381 := eq_true q381) | (go_at_call 93; (with_reducible refine (block_Codes.calls k ((rd_T32 l0_0 (ji5)).f0) _ _ ((rd_T32 l0_0 (ji5)).f1) ((rd_T32 l0_0 (ji5)).f2) 79 t382 _ ?side1 ?side2 A10.out).mono ?_); (case side1 => exact yC HR381_1.out); (case side2 => exact HC381_1.out); rintro e w16 ⟨v383, rfl, ho0, hb⟩; have HO384 := Aside0.mk (Kd.R_lower ho0 (below_size yB)); replace BK378 := Aside0.mk (blk_below (g := gb378) yK hb); replace HB := Aside0.mk (below_step yB hb); (try clear hb); (try clear ho0); obtain ⟨Ao17, co17, eo17⟩ := Kd.R_slice HO384.out; subst eo17))
     go_ret
     exact ⟨by first | rfl | (simp [errW_none, errW_some] <;> rfl) | (simp only [← hji5]; first | rfl | (simp [errW_none, errW_some] <;> rfl)) | (simp [*, errW_none, errW_some] <;> rfl), yB⟩
    rw [if_neg c11] at H
    have c11b0 := decide_eq_false c11
    have c11b1 : decide (0 < t382.length) = false := decide_eq_false (by omega)
    clear c11
    replace H := Option.bind_eq_some_iff.mp H
    obtain ⟨t386, A180, H⟩ := H
    have A18 := Aside0.mk A180
    clear A180
    by_cases c19 : t386 = true
    ·subst c19
     rw [if_pos rfl] at H
     obtain rfl := Option.some.inj H
     go_enter Try.func79, Try.ntmps79
     go_wp2_with (first | ((with_reducible refine gate_dst (N := 1) rfl ?_); (try (refine gate_guard (by rfl) ?_; dsimp only)); refine yX 1 #[.slice A0_0 l0_0.length c0_0, .slice A0_1 l0_1.length c0_1] 54 ?_; intro gb378 hg w20 hbox hb; have BK378 := Aside0.mk (hbox); have GW378 := Aside0.mk ((yG hg : w.heap.size ≤ gb378)); have GE378 := Aside0.mk ((yG hg : w.heap.size ≤ gb378)); replace HB := Aside0.mk (below_step yB hb); clear hb hbox hg; have hcz21_0 := yZ0 BK378.out; have hcz21_1 := yZ1 BK378.out; have hfz21_0 := blk_frozen BK378.out 0; have hfz21_1 := blk_frozen BK378.out 1; have p379 : 0 ≤ ((ji5) : Int) := yD; have q379 : (ji5) < (l0_0.length : Int) := yD; obtain ⟨ad379, A379_1, c379_1, e379, hx379_0, hx379_1, hx379_2, hl379_1, hi379_1⟩ := at_T32 HR0_0.out (ji5) p379 q379; cases e379; replace hx379_0 := yM HB.out hx379_0; replace hx379_1 := yM HB.out hx379_1; replace hx379_2 := yM HB.out hx379_2; have HR379_1 := Aside0.mk hi379_1; have HC379_1 := Aside0.mk hl379_1; clear hi379_1 hl379_1; replace p379 := eq_true p379; replace q379 := eq_true q379) | (go_at_call 58; (with_reducible refine (subprogram_has.calls k ((rd_T32 l0_0 (ji5)).f0) _ _ ((rd_T32 l0_0 (ji5)).f1) ((rd_T32 l0_0 (ji5)).f2) 77 30000 true _ ?side1 ?side2 A8.out).mono ?_); (case side1 => exact yC HR379_1.out); (case side2 => exact HC379_1.out); rintro e w22 ⟨rfl, hb⟩; replace BK378 := Aside0.mk (blk_below (g := gb378) yK hb); replace HB := Aside0.mk (below_step yB hb); (try clear hb); have hcz23_0 := yZ0 BK378.out; have hcz23_1 := yZ1 BK378.out; have hfz23_0 := blk_frozen BK378.out 0; have hfz23_1 := blk_frozen BK378.out 1; have p381 : 0 ≤ ((ji5) : Int) := yD; have q381 : (ji5) < (l0_0.length : Int) := yD; obtain ⟨ad381, A381_1, c381_1, e381, hx381_0, hx381_1, hx381_2, hl381_1, hi381_1⟩ := at_T32 HR0_0.out (ji5) p381 q381; obtain rfl : ad379 = ad381 := (by injection e381); replace hx381_0 := yM HB.out hx381_0; replace hx381_1 := yM HB.out hx381_1; replace hx381_2 := yM HB.out hx381_2; have HR381_1 := Aside0.mk hi381_1; have HC381_1 := Aside0.mk hl381_1; clear hi381_1 hl381_1; replace p381 := eq_true p381; replace q381 := eq_true q381) | (go_at_call 93; (with_reducible refine (block_Codes.calls k ((rd_T32 l0_0 (ji5)).f0) _ _ ((rd_T32 l0_0 (ji5)).f1) ((rd_T32 l0_0 (ji5)).f2) 79 t382 _ ?side1 ?side2 A10.out).mono ?_); (case side1 => exact yC HR381_1.out); (case side2 => exact HC381_1.out); rintro e w24 ⟨v383, rfl, ho0, hb⟩; have HO384 := Aside0.mk (Kd.R_lower ho0 (below_size yB)); replace BK378 := Aside0.mk (blk_below (g := gb378) yK hb); replace HB := Aside0.mk (below_step yB hb); (try clear hb); (try clear ho0); obtain ⟨Ao25, co25, eo25⟩ := Kd.R_slice HO384.out; subst eo25; have hcz26_0 := yZ0 BK378.out; have hcz26_1 := yZ1 BK378.out; have hfz26_0 := blk_frozen BK378.out 0; have hfz26_1 := blk_frozen BK378.out 1; have p385 : 0 ≤ ((ji5) : Int) := yD; have q385 : (ji5) < (l0_0.length : Int) := yD; obtain ⟨ad385, A385_1, c385_1, e385, hx385_0, hx385_1, hx385_2, hl385_1, hi385_1⟩ := at_T32 HR0_0.out (ji5) p385 q385; obtain rfl : ad379 = ad385 := (by injection e385); replace hx385_0 := yM HB.out hx385_0; replace hx385_1 := yM HB.out hx385_1; replace hx385_2 := yM HB.out hx385_2; have HR385_1 := Aside0.mk hi385_1; have HC385_1 := Aside0.mk hl385_1; clear hi385_1 hl385_1; replace p385 := eq_true p385; replace q385 := eq_true q385) | (go_at_call 58; (with_reducible refine (subprogram_has.calls k ((rd_T32 l0_0 (ji5)).f0) _ _ ((rd_T32 l0_0 (ji5)).f1) ((rd_T32 l0_0 (ji5)).f2) 77 99000 true _ ?side1 ?side2 A18.out).mono ?_); (case side1 => exact yC HR385_1.out); (case side2 => exact HC385_1.out); rintro e w27 ⟨rfl, hb⟩; replace HO384 := Aside0.mk (Kd.R_below (yR HO384.out) hb); replace BK378 := Aside0.mk (blk_below (g := gb378) yK hb); replace HB := Aside0.mk (below_step yB hb); (try clear hb)))
     go_ret
     exact ⟨by first | rfl | (simp [errW_none, errW_some] <;> rfl) | (simp only [← hji5]; first | rfl | (simp [errW_none, errW_some] <;> rfl)) | (simp [*, errW_none, errW_some] <;> rfl), yB⟩
    replace c19 := Bool.eq_false_iff.mpr c19
    subst c19
    replace H : (if (ji5) ≤ (l0_0.length : Int) then ((ContainsFunc_marked.f k (l0_0.take ((ji5) : Int).toNat)).bind fun t391 => (if t391 = true then (some false) else ((ContainsFunc_ordered.f k l0_1).bind fun t392 => (some (!t392))))) else (none)) = some r := by rw [if_neg (show ¬ (false = true) by decide)] at H; exact H
    have c28b0 := eq_true (yD : 0 ≤ (ji5))
    by_cases c29 : (ji5) ≤ (l0_0.length : Int)
    ·rw [if_pos c29] at H
     have c29b0 := eq_true c29
     have c29b1 := decide_eq_true c29
     clear c29
     obtain ⟨y387, hy387⟩ : ∃ y_ : List (S32), y_ = (l0_0.take ((ji5) : Int).toNat) := ⟨_, rfl⟩
     replace H : ((ContainsFunc_marked.f k y387).bind fun t391 => (if t391 = true then (some false) else ((ContainsFunc_ordered.f k l0_1).bind fun t392 => (some (!t392))))) = some r := by first | (rw [hy387]; with_reducible exact H) | (have H2_ := (Option.bind_some _ _).symm.trans H; rw [hy387]; with_reducible exact H2_) | (have H2_ := (Option.bind_some _ _).symm.trans H; with_reducible exact H2_) | with_reducible exact H | (rw [hy387]; exact H) | exact H
     have Ny387 := Aside0.mk hy387
     clear hy387
     replace H := Option.bind_eq_some_iff.mp H
     obtain ⟨t391, A300, H⟩ := H
     have A30 := Aside0.mk A300
     clear A300
     by_cases c31 : t391 = true
     ·subst c31
      rw [if_pos rfl] at H
      obtain rfl := Option.some.inj H
      go_enter Try.func79, Try.ntmps79
      go_wp2_with (first | ((with_reducible refine gate_dst (N := 1) rfl ?_); (try (refine gate_guard (by rfl) ?_; dsimp only)); refine yX 1 #[.slice A0_0 l0_0.length c0_0, .slice A0_1 l0_1.length c0_1] 54 ?_; intro gb378 hg w32 hbox hb; have BK378 := Aside0.mk (hbox); have GW378 := Aside0.mk ((yG hg : w.heap.size ≤ gb378)); have GE378 := Aside0.mk ((yG hg : w.heap.size ≤ gb378)); replace HB := Aside0.mk (below_step yB hb); clear hb hbox hg; have hcz33_0 := yZ0 BK378.out; have hcz33_1 := yZ1 BK378.out; have hfz33_0 := blk_frozen BK378.out 0; have hfz33_1 := blk_frozen BK378.out 1; have p379 : 0 ≤ ((ji5) : Int) := yD; have q379 : (ji5) < (l0_0.length : Int) := yD; obtain ⟨ad379, A379_1, c379_1, e379, hx379_0, hx379_1, hx379_2, hl379_1, hi379_1⟩ := at_T32 HR0_0.out (ji5) p379 q379; cases e379; replace hx379_0 := yM HB.out hx379_0; replace hx379_1 := yM HB.out hx379_1; replace hx379_2 := yM HB.out hx379_2; have HR379_1 := Aside0.mk hi379_1; have HC379_1 := Aside0.mk hl379_1; clear hi379_1 hl379_1; replace p379 := eq_true p379; replace q379 := eq_true q379) | (go_at_call 58; (with_reducible refine (subprogram_has.calls k ((rd_T32 l0_0 (ji5)).f0) _ _ ((rd_T32 l0_0 (ji5)).f1) ((rd_T32 l0_0 (ji5)).f2) 77 30000 true _ ?side1 ?side2 A8.out).mono ?_); (case side1 => exact yC HR379_1.out); (case side2 => exact HC379_1.out); rintro e w34 ⟨rfl, hb⟩; replace BK378 := Aside0.mk (blk_below (g := gb378) yK hb); replace HB := Aside0.mk (below_step yB hb); (try clear hb); have hcz35_0 := yZ0 BK378.out; have hcz35_1 := yZ1 BK378.out; have hfz35_0 := blk_frozen BK378.out 0; have hfz35_1 := blk_frozen BK378.out 1; have p381 : 0 ≤ ((ji5) : Int) := yD; have q381 : (ji5) < (l0_0.length : Int) := yD; obtain ⟨ad381, A381_1, c381_1, e381, hx381_0, hx381_1, hx381_2, hl381_1, hi381_1⟩ := at_T32 HR0_0.out (ji5) p381 q381; obtain rfl : ad379 = ad381 := (by injection e381); replace hx381_0 := yM HB.out hx381_0; replace hx381_1 := yM HB.out hx381_1; replace hx381_2 := yM HB.out hx381_2; have HR381_1 := Aside0.mk hi381_1; have HC381_1 := Aside0.mk hl381_1; clear hi381_1 hl381_1; replace p381 := eq_true p381; replace q381 := eq_true q381) | (go_at_call 93; (with_reducible refine (block_Codes.calls k ((rd_T32 l0_0 (ji5)).f0) _ _ ((rd_T32 l0_0 (ji5)).f1) ((rd_T32 l0_0 (ji5)).f2) 79 t382 _ ?side1 ?side2 A10.out).mono ?_); (case side1 => exact yC HR381_1.out); (case side2 => exact HC381_1.out); rintro e w36 ⟨v383, rfl, ho0, hb⟩; have HO384 := Aside0.mk (Kd.R_lower ho0 (below_size yB)); replace BK378 := Aside0.mk (blk_below (g := gb378) yK hb); replace HB := Aside0.mk (below_step yB hb); (try clear hb); (try clear ho0); obtain ⟨Ao37, co37, eo37⟩ := Kd.R_slice HO384.out; subst eo37; have hcz38_0 := yZ0 BK378.out; have hcz38_1 := yZ1 BK378.out; have hfz38_0 := blk_frozen BK378.out 0; have hfz38_1 := blk_frozen BK378.out 1; have p385 : 0 ≤ ((ji5) : Int) := yD; have q385 : (ji5) < (l0_0.length : Int) := yD; obtain ⟨ad385, A385_1, c385_1, e385, hx385_0, hx385_1, hx385_2, hl385_1, hi385_1⟩ := at_T32 HR0_0.out (ji5) p385 q385; obtain rfl : ad379 = ad385 := (by injection e385); replace hx385_0 := yM HB.out hx385_0; replace hx385_1 := yM HB.out hx385_1; replace hx385_2 := yM HB.out hx385_2; have HR385_1 := Aside0.mk hi385_1; have HC385_1 := Aside0.mk hl385_1; clear hi385_1 hl385_1; replace p385 := eq_true p385; replace q385 := eq_true q385) | (go_at_call 58; (with_reducible refine (subprogram_has.calls k ((rd_T32 l0_0 (ji5)).f0) _ _ ((rd_T32 l0_0 (ji5)).f1) ((rd_T32 l0_0 (ji5)).f2) 77 99000 false _ ?side1 ?side2 A18.out).mono ?_); (case side1 => exact yC HR385_1.out); (case side2 => exact HC385_1.out); rintro e w39 ⟨rfl, hb⟩; replace HO384 := Aside0.mk (Kd.R_below (yR HO384.out) hb); replace BK378 := Aside0.mk (blk_below (g := gb378) yK hb); replace HB := Aside0.mk (below_step yB hb); (try clear hb); have hcz40_0 := yZ0 BK378.out; have hcz40_1 := yZ1 BK378.out; have hfz40_0 := blk_frozen BK378.out 0; have hfz40_1 := blk_frozen BK378.out 1; have q41 : ((ji5) : Int) ≤ ((l0_0.length : Int) : Int) := yD; obtain ⟨i041, hi041, _, hsz41, _⟩ := info_parts info32; have hroom41 : l0_0.length ≤ c0_0 := HC0_0.out; have hC41 : Kd.C k32 _ (some ad379) l0_0.length l0_0 := HR0_0.out; have hcut41 := cut_to (P := Try.prog) 35 32 .i64 Try.underlying35 hi041 (some ad379) l0_0.length c0_0 (ji5) (yD) q41 hroom41; have hr41 := Kd.C_take (m := ((ji5) : Int).toNat) hC41 (by omega); have hy41 : y387.length = ((ji5) : Int).toNat := (by rw [Ny387.out, List.length_take]; omega); rw [← Ny387.out] at hr41; rw [← hy41] at hcut41; have HR390 := Aside0.mk hr41; have HC390 := Aside0.mk (show y387.length ≤ c0_0 from by omega); clear hr41 hC41 hroom41 hi041 hsz41; have KY41 := Aside0.mk hy41; clear hy41; replace q41 := eq_true q41) | (go_at_call 38; (with_reducible refine (ContainsFunc_marked.calls k _ _ y387  true _ ?side1 ?side2 A30.out).mono ?_); (case side1 => exact yC HR390.out); (case side2 => exact HC390.out); rintro e w42 ⟨rfl, hb⟩; replace HO384 := Aside0.mk (Kd.R_below (yR HO384.out) hb); replace BK378 := Aside0.mk (blk_below (g := gb378) yK hb); replace HB := Aside0.mk (below_step yB hb); (try clear hb)))
      go_ret
      exact ⟨by first | rfl | (simp [errW_none, errW_some] <;> rfl) | (simp only [← hji5]; first | rfl | (simp [errW_none, errW_some] <;> rfl)) | (simp [*, errW_none, errW_some] <;> rfl), yB⟩
     replace c31 := Bool.eq_false_iff.mpr c31
     subst c31
     replace H : ((ContainsFunc_ordered.f k l0_1).bind fun t392 => (some (!t392))) = some r := by rw [if_neg (show ¬ (false = true) by decide)] at H; exact H
     replace H := Option.bind_eq_some_iff.mp H
     obtain ⟨t392, A430, H⟩ := H
     have A43 := Aside0.mk A430
     clear A430
     obtain rfl := Option.some.inj H
     go_enter Try.func79, Try.ntmps79
     go_wp2_with (first | ((with_reducible refine gate_dst (N := 1) rfl ?_); (try (refine gate_guard (by rfl) ?_; dsimp only)); refine yX 1 #[.slice A0_0 l0_0.length c0_0, .slice A0_1 l0_1.length c0_1] 54 ?_; intro gb378 hg w44 hbox hb; have BK378 := Aside0.mk (hbox); have GW378 := Aside0.mk ((yG hg : w.heap.size ≤ gb378)); have GE378 := Aside0.mk ((yG hg : w.heap.size ≤ gb378)); replace HB := Aside0.mk (below_step yB hb); clear hb hbox hg; have hcz45_0 := yZ0 BK378.out; have hcz45_1 := yZ1 BK378.out; have hfz45_0 := blk_frozen BK378.out 0; have hfz45_1 := blk_frozen BK378.out 1; have p379 : 0 ≤ ((ji5) : Int) := yD; have q379 : (ji5) < (l0_0.length : Int) := yD; obtain ⟨ad379, A379_1, c379_1, e379, hx379_0, hx379_1, hx379_2, hl379_1, hi379_1⟩ := at_T32 HR0_0.out (ji5) p379 q379; cases e379; replace hx379_0 := yM HB.out hx379_0; replace hx379_1 := yM HB.out hx379_1; replace hx379_2 := yM HB.out hx379_2; have HR379_1 := Aside0.mk hi379_1; have HC379_1 := Aside0.mk hl379_1; clear hi379_1 hl379_1; replace p379 := eq_true p379; replace q379 := eq_true q379) | (go_at_call 58; (with_reducible refine (subprogram_has.calls k ((rd_T32 l0_0 (ji5)).f0) _ _ ((rd_T32 l0_0 (ji5)).f1) ((rd_T32 l0_0 (ji5)).f2) 77 30000 true _ ?side1 ?side2 A8.out).mono ?_); (case side1 => exact yC HR379_1.out); (case side2 => exact HC379_1.out); rintro e w46 ⟨rfl, hb⟩; replace BK378 := Aside0.mk (blk_below (g := gb378) yK hb); replace HB := Aside0.mk (below_step yB hb); (try clear hb); have hcz47_0 := yZ0 BK378.out; have hcz47_1 := yZ1 BK378.out; have hfz47_0 := blk_frozen BK378.out 0; have hfz47_1 := blk_frozen BK378.out 1; have p381 : 0 ≤ ((ji5) : Int) := yD; have q381 : (ji5) < (l0_0.length : Int) := yD; obtain ⟨ad381, A381_1, c381_1, e381, hx381_0, hx381_1, hx381_2, hl381_1, hi381_1⟩ := at_T32 HR0_0.out (ji5) p381 q381; obtain rfl : ad379 = ad381 := (by injection e381); replace hx381_0 := yM HB.out hx381_0; replace hx381_1 := yM HB.out hx381_1; replace hx381_2 := yM HB.out hx381_2; have HR381_1 := Aside0.mk hi381_1; have HC381_1 := Aside0.mk hl381_1; clear hi381_1 hl381_1; replace p381 := eq_true p381; replace q381 := eq_true q381) | (go_at_call 93; (with_reducible refine (block_Codes.calls k ((rd_T32 l0_0 (ji5)).f0) _ _ ((rd_T32 l0_0 (ji5)).f1) ((rd_T32 l0_0 (ji5)).f2) 79 t382 _ ?side1 ?side2 A10.out).mono ?_); (case side1 => exact yC HR381_1.out); (case side2 => exact HC381_1.out); rintro e w48 ⟨v383, rfl, ho0, hb⟩; have HO384 := Aside0.mk (Kd.R_lower ho0 (below_size yB)); replace BK378 := Aside0.mk (blk_below (g := gb378) yK hb); replace HB := Aside0.mk (below_step yB hb); (try clear hb); (try clear ho0); obtain ⟨Ao49, co49, eo49⟩ := Kd.R_slice HO384.out; subst eo49; have hcz50_0 := yZ0 BK378.out; have hcz50_1 := yZ1 BK378.out; have hfz50_0 := blk_frozen BK378.out 0; have hfz50_1 := blk_frozen BK378.out 1; have p385 : 0 ≤ ((ji5) : Int) := yD; have q385 : (ji5) < (l0_0.length : Int) := yD; obtain ⟨ad385, A385_1, c385_1, e385, hx385_0, hx385_1, hx385_2, hl385_1, hi385_1⟩ := at_T32 HR0_0.out (ji5) p385 q385; obtain rfl : ad379 = ad385 := (by injection e385); replace hx385_0 := yM HB.out hx385_0; replace hx385_1 := yM HB.out hx385_1; replace hx385_2 := yM HB.out hx385_2; have HR385_1 := Aside0.mk hi385_1; have HC385_1 := Aside0.mk hl385_1; clear hi385_1 hl385_1; replace p385 := eq_true p385; replace q385 := eq_true q385) | (go_at_call 58; (with_reducible refine (subprogram_has.calls k ((rd_T32 l0_0 (ji5)).f0) _ _ ((rd_T32 l0_0 (ji5)).f1) ((rd_T32 l0_0 (ji5)).f2) 77 99000 false _ ?side1 ?side2 A18.out).mono ?_); (case side1 => exact yC HR385_1.out); (case side2 => exact HC385_1.out); rintro e w51 ⟨rfl, hb⟩; replace HO384 := Aside0.mk (Kd.R_below (yR HO384.out) hb); replace BK378 := Aside0.mk (blk_below (g := gb378) yK hb); replace HB := Aside0.mk (below_step yB hb); (try clear hb); have hcz52_0 := yZ0 BK378.out; have hcz52_1 := yZ1 BK378.out; have hfz52_0 := blk_frozen BK378.out 0; have hfz52_1 := blk_frozen BK378.out 1; have q53 : ((ji5) : Int) ≤ ((l0_0.length : Int) : Int) := yD; obtain ⟨i053, hi053, _, hsz53, _⟩ := info_parts info32; have hroom53 : l0_0.length ≤ c0_0 := HC0_0.out; have hC53 : Kd.C k32 _ (some ad379) l0_0.length l0_0 := HR0_0.out; have hcut53 := cut_to (P := Try.prog) 35 32 .i64 Try.underlying35 hi053 (some ad379) l0_0.length c0_0 (ji5) (yD) q53 hroom53; have hr53 := Kd.C_take (m := ((ji5) : Int).toNat) hC53 (by omega); have hy53 : y387.length = ((ji5) : Int).toNat := (by rw [Ny387.out, List.length_take]; omega); rw [← Ny387.out] at hr53; rw [← hy53] at hcut53; have HR390 := Aside0.mk hr53; have HC390 := Aside0.mk (show y387.length ≤ c0_0 from by omega); clear hr53 hC53 hroom53 hi053 hsz53; have KY53 := Aside0.mk hy53; clear hy53; replace q53 := eq_true q53) | (go_at_call 38; (with_reducible refine (ContainsFunc_marked.calls k _ _ y387  false _ ?side1 ?side2 A30.out).mono ?_); (case side1 => exact yC HR390.out); (case side2 => exact HC390.out); rintro e w54 ⟨rfl, hb⟩; replace HO384 := Aside0.mk (Kd.R_below (yR HO384.out) hb); replace BK378 := Aside0.mk (blk_below (g := gb378) yK hb); replace HB := Aside0.mk (below_step yB hb); (try clear hb); have hcz55_0 := yZ0 BK378.out; have hcz55_1 := yZ1 BK378.out; have hfz55_0 := blk_frozen BK378.out 0; have hfz55_1 := blk_frozen BK378.out 1) | ((with_reducible refine gate_callee (f := 101) rfl ?_); refine goesL_ (some 46) rfl rfl Try.func101 (by kernel_rfl) rfl #[.slice A0_1 l0_1.length c0_1, .func (.func 102) #[] #[]] rfl yQ ?_; (with_reducible refine (ContainsFunc_ordered.calls k _ _ l0_1  t392 _ ?side1 ?side2 A43.out).mono ?_); (case side1 => exact yC HR0_1.out); (case side2 => exact HC0_1.out); rintro e w56 ⟨rfl, hb⟩; refine ⟨_, rfl, ?_⟩; replace HO384 := Aside0.mk (Kd.R_below (yR HO384.out) hb); replace BK378 := Aside0.mk (blk_below (g := gb378) yK hb); replace HB := Aside0.mk (below_step yB hb); (try clear hb)))
     go_ret
     exact ⟨by first | rfl | (simp [errW_none, errW_some] <;> rfl) | (simp only [← hji5]; first | rfl | (simp [errW_none, errW_some] <;> rfl)) | (simp [*, errW_none, errW_some] <;> rfl), yB⟩
    rw [if_neg c29] at H
    exact absurd H (by simp)
   replace c9 := Bool.eq_false_iff.mpr c9
   subst c9
   replace H : (some false) = some r := by rw [if_neg (show ¬ (false = true) by decide)] at H; exact H
   obtain rfl := Option.some.inj H
   go_enter Try.func79, Try.ntmps79
   go_wp2_with (first | ((with_reducible refine gate_dst (N := 1) rfl ?_); (try (refine gate_guard (by rfl) ?_; dsimp only)); refine yX 1 #[.slice A0_0 l0_0.length c0_0, .slice A0_1 l0_1.length c0_1] 54 ?_; intro gb378 hg w57 hbox hb; have BK378 := Aside0.mk (hbox); have GW378 := Aside0.mk ((yG hg : w.heap.size ≤ gb378)); have GE378 := Aside0.mk ((yG hg : w.heap.size ≤ gb378)); replace HB := Aside0.mk (below_step yB hb); clear hb hbox hg; have hcz58_0 := yZ0 BK378.out; have hcz58_1 := yZ1 BK378.out; have hfz58_0 := blk_frozen BK378.out 0; have hfz58_1 := blk_frozen BK378.out 1; have p379 : 0 ≤ ((ji5) : Int) := yD; have q379 : (ji5) < (l0_0.length : Int) := yD; obtain ⟨ad379, A379_1, c379_1, e379, hx379_0, hx379_1, hx379_2, hl379_1, hi379_1⟩ := at_T32 HR0_0.out (ji5) p379 q379; cases e379; replace hx379_0 := yM HB.out hx379_0; replace hx379_1 := yM HB.out hx379_1; replace hx379_2 := yM HB.out hx379_2; have HR379_1 := Aside0.mk hi379_1; have HC379_1 := Aside0.mk hl379_1; clear hi379_1 hl379_1; replace p379 := eq_true p379; replace q379 := eq_true q379) | (go_at_call 58; (with_reducible refine (subprogram_has.calls k ((rd_T32 l0_0 (ji5)).f0) _ _ ((rd_T32 l0_0 (ji5)).f1) ((rd_T32 l0_0 (ji5)).f2) 77 30000 false _ ?side1 ?side2 A8.out).mono ?_); (case side1 => exact yC HR379_1.out); (case side2 => exact HC379_1.out); rintro e w59 ⟨rfl, hb⟩; replace BK378 := Aside0.mk (blk_below (g := gb378) yK hb); replace HB := Aside0.mk (below_step yB hb); (try clear hb)))
   go_ret
   exact ⟨by first | rfl | (simp [errW_none, errW_some] <;> rfl) | (simp only [← hji5]; first | rfl | (simp [errW_none, errW_some] <;> rfl)) | (simp [*, errW_none, errW_some] <;> rfl), yB⟩
  rw [if_neg c7] at H
  exact absurd H (by simp)
 rw [if_neg c6] at H
 exact absurd H (by simp)
end Go.Proofs.Ytehkhbnhmehobaa.P
namespace Go.Proofs.Ytehkhbnhmehobaa.P
open Go.RowKit Go.Proofs.YtehkhbnhmehobaaW.PrintWords Go.Proofs.YtehkhbnhmehobaaW.PrintLast Go.Proofs.YtehkhbnhmehobaaW.PrintMore
set_option linter.unusedVariables false
set_option linter.unusedSimpArgs false
def repL : List S81 → List S81 → Bool
  | _, [] => false
  | p, x :: l => if p.any (fun y => x.f0 == y.f0) = true then true else repL (p ++ [x]) l
def subprogram_repeated.f (l0 : List (S81)) : Option (Bool) := some (repL [] l0)
theorem idx_any (n : Int) : ∀ (l : List S81) (i : Int), 0 ≤ i → (idxF (fun y => some (n == y.f0)) l i).map (fun i => decide (i ≥ 0)) = some (l.any (fun y => n == y.f0))
  | [], i, _ => rfl
  | x :: l, i, hi => by
    simp only [idxF, Option.bind_some, List.any_cons]
    cases h : (n == x.f0) with
    | true => simp [hi]
    | false =>
      simp only [Bool.false_eq_true, if_false, Bool.false_or]
      exact idx_any n l (i + 1) (by omega)
theorem alloc_at2 (w : World) (o : Obj) : (w.alloc o).heap[w.heap.size]? = some o := by
  show (w.heap.push o)[w.heap.size]? = _
  simp
set_option maxHeartbeats 1000000 in
set_option maxRecDepth 100000 in
theorem repeated_closure (x y : S81) (v : Value) (g : Nat) (A1 : Option Addr) (c1 : Nat) (w : World) (hbox : w.heap[g]? = some (.cells #[.int .i64 x.f0, v] 81 (0, 0))) :
    Calls Try.prog 103 (#[.agg #[.int .i64 y.f0, .slice A1 y.f1.length c1]] ++ #[.pointer (some ⟨g, 0, none⟩)]) w fun e w' => e = .returned (.bool (x.f0 == y.f0)) ∧ Below w.heap.size w w' := by
  have hu1 := Try.underlying81
  have hcz0 : w.cell? ⟨g, 0, none⟩ = some (.int .i64 x.f0) := (blk_cell hbox 0).trans rfl
  have BK := Aside0.mk hbox
  clear hbox
  show Calls Try.prog 103 #[.agg #[.int .i64 y.f0, .slice A1 y.f1.length c1], .pointer (some ⟨g, 0, none⟩)] w _
  go_enter Try.func103, Try.ntmps103
  go_wp2_with ((with_reducible refine gate_dst (N := 2) rfl ?_); refine yX 2 #[.int .i64 y.f0, .slice A1 y.f1.length c1] 81 ?_; intro gb hg w1 hbox hb; have HB := Aside0.mk hb; have BKt := Aside0.mk (blk_below BK.out hb); have hx0 : w1.cell? ⟨gb, 0, none⟩ = some (.int .i64 y.f0) := (blk_cell hbox 0).trans rfl; have hx1 : w1.cell? ⟨g, 0, none⟩ = some (.int .i64 x.f0) := (blk_cell BKt.out 0).trans rfl; clear hb hbox hg hcz0)
  go_ret
  exact ⟨rfl, HB.out⟩
theorem repL_step {l : List S81} {j : Nat} (h : j < l.length) : repL (l.take j) (l.drop j) = if (l.take j).any (fun y => l[j].f0 == y.f0) = true then true else repL (l.take (j + 1)) (l.drop (j + 1)) := by
  rw [List.drop_eq_getElem_cons h, repL, List.take_succ_eq_append_getElem h]
set_option maxHeartbeats 2000000 in
set_option maxRecDepth 100000 in
theorem subprogram_repeated.calls (A0 : Option Addr) (c0 : Nat) (l0 : List (S81)) (r : Bool) (w : World) (hr0 : Kd.C k81 w A0 l0.length l0) (hc0 : l0.length ≤ c0) (h : subprogram_repeated.f l0 = some r) :
    Calls Try.prog 80 #[.slice A0 l0.length c0] w fun e w' => e = .returned (.bool r) ∧ Below w.heap.size w w' := by
  have H := Aside0.mk (Option.some.inj h)
  have hu81 := Try.underlying81
  have HR := Aside0.mk hr0
  have HC := Aside0.mk hc0
  have HM := Aside0.mk (Kd.C_max hr0)
  clear hr0 h hc0
  go_enter Try.func80, Try.ntmps80
  go_wp2
  go_loopw [7] (fun i w' => ∃ j : Nat, i = .int .i64 j ∧ Aside0 (j ≤ l0.length) ∧ Aside0 (repL (l0.take j) (l0.drop j) = r) ∧ Aside0 (Below w.heap.size w w')) (fun i _ => l0.length - (intOf i).toNat)
  case atStart => exact ⟨0, rfl, ⟨Nat.zero_le _⟩, ⟨H.out⟩, ⟨Below.refl _ _⟩⟩
  case round =>
    obtain ⟨j, rfl, HJ, HI, HB⟩ := hrel
    by_cases hlt : j < l0.length
    · obtain ⟨ad, A1, c1, e, hx0, hx1, hl1, hk1⟩ := at_T81 (Kd.C_below HR.out HB.out) (j : Int) (by omega) (by omega)
      cases e
      have hrd : rd_T81 l0 (j : Int) = l0[j] := by simp [rd_T81, hlt]
      rw [hrd] at hx0 hx1 hl1 hk1
      have HI2 := Aside0.mk ((repL_step hlt).symm.trans HI.out)
      have HTK := Aside0.mk (show Kd.C k81 wr (some ad) (l0.take j).length (l0.take j) from Kd.C_take (Kd.C_below HR.out HB.out) (m := j) (by omega))
      have HLT := Aside0.mk (show (l0.take j).length = j from by rw [List.length_take, Nat.min_eq_left (by omega)])
      clear hrd
      generalize l0[j] = x at *
      generalize l0.take j = pj at *
      simp only [Int.toNat_natCast] at hx0 hx1
      have hlt' : decide ((j : Int) < (l0.length : Int)) = true := by simp; omega
      have hj0 : (0 : Int) ≤ (j : Int) := by omega
      have hj1 : j ≤ l0.length := by omega
      have hj2 : j ≤ c0 := by have := HC.out; omega
      have CF : ∀ (W : World), W.heap[wr.heap.size]? = some (.cells #[.int .i64 x.f0, .slice A1 x.f1.length c1] 81 (0, 0)) → Below wr.heap.size wr W → Calls Try.prog 101 #[.slice (some ad) j c0, .func (.func 103) #[] #[.pointer (some ⟨wr.heap.size, 0, none⟩)]] W fun e w' => e = .returned (.bool (pj.any (fun y => x.f0 == y.f0))) ∧ Below W.heap.size W w' := by
        intro W hW hb
        have := ContainsFuncSub_any 103 _ Try.func103 (by kernel_rfl) rfl #[.pointer (some ⟨wr.heap.size, 0, none⟩)] (fun y => some (x.f0 == y.f0)) W ⟨fun y A2 c2 b W2 hb2 _ _ he => by obtain rfl := Option.some.inj he; exact repeated_closure x y _ wr.heap.size A2 c2 W2 (blk_below hW hb2)⟩ (some ad) c0 pj _ (Kd.C_below HTK.out hb) (by rw [HLT.out]; exact hj2) (idx_any x.f0 pj 0 (Int.le_refl 0))
        rw [HLT.out] at this
        exact this
      have CF := Aside0.mk CF
      cases ca : pj.any (fun y => x.f0 == y.f0) with
      | true =>
        have HI3 := HI2.out
        rw [if_pos ca] at HI3
        subst HI3
        rw [ca] at CF
        go_wp2_with (go_at_call 101; (with_reducible refine (CF.out _ (alloc_at2 wr _) (below_alloc (Below.refl _ _) _)).mono ?_); rintro e w4 ⟨rfl, hb4⟩; have HB4 := Aside0.mk (below_then (below_alloc HB.out _) (Nat.le_trans HB.out.size (below_alloc (Below.refl _ _) _).size) hb4); clear hb4)
        go_ret
        exact ⟨rfl, HB4.out⟩
      | false =>
        have HI3 := HI2.out
        rw [if_neg (by rw [ca]; decide)] at HI3
        have HI3 := Aside0.mk HI3
        rw [ca] at CF
        go_wp2_with (go_at_call 101; (with_reducible refine (CF.out _ (alloc_at2 wr _) (below_alloc (Below.refl _ _) _)).mono ?_); rintro e w4 ⟨rfl, hb4⟩; have HB4 := Aside0.mk (below_then (below_alloc HB.out _) (Nat.le_trans HB.out.size (below_alloc (Below.refl _ _) _).size) hb4); clear hb4)
        go_roundw
        case rel => exact ⟨j + 1, by rw [wrap_succ hlt HM.out], ⟨by omega⟩, ⟨HI3.out⟩, ⟨HB4.out⟩⟩
        case measure => rw [wrap_succ hlt HM.out]; simp only [intOf, Int.toNat_natCast]; omega
    have hlt' : decide ((j : Int) < (l0.length : Int)) = false := by simp; omega
    have hI := HI.out
    rw [List.drop_eq_nil_of_le (by omega), repL] at hI
    subst hI
    go_wp2
    go_ret
    exact ⟨rfl, HB.out⟩
end Go.Proofs.Ytehkhbnhmehobaa.P
namespace Go.Proofs.Ytehkhbnhmehobaa.P
open Go.RowKit Go.Proofs.YtehkhbnhmehobaaW.PrintWords Go.Proofs.YtehkhbnhmehobaaW.PrintLast Go.Proofs.YtehkhbnhmehobaaW.PrintMore
attribute [local go_sem] max2_int min2_int max_two min_two max_three min_three max_four min_four
set_option linter.unusedVariables false
set_option linter.unusedSimpArgs false
def subprogram_proper.l0 : Nat → List (S81) → Int → Int → List (S32) → List (S81) → Option (Bool)
 | 0, _, _, _, _, _ => none
 | k + 1, x6, x7, x8, x394000, x394001 => if x8 < x7 then (if 0 ≤ x8 then (if x8 < (x6.length : Int) then (if ((rd_T81 x6 x8).f0) < 1 then (some false) else (if ((rd_T81 x6 x8).f0) > 9999 then (some false) else (subprogram_proper.l0 k x6 x7 (wrap64 (x8 + 1)) x394000 x394001))) else (none)) else (none)) else ((subprogram_ordered.f k x394000 x394001).bind fun t396 => (if t396 = true then ((subprogram_repeated.f x394001).bind fun t397 => (some (!t397))) else (some false)))
def subprogram_proper.f (k : Nat) (l0_0 : List (S32)) (l0_1 : List (S81)) : Option (Bool) := subprogram_proper.l0 k l0_1 (l0_1.length : Int) 0 l0_0 l0_1
set_option maxHeartbeats 8000000 in
set_option maxRecDepth 100000 in
theorem subprogram_proper.calls (k : Nat) (A0_0 : Option Addr) (c0_0 : Nat) (l0_0 : List (S32)) (A0_1 : Option Addr) (c0_1 : Nat) (l0_1 : List (S81)) (r : Bool) (w : World) (hr0_0 : Kd.C k32 w A0_0 l0_0.length l0_0) (hc0_0 : l0_0.length ≤ c0_0) (hr0_1 : Kd.C k81 w A0_1 l0_1.length l0_1) (hc0_1 : l0_1.length ≤ c0_1) (h : subprogram_proper.f k l0_0 l0_1 = some r) :
  Calls Try.prog 110 #[.agg #[.slice A0_0 l0_0.length c0_0, .slice A0_1 l0_1.length c0_1]] w fun e w' => e = .returned (.bool r) ∧ Below w.heap.size w w' := by
 have hu54 := Try.underlying54
 have hu81 := Try.underlying81
 have HR0_0 := Aside0.mk hr0_0
 have HC0_0 := Aside0.mk hc0_0
 clear hr0_0 hc0_0
 have HR0_1 := Aside0.mk hr0_1
 have HC0_1 := Aside0.mk hc0_1
 clear hr0_1 hc0_1
 have HB := Aside0.mk (Below.refl w.heap.size w)
 have H : (subprogram_proper.l0 k l0_1 (l0_1.length : Int) 0 l0_0 l0_1) = some r := h
 clear h
 have H' := Aside0.mk H
 clear H
 go_enter Try.func110, Try.ntmps110
 go_wp2_with (first | ((with_reducible refine gate_dst (N := 1) rfl ?_); refine yX 1 #[.slice A0_0 l0_0.length c0_0, .slice A0_1 l0_1.length c0_1] 54 ?_; intro gb393 hg w2 hbox hb; have BK393 := Aside0.mk (hbox); have GE393 := Aside0.mk ((yG hg : w.heap.size ≤ gb393)); replace HB := Aside0.mk (below_step yB hb); clear hb hbox hg; have hcz3_0 := yZ0 BK393.out; have hcz3_1 := yZ1 BK393.out; have hfz3_0 := blk_frozen BK393.out 0; have hfz3_1 := blk_frozen BK393.out 1))
 go_loopg [8] k (fun kq v8 w' => ∃ (x8_1 : Int), v8 = .int .i64 x8_1 ∧ Aside0 (subprogram_proper.l0 kq l0_1 (l0_1.length : Int) x8_1 l0_0 l0_1 = some r) ∧ Aside0 (kq ≤ k) ∧ Aside0 (w'.heap[gb393]? = some (.cells #[(.slice A0_0 l0_0.length c0_0), (.slice A0_1 l0_1.length c0_1)] 54 (0, 0))) ∧ Aside0 (Below w.heap.size w w'))
 case atStart => exact ⟨(0), yS, H', ⟨Nat.le_refl _⟩, ⟨by refine yH ?_; exact BK393.out⟩, ⟨yB⟩⟩
 case round =>
  clear H'
  try clear c1
  try clear p2
  try clear hcz3_0
  try clear hcz3_1
  try clear hfz3_0
  try clear hfz3_1
  obtain ⟨x8_1, rfl, HA, HK1, BK393, HB⟩ := hrel
  cases gk with
  | zero => exact absurd HA.out (by simp [subprogram_proper.l0])
  | succ k1 =>
   have H := HA.out
   clear HA
   simp only [subprogram_proper.l0] at H
   by_cases c4 : x8_1 < (l0_1.length : Int)
   ·rw [if_pos c4] at H
    have c4b0 := decide_eq_true c4
    clear c4
    by_cases c5 : 0 ≤ x8_1
    ·rw [if_pos c5] at H
     have c5b0 := decide_eq_true c5
     clear c5
     by_cases c6 : x8_1 < (l0_1.length : Int)
     ·rw [if_pos c6] at H
      have c6b0 := decide_eq_true c6
      clear c6
      by_cases c7 : ((rd_T81 l0_1 x8_1).f0) < 1
      ·rw [if_pos c7] at H
       have c7b0 := decide_eq_true c7
       clear c7
       obtain rfl := Option.some.inj H
       have p394 : 0 ≤ (x8_1 : Int) := yD
       have q394 : x8_1 < (l0_1.length : Int) := yD
       obtain ⟨ad394, A394_1, c394_1, e394, hx394_0, hx394_1, hl394_1, hi394_1⟩ := at_T81 HR0_1.out x8_1 p394 q394
       cases e394
       replace hx394_0 := yM HB.out hx394_0
       replace hx394_1 := yM HB.out hx394_1
       have HR394_1 := Aside0.mk hi394_1
       have HC394_1 := Aside0.mk hl394_1
       clear hi394_1 hl394_1
       replace p394 := eq_true p394
       replace q394 := eq_true q394
       go_wp2_with (first | ((with_reducible refine gate_dst (N := 4) rfl ?_); refine yX 4 #[.int .i64 0, .slice none 0 0] 81 ?_; intro gb395 hg w8 hbox hb; have BK395 := Aside0.mk (hbox); have GW395 := Aside0.mk ((yG hg : w.heap.size ≤ gb395)); have GE395 := Aside0.mk ((yG hg : w.heap.size ≤ gb395)); replace HB := Aside0.mk (below_step yB hb); have NB393_395 := Aside0.mk ((yJ hg yK : gb393 ≠ gb395)); have NB395_393 := Aside0.mk ((yI hg yK : gb395 ≠ gb393)); replace BK393 := Aside0.mk (blk_below (g := gb393) yK hb); clear hb hbox hg; have hnb9 := NB395_393.out; have hnc9 := NB393_395.out; have hcz10_0 := yZ0 BK395.out; have hcz10_1 := yZ1 BK395.out; have hfz10_0 := blk_frozen BK395.out 0; have hfz10_1 := blk_frozen BK395.out 1))
       go_ret
       exact ⟨yE, yB⟩
      rw [if_neg c7] at H
      have c7b0 := decide_eq_false c7
      clear c7
      by_cases c11 : ((rd_T81 l0_1 x8_1).f0) > 9999
      ·rw [if_pos c11] at H
       have c11b0 := decide_eq_true c11
       clear c11
       obtain rfl := Option.some.inj H
       have p394 : 0 ≤ (x8_1 : Int) := yD
       have q394 : x8_1 < (l0_1.length : Int) := yD
       obtain ⟨ad394, A394_1, c394_1, e394, hx394_0, hx394_1, hl394_1, hi394_1⟩ := at_T81 HR0_1.out x8_1 p394 q394
       cases e394
       replace hx394_0 := yM HB.out hx394_0
       replace hx394_1 := yM HB.out hx394_1
       have HR394_1 := Aside0.mk hi394_1
       have HC394_1 := Aside0.mk hl394_1
       clear hi394_1 hl394_1
       replace p394 := eq_true p394
       replace q394 := eq_true q394
       go_wp2_with (first | ((with_reducible refine gate_dst (N := 4) rfl ?_); refine yX 4 #[.int .i64 0, .slice none 0 0] 81 ?_; intro gb395 hg w12 hbox hb; have BK395 := Aside0.mk (hbox); have GW395 := Aside0.mk ((yG hg : w.heap.size ≤ gb395)); have GE395 := Aside0.mk ((yG hg : w.heap.size ≤ gb395)); replace HB := Aside0.mk (below_step yB hb); have NB393_395 := Aside0.mk ((yJ hg yK : gb393 ≠ gb395)); have NB395_393 := Aside0.mk ((yI hg yK : gb395 ≠ gb393)); replace BK393 := Aside0.mk (blk_below (g := gb393) yK hb); clear hb hbox hg; have hnb13 := NB395_393.out; have hnc13 := NB393_395.out; have hcz14_0 := yZ0 BK395.out; have hcz14_1 := yZ1 BK395.out; have hfz14_0 := blk_frozen BK395.out 0; have hfz14_1 := blk_frozen BK395.out 1))
       go_ret
       exact ⟨yE, yB⟩
      rw [if_neg c11] at H
      have c11b0 := decide_eq_false c11
      clear c11
      have H' := Aside0.mk H
      clear H
      have p394 : 0 ≤ (x8_1 : Int) := yD
      have q394 : x8_1 < (l0_1.length : Int) := yD
      obtain ⟨ad394, A394_1, c394_1, e394, hx394_0, hx394_1, hl394_1, hi394_1⟩ := at_T81 HR0_1.out x8_1 p394 q394
      cases e394
      replace hx394_0 := yM HB.out hx394_0
      replace hx394_1 := yM HB.out hx394_1
      have HR394_1 := Aside0.mk hi394_1
      have HC394_1 := Aside0.mk hl394_1
      clear hi394_1 hl394_1
      replace p394 := eq_true p394
      replace q394 := eq_true q394
      go_wp2_with (first | ((with_reducible refine gate_dst (N := 4) rfl ?_); refine yX 4 #[.int .i64 0, .slice none 0 0] 81 ?_; intro gb395 hg w15 hbox hb; have BK395 := Aside0.mk (hbox); have GW395 := Aside0.mk ((yG hg : w.heap.size ≤ gb395)); have GE395 := Aside0.mk ((yG hg : w.heap.size ≤ gb395)); replace HB := Aside0.mk (below_step yB hb); have NB393_395 := Aside0.mk ((yJ hg yK : gb393 ≠ gb395)); have NB395_393 := Aside0.mk ((yI hg yK : gb395 ≠ gb393)); replace BK393 := Aside0.mk (blk_below (g := gb393) yK hb); clear hb hbox hg; have hnb16 := NB395_393.out; have hnc16 := NB393_395.out; have hcz17_0 := yZ0 BK395.out; have hcz17_1 := yZ1 BK395.out; have hfz17_0 := blk_frozen BK395.out 0; have hfz17_1 := blk_frozen BK395.out 1))
      go_roundg k1
      case measure => have := HK1.out; omega
      case rel => exact ⟨(wrap64 (x8_1 + 1)), yS, H', ⟨by have := HK1.out; omega⟩, ⟨by refine yH ?_; refine blk_far ?_ NB393_395.out _; refine yH ?_; refine blk_far ?_ NB393_395.out _; refine yH ?_; exact BK393.out⟩, ⟨yB⟩⟩
     rw [if_neg c6] at H
     exact absurd H (by simp)
    rw [if_neg c5] at H
    exact absurd H (by simp)
   rw [if_neg c4] at H
   have c4b0 := decide_eq_false c4
   clear c4
   replace H := Option.bind_eq_some_iff.mp H
   obtain ⟨t396, A180, H⟩ := H
   have A18 := Aside0.mk A180
   clear A180
   by_cases c19 : t396 = true
   ·subst c19
    rw [if_pos rfl] at H
    replace H := Option.bind_eq_some_iff.mp H
    obtain ⟨t397, A200, H⟩ := H
    have A20 := Aside0.mk A200
    clear A200
    obtain rfl := Option.some.inj H
    have hcz21_0 := yZ0 BK393.out
    have hcz21_1 := yZ1 BK393.out
    have hfz21_0 := blk_frozen BK393.out 0
    have hfz21_1 := blk_frozen BK393.out 1
    go_wp2_with (first | ((with_reducible refine gate_callee (f := 79) rfl ?_); refine goesL_ (some 22) rfl rfl Try.func79 (by kernel_rfl) rfl #[.agg #[.slice A0_0 l0_0.length c0_0, .slice A0_1 l0_1.length c0_1]] rfl yQ ?_; (with_reducible refine (subprogram_ordered.calls k1 _ _ l0_0 _ _ l0_1 true _ ?side1 ?side2 ?side3 ?side4 A18.out).mono ?_); (case side1 => exact yC HR0_0.out); (case side2 => exact HC0_0.out); (case side3 => exact yC HR0_1.out); (case side4 => exact HC0_1.out); rintro e w22 ⟨rfl, hb⟩; refine ⟨_, rfl, ?_⟩; replace BK393 := Aside0.mk (blk_below (g := gb393) yK hb); replace HB := Aside0.mk (below_step yB hb); (try clear hb); have hcz23_0 := yZ0 BK393.out; have hcz23_1 := yZ1 BK393.out; have hfz23_0 := blk_frozen BK393.out 0; have hfz23_1 := blk_frozen BK393.out 1) | (go_at_call 80; (with_reducible refine (subprogram_repeated.calls _ _ l0_1 t397 _ ?side1 ?side2 A20.out).mono ?_); (case side1 => exact yC HR0_1.out); (case side2 => exact HC0_1.out); rintro e w24 ⟨rfl, hb⟩; replace BK393 := Aside0.mk (blk_below (g := gb393) yK hb); replace HB := Aside0.mk (below_step yB hb); (try clear hb)))
    go_ret
    exact ⟨yE, yB⟩
   replace c19 := Bool.eq_false_iff.mpr c19
   subst c19
   replace H : (some false) = some r := by rw [if_neg (show ¬ (false = true) by decide)] at H; exact H
   obtain rfl := Option.some.inj H
   have hcz25_0 := yZ0 BK393.out
   have hcz25_1 := yZ1 BK393.out
   have hfz25_0 := blk_frozen BK393.out 0
   have hfz25_1 := blk_frozen BK393.out 1
   go_wp2_with (first | ((with_reducible refine gate_callee (f := 79) rfl ?_); refine goesL_ (some 22) rfl rfl Try.func79 (by kernel_rfl) rfl #[.agg #[.slice A0_0 l0_0.length c0_0, .slice A0_1 l0_1.length c0_1]] rfl yQ ?_; (with_reducible refine (subprogram_ordered.calls k1 _ _ l0_0 _ _ l0_1 false _ ?side1 ?side2 ?side3 ?side4 A18.out).mono ?_); (case side1 => exact yC HR0_0.out); (case side2 => exact HC0_0.out); (case side3 => exact yC HR0_1.out); (case side4 => exact HC0_1.out); rintro e w26 ⟨rfl, hb⟩; refine ⟨_, rfl, ?_⟩; replace BK393 := Aside0.mk (blk_below (g := gb393) yK hb); replace HB := Aside0.mk (below_step yB hb); (try clear hb)))
   go_ret
   exact ⟨yE, yB⟩
end Go.Proofs.Ytehkhbnhmehobaa.P
namespace Go.Proofs.Ytehkhbnhmehobaa.P
open Go.RowKit Go.Proofs.YtehkhbnhmehobaaW.PrintWords Go.Proofs.YtehkhbnhmehobaaW.PrintLast Go.Proofs.YtehkhbnhmehobaaW.PrintMore
set_option linter.unusedVariables false
set_option linter.unusedSimpArgs false
def SubMapO (w0 W : World) (g : Nat) (sb : Int → Option (List S32)) : Prop := ∃ F, MapFew Try.prog 2 .i64 W g F ∧ ∀ y, (F y).isSome = (sb y).isSome ∧ ∃ A c, (F y).getD (.slice none 0 0) = .slice A ((sb y).getD []).length c ∧ ((sb y).getD []).length ≤ c ∧ Kd.C k32 w0 A ((sb y).getD []).length ((sb y).getD [])
theorem SubMapO.sub {w0 W : World} {g : Nat} {sb : Int → Option (List S32)} (h : SubMapO w0 W g sb) : SubMap w0 W g (fun y => (sb y).getD []) := by
  obtain ⟨F, hm, hf⟩ := h
  exact ⟨F, hm, fun y => (hf y).2⟩
def subsO : List S81 → (Int → Option (List S32)) → Int → Option (List S32)
  | [], M => M
  | x :: l, M => subsO l (fun y => if y = x.f0 then some x.f1 else M y)
def foundL (k : Nat) : List S32 → List Int → Option (List Int × Int)
  | [], acc => some (acc, 0)
  | b :: l, acc => (callF k b).bind fun r => if r.2.2.2 = 0 then (if r.2.2.1 = true then (if IN r.1 ∧ acc.length < 1000000 then foundL k l (acc ++ [r.1]) else none) else foundL k l acc) else some (acc, r.2.2.2)
def haveL (sb : Int → Option (List S32)) (l : List Int) : Bool := l.all (fun n => (sb n).isSome)
def measAll (subs : Int → List S32) (k : Nat) : List S81 → St3 → Option (Bool × St3)
  | [], S => some (true, S)
  | x :: l, S => if IN x.f0 then (measF subs k k x.f0 S).bind fun m => if m.1 = true then measAll subs k l m.2 else some (false, m.2) else none
def newF (k : Nat) (mainB : List S32) (subsB : List S81) : Option (Int × (Int → Option (List S32)) × St3) :=
  (subprogram_proper.f k mainB subsB).bind fun p => if p = true then (if (subsB.all (fun x => decide (IN x.f0)) && decide (subsB.length < 1000000)) = true then
    (Concat_Block.f k (mainB :: subsB.map (fun x => x.f1))).bind fun al => (foundL k al []).bind fun fo => if fo.2 = 0 then
      (if haveL (subsO subsB (fun _ => none)) fo.1 = true then (measAll (fun y => ((subsO subsB (fun _ => none)) y).getD []) k subsB (fun _ => 0, fun _ => 0, fun _ => 0)).bind fun m =>
        if m.1 = true then some (0, subsO subsB (fun _ => none), m.2) else some (12, subsO subsB (fun _ => none), m.2)
      else some (4, fun _ => none, (fun _ => 0, fun _ => 0, fun _ => 0)))
    else some (fo.2, fun _ => none, (fun _ => 0, fun _ => 0, fun _ => 0))
  else none) else some (1, fun _ => none, (fun _ => 0, fun _ => 0, fun _ => 0))
abbrev Done := Int → Option (List S32)
def updD (D : Done) (n : Int) (x : List S32) : Done := fun y => if y = n then some x else D y
def rep (t : Int) (x : List S32) : List S32 := (List.replicate t.toNat x).flatten
def expL (kc : Nat) (rec_ : List S32 → Done → Option (List S32 × Done)) (subs : Int → List S32) : List S32 → List S32 → Done → Option (List S32 × Done)
  | [], out, D => some (out, D)
  | b :: l, out, D => (callF kc b).bind fun r => if r.2.2.1 = true then (if IN r.1 then (if IN r.2.1 then
      (match D r.1 with | some x => some (x, D) | none => (rec_ (subs r.1) D).map fun (p : List S32 × Done) => (p.1, updD p.2 r.1 p.1)).bind fun q =>
        if q.1.length = 0 then expL kc rec_ subs l out q.2 else if out.length + r.2.1.toNat * q.1.length ≤ 100000 then expL kc rec_ subs l (out ++ rep r.2.1 q.1) q.2 else none
      else none) else none) else if out.length < 100000 then expL kc rec_ subs l (out ++ [b]) D else none
def expF (kc : Nat) (subs : Int → List S32) : Nat → List S32 → Done → Option (List S32 × Done)
  | 0, _, _ => none
  | k + 1, l, D => expL kc (expF kc subs k) subs l [] D
abbrev VR (W : World) (ok : Nat → Prop) (A : Option Addr) (c : Nat) (l : List S32) : Prop := Kd.V k32 32 W 0 ok (.slice A l.length c) l
def SubMapV (w0 W : World) (g : Nat) (subs : Int → List S32) : Prop := ∃ F, MapFew Try.prog 2 .i64 W g F ∧ ∀ y, ∃ A c, (F y).getD (.slice none 0 0) = .slice A (subs y).length c ∧ VR w0 (fun k => k < w0.heap.size) A c (subs y)
def DoneMap (W : World) (g : Nat) (ok : Nat → Prop) (D : Done) : Prop := ∃ F, MapFew Try.prog 2 .i64 W g F ∧ ∀ y, (F y).isSome = (D y).isSome ∧ ∃ A c, (F y).getD (.slice none 0 0) = .slice A ((D y).getD []).length c ∧ VR W ok A c ((D y).getD [])
structure ExpD (w0 W : World) (gx g0 g1 g2 g3 g4 : Nat) (subs : Int → List S32) (ok : Nat → Prop) (D : Done) : Prop where
  below : Below w0.heap.size w0 W
  exp : ExpIs W gx g0 g1 g2 g3 g4
  sub : SubMapV w0 W g0 subs
  done : DoneMap W g4 ok D
  n04 : g0 ≠ g4
  ge4 : w0.heap.size ≤ g4
  lt4 : g4 < W.heap.size
  ok0 : ∀ k, k < w0.heap.size → ok k
  ok4 : ¬ ok g4
section
variable {w0 W W' : World} {gx g0 g1 g2 g3 g4 : Nat} {subs : Int → List S32} {ok ok' : Nat → Prop} {D : Done} {u v1 : Value}
theorem DoneMap.step {g : Nat} (h : DoneMap W g ok D) (hb : Below W.heap.size W W') : DoneMap W' g ok D := by
  obtain ⟨F, hm, hf⟩ := h
  refine ⟨F, hm.below hb, fun y => ?_⟩
  obtain ⟨h1, A, c, h2, h3⟩ := hf y
  exact ⟨h1, A, c, h2, Kd.V_below h3 hb⟩
theorem DoneMap.mono {g : Nat} (h : DoneMap W g ok D) (hok : ∀ k, ok k → k < W.heap.size → ok' k) : DoneMap W g ok' D := by
  obtain ⟨F, hm, hf⟩ := h
  refine ⟨F, hm, fun y => ?_⟩
  obtain ⟨h1, A, c, h2, h3⟩ := hf y
  exact ⟨h1, A, c, h2, Kd.V_mono (Kd.V_bound h3) (fun k hk => hok k hk.1 hk.2)⟩
theorem ExpD.step (h : ExpD w0 W gx g0 g1 g2 g3 g4 subs ok D) (hb : Below W.heap.size W W') : ExpD w0 W' gx g0 g1 g2 g3 g4 subs ok D :=
  { h with below := below_then h.below h.below.size hb, exp := blk_below h.exp hb, sub := by obtain ⟨F, hm, hf⟩ := h.sub; exact ⟨F, hm.below hb, hf⟩, done := h.done.step hb, lt4 := Nat.lt_of_lt_of_le h.lt4 hb.size }
theorem ExpD.mono (h : ExpD w0 W gx g0 g1 g2 g3 g4 subs ok D) (hok : ∀ k, ok k → k < W.heap.size → ok' k) (h0 : ∀ k, k < w0.heap.size → ok' k) (h4 : ¬ ok' g4) : ExpD w0 W gx g0 g1 g2 g3 g4 subs ok' D :=
  { h with done := h.done.mono hok, ok0 := h0, ok4 := h4 }
theorem ExpD.after (h : ExpD w0 W gx g0 g1 g2 g3 g4 subs (fun k => ok k ∧ some k ≠ u.ownBlock) D) (hb : Below w0.heap.size w0 W') (hg : W.grownBy W' u.ownBlock) (hat : v1.ownBlock = u.ownBlock ∨ ∃ b, v1.ownBlock = some b ∧ W.heap.size ≤ b)
    (hty : ∀ k, u.ownBlock = some k → ∃ cells, W.heap[k]? = some (.cells cells 32 (0, 0))) (hv : ∀ k, v1.ownBlock = some k → w0.heap.size ≤ k) : ExpD w0 W' gx g0 g1 g2 g3 g4 subs (fun k => ok k ∧ some k ≠ v1.ownBlock) D := by
  have hmap : ∀ {g : Nat} {F : Int → Option Value}, MapFew Try.prog 2 .i64 W g F → some g ≠ u.ownBlock := by
    intro g F hm e
    obtain ⟨cells, hc⟩ := hty g e.symm
    obtain ⟨n, hm, _⟩ := hm
    exact hm.ne hc rfl
  have hx : some gx ≠ u.ownBlock := by
    intro e
    obtain ⟨cells, hc⟩ := hty gx e.symm
    have := h.exp
    unfold ExpIs at this
    rw [hc] at this
    injection this with this
    injection this with _ h2 _
    exact absurd h2 (by decide)
  obtain ⟨F, hm, hf⟩ := h.sub
  obtain ⟨F4, hm4, hf4⟩ := h.done
  refine { h with below := hb, exp := (hg.block gx (blk_lt h.exp) hx).trans h.exp, sub := ⟨F, hm.kept hg (hmap hm), hf⟩, done := ⟨F4, hm4.kept hg (hmap hm4), fun y => ?_⟩, lt4 := Nat.lt_of_lt_of_le h.lt4 hg.size, ok0 := fun k hk => ⟨(h.ok0 k hk).1, fun e => ?_⟩, ok4 := fun hk => ?_ }
  · obtain ⟨h1, A, c, h2, h3⟩ := hf4 y
    exact ⟨h1, A, c, h2, Kd.V_after h3 hg hat⟩
  · have := hv k e.symm
    omega
  refine h.ok4 ⟨hk.1, ?_⟩
  exact hmap hm4
theorem DoneMap.put {g : Nat} {F : Int → Option Value} {n : Int} {A : Option Addr} {c : Nat} {x : List S32} (hf : ∀ y, (F y).isSome = (D y).isSome ∧ ∃ A c, (F y).getD (.slice none 0 0) = .slice A ((D y).getD []).length c ∧ VR W ok A c ((D y).getD []))
    (hm : MapFew Try.prog 2 .i64 W' g (fun y => if y = n then some (.slice A x.length c) else F y)) (hx : VR W ok A c x) (hg : W.grownBy W' (some g)) (hok : ¬ ok g) : DoneMap W' g ok (updD D n x) := by
  have hk : ∀ k, ok k → some k ≠ some g := fun k hk e => by injection e with e; subst e; exact hok hk
  refine ⟨_, hm, fun y => ?_⟩
  unfold updD
  by_cases hy : y = n
  · simp only [hy, if_true]
    exact ⟨rfl, A, c, rfl, Kd.V_grown hx hg hk⟩
  simp only [hy, if_false]
  obtain ⟨h1, A', c', h2, h3⟩ := hf y
  exact ⟨h1, A', c', h2, Kd.V_grown h3 hg hk⟩
theorem ExpD.put (h : ExpD w0 W gx g0 g1 g2 g3 g4 subs ok D) {D' : Done} (hg : W.grownBy W' (some g4)) (hd : DoneMap W' g4 ok D') : ExpD w0 W' gx g0 g1 g2 g3 g4 subs ok D' := by
  obtain ⟨F, hm, hf⟩ := h.sub
  obtain ⟨F4, ⟨n4, hm4, _⟩, _⟩ := h.done
  exact { h with below := below_row h.below hg h.ge4, exp := h.exp.kept hg (someNe (fun e => hm4.ne h.exp e.symm)), sub := ⟨F, hm.kept hg (someNe h.n04), hf⟩, done := hd, lt4 := Nat.lt_of_lt_of_le h.lt4 hg.size }
end
theorem keep_trans {w w1 w2 : World} {g : Nat} (h : KeepBut w w1 g none) (k : KeepBut w1 w2 g none) : KeepBut w w2 g none :=
  ⟨Nat.le_trans h.1 k.1, fun i hi hg hr => (k.2 i (Nat.lt_of_lt_of_le hi h.1) hg hr).trans (h.2 i hi hg hr)⟩
theorem keep_below {w w1 w2 : World} {g : Nat} (h : KeepBut w w1 g none) (k : Below w1.heap.size w1 w2) : KeepBut w w2 g none := keep_trans h (KeepBut.of_below k g none)
theorem keep_map {w w1 w2 : World} {g : Nat} (h : KeepBut w w1 g none) (k : w1.grownBy w2 (some g)) : KeepBut w w2 g none :=
  ⟨Nat.le_trans h.1 k.size, fun i hi hg hr => (k.block i (Nat.lt_of_lt_of_le hi h.1) (someNe hg)).trans (h.2 i hi hg hr)⟩
theorem keep_own {w w1 w2 : World} {g : Nat} {u : Value} (h : KeepBut w w1 g none) (k : w1.grownBy w2 u.ownBlock) (hu : ∀ b, u.ownBlock = some b → w.heap.size ≤ b) : KeepBut w w2 g none :=
  ⟨Nat.le_trans h.1 k.size, fun i hi hg hr => (k.block i (Nat.lt_of_lt_of_le hi h.1) (fun e => by have := hu i e.symm; omega)).trans (h.2 i hi hg hr)⟩
theorem fresh_after {w W : World} {u v1 : Value} (hle : w.heap.size ≤ W.heap.size) (hu : ∀ b, u.ownBlock = some b → w.heap.size ≤ b) (hat : v1.ownBlock = u.ownBlock ∨ ∃ b, v1.ownBlock = some b ∧ W.heap.size ≤ b) : ∀ b, v1.ownBlock = some b → w.heap.size ≤ b := by
  intro b hb
  rcases hat with h | ⟨c, h, hc⟩
  · exact hu b (h ▸ hb)
  rw [h] at hb
  injection hb with hb
  omega
theorem infoRows : (Try.prog.info? 35).map (fun i => (i.zero, i.size, i.bytes)) = some (some (.slice none 0 0), 1, 24) := by kernel_rfl
theorem infoI64 : (Try.prog.info? 2).map (fun i => (i.zero, i.size, i.bytes)) = some (some (.int .i64 0), 1, 8) := by kernel_rfl
structure Pre (w W : World) (A0 : Option Addr) (n0 c0 : Nat) (A1 : Option Addr) (n1 c1 : Nat) (gp gx g0 g1 g2 g3 g4 : Nat) (M : Int → Option (List S32)) : Prop where
  below : Below w.heap.size w W
  bp : W.heap[gp]? = some (.cells #[.slice A0 n0 c0, .slice A1 n1 c1] 54 (0, 0))
  exp : ExpIs W gx g0 g1 g2 g3 g4
  sub : SubMapO w W g0 M
  m1 : MapFew Try.prog 2 .i64 W g1 (fun _ => none)
  m2 : MapFew Try.prog 2 .i64 W g2 (fun _ => none)
  m3 : MapFew Try.prog 2 .i64 W g3 (fun _ => none)
  m4 : MapFew Try.prog 2 .i64 W g4 (fun _ => none)
  ge0 : w.heap.size ≤ g0
  l01 : g0 < g1
  l12 : g1 < g2
  l23 : g2 < g3
  l34 : g3 < g4
section
variable {w W W' : World} {A0 : Option Addr} {n0 c0 : Nat} {A1 : Option Addr} {n1 c1 : Nat} {gp gx g0 g1 g2 g3 g4 : Nat} {M : Int → Option (List S32)}
theorem Pre.step (h : Pre w W A0 n0 c0 A1 n1 c1 gp gx g0 g1 g2 g3 g4 M) (hb : Below W.heap.size W W') : Pre w W' A0 n0 c0 A1 n1 c1 gp gx g0 g1 g2 g3 g4 M :=
  { h with below := below_then h.below h.below.size hb, bp := blk_below h.bp hb, exp := blk_below h.exp hb, sub := by obtain ⟨F, hm, hf⟩ := h.sub; exact ⟨F, hm.below hb, hf⟩, m1 := h.m1.below hb, m2 := h.m2.below hb, m3 := h.m3.below hb, m4 := h.m4.below hb }
theorem Pre.put (h : Pre w W A0 n0 c0 A1 n1 c1 gp gx g0 g1 g2 g3 g4 M) {M' : Int → Option (List S32)} (hg : W.grownBy W' (some g0)) (hs : SubMapO w W' g0 M') : Pre w W' A0 n0 c0 A1 n1 c1 gp gx g0 g1 g2 g3 g4 M' := by
  have hmap : ∀ {g : Nat} {cs : Array Value} {t : TypeId}, W.heap[g]? = some (.cells cs t (0, 0)) → some g ≠ some g0 := by
    intro g cs t hc e
    injection e with e
    obtain ⟨F, ⟨n, hm, _⟩, _⟩ := h.sub
    exact hm.ne hc e.symm
  have l01 := h.l01
  have l12 := h.l12
  have l23 := h.l23
  have l34 := h.l34
  exact { h with below := below_row h.below hg h.ge0, bp := (hg.block gp (blk_lt h.bp) (hmap h.bp)).trans h.bp, exp := h.exp.kept hg (hmap h.exp), sub := hs, m1 := h.m1.kept hg (someNe (by omega)), m2 := h.m2.kept hg (someNe (by omega)), m3 := h.m3.kept hg (someNe (by omega)), m4 := h.m4.kept hg (someNe (by omega)) }
theorem Pre.own (h : Pre w W A0 n0 c0 A1 n1 c1 gp gx g0 g1 g2 g3 g4 M) {e : Nat} {u : Value} (he1 : e ≠ 54) (he2 : e ≠ 139) (hb : Below w.heap.size w W') (hg : W.grownBy W' u.ownBlock) (hty : ∀ k, u.ownBlock = some k → ∃ cells, W.heap[k]? = some (.cells cells e (0, 0))) : Pre w W' A0 n0 c0 A1 n1 c1 gp gx g0 g1 g2 g3 g4 M := by
  have hmap : ∀ {g : Nat} {F : Int → Option Value}, MapFew Try.prog 2 .i64 W g F → some g ≠ u.ownBlock := by
    intro g F hm e
    obtain ⟨cells, hc⟩ := hty g e.symm
    obtain ⟨n, hm, _⟩ := hm
    exact hm.ne hc rfl
  have hblk : ∀ {g t : Nat} {cs : Array Value}, W.heap[g]? = some (.cells cs t (0, 0)) → e ≠ t → some g ≠ u.ownBlock := by
    intro g t cs hc hne e
    obtain ⟨cells, hc2⟩ := hty g e.symm
    rw [hc] at hc2
    injection hc2 with hc2
    injection hc2 with _ h2 _
    exact hne h2.symm
  obtain ⟨F, hm, hf⟩ := h.sub
  exact { h with below := hb, bp := (hg.block gp (blk_lt h.bp) (hblk h.bp he1)).trans h.bp, exp := (hg.block gx (blk_lt h.exp) (hblk h.exp he2)).trans h.exp, sub := ⟨F, hm.kept hg (hmap hm), hf⟩, m1 := h.m1.kept hg (hmap h.m1), m2 := h.m2.kept hg (hmap h.m2), m3 := h.m3.kept hg (hmap h.m3), m4 := h.m4.kept hg (hmap h.m4) }
theorem Pre.expW (h : Pre w W A0 n0 c0 A1 n1 c1 gp gx g0 g1 g2 g3 g4 M) : ExpW w W gx g0 g1 g2 g3 g4 (fun y => (M y).getD []) (fun _ => 0, fun _ => 0, fun _ => 0) := by
  have l01 := h.l01
  have l12 := h.l12
  have l23 := h.l23
  have l34 := h.l34
  have ge0 := h.ge0
  exact { below := h.below, exp := h.exp, sub := h.sub.sub, m1 := ⟨_, h.m1, fun _ => rfl⟩, m2 := ⟨_, h.m2, fun _ => rfl⟩, m3 := ⟨_, h.m3, fun _ => rfl⟩, m4 := h.m4, ge1 := by omega, ge2 := by omega, ge3 := by omega, ge4 := by omega, n01 := by omega, n02 := by omega, n03 := by omega, n04 := by omega, n12 := by omega, n13 := by omega, n14 := by omega, n23 := by omega, n24 := by omega, n34 := by omega }
end
theorem subO_put {w W' : World} {g : Nat} {M : Int → Option (List S32)} {F : Int → Option Value} {n : Int} {A : Option Addr} {c : Nat} {x : List S32} (hf : ∀ y, (F y).isSome = (M y).isSome ∧ ∃ A c, (F y).getD (.slice none 0 0) = .slice A ((M y).getD []).length c ∧ ((M y).getD []).length ≤ c ∧ Kd.C k32 w A ((M y).getD []).length ((M y).getD []))
    (hm : MapFew Try.prog 2 .i64 W' g (fun y => if y = n then some (.slice A x.length c) else F y)) (hl : x.length ≤ c) (hC : Kd.C k32 w A x.length x) : SubMapO w W' g (fun y => if y = n then some x else M y) := by
  refine ⟨_, hm, fun y => ?_⟩
  by_cases hy : y = n
  · simp only [hy, if_true]
    exact ⟨rfl, A, c, rfl, hl, hC⟩
  simp only [hy, if_false]
  exact hf y
theorem subsO_snoc (x : S81) : ∀ (l : List S81) (M : Int → Option (List S32)), subsO (l ++ [x]) M = fun y => if y = x.f0 then some x.f1 else subsO l M y
  | [], M => rfl
  | z :: l, M => by
    show subsO (l ++ [x]) _ = _
    rw [subsO_snoc x l]
    rfl
theorem found_step {k : Nat} {l : List S32} {j : Nat} (h : j < l.length) {acc : List Int} {r : List Int × Int} (hr : foundL k (l.drop j) acc = some r) :
    ∃ n t is e, callF k l[j] = some (n, t, is, e) ∧ (e = 0 → is = true → (IN n ∧ acc.length < 1000000) ∧ foundL k (l.drop (j + 1)) (acc ++ [n]) = some r) ∧ (e = 0 → is = false → foundL k (l.drop (j + 1)) acc = some r) ∧ (e ≠ 0 → r = (acc, e)) := by
  rw [List.drop_eq_getElem_cons h, foundL] at hr
  obtain ⟨⟨n, t, is, e⟩, h1, h2⟩ := Option.bind_eq_some_iff.mp hr
  refine ⟨n, t, is, e, h1, fun he hi => ?_, fun he hi => ?_, fun he => ?_⟩
  · subst he; subst hi
    simp only [if_true] at h2
    by_cases hb : IN n ∧ acc.length < 1000000
    · rw [if_pos hb] at h2; exact ⟨hb, h2⟩
    rw [if_neg hb] at h2; cases h2
  · subst he; subst hi
    simpa using h2
  simp only [if_neg he] at h2
  exact (Option.some.inj h2).symm
theorem measAll_step {subs : Int → List S32} {k : Nat} {l : List S81} {j : Nat} (h : j < l.length) {S : St3} {r : Bool × St3} (hr : measAll subs k (l.drop j) S = some r) :
    IN l[j].f0 ∧ ∃ b S2, measF subs k k l[j].f0 S = some (b, S2) ∧ (b = true → measAll subs k (l.drop (j + 1)) S2 = some r) ∧ (b = false → r = (false, S2)) := by
  rw [List.drop_eq_getElem_cons h, measAll] at hr
  by_cases hn : IN l[j].f0
  · rw [if_pos hn] at hr
    obtain ⟨⟨b, S2⟩, h1, h2⟩ := Option.bind_eq_some_iff.mp hr
    refine ⟨hn, b, S2, h1, fun hb => ?_, fun hb => ?_⟩
    · subst hb; simpa using h2
    subst hb; simpa using h2.symm
  rw [if_neg hn] at hr; cases hr
def NewPost (w : World) (er : Int) (M : Int → Option (List S32)) (S : St3) (e : Ending) (w' : World) : Prop := ∃ pp : Option Addr, e = .returned (.tuple #[.pointer pp, .int .i64 er]) ∧ Below w.heap.size w w' ∧ (er = 0 → ∃ gx g0 g1 g2 g3 g4, pp = some ⟨gx, 0, none⟩ ∧ ExpW w w' gx g0 g1 g2 g3 g4 (fun y => (M y).getD []) S)
theorem NewPost.of {w w' : World} {er : Int} {M : Int → Option (List S32)} {S : St3} (pp : Option Addr) (h1 : Below w.heap.size w w') (h2 : er = 0 → ∃ gx g0 g1 g2 g3 g4, pp = some ⟨gx, 0, none⟩ ∧ ExpW w w' gx g0 g1 g2 g3 g4 (fun y => (M y).getD []) S) : NewPost w er M S (.returned (.tuple #[.pointer pp, .int .i64 er])) w' := ⟨pp, rfl, h1, h2⟩
set_option maxHeartbeats 16000000 in
set_option maxRecDepth 100000 in
theorem newExpander_calls (k : Nat) (A0 : Option Addr) (c0 : Nat) (l0 : List S32) (A1 : Option Addr) (c1 : Nat) (l1 : List S81) (er : Int) (M : Int → Option (List S32)) (S : St3) (w : World) (hr0 : Kd.C k32 w A0 l0.length l0) (hc0 : l0.length ≤ c0) (hr1 : Kd.C k81 w A1 l1.length l1) (hc1 : l1.length ≤ c1) (h : newF k l0 l1 = some (er, M, S)) :
    Calls Try.prog 94 #[.agg #[.slice A0 l0.length c0, .slice A1 l1.length c1]] w (NewPost w er M S) := by
  have hu54 := Try.underlying54
  have hu32 := Try.underlying32
  have hu81 := Try.underlying81
  have hu139 := Try.underlying139
  unfold newF at h
  obtain ⟨pb, hp, h2⟩ := Option.bind_eq_some_iff.mp h
  have HR0 := Aside0.mk hr0
  have HC0 := Aside0.mk hc0
  have HR1 := Aside0.mk hr1
  have HC1 := Aside0.mk hc1
  have HM1 := Aside0.mk (Kd.C_max hr1)
  have HPP := Aside0.mk hp
  have H := Aside0.mk h2
  clear hr0 hc0 hr1 hc1 hp h h2
  have HB0 := Aside0.mk (Below.refl w.heap.size w)
  cases pb with
  | false =>
    have H2 := H.out
    simp only [Bool.false_eq_true, if_false, Option.some.injEq, Prod.mk.injEq] at H2
    obtain ⟨rfl, rfl, rfl⟩ := H2
    go_enter Try.func94, Try.ntmps94
    go_wp2_with (first | ((with_reducible refine gate_dst (N := 1) rfl ?_); refine yX 1 #[.slice A0 l0.length c0, .slice A1 l1.length c1] 54 ?_; intro gp hgp w1 hbox hb; have GP := Aside0.mk hgp; have BP1 := Aside0.mk hbox; have HB1 := Aside0.mk hb; clear hgp hbox hb; have hz0_1 : w1.cell? ⟨gp, 0, none⟩ = some (.slice A0 l0.length c0) := (blk_cell BP1.out 0).trans rfl; have hz1_1 : w1.cell? ⟨gp, 1, none⟩ = some (.slice A1 l1.length c1) := (blk_cell BP1.out 1).trans rfl) | (go_at_call 110; (with_reducible refine (subprogram_proper.calls k _ _ l0 _ _ l1 false _ (Kd.C_below HR0.out HB1.out) HC0.out (Kd.C_below HR1.out HB1.out) HC1.out HPP.out).mono ?_); rintro e2 w2 ⟨rfl, hb2⟩; have HB2 := Aside0.mk (below_then HB1.out HB1.out.size hb2); have BP2 := Aside0.mk (blk_below BP1.out hb2); clear hb2 hz0_1 hz1_1 BP1))
    refine bodyPost_ret (results_list (rs := [.tmp 2, .tmp 3]) rfl (by simp) (.tmp (.tmp .nil))) rfl ?_
    exact NewPost.of none HB2.out (fun h => absurd h (by decide))
  | true =>
    have H2 := H.out
    simp only [if_true] at H2
    by_cases hall : (l1.all (fun x => decide (IN x.f0)) && decide (l1.length < 1000000)) = true
    rotate_left
    · rw [if_neg hall] at H2; cases H2
    rw [if_pos hall] at H2
    rw [Bool.and_eq_true] at hall
    have HALL := Aside0.mk (show ∀ x ∈ l1, IN x.f0 from fun x hx => of_decide_eq_true (List.all_eq_true.mp hall.1 x hx))
    have HLL := Aside0.mk (of_decide_eq_true hall.2)
    obtain ⟨al, hal, H2b⟩ := Option.bind_eq_some_iff.mp H2
    obtain ⟨⟨found, fe⟩, hfo, H2c⟩ := Option.bind_eq_some_iff.mp H2b
    have HAL := Aside0.mk hal
    have HFO := Aside0.mk hfo
    have H3 := Aside0.mk H2c
    clear hall hal hfo H2 H2b H2c H
    go_enter Try.func94, Try.ntmps94
    go_wp2_with (first | ((with_reducible refine gate_dst (N := 1) rfl ?_); refine yX 1 #[.slice A0 l0.length c0, .slice A1 l1.length c1] 54 ?_; intro gp hgp w1 hbox hb; have GP := Aside0.mk hgp; have BP1 := Aside0.mk hbox; have HB1 := Aside0.mk hb; clear hgp hbox hb; have hz0_1 : w1.cell? ⟨gp, 0, none⟩ = some (.slice A0 l0.length c0) := (blk_cell BP1.out 0).trans rfl; have hz1_1 : w1.cell? ⟨gp, 1, none⟩ = some (.slice A1 l1.length c1) := (blk_cell BP1.out 1).trans rfl) | (go_at_call 110; (with_reducible refine (subprogram_proper.calls k _ _ l0 _ _ l1 true _ (Kd.C_below HR0.out HB1.out) HC0.out (Kd.C_below HR1.out HB1.out) HC1.out HPP.out).mono ?_); rintro e2 w2 ⟨rfl, hb2⟩; have HB2 := Aside0.mk (below_then HB1.out HB1.out.size hb2); have BP2 := Aside0.mk (blk_below BP1.out hb2); clear hb2 hz0_1 hz1_1 BP1) | ((with_reducible refine gate_dst (N := 24) rfl ?_); refine map_make 24 rfl rfl .i64 2 rfl ?_; intro g0 w3 hgm hm hb; have G0 := Aside0.mk (show w.heap.size ≤ g0 from by rw [hgm]; exact HB2.out.size); have HM0_3 := Aside0.mk (show MapFew Try.prog 2 .i64 w3 g0 (fun _ => none) from ⟨0, hm, Nat.zero_le _⟩); have HB3 := Aside0.mk (below_then HB2.out HB2.out.size hb); have BP3 := Aside0.mk (blk_below BP2.out hb); clear hgm hm hb) | ((with_reducible refine gate_dst (N := 25) rfl ?_); refine map_make 25 rfl rfl .i64 2 rfl ?_; intro g1 w4 hgm hm hb; have HM0_4 := Aside0.mk (HM0_3.out.below hb); have L1 := Aside0.mk (show g0 < g1 from by rw [hgm]; exact HM0_3.out.lt); have HM1_4 := Aside0.mk (show MapFew Try.prog 2 .i64 w4 g1 (fun _ => none) from ⟨0, hm, Nat.zero_le _⟩); have HB4 := Aside0.mk (below_then HB3.out HB3.out.size hb); have BP4 := Aside0.mk (blk_below BP3.out hb); clear hgm hm hb) | ((with_reducible refine gate_dst (N := 26) rfl ?_); refine map_make 26 rfl rfl .i64 2 rfl ?_; intro g2 w5 hgm hm hb; have HM0_5 := Aside0.mk (HM0_4.out.below hb); have HM1_5 := Aside0.mk (HM1_4.out.below hb); have L2 := Aside0.mk (show g1 < g2 from by rw [hgm]; exact HM1_4.out.lt); have HM2_5 := Aside0.mk (show MapFew Try.prog 2 .i64 w5 g2 (fun _ => none) from ⟨0, hm, Nat.zero_le _⟩); have HB5 := Aside0.mk (below_then HB4.out HB4.out.size hb); have BP5 := Aside0.mk (blk_below BP4.out hb); clear hgm hm hb) | ((with_reducible refine gate_dst (N := 27) rfl ?_); refine map_make 27 rfl rfl .i64 2 rfl ?_; intro g3 w6 hgm hm hb; have HM0_6 := Aside0.mk (HM0_5.out.below hb); have HM1_6 := Aside0.mk (HM1_5.out.below hb); have HM2_6 := Aside0.mk (HM2_5.out.below hb); have L3 := Aside0.mk (show g2 < g3 from by rw [hgm]; exact HM2_5.out.lt); have HM3_6 := Aside0.mk (show MapFew Try.prog 2 .i64 w6 g3 (fun _ => none) from ⟨0, hm, Nat.zero_le _⟩); have HB6 := Aside0.mk (below_then HB5.out HB5.out.size hb); have BP6 := Aside0.mk (blk_below BP5.out hb); clear hgm hm hb) | ((with_reducible refine gate_dst (N := 28) rfl ?_); refine map_make 28 rfl rfl .i64 2 rfl ?_; intro g4 w7 hgm hm hb; have HM0_7 := Aside0.mk (HM0_6.out.below hb); have HM1_7 := Aside0.mk (HM1_6.out.below hb); have HM2_7 := Aside0.mk (HM2_6.out.below hb); have HM3_7 := Aside0.mk (HM3_6.out.below hb); have L4 := Aside0.mk (show g3 < g4 from by rw [hgm]; exact HM3_6.out.lt); have HM4_7 := Aside0.mk (show MapFew Try.prog 2 .i64 w7 g4 (fun _ => none) from ⟨0, hm, Nat.zero_le _⟩); have HB7 := Aside0.mk (below_then HB6.out HB6.out.size hb); have BP7 := Aside0.mk (blk_below BP6.out hb); clear hgm hm hb) | ((with_reducible refine gate_dst (N := 30) rfl ?_); refine yX 30 #[.map (some g0), .map (some g1), .map (some g2), .map (some g3), .map (some g4)] 139 ?_; intro gx hgx w8 hbox hb; have PRE := Aside0.mk (show Pre w w8 A0 l0.length c0 A1 l1.length c1 gp gx g0 g1 g2 g3 g4 (fun _ => none) from { below := below_then HB7.out HB7.out.size hb, bp := blk_below BP7.out hb, exp := hbox, sub := ⟨_, HM0_7.out.below hb, fun y => ⟨rfl, none, 0, rfl, Nat.le_refl _, rfl, by simp, fun hlt => by simp at hlt⟩⟩, m1 := HM1_7.out.below hb, m2 := HM2_7.out.below hb, m3 := HM3_7.out.below hb, m4 := HM4_7.out.below hb, ge0 := G0.out, l01 := L1.out, l12 := L2.out, l23 := L3.out, l34 := L4.out }); clear hgx hbox hb; have hz0_8 : w8.cell? ⟨gp, 0, none⟩ = some (.slice A0 l0.length c0) := (blk_cell PRE.out.bp 0).trans rfl) | ((with_reducible refine gate_dst (N := 33) rfl ?_); refine Kd.N_lit (Kd.slice 32 k32) (w0 := w) w.heap.size 35 ?hg (N' := 33) ?hd (xs := [l0]) (inner := [.slice A0 l0.length c0]) (ok := fun k => k ≠ g0) (okp := fun k => k < w.heap.size) ?hr ?hp ?hk ?hf PRE.out.below PRE.out.below.size (by simp) ?_; (case hd => rfl); (case hg => rfl); (case hr => first | (go_simp; done) | (go_simp; rfl)); (case hp => exact ⟨rfl, fun j q hj => by rcases j with _ | j; (simp only [List.getElem?_cons_zero, Option.some.injEq] at hj; subst hj; exact Kd.FK_slice_mk HC0.out (Kd.F_below (Kd.C_F k32_heap HR0.out) PRE.out.below)); (simp at hj)⟩); (case hk => intro k_ hk_ e_; have := PRE.out.ge0; omega); (case hf => intro e_; have h_ := (PRE.out.sub); obtain ⟨F_, hm_, _⟩ := h_; have := hm_.lt; omega); intro v9 w9 ho hb hg hat; have HA9 := Aside0.mk ho; have PRE9 := Aside0.mk (PRE.out.step ⟨hg.os, hg.tape, hg.output, hg.size, fun i_ hi_ => hg.block i_ hi_ (by simp)⟩); clear ho hb hg hat; have hz1_9 : w9.cell? ⟨gp, 1, none⟩ = some (.slice A1 l1.length c1) := (blk_cell PRE9.out.bp 1).trans rfl))
    clear BP2 HB2 HB3 HB4 HB5 HB6 HB7 BP3 BP4 BP5 BP6 BP7 HM0_3 HM0_4 HM0_5 HM0_6 HM0_7 HM1_4 HM1_5 HM1_6 HM1_7 HM2_5 HM2_6 HM2_7 HM3_6 HM3_7 HM4_7 hz0_8 hz1_9 PRE L1 L2 L3 L4 G0
    go_loopw [37, 5] (fun i v w' => ∃ (j : Nat), i = .int .i64 j ∧ Aside0 (j ≤ l1.length) ∧ Aside0 (Pre w w' A0 l0.length c0 A1 l1.length c1 gp gx g0 g1 g2 g3 g4 (subsO (l1.take j) (fun _ => none))) ∧ Aside0 (Kd.N (Kd.slice 32 k32) 35 w' w.heap.size (fun k => k ≠ g0) v (l0 :: (l1.take j).map (fun x => x.f1)))) (fun i _ _ => l1.length - (intOf i).toNat)
    case atStart => exact ⟨0, rfl, ⟨Nat.zero_le _⟩, ⟨PRE9.out⟩, ⟨by simpa using HA9.out⟩⟩
    case round =>
      obtain ⟨j, rfl, HJ, PRE, HA⟩ := hrel
      clear PRE9 HA9
      by_cases hlt : j < l1.length
      · obtain ⟨ad, A2, c2, e, hx0, hx1, hl2, hk2⟩ := at_T81 (Kd.C_below HR1.out PRE.out.below) (j : Int) (by omega) (by omega)
        cases e
        have hrd : rd_T81 l1 (j : Int) = l1[j] := by simp [rd_T81, hlt]
        rw [hrd] at hx0 hx1 hl2 hk2
        have HIN := Aside0.mk (HALL.out l1[j] (List.getElem_mem hlt))
        have TK := Aside0.mk (List.take_succ_eq_append_getElem hlt)
        obtain ⟨ad_, A2_, c2_, e_, hx0_, hx1_, hl2_, hk2_⟩ := at_T81 HR1.out (j : Int) (by omega) (by omega)
        cases e_
        rw [hrd] at hx0_ hx1_ hl2_ hk2_
        have ee := Option.some.inj (hx1_.symm.trans ((PRE.out.below.cell (yL hx1_)).symm.trans hx1))
        injection ee with ea_ en_ ec_
        rw [ea_] at hk2_
        have HL2 := Aside0.mk hl2
        have HK2 := Aside0.mk hk2_
        clear hrd hl2 hk2 hx0_ hx1_ hl2_ hk2_ en_ ea_ ec_
        generalize l1[j] = x at *
        simp only [Int.toNat_natCast] at hx0 hx1
        have hlt' : decide ((j : Int) < (l1.length : Int)) = true := by simp; omega
        go_wp2
        have BK := Aside0.mk (alloc_at wr (.cells #[.int .i64 x.f0, .slice A2 x.f1.length c2] 81 (0, 0)))
        have PREa := Aside0.mk (PRE.out.step (below_alloc (Below.refl _ _) (.cells #[.int .i64 x.f0, .slice A2 x.f1.length c2] 81 (0, 0))))
        have HAa := Aside0.mk (Kd.N_below HA.out (below_alloc (Below.refl _ _) (.cells #[.int .i64 x.f0, .slice A2 x.f1.length c2] 81 (0, 0))))
        generalize hwr : wr.heap.size = gt at *
        generalize wr.alloc (.cells #[.int .i64 x.f0, .slice A2 x.f1.length c2] 81 (0, 0)) = w10 at *
        have BKd := Aside0.mk (show w10.drew.heap[gt]? = _ from BK.out)
        have PREd := Aside0.mk (PREa.out.step (below_drew (Below.refl _ _)))
        have HAd := Aside0.mk (Kd.N_drew HAa.out)
        clear BK PREa HAa hwr hx0 hx1 HA PRE
        have hd0 : w10.drew.cell? ⟨gx, 0, none⟩ = some (.map (some g0)) := (blk_cell PREd.out.exp 0).trans rfl
        have hd1 : w10.drew.cell? ⟨gt, 0, none⟩ = some (.int .i64 x.f0) := (blk_cell BKd.out 0).trans rfl
        have hd2 : w10.drew.cell? ⟨gt, 1, none⟩ = some (.slice A2 x.f1.length c2) := (blk_cell BKd.out 1).trans rfl
        obtain ⟨Fs, fws, fhs⟩ := PREd.out.sub
        have FWs := Aside0.mk fws
        have FHs := Aside0.mk fhs
        clear fws fhs
        refine wp_region_still_tail 8 (by kernel_rfl) (by kernel_rfl) ?_
        change wpStill _ _ w10.drew (fun a' => wpList _ _ _ _ a' w10.drew) _ _
        generalize w10.drew = w11 at *
        simp only [List.take_succ_cons, List.take_zero, List.drop_succ_cons, List.drop_zero]
        repeat still_step
        refine wpStill_nil ?_
        go_wp2_with (first | (refine few_put rfl rfl Try.underlying2 Try.underlying135 FWs.out rfl x.f0 rfl HIN.out.wf (by have := HIN.out; unfold IN at this; omega) (by have := HIN.out; unfold IN at this; omega) (.slice A2 x.f1.length c2) (by rfl) ?_; intro w12 hm hg; have PRE12 := Aside0.mk (PREd.out.put hg (subO_put FHs.out hm HL2.out HK2.out)); have BK12 := Aside0.mk ((hg.block gt (blk_lt BKd.out) (fun e_ => by injection e_ with e_; obtain ⟨F_, ⟨n_, hm_, _⟩, _⟩ := PREd.out.sub; exact hm_.ne BKd.out e_.symm)).trans BKd.out); have HA12 := Aside0.mk (Kd.N_grown HAd.out hg (fun k_ hk_ => someNe hk_)); clear hm hg; have hzt : w12.cell? ⟨gt, 1, none⟩ = some (.slice A2 x.f1.length c2) := (blk_cell BK12.out 1).trans rfl) | ((with_reducible refine gate_builtin (b := .append) (xs := #[.tmp 49, .tmp 52]) rfl ?_); (try (refine gate_guard (by rfl) ?_; dsimp only)); at_builtin; refine Kd.N_append (Kd.slice 32 k32) (w0 := w) w.heap.size rfl (.tmp 49) (.tmp 52) 104 35 (.slice none 0 0) 24 rfl Try.underlying104 infoRows rfl (by decide) (by omega) u5 (l0 :: (l1.take j).map (fun x => x.f1)) x.f1 [.slice A2 x.f1.length c2] (fun k => k ≠ g0) (fun k => k ≠ g0 ∧ some k ≠ u5.ownBlock) rfl rfl ?aP (fun _ hk => hk) ?aF ?aO ?aB ?aS ?aL ?_; (case aP => exact Kd.FK_slice_mk HL2.out (Kd.F_mono (Kd.F_below (Kd.C_F k32_heap HK2.out) PRE12.out.below) (fun k_ hk_ => ⟨by have := PRE12.out.ge0; omega, fun e_ => by have := Kd.N_base HA12.out k_ e_.symm; omega⟩))); (case aF => intro k_ hk_ e_; obtain ⟨F_, hm_, _⟩ := PRE12.out.sub; have := hm_.lt; omega); (case aO => exact HA12.out); (case aB => exact PRE12.out.below); (case aS => exact PRE12.out.below.size); (case aL => have := HLL.out; simp only [List.length_cons, List.length_map, List.length_take]; have := HJ.out; omega); intro v13 w13 ho hb hg hat; have HA13 := Aside0.mk ho; have PRE13 := Aside0.mk (PRE12.out.own (by decide) (by decide) hb hg (Kd.N_typed HA12.out)); clear ho hb hg hat))
        go_roundw
        case rel => exact ⟨j + 1, by rw [wrap_succ hlt HM1.out], ⟨by omega⟩, ⟨by rw [TK.out, subsO_snoc]; exact PRE13.out⟩, ⟨by rw [TK.out]; simpa using HA13.out⟩⟩
        case measure => rw [wrap_succ hlt HM1.out]; simp only [intOf, Int.toNat_natCast]; omega
      have hlt' : decide ((j : Int) < (l1.length : Int)) = false := by simp; omega
      have PREx := Aside0.mk (show Pre w wr A0 l0.length c0 A1 l1.length c1 gp gx g0 g1 g2 g3 g4 (subsO l1 (fun _ => none)) from by have h_ := PRE.out; rw [List.take_of_length_le (by omega)] at h_; exact h_)
      obtain ⟨LL, hLL⟩ : ∃ LL : List (List S32), LL = l0 :: l1.map (fun x => x.f1) := ⟨_, rfl⟩
      have HAx := Aside0.mk (show Kd.N (Kd.slice 32 k32) 35 wr w.heap.size (fun k => k ≠ g0) u5 LL from by have h_ := HA.out; rw [List.take_of_length_le (by omega)] at h_; rw [hLL]; exact h_)
      have HAL2 := Aside0.mk (show Concat_Block.f k LL = some al from by rw [hLL]; exact HAL.out)
      clear PRE HA HJ hLL HAL
      obtain ⟨Av, cv, ev⟩ := Kd.N_slice HAx.out
      subst ev
      go_wp2_with (go_at_call 31; (with_reducible refine (Concat_Block.calls k (fun k => k ≠ g0) Av cv LL al _ (Kd.N_V HAx.out) HAL2.out).mono ?_); rintro e14 w14 ⟨v14, rfl, hn, hb⟩; obtain ⟨A3, c3, rfl⟩ := Kd.N_slice hn; have PRE14 := Aside0.mk (PREx.out.step hb); have HV14 := Aside0.mk (show Kd.V k32 32 w14 0 (fun _ => True) (.slice A3 al.length c3) al from Kd.V_mono (Kd.N_V hn) (fun _ _ => trivial)); clear hn hb)
      have HMA := Aside0.mk (Kd.C_max (Kd.V_reads' HV14.out).2.2)
      clear HAx PREx
      go_loopw [58, 8] (fun i v w' => ∃ (j : Nat) (acc : List Int), i = .int .i64 j ∧ Aside0 (j ≤ al.length) ∧ Aside0 (foundL k (al.drop j) acc = some (found, fe)) ∧ Aside0 (∀ y ∈ acc, IN y) ∧ Aside0 (Pre w w' A0 l0.length c0 A1 l1.length c1 gp gx g0 g1 g2 g3 g4 (subsO l1 (fun _ => none))) ∧ Aside0 (Kd.N (Kd.int .i64) 2 w' w.heap.size (fun _ => True) v acc) ∧ Aside0 (Kd.V k32 32 w' 0 (fun k => True ∧ some k ≠ (v : Value).ownBlock) (.slice A3 al.length c3) al)) (fun i _ _ => al.length - (intOf i).toNat)
      case atStart => exact ⟨0, [], rfl, ⟨Nat.zero_le _⟩, ⟨HFO.out⟩, ⟨fun y hy => by simp at hy⟩, ⟨PRE14.out⟩, ⟨Kd.N_nil _ _ _ _ _⟩, ⟨Kd.V_mono HV14.out (fun _ _ => ⟨trivial, by simp [Value.ownBlock]⟩)⟩⟩
      case round =>
        obtain ⟨j, acc, rfl, HJ, HI, HALN, PRE, HF, HV⟩ := hrel
        clear PRE14 HV14 HFO
        by_cases hlt : j < al.length
        · obtain ⟨ad, A4, c4, e, hx0, hx1, hx2, hl4, hk4⟩ := at_T32 (Kd.V_reads' HV.out).2.2 (j : Int) (by omega) (by omega)
          cases e
          have hrd : rd_T32 al (j : Int) = al[j] := by simp [rd_T32, hlt]
          rw [hrd] at hx0 hx1 hx2 hl4 hk4
          obtain ⟨n, t, is, e, hcl, hyes, hno, herr⟩ := found_step hlt HI.out
          have HCL := Aside0.mk (show subprogram_Call.f k al[j].f0 al[j].f1 al[j].f2 = some (n, t, is, e) from hcl)
          have HYES := Aside0.mk hyes
          have HNO := Aside0.mk hno
          have HERR := Aside0.mk herr
          have HL4 := Aside0.mk hl4
          have HK4 := Aside0.mk hk4
          clear hrd hcl hyes hno herr hl4 hk4
          generalize al[j] = x at *
          simp only [Int.toNat_natCast] at hx0 hx1 hx2
          have hlt' : decide ((j : Int) < (al.length : Int)) = true := by simp; omega
          by_cases he : e = 0
          · subst he
            cases is with
            | true =>
              obtain ⟨⟨hinn, hacc⟩, hnext⟩ := HYES.out rfl rfl
              have HINN := Aside0.mk hinn
              have HACC := Aside0.mk hacc
              have HNX := Aside0.mk hnext
              clear hacc hinn hnext HYES HNO HERR
              go_wp2_with (first | (go_at_call 25; (with_reducible refine (subprogram_Call.calls k x.f0 A4 c4 x.f1 x.f2 n t true 0 _ (Kd.C_alloc HK4.out _) HL4.out HCL.out).mono ?_); rintro e15 w15 ⟨rfl, hb⟩; have HB15 := Aside0.mk (below_then (below_alloc (Below.refl _ _) _) (below_alloc (Below.refl _ _) _).size hb); clear hb; have PRE15 := Aside0.mk (PRE.out.step HB15.out); have HF15 := Aside0.mk (Kd.N_below HF.out HB15.out); have HV15 := Aside0.mk (Kd.V_below HV.out HB15.out)) | ((with_reducible refine gate_builtin (b := .append) (xs := #[.tmp 73, .tmp 75]) rfl ?_); (try (refine gate_guard (by rfl) ?_; dsimp only)); at_builtin; refine Kd.N_append (Kd.int .i64) (w0 := w) w.heap.size rfl (.tmp 73) (.tmp 75) 91 2 (.int .i64 0) 8 rfl Try.underlying91 infoI64 rfl (by decide) (by omega) u8 acc n [.int .i64 n] (fun _ => True) (fun k => True ∧ some k ≠ u8.ownBlock) rfl rfl (fun _ _ => rfl) (fun _ hk => hk) (fun _ _ => trivial) HF15.out PRE15.out.below PRE15.out.below.size (by have := HACC.out; omega) ?_; intro v16 w16 ho hb hg hat; have HF16 := Aside0.mk ho; have PRE16 := Aside0.mk (PRE15.out.own (by decide) (by decide) hb hg (Kd.N_typed HF15.out)); have HV16 := Aside0.mk (Kd.V_after HV15.out hg hat); clear ho hb hg hat))
              go_roundw
              case rel => exact ⟨j + 1, acc ++ [n], by rw [wrap_succ hlt HMA.out], ⟨by omega⟩, ⟨HNX.out⟩, ⟨fun y hy => by rcases List.mem_append.mp hy with hy | hy; exact HALN.out y hy; simp at hy; subst hy; exact HINN.out⟩, ⟨PRE16.out⟩, ⟨HF16.out⟩, ⟨HV16.out⟩⟩
              case measure => rw [wrap_succ hlt HMA.out]; simp only [intOf, Int.toNat_natCast]; omega
            | false =>
              have HNX := Aside0.mk (HNO.out rfl rfl)
              clear HYES HNO HERR
              go_wp2_with (go_at_call 25; (with_reducible refine (subprogram_Call.calls k x.f0 A4 c4 x.f1 x.f2 n t false 0 _ (Kd.C_alloc HK4.out _) HL4.out HCL.out).mono ?_); rintro e15 w15 ⟨rfl, hb⟩; have HB15 := Aside0.mk (below_then (below_alloc (Below.refl _ _) _) (below_alloc (Below.refl _ _) _).size hb); clear hb; have PRE15 := Aside0.mk (PRE.out.step HB15.out); have HF15 := Aside0.mk (Kd.N_below HF.out HB15.out); have HV15 := Aside0.mk (Kd.V_below HV.out HB15.out))
              go_roundw
              case rel => exact ⟨j + 1, acc, by rw [wrap_succ hlt HMA.out], ⟨by omega⟩, ⟨HNX.out⟩, ⟨HALN.out⟩, ⟨PRE15.out⟩, ⟨HF15.out⟩, ⟨HV15.out⟩⟩
              case measure => rw [wrap_succ hlt HMA.out]; simp only [intOf, Int.toNat_natCast]; omega
          have hr_ := HERR.out he
          injection hr_ with hr1_ hr2_
          subst hr2_
          have hne : (fe == 0) = false := beq_eq_false_iff_ne.mpr he
          have hne2 : (fe != 0) = true := bne_iff_ne.mpr he
          have H4 := H3.out
          simp only [if_neg he, Option.some.injEq, Prod.mk.injEq] at H4
          obtain ⟨rfl, rfl, rfl⟩ := H4
          clear HYES HNO HERR hr1_
          have HE0 := Aside0.mk he
          clear he
          go_wp2_with (go_at_call 25; (with_reducible refine (subprogram_Call.calls k x.f0 A4 c4 x.f1 x.f2 n t is fe _ (Kd.C_alloc HK4.out _) HL4.out HCL.out).mono ?_); rintro e15 w15 ⟨rfl, hb⟩; have HB15 := Aside0.mk (below_then (below_alloc (Below.refl _ _) _) (below_alloc (Below.refl _ _) _).size hb); clear hb; have PRE15 := Aside0.mk (PRE.out.step HB15.out); have HF15 := Aside0.mk (Kd.N_below HF.out HB15.out); have HV15 := Aside0.mk (Kd.V_below HV.out HB15.out))
          refine bodyPost_ret (results_list (rs := [.tmp 2, .tmp 3]) rfl (by simp) (.tmp (.tmp .nil))) rfl ?_
          exact NewPost.of none PRE15.out.below (fun h => absurd h HE0.out)
        have hlt' : decide ((j : Int) < (al.length : Int)) = false := by simp; omega
        have hI := HI.out
        rw [List.drop_eq_nil_of_le (by omega)] at hI
        simp only [foundL, Option.some.injEq, Prod.mk.injEq] at hI
        obtain ⟨rfl, rfl⟩ := hI
        have H4r := H3.out
        simp only [if_true] at H4r
        have H4 := Aside0.mk H4r
        clear H4r
        have PREf := Aside0.mk PRE.out
        have HFf := Aside0.mk HF.out
        clear HI HV H3 HMA HJ PRE HF
        obtain ⟨Af, cf, ef⟩ := Kd.N_slice HFf.out
        subst ef
        have HCF := Aside0.mk (Kd.N_reads' HFf.out).2.2
        have HMF := Aside0.mk (Kd.C_max HCF.out)
        go_wp2
        obtain ⟨bh, hbh⟩ : ∃ b, b = haveL (subsO l1 (fun _ => none)) acc := ⟨_, rfl⟩
        have HBH := Aside0.mk hbh
        clear hbh
        have hq0 : wr.cell? ⟨gx, 0, none⟩ = some (.map (some g0)) := (blk_cell PREf.out.exp 0).trans rfl
        have hq1 : wr.cell? ⟨gp, 1, none⟩ = some (.slice A1 l1.length c1) := (blk_cell PREf.out.bp 1).trans rfl
        obtain ⟨F0, ⟨n0_, m0, _⟩, f0⟩ := PREf.out.sub
        have M0 := Aside0.mk m0
        have F0H := Aside0.mk f0
        clear m0 f0
        go_loop [80] (fun i => ∃ (j : Nat), i = .int .i64 j ∧ Aside0 (j ≤ acc.length) ∧ Aside0 (haveL (subsO l1 (fun _ => none)) (acc.drop j) = bh)) (fun i => acc.length - (intOf i).toNat)
        case atStart => exact ⟨0, rfl, ⟨Nat.zero_le _⟩, ⟨HBH.out.symm⟩⟩
        case round =>
          obtain ⟨j2, rfl, HJ2, HI2⟩ := hrel
          by_cases hlt2 : j2 < acc.length
          · obtain ⟨adf, e, hxf⟩ := Kd.at_int HCF.out (j2 : Int) (by omega) (by omega)
            cases e
            have hrdf : rd acc (j2 : Int) = acc[j2] := by simp [rd, hlt2]
            rw [hrdf] at hxf
            have hI2 := HI2.out
            rw [List.drop_eq_getElem_cons hlt2] at hI2
            simp only [haveL, List.all_cons] at hI2
            clear hrdf
            have WFN := Aside0.mk (HALN.out acc[j2] (List.getElem_mem hlt2)).wf
            generalize acc[j2] = nn at *
            simp only [Int.toNat_natCast] at hxf
            have hlt2' : decide ((j2 : Int) < (acc.length : Int)) = true := by simp; omega
            cases hok : ((subsO l1 (fun _ => none)) nn).isSome with
            | true =>
              have HOK := Aside0.mk ((F0H.out nn).1.trans hok)
              rw [hok, Bool.true_and] at hI2
              have HNX := Aside0.mk hI2
              clear hI2 hok
              go_wp2_with ((with_reducible refine gate_dst (N := 90) rfl ?_); refine map_lookOk 90 rfl rfl rfl Try.underlying2 Try.underlying135 zero_rows M0.out rfl nn rfl WFN.out _ _ rfl HOK.out ?_)
              go_round
              case rel => exact ⟨j2 + 1, by rw [wrap_succ hlt2 HMF.out], ⟨by omega⟩, ⟨HNX.out⟩⟩
              case measure => rw [wrap_succ hlt2 HMF.out]; simp only [intOf, Int.toNat_natCast]; omega
            | false =>
              have HOK := Aside0.mk ((F0H.out nn).1.trans hok)
              rw [hok, Bool.false_and] at hI2
              subst hI2
              have H5 := H4.out
              rw [if_neg (by rw [← HBH.out]; decide)] at H5
              simp only [Option.some.injEq, Prod.mk.injEq] at H5
              obtain ⟨rfl, rfl, rfl⟩ := H5
              clear hok
              go_wp2_with ((with_reducible refine gate_dst (N := 90) rfl ?_); refine map_lookOk 90 rfl rfl rfl Try.underlying2 Try.underlying135 zero_rows M0.out rfl nn rfl WFN.out _ _ rfl HOK.out ?_)
              refine bodyPost_ret (results_list (rs := [.tmp 2, .tmp 3]) rfl (by simp) (.tmp (.tmp .nil))) rfl ?_
              exact NewPost.of none PREf.out.below (fun h => absurd h (by decide))
          have hlt2' : decide ((j2 : Int) < (acc.length : Int)) = false := by simp; omega
          have hI2 := HI2.out
          rw [List.drop_eq_nil_of_le (by omega)] at hI2
          simp only [haveL, List.all_nil] at hI2
          subst hI2
          have H5r := H4.out
          rw [if_pos HBH.out.symm] at H5r
          obtain ⟨⟨mb, mS⟩, hms, H5s⟩ := Option.bind_eq_some_iff.mp H5r
          have HMS := Aside0.mk hms
          have H5 := Aside0.mk H5s
          have EW := Aside0.mk PREf.out.expW
          clear hms H4 HI2 HBH H5r H5s
          go_wp2
          clear PREf M0 F0H HFf HCF HMF hq0 hq1 HJ2 hlt2
          go_loopw [99] (fun i w' => ∃ (j : Nat) (S2 : St3), i = .int .i64 j ∧ Aside0 (j ≤ l1.length) ∧ Aside0 (measAll (fun y => ((subsO l1 (fun _ => none)) y).getD []) k (l1.drop j) S2 = some (mb, mS)) ∧ Aside0 (ExpW w w' gx g0 g1 g2 g3 g4 (fun y => ((subsO l1 (fun _ => none)) y).getD []) S2)) (fun i _ => l1.length - (intOf i).toNat)
          case atStart => exact ⟨0, _, rfl, ⟨Nat.zero_le _⟩, ⟨HMS.out⟩, ⟨EW.out⟩⟩
          case round =>
            obtain ⟨j3, S2, rfl, HJ3, HI3, HE3⟩ := hrel
            clear HMS EW
            by_cases hlt3 : j3 < l1.length
            · obtain ⟨ad3, A5, c5, e, hx0, hx1, hl5, hk5⟩ := at_T81 (Kd.C_below HR1.out HE3.out.below) (j3 : Int) (by omega) (by omega)
              cases e
              have hrd : rd_T81 l1 (j3 : Int) = l1[j3] := by simp [rd_T81, hlt3]
              rw [hrd] at hx0 hx1 hl5 hk5
              obtain ⟨hin, b3, S3, hm3, hy3, hn3⟩ := measAll_step hlt3 HI3.out
              have HIN := Aside0.mk hin
              have HM3 := Aside0.mk hm3
              have HY3 := Aside0.mk hy3
              have HN3 := Aside0.mk hn3
              clear hrd hin hm3 hy3 hn3 hl5 hk5
              generalize l1[j3] = x at *
              simp only [Int.toNat_natCast] at hx0 hx1
              have hlt3' : decide ((j3 : Int) < (l1.length : Int)) = true := by simp; omega
              cases b3 with
              | true =>
                have HNX := Aside0.mk (HY3.out rfl)
                go_wp2_with (go_at_call 111; (with_reducible refine (measure_calls k w gx g0 g1 g2 g3 g4 (fun y => ((subsO l1 (fun _ => none)) y).getD []) k x.f0 S2 S3 true _ HIN.out (HE3.out.step (below_alloc (Below.refl _ _) _)) HM3.out).mono ?_); rintro e17 w17 ⟨rfl, he4⟩; have HE4 := Aside0.mk he4; clear he4)
                go_roundw
                case rel => exact ⟨j3 + 1, S3, by rw [wrap_succ hlt3 HM1.out], ⟨by omega⟩, ⟨HNX.out⟩, ⟨HE4.out⟩⟩
                case measure => rw [wrap_succ hlt3 HM1.out]; simp only [intOf, Int.toNat_natCast]; omega
              | false =>
                have hq := HN3.out rfl
                injection hq with hq1_ hq2_
                subst hq1_
                have H6 := H5.out
                simp only [Bool.false_eq_true, if_false, Option.some.injEq, Prod.mk.injEq] at H6
                obtain ⟨rfl, rfl, rfl⟩ := H6
                clear hq2_
                go_wp2_with (go_at_call 111; (with_reducible refine (measure_calls k w gx g0 g1 g2 g3 g4 (fun y => ((subsO l1 (fun _ => none)) y).getD []) k x.f0 S2 S3 false _ HIN.out (HE3.out.step (below_alloc (Below.refl _ _) _)) HM3.out).mono ?_); rintro e17 w17 ⟨rfl, he4⟩; have HE4 := Aside0.mk he4; clear he4)
                refine bodyPost_ret (results_list (rs := [.tmp 2, .tmp 3]) rfl (by simp) (.tmp (.tmp .nil))) rfl ?_
                exact NewPost.of none HE4.out.below (fun h => absurd h (by decide))
            have hlt3' : decide ((j3 : Int) < (l1.length : Int)) = false := by simp; omega
            have hI3 := HI3.out
            rw [List.drop_eq_nil_of_le (by omega)] at hI3
            simp only [measAll, Option.some.injEq, Prod.mk.injEq] at hI3
            obtain ⟨rfl, rfl⟩ := hI3
            have H6 := H5.out
            simp only [if_true, Option.some.injEq, Prod.mk.injEq] at H6
            obtain ⟨rfl, rfl, rfl⟩ := H6
            go_wp2
            refine bodyPost_ret (results_list (rs := [.tmp 2, .tmp 3]) rfl (by simp) (.tmp (.tmp .nil))) rfl ?_
            exact NewPost.of (some ⟨gx, 0, none⟩) HE3.out.below (fun _ => ⟨gx, g0, g1, g2, g3, g4, rfl, HE3.out⟩)
theorem exp_step {kc : Nat} {rec_ : List S32 → Done → Option (List S32 × Done)} {subs : Int → List S32} {l : List S32} {j : Nat} (h : j < l.length) {out : List S32} {D : Done} {r : List S32 × Done} (hr : expL kc rec_ subs (l.drop j) out D = some r) :
    ∃ n t is e, callF kc l[j] = some (n, t, is, e) ∧ (is = false → out.length < 100000 ∧ expL kc rec_ subs (l.drop (j + 1)) (out ++ [l[j]]) D = some r) ∧
      (is = true → IN n ∧ IN t ∧ ∃ x D2, (D n = some x ∧ D2 = D ∨ D n = none ∧ ∃ D1, rec_ (subs n) D = some (x, D1) ∧ D2 = updD D1 n x) ∧ (x.length = 0 → expL kc rec_ subs (l.drop (j + 1)) out D2 = some r) ∧ (x.length ≠ 0 → out.length + t.toNat * x.length ≤ 100000 ∧ expL kc rec_ subs (l.drop (j + 1)) (out ++ rep t x) D2 = some r)) := by
  rw [List.drop_eq_getElem_cons h, expL] at hr
  obtain ⟨⟨n, t, is, e⟩, h1, h2⟩ := Option.bind_eq_some_iff.mp hr
  refine ⟨n, t, is, e, h1, fun hi => ?_, fun hi => ?_⟩
  · subst hi
    simp only [Bool.false_eq_true, if_false] at h2
    by_cases hb : out.length < 100000
    · rw [if_pos hb] at h2; exact ⟨hb, h2⟩
    rw [if_neg hb] at h2; cases h2
  subst hi
  simp only [if_true] at h2
  by_cases hn : IN n
  · rw [if_pos hn] at h2
    by_cases ht : IN t
    · rw [if_pos ht] at h2
      obtain ⟨⟨x, D2⟩, h3, h4⟩ := Option.bind_eq_some_iff.mp h2
      refine ⟨hn, ht, x, D2, ?_, fun hz => ?_, fun hz => ?_⟩
      · cases hd : D n with
        | some y =>
          rw [hd] at h3
          simp only [Option.some.injEq, Prod.mk.injEq] at h3
          exact Or.inl ⟨by rw [h3.1], h3.2.symm⟩
        | none =>
          rw [hd] at h3
          obtain ⟨⟨y, D1⟩, h5, h6⟩ := Option.map_eq_some_iff.mp h3
          simp only [Prod.mk.injEq] at h6
          obtain ⟨rfl, rfl⟩ := h6
          exact Or.inr ⟨rfl, D1, h5, rfl⟩
      · simpa [hz] using h4
      simp only [if_neg hz] at h4
      by_cases hb : out.length + t.toNat * x.length ≤ 100000
      · rw [if_pos hb] at h4; exact ⟨hb, h4⟩
      rw [if_neg hb] at h4; cases h4
    rw [if_neg ht] at h2; cases h2
  rw [if_neg hn] at h2; cases h2
theorem rep_succ (m : Nat) (x out : List S32) : out ++ (List.replicate m x).flatten ++ x = out ++ (List.replicate (m + 1) x).flatten := by
  rw [List.replicate_succ', List.flatten_append]
  simp
theorem rep_len (m : Nat) (x : List S32) : ((List.replicate m x).flatten).length = m * x.length := by simp
set_option maxHeartbeats 8000000 in
set_option maxRecDepth 100000 in
theorem expanded_calls (kc : Nat) (w0 : World) (gx g0 g1 g2 g3 g4 : Nat) (subs : Int → List S32) : ∀ (kf : Nat) (l : List S32) (A0 : Option Addr) (c0 : Nat) (ok : Nat → Prop) (D D' : Done) (r : List S32) (W : World), ExpD w0 W gx g0 g1 g2 g3 g4 subs ok D → VR w0 (fun k => k < w0.heap.size) A0 c0 l → expF kc subs kf l D = some (r, D') →
    Calls Try.prog 64 #[.pointer (some ⟨gx, 0, none⟩), .slice A0 l.length c0] W fun e W' => ∃ v : Value, e = .returned v ∧ Kd.N k32 32 W' w0.heap.size (fun k => ok k ∨ W.heap.size ≤ k) v r ∧ (∀ k, v.ownBlock = some k → W.heap.size ≤ k) ∧ ExpD w0 W' gx g0 g1 g2 g3 g4 subs (fun k => ok k ∨ W.heap.size ≤ k) D' ∧ KeepBut W W' g4 none := by
  intro kf
  induction kf with
  | zero => intro l A0 c0 ok D D' r W hE hl h; simp [expF] at h
  | succ kf ih =>
    intro l A0 c0 ok D D' r W hE hl h
    have IH := Aside0.mk ih
    clear ih
    rw [expF] at h
    have hu139 := Try.underlying139
    have hu32 := Try.underlying32
    have HL := Aside0.mk hl
    have HM := Aside0.mk (Kd.C_max (Kd.V_reads' hl).2.2)
    have H := Aside0.mk h
    have OK0 := Aside0.mk hE.ok0
    have OK4 := Aside0.mk hE.ok4
    have LT4 := Aside0.mk hE.lt4
    have SZ0 := Aside0.mk hE.below.size
    obtain ⟨okB, hokB⟩ : ∃ okB : Nat → Prop, okB = fun k => ok k ∨ W.heap.size ≤ k := ⟨_, rfl⟩
    have OKB := Aside0.mk hokB
    have okB0 : Aside0 (∀ k, k < w0.heap.size → okB k) := ⟨fun k hk => by rw [hokB]; exact Or.inl (hE.ok0 k hk)⟩
    have okB1 : Aside0 (∀ k, W.heap.size ≤ k → okB k) := ⟨fun k hk => by rw [hokB]; exact Or.inr hk⟩
    have okB4 : Aside0 (∀ k, okB k → k ≠ g4) := ⟨fun k hk e => by rw [hokB] at hk; subst e; rcases hk with hk | hk; exact hE.ok4 hk; have := hE.lt4; omega⟩
    have HE := Aside0.mk (show ExpD w0 W gx g0 g1 g2 g3 g4 subs (fun k => okB k ∧ some k ≠ (Value.slice none 0 0).ownBlock) D from hE.mono (fun k hk _ => ⟨by rw [hokB]; exact Or.inl hk, by simp [Value.ownBlock]⟩) (fun k hk => ⟨by rw [hokB]; exact Or.inl (hE.ok0 k hk), by simp [Value.ownBlock]⟩) (fun hk => okB4.out g4 hk.1 rfl))
    clear hE hl h hokB
    go_enter Try.func64, Try.ntmps64
    go_wp2
    go_loopw [16, 5] (fun i v w' => ∃ (j : Nat) (out : List S32) (D2 : Done), i = .int .i64 j ∧ Aside0 (j ≤ l.length) ∧ Aside0 (expL kc (expF kc subs kf) subs (l.drop j) out D2 = some (r, D')) ∧ Aside0 (Kd.N k32 32 w' w0.heap.size okB v out) ∧ Aside0 (∀ k, (v : Value).ownBlock = some k → W.heap.size ≤ k) ∧ Aside0 (ExpD w0 w' gx g0 g1 g2 g3 g4 subs (fun k => okB k ∧ some k ≠ (v : Value).ownBlock) D2) ∧ Aside0 (KeepBut W w' g4 none)) (fun i _ _ => l.length - (intOf i).toNat)
    case atStart => exact ⟨0, [], D, rfl, ⟨Nat.zero_le _⟩, ⟨H.out⟩, ⟨Kd.N_nil _ _ _ _ _⟩, ⟨fun k hk => by simp [Value.ownBlock] at hk⟩, ⟨HE.out⟩, ⟨KeepBut.refl _ _ _⟩⟩
    case round =>
      obtain ⟨j, out, D2, rfl, HJ, HI, HN, FR, HE2, HK⟩ := hrel
      clear H HE
      by_cases hlt : j < l.length
      · have HV := Aside0.mk (Kd.V_below HL.out HE2.out.below)
        obtain ⟨ad, A1, c1, e, hx0, hx1, hx2, hl1, hk1⟩ := at_T32 (Kd.V_reads' HV.out).2.2 (j : Int) (by omega) (by omega)
        cases e
        obtain ⟨ce, hce, hMe, hcc⟩ := Kd.V_get HV.out z32 (j : Int) (by omega) (by omega)
        have hrd : rd_T32 l (j : Int) = l[j] := by simp [rd_T32, hlt]
        rw [show l.getD (j : Int).toNat z32 = rd_T32 l (j : Int) from rfl] at hMe
        obtain ⟨ua, uc, rfl, ul, ge⟩ := k32_openF hMe
        have hv1 := hcc 1 _ rfl
        rw [add_field _ _ 1 (by omega)] at hv1
        replace hv1 := Option.some.inj (hv1.symm.trans hx1)
        injection hv1 with hva_ hvn_ hvc_
        rw [hva_] at ge
        clear hva_ hvn_ hvc_ hcc hce hMe ul
        rw [hrd] at hx0 hx1 hx2 hl1 hk1 ge
        obtain ⟨n, t, is, e, hcl, hno, hyes⟩ := exp_step hlt HI.out
        have HCL := Aside0.mk (show subprogram_Call.f kc l[j].f0 l[j].f1 l[j].f2 = some (n, t, is, e) from hcl)
        have HYES := Aside0.mk hyes
        have HNO := Aside0.mk hno
        have HL1 := Aside0.mk hl1
        have HK1 := Aside0.mk hk1
        have GE := Aside0.mk ge
        clear hrd hcl hyes hno hl1 hk1 ge HV
        generalize l[j] = x at *
        simp only [Int.toNat_natCast] at hx0 hx1 hx2
        have hlt' : decide ((j : Int) < (l.length : Int)) = true := by simp; omega
        cases is with
        | false =>
          obtain ⟨hlen, hnext⟩ := HNO.out rfl
          have HLen := Aside0.mk hlen
          have HNX := Aside0.mk hnext
          clear hlen hnext HYES HNO
          go_wp2_with (first | (go_at_call 25; (with_reducible refine (subprogram_Call.calls kc x.f0 A1 c1 x.f1 x.f2 n t false e _ (Kd.C_alloc HK1.out _) HL1.out HCL.out).mono ?_); rintro e2 w2 ⟨rfl, hb2⟩; have HB20 := Aside0.mk (below_then (below_alloc (Below.refl _ _) _) (below_alloc (Below.refl _ _) _).size hb2); have BK := Aside0.mk (blk_below (alloc_at _ _) hb2); clear hb2; have HE3 := Aside0.mk (HE2.out.step HB20.out); have HN3 := Aside0.mk (Kd.N_below HN.out HB20.out); have HK3 := Aside0.mk (keep_below HK.out HB20.out); have hz0 : w2.cell? ⟨wr.heap.size, 0, none⟩ = some (.bool x.f0) := (blk_cell BK.out 0).trans rfl; have hz1 : w2.cell? ⟨wr.heap.size, 1, none⟩ = some (.slice A1 x.f1.length c1) := (blk_cell BK.out 1).trans rfl; have hz2 : w2.cell? ⟨wr.heap.size, 2, none⟩ = some (.string x.f2) := (blk_cell BK.out 2).trans rfl) | ((with_reducible refine gate_builtin (b := .append) (xs := #[.tmp 29, .tmp 31]) rfl ?_); (try (refine gate_guard (by rfl) ?_; dsimp only)); at_builtin; refine Kd.N_append k32 (w0 := w0) w0.heap.size rfl (.tmp 29) (.tmp 31) 35 32 (.agg #[(.bool false), (.slice none 0 0), (.string ⟨#[]⟩)]) 48 rfl Try.underlying35 info32 rfl (by decide) (by omega) u5 out x [.bool x.f0, .slice A1 x.f1.length c1, .string x.f2] okB (fun k => okB k ∧ some k ≠ u5.ownBlock) rfl rfl ?aP (fun _ hk => hk) ?aF ?aO ?aB ?aS ?aL ?_; (case aP => exact k32_mkF _ _ x HL1.out (Kd.F_mono (Kd.F_below GE.out HB20.out) (fun k hk => ⟨okB0.out k hk, fun e => by have := Kd.N_base HN.out k e.symm; omega⟩))); (case aF => exact fun k hk => okB1.out k (Nat.le_trans HK3.out.1 hk)); (case aO => exact HN3.out); (case aB => exact HE3.out.below); (case aS => exact HE3.out.below.size); (case aL => have := HLen.out; omega); intro v3 w3 ho hb hg hat; have HN4 := Aside0.mk ho; have HE4 := Aside0.mk (ExpD.after HE3.out hb hg hat (Kd.N_typed HN3.out) (Kd.N_base ho)); have HK4 := Aside0.mk (keep_own HK3.out hg FR.out); have FR4 := Aside0.mk (fresh_after HK3.out.1 FR.out hat); clear ho hb hg hat))
          go_roundw
          case rel => exact ⟨j + 1, out ++ [x], D2, by rw [wrap_succ hlt HM.out], ⟨by omega⟩, ⟨HNX.out⟩, ⟨HN4.out⟩, ⟨FR4.out⟩, ⟨HE4.out⟩, ⟨HK4.out⟩⟩
          case measure => rw [wrap_succ hlt HM.out]; simp only [intOf, Int.toNat_natCast]; omega
        | true =>
          obtain ⟨hin, hit, xx, D3, hcase, hzero, hpos⟩ := HYES.out rfl
          have HIN := Aside0.mk hin
          have HZ := Aside0.mk hzero
          have HP := Aside0.mk hpos
          obtain ⟨tn, rfl⟩ : ∃ tn : Nat, t = (tn : Int) := ⟨t.toNat, by unfold IN at hit; omega⟩
          have HIT := Aside0.mk hit
          clear hin hit hzero hpos HYES HNO
          rcases hcase with ⟨hd, rfl⟩ | ⟨hd, D1, hrec, rfl⟩
          · have HD := Aside0.mk hd
            clear hd
            by_cases hz : xx.length = 0
            · have tz : ((xx.length : Int) == 0) = true := beq_iff_eq.mpr (by omega)
              have HNX := Aside0.mk (HZ.out hz)
              clear HZ HP hz
              go_wp2_with (first | (go_at_call 25; (with_reducible refine (subprogram_Call.calls kc x.f0 A1 c1 x.f1 x.f2 n tn true e _ (Kd.C_alloc HK1.out _) HL1.out HCL.out).mono ?_); rintro e2 w2 ⟨rfl, hb2⟩; have HB20 := Aside0.mk (below_then (below_alloc (Below.refl _ _) _) (below_alloc (Below.refl _ _) _).size hb2); have BK := Aside0.mk (blk_below (alloc_at _ _) hb2); clear hb2; have HE3 := Aside0.mk (HE2.out.step HB20.out); have HN3 := Aside0.mk (Kd.N_below HN.out HB20.out); have HK3 := Aside0.mk (keep_below HK.out HB20.out); have hz0 : w2.cell? ⟨wr.heap.size, 0, none⟩ = some (.bool x.f0) := (blk_cell BK.out 0).trans rfl; have hz1 : w2.cell? ⟨wr.heap.size, 1, none⟩ = some (.slice A1 x.f1.length c1) := (blk_cell BK.out 1).trans rfl; have hz2 : w2.cell? ⟨wr.heap.size, 2, none⟩ = some (.string x.f2) := (blk_cell BK.out 2).trans rfl; have hq4 : w2.cell? ⟨gx, 4, none⟩ = some (.map (some g4)) := (blk_cell HE3.out.exp 4).trans rfl; have hq0 : w2.cell? ⟨gx, 0, none⟩ = some (.map (some g0)) := (blk_cell HE3.out.exp 0).trans rfl; obtain ⟨F4, fw4, f4⟩ := HE3.out.done; have FW4 := Aside0.mk fw4; obtain ⟨n4_, m4, _⟩ := fw4; have M4 := Aside0.mk m4; have F4H := Aside0.mk f4; obtain ⟨h4a, A4, c4, h4b, h4c⟩ := f4 n; have H4A := Aside0.mk h4a; have H4B := Aside0.mk h4b; have H4C := Aside0.mk h4c; clear m4 f4 h4a h4b h4c) | ((with_reducible refine gate_dst (N := 39) rfl ?_); refine map_lookOk 39 rfl rfl rfl Try.underlying2 Try.underlying135 zero_rows M4.out rfl n rfl HIN.out.wf (.slice A4 xx.length c4) true (by have h_ := H4B.out; rw [HD.out] at h_; exact h_) (by have h_ := H4A.out; rw [HD.out] at h_; exact h_) ?_; have HX := Aside0.mk (show VR w2 (fun k => okB k ∧ some k ≠ u5.ownBlock) A4 c4 xx from by have h_ := H4C.out; rw [HD.out] at h_; exact h_)))
              go_roundw
              case rel => exact ⟨j + 1, out, D3, by rw [wrap_succ hlt HM.out], ⟨by omega⟩, ⟨HNX.out⟩, ⟨HN3.out⟩, ⟨FR.out⟩, ⟨HE3.out⟩, ⟨HK3.out⟩⟩
              case measure => rw [wrap_succ hlt HM.out]; simp only [intOf, Int.toNat_natCast]; omega
            have tz : ((xx.length : Int) == 0) = false := beq_eq_false_iff_ne.mpr (by omega)
            obtain ⟨hlen, hnext⟩ := HP.out hz
            have HLen := Aside0.mk hlen
            have HNX := Aside0.mk hnext
            clear HZ HP hlen hnext hz
            go_wp2_with (first | (go_at_call 25; (with_reducible refine (subprogram_Call.calls kc x.f0 A1 c1 x.f1 x.f2 n tn true e _ (Kd.C_alloc HK1.out _) HL1.out HCL.out).mono ?_); rintro e2 w2 ⟨rfl, hb2⟩; have HB20 := Aside0.mk (below_then (below_alloc (Below.refl _ _) _) (below_alloc (Below.refl _ _) _).size hb2); have BK := Aside0.mk (blk_below (alloc_at _ _) hb2); clear hb2; have HE3 := Aside0.mk (HE2.out.step HB20.out); have HN3 := Aside0.mk (Kd.N_below HN.out HB20.out); have HK3 := Aside0.mk (keep_below HK.out HB20.out); have hz0 : w2.cell? ⟨wr.heap.size, 0, none⟩ = some (.bool x.f0) := (blk_cell BK.out 0).trans rfl; have hz1 : w2.cell? ⟨wr.heap.size, 1, none⟩ = some (.slice A1 x.f1.length c1) := (blk_cell BK.out 1).trans rfl; have hz2 : w2.cell? ⟨wr.heap.size, 2, none⟩ = some (.string x.f2) := (blk_cell BK.out 2).trans rfl; have hq4 : w2.cell? ⟨gx, 4, none⟩ = some (.map (some g4)) := (blk_cell HE3.out.exp 4).trans rfl; have hq0 : w2.cell? ⟨gx, 0, none⟩ = some (.map (some g0)) := (blk_cell HE3.out.exp 0).trans rfl; obtain ⟨F4, fw4, f4⟩ := HE3.out.done; have FW4 := Aside0.mk fw4; obtain ⟨n4_, m4, _⟩ := fw4; have M4 := Aside0.mk m4; have F4H := Aside0.mk f4; obtain ⟨h4a, A4, c4, h4b, h4c⟩ := f4 n; have H4A := Aside0.mk h4a; have H4B := Aside0.mk h4b; have H4C := Aside0.mk h4c; clear m4 f4 h4a h4b h4c) | ((with_reducible refine gate_dst (N := 39) rfl ?_); refine map_lookOk 39 rfl rfl rfl Try.underlying2 Try.underlying135 zero_rows M4.out rfl n rfl HIN.out.wf (.slice A4 xx.length c4) true (by have h_ := H4B.out; rw [HD.out] at h_; exact h_) (by have h_ := H4A.out; rw [HD.out] at h_; exact h_) ?_; have HX := Aside0.mk (show VR w2 (fun k => okB k ∧ some k ≠ u5.ownBlock) A4 c4 xx from by have h_ := H4C.out; rw [HD.out] at h_; exact h_)))
            go_loopw [62, 5] (fun i v5 w' => ∃ (m : Nat), i = .int .i64 m ∧ Aside0 (m ≤ tn) ∧ Aside0 (Kd.N k32 32 w' w0.heap.size okB v5 (out ++ (List.replicate m xx).flatten)) ∧ Aside0 (∀ k, (v5 : Value).ownBlock = some k → W.heap.size ≤ k) ∧ Aside0 (ExpD w0 w' gx g0 g1 g2 g3 g4 subs (fun k => okB k ∧ some k ≠ (v5 : Value).ownBlock) (D3)) ∧ Aside0 (VR w' (fun k => okB k ∧ some k ≠ (v5 : Value).ownBlock) A4 c4 xx) ∧ Aside0 (KeepBut W w' g4 none)) (fun i _ _ => tn - (intOf i).toNat)
            case atStart => exact ⟨0, rfl, ⟨Nat.zero_le _⟩, ⟨by simpa using HN3.out⟩, ⟨FR.out⟩, ⟨HE3.out⟩, ⟨HX.out⟩, ⟨HK3.out⟩⟩
            case round =>
              obtain ⟨m, rfl, HMJ, HN5, FR5, HE5, HV5, HK5⟩ := hrel
              clear HN3 HE3 HK3 HX hz0 hz1 hz2 hq4 hq0 FW4 M4 F4H H4A H4B H4C BK HB20 HN HE2 HK HI
              have HIT2 := HIT.out
              unfold IN at HIT2
              have w1_ : wrap64 ((m : Int) + 1) = ((m + 1 : Nat) : Int) := by have := HMJ.out; unfold wrap64; omega
              clear HIT2
              by_cases hm : m < tn
              · have hm' : decide ((m : Int) < (tn : Int)) = true := by simp; omega
                have HLM := Aside0.mk (show (out ++ (List.replicate m xx).flatten).length + xx.length ≤ 100000 from by have := HLen.out; simp only [Int.toNat_natCast] at this; have h2 : (m + 1) * xx.length ≤ tn * xx.length := Nat.mul_le_mul_right _ hm; rw [Nat.succ_mul] at h2; rw [List.length_append, rep_len]; omega)
                have W1 := Aside0.mk w1_
                clear w1_
                go_wp2_with ((with_reducible refine gate_builtin (b := .append) (xs := #[.tmp 64, .tmp 65]) rfl ?_); (try (refine gate_guard (by rfl) ?_; dsimp only)); at_builtin; refine Kd.N_append_rows k32 (w0 := w0) w0.heap.size rfl (.tmp 64) (.tmp 65) 35 32 (.agg #[(.bool false), (.slice none 0 0), (.string ⟨#[]⟩)]) 48 rfl Try.underlying35 info32 rfl (by decide) (by omega) u5 (out ++ (List.replicate m xx).flatten) xx _ _ _ okB (fun k => okB k ∧ some k ≠ u5.ownBlock) rfl rfl ?aO ?aR (fun _ hk => hk) ?aF ?aB ?aS ?aL ?_; (case aR => exact Kd.V_F HV5.out); (case aF => exact fun k hk => okB1.out k (Nat.le_trans HK5.out.1 hk)); (case aO => exact HN5.out); (case aB => exact HE5.out.below); (case aS => exact HE5.out.below.size); (case aL => have := HLM.out; omega); intro v6 w6 ho hb hg hat; have HN6 := Aside0.mk (show Kd.N k32 32 w6 w0.heap.size okB v6 (out ++ (List.replicate (m + 1) xx).flatten) from by rw [← rep_succ]; exact ho); have HE6 := Aside0.mk (ExpD.after HE5.out hb hg hat (Kd.N_typed HN5.out) (Kd.N_base ho)); have HV6 := Aside0.mk (Kd.V_after HV5.out hg hat); have HK6 := Aside0.mk (keep_own HK5.out hg FR5.out); have FR6 := Aside0.mk (fresh_after HK5.out.1 FR5.out hat); clear ho hb hg hat)
                go_roundw
                case rel => exact ⟨m + 1, by rw [W1.out], ⟨by omega⟩, ⟨HN6.out⟩, ⟨FR6.out⟩, ⟨HE6.out⟩, ⟨HV6.out⟩, ⟨HK6.out⟩⟩
                case measure => rw [W1.out]; simp only [intOf, Int.toNat_natCast]; omega
              have hm' : decide ((m : Int) < (tn : Int)) = false := by simp; omega
              obtain rfl : m = tn := by have := HMJ.out; omega
              clear w1_
              go_wp2
              go_roundw
              case rel => exact ⟨j + 1, out ++ rep (m : Int) xx, D3, by rw [wrap_succ hlt HM.out], ⟨by omega⟩, ⟨HNX.out⟩, ⟨by have := HN5.out; unfold rep; simpa using this⟩, ⟨FR5.out⟩, ⟨HE5.out⟩, ⟨HK5.out⟩⟩
              case measure => rw [wrap_succ hlt HM.out]; simp only [intOf, Int.toNat_natCast]; omega
          have HD := Aside0.mk hd
          have HR := Aside0.mk hrec
          clear hd hrec
          by_cases hz : xx.length = 0
          · have tz : ((xx.length : Int) == 0) = true := beq_iff_eq.mpr (by omega)
            have HNX := Aside0.mk (HZ.out hz)
            clear HZ HP hz
            go_wp2_with (first | (go_at_call 25; (with_reducible refine (subprogram_Call.calls kc x.f0 A1 c1 x.f1 x.f2 n tn true e _ (Kd.C_alloc HK1.out _) HL1.out HCL.out).mono ?_); rintro e2 w2 ⟨rfl, hb2⟩; have HB20 := Aside0.mk (below_then (below_alloc (Below.refl _ _) _) (below_alloc (Below.refl _ _) _).size hb2); have BK := Aside0.mk (blk_below (alloc_at _ _) hb2); clear hb2; have HE3 := Aside0.mk (HE2.out.step HB20.out); have HN3 := Aside0.mk (Kd.N_below HN.out HB20.out); have HK3 := Aside0.mk (keep_below HK.out HB20.out); have hz0 : w2.cell? ⟨wr.heap.size, 0, none⟩ = some (.bool x.f0) := (blk_cell BK.out 0).trans rfl; have hz1 : w2.cell? ⟨wr.heap.size, 1, none⟩ = some (.slice A1 x.f1.length c1) := (blk_cell BK.out 1).trans rfl; have hz2 : w2.cell? ⟨wr.heap.size, 2, none⟩ = some (.string x.f2) := (blk_cell BK.out 2).trans rfl; have hq4 : w2.cell? ⟨gx, 4, none⟩ = some (.map (some g4)) := (blk_cell HE3.out.exp 4).trans rfl; have hq0 : w2.cell? ⟨gx, 0, none⟩ = some (.map (some g0)) := (blk_cell HE3.out.exp 0).trans rfl; obtain ⟨F4, fw4, f4⟩ := HE3.out.done; have FW4 := Aside0.mk fw4; obtain ⟨n4_, m4, _⟩ := fw4; have M4 := Aside0.mk m4; have F4H := Aside0.mk f4; obtain ⟨h4a, A4, c4, h4b, h4c⟩ := f4 n; have H4A := Aside0.mk h4a; have H4B := Aside0.mk h4b; have H4C := Aside0.mk h4c; clear m4 f4 h4a h4b h4c) | ((with_reducible refine gate_dst (N := 39) rfl ?_); refine map_lookOk 39 rfl rfl rfl Try.underlying2 Try.underlying135 zero_rows M4.out rfl n rfl HIN.out.wf (.slice A4 0 c4) false (by have h_ := H4B.out; rw [HD.out] at h_; exact h_) (by have h_ := H4A.out; rw [HD.out] at h_; exact h_) ?_; obtain ⟨F0, ⟨n0_, m0, _⟩, f0⟩ := HE3.out.sub; obtain ⟨A5, c5, h5, v5_⟩ := f0 n; have M0 := Aside0.mk m0; have H5 := Aside0.mk h5; have V5 := Aside0.mk v5_; clear m0 f0 h5 v5_) | ((with_reducible refine gate_dst (N := 50) rfl ?_); refine map_look 50 rfl rfl rfl Try.underlying2 Try.underlying135 zero_rows M0.out rfl n rfl HIN.out.wf (.slice A5 (subs n).length c5) H5.out ?_) | (go_at_call 64; (with_reducible refine (IH.out (subs n) A5 c5 (fun k => (okB k ∧ some k ≠ u5.ownBlock) ∧ k < w2.heap.size) D2 D1 xx w2 ?rE V5.out HR.out).mono ?_); (case rE => exact HE3.out.mono (fun k hk hlt => ⟨hk, hlt⟩) (fun k hk => ⟨HE3.out.ok0 k hk, Nat.lt_of_lt_of_le hk HE3.out.below.size⟩) (fun hk => HE3.out.ok4 hk.1)); rintro e3 w3 ⟨v3, rfl, hn3, hf3, he3, hk3⟩; obtain ⟨A6, c6, rfl⟩ := Kd.N_slice hn3; have LTO := Aside0.mk (Kd.N_lt HN3.out); have UP := Aside0.mk (show ∀ k, (((okB k ∧ some k ≠ u5.ownBlock) ∧ k < w2.heap.size) ∨ w2.heap.size ≤ k) → (okB k ∧ some k ≠ u5.ownBlock) from fun k hk => by rcases hk with hk | hk; exact hk.1; exact ⟨okB1.out k (Nat.le_trans HK3.out.1 hk), fun e => by have := LTO.out k e.symm; omega⟩); have HX3 := Aside0.mk (show VR w3 (fun k => okB k ∧ some k ≠ u5.ownBlock) A6 c6 xx from Kd.V_mono (Kd.N_V hn3) UP.out); have HE4 := Aside0.mk (show ExpD w0 w3 gx g0 g1 g2 g3 g4 subs (fun k => okB k ∧ some k ≠ u5.ownBlock) D1 from he3.mono (fun k hk _ => UP.out k hk) HE3.out.ok0 HE3.out.ok4); have HK4 := Aside0.mk (keep_trans HK3.out hk3); have HN4 := Aside0.mk (Kd.N_keep HN3.out hk3 okB4.out); clear hn3 hf3 he3 hk3; obtain ⟨F6, fw6, f6⟩ := HE4.out.done; have FW6 := Aside0.mk fw6; have F6H := Aside0.mk f6; clear fw6 f6; have hq4_3 : w3.cell? ⟨gx, 4, none⟩ = some (.map (some g4)) := (blk_cell HE4.out.exp 4).trans rfl) | (refine few_put rfl rfl Try.underlying2 Try.underlying135 FW6.out rfl n rfl HIN.out.wf (by have := HIN.out; unfold IN at this; omega) (by have := HIN.out; unfold IN at this; omega) (.slice A6 xx.length c6) rfl ?_; intro w5 hm5 hg5; have HE5_ := Aside0.mk (HE4.out.put hg5 (DoneMap.put F6H.out hm5 HX3.out hg5 HE4.out.ok4)); have HX5 := Aside0.mk (show VR w5 (fun k => okB k ∧ some k ≠ u5.ownBlock) A6 c6 xx from Kd.V_grown HX3.out hg5 (fun k hk => someNe (okB4.out k hk.1))); have HN5_ := Aside0.mk (Kd.N_grown HN4.out hg5 (fun k hk => someNe (okB4.out k hk))); have HK5_ := Aside0.mk (keep_map HK4.out hg5); clear hm5 hg5))
            go_roundw
            case rel => exact ⟨j + 1, out, updD D1 n xx, by rw [wrap_succ hlt HM.out], ⟨by omega⟩, ⟨HNX.out⟩, ⟨HN5_.out⟩, ⟨FR.out⟩, ⟨HE5_.out⟩, ⟨HK5_.out⟩⟩
            case measure => rw [wrap_succ hlt HM.out]; simp only [intOf, Int.toNat_natCast]; omega
          have tz : ((xx.length : Int) == 0) = false := beq_eq_false_iff_ne.mpr (by omega)
          obtain ⟨hlen, hnext⟩ := HP.out hz
          have HLen := Aside0.mk hlen
          have HNX := Aside0.mk hnext
          clear HZ HP hlen hnext hz
          go_wp2_with (first | (go_at_call 25; (with_reducible refine (subprogram_Call.calls kc x.f0 A1 c1 x.f1 x.f2 n tn true e _ (Kd.C_alloc HK1.out _) HL1.out HCL.out).mono ?_); rintro e2 w2 ⟨rfl, hb2⟩; have HB20 := Aside0.mk (below_then (below_alloc (Below.refl _ _) _) (below_alloc (Below.refl _ _) _).size hb2); have BK := Aside0.mk (blk_below (alloc_at _ _) hb2); clear hb2; have HE3 := Aside0.mk (HE2.out.step HB20.out); have HN3 := Aside0.mk (Kd.N_below HN.out HB20.out); have HK3 := Aside0.mk (keep_below HK.out HB20.out); have hz0 : w2.cell? ⟨wr.heap.size, 0, none⟩ = some (.bool x.f0) := (blk_cell BK.out 0).trans rfl; have hz1 : w2.cell? ⟨wr.heap.size, 1, none⟩ = some (.slice A1 x.f1.length c1) := (blk_cell BK.out 1).trans rfl; have hz2 : w2.cell? ⟨wr.heap.size, 2, none⟩ = some (.string x.f2) := (blk_cell BK.out 2).trans rfl; have hq4 : w2.cell? ⟨gx, 4, none⟩ = some (.map (some g4)) := (blk_cell HE3.out.exp 4).trans rfl; have hq0 : w2.cell? ⟨gx, 0, none⟩ = some (.map (some g0)) := (blk_cell HE3.out.exp 0).trans rfl; obtain ⟨F4, fw4, f4⟩ := HE3.out.done; have FW4 := Aside0.mk fw4; obtain ⟨n4_, m4, _⟩ := fw4; have M4 := Aside0.mk m4; have F4H := Aside0.mk f4; obtain ⟨h4a, A4, c4, h4b, h4c⟩ := f4 n; have H4A := Aside0.mk h4a; have H4B := Aside0.mk h4b; have H4C := Aside0.mk h4c; clear m4 f4 h4a h4b h4c) | ((with_reducible refine gate_dst (N := 39) rfl ?_); refine map_lookOk 39 rfl rfl rfl Try.underlying2 Try.underlying135 zero_rows M4.out rfl n rfl HIN.out.wf (.slice A4 0 c4) false (by have h_ := H4B.out; rw [HD.out] at h_; exact h_) (by have h_ := H4A.out; rw [HD.out] at h_; exact h_) ?_; obtain ⟨F0, ⟨n0_, m0, _⟩, f0⟩ := HE3.out.sub; obtain ⟨A5, c5, h5, v5_⟩ := f0 n; have M0 := Aside0.mk m0; have H5 := Aside0.mk h5; have V5 := Aside0.mk v5_; clear m0 f0 h5 v5_) | ((with_reducible refine gate_dst (N := 50) rfl ?_); refine map_look 50 rfl rfl rfl Try.underlying2 Try.underlying135 zero_rows M0.out rfl n rfl HIN.out.wf (.slice A5 (subs n).length c5) H5.out ?_) | (go_at_call 64; (with_reducible refine (IH.out (subs n) A5 c5 (fun k => (okB k ∧ some k ≠ u5.ownBlock) ∧ k < w2.heap.size) D2 D1 xx w2 ?rE V5.out HR.out).mono ?_); (case rE => exact HE3.out.mono (fun k hk hlt => ⟨hk, hlt⟩) (fun k hk => ⟨HE3.out.ok0 k hk, Nat.lt_of_lt_of_le hk HE3.out.below.size⟩) (fun hk => HE3.out.ok4 hk.1)); rintro e3 w3 ⟨v3, rfl, hn3, hf3, he3, hk3⟩; obtain ⟨A6, c6, rfl⟩ := Kd.N_slice hn3; have LTO := Aside0.mk (Kd.N_lt HN3.out); have UP := Aside0.mk (show ∀ k, (((okB k ∧ some k ≠ u5.ownBlock) ∧ k < w2.heap.size) ∨ w2.heap.size ≤ k) → (okB k ∧ some k ≠ u5.ownBlock) from fun k hk => by rcases hk with hk | hk; exact hk.1; exact ⟨okB1.out k (Nat.le_trans HK3.out.1 hk), fun e => by have := LTO.out k e.symm; omega⟩); have HX3 := Aside0.mk (show VR w3 (fun k => okB k ∧ some k ≠ u5.ownBlock) A6 c6 xx from Kd.V_mono (Kd.N_V hn3) UP.out); have HE4 := Aside0.mk (show ExpD w0 w3 gx g0 g1 g2 g3 g4 subs (fun k => okB k ∧ some k ≠ u5.ownBlock) D1 from he3.mono (fun k hk _ => UP.out k hk) HE3.out.ok0 HE3.out.ok4); have HK4 := Aside0.mk (keep_trans HK3.out hk3); have HN4 := Aside0.mk (Kd.N_keep HN3.out hk3 okB4.out); clear hn3 hf3 he3 hk3; obtain ⟨F6, fw6, f6⟩ := HE4.out.done; have FW6 := Aside0.mk fw6; have F6H := Aside0.mk f6; clear fw6 f6; have hq4_3 : w3.cell? ⟨gx, 4, none⟩ = some (.map (some g4)) := (blk_cell HE4.out.exp 4).trans rfl) | (refine few_put rfl rfl Try.underlying2 Try.underlying135 FW6.out rfl n rfl HIN.out.wf (by have := HIN.out; unfold IN at this; omega) (by have := HIN.out; unfold IN at this; omega) (.slice A6 xx.length c6) rfl ?_; intro w5 hm5 hg5; have HE5_ := Aside0.mk (HE4.out.put hg5 (DoneMap.put F6H.out hm5 HX3.out hg5 HE4.out.ok4)); have HX5 := Aside0.mk (show VR w5 (fun k => okB k ∧ some k ≠ u5.ownBlock) A6 c6 xx from Kd.V_grown HX3.out hg5 (fun k hk => someNe (okB4.out k hk.1))); have HN5_ := Aside0.mk (Kd.N_grown HN4.out hg5 (fun k hk => someNe (okB4.out k hk))); have HK5_ := Aside0.mk (keep_map HK4.out hg5); clear hm5 hg5))
          go_loopw [62, 5] (fun i v5 w' => ∃ (m : Nat), i = .int .i64 m ∧ Aside0 (m ≤ tn) ∧ Aside0 (Kd.N k32 32 w' w0.heap.size okB v5 (out ++ (List.replicate m xx).flatten)) ∧ Aside0 (∀ k, (v5 : Value).ownBlock = some k → W.heap.size ≤ k) ∧ Aside0 (ExpD w0 w' gx g0 g1 g2 g3 g4 subs (fun k => okB k ∧ some k ≠ (v5 : Value).ownBlock) (updD D1 n xx)) ∧ Aside0 (VR w' (fun k => okB k ∧ some k ≠ (v5 : Value).ownBlock) A6 c6 xx) ∧ Aside0 (KeepBut W w' g4 none)) (fun i _ _ => tn - (intOf i).toNat)
          case atStart => exact ⟨0, rfl, ⟨Nat.zero_le _⟩, ⟨by simpa using HN5_.out⟩, ⟨FR.out⟩, ⟨HE5_.out⟩, ⟨HX5.out⟩, ⟨HK5_.out⟩⟩
          case round =>
            obtain ⟨m, rfl, HMJ, HN5, FR5, HE5, HV5, HK5⟩ := hrel
            clear HN5_ HE5_ HK5_ HX5 hz0 hz1 hz2 hq4 hq0 hq4_3 FW4 M4 F4H H4A H4B H4C M0 H5 V5 FW6 F6H HE4 HK4 HN4 HX3 UP LTO BK HB20 HN HN3 HE3 HE2 HK HK3 HI HR
            have HIT2 := HIT.out
            unfold IN at HIT2
            have w1_ : wrap64 ((m : Int) + 1) = ((m + 1 : Nat) : Int) := by have := HMJ.out; unfold wrap64; omega
            clear HIT2
            by_cases hm : m < tn
            · have hm' : decide ((m : Int) < (tn : Int)) = true := by simp; omega
              have HLM := Aside0.mk (show (out ++ (List.replicate m xx).flatten).length + xx.length ≤ 100000 from by have := HLen.out; simp only [Int.toNat_natCast] at this; have h2 : (m + 1) * xx.length ≤ tn * xx.length := Nat.mul_le_mul_right _ hm; rw [Nat.succ_mul] at h2; rw [List.length_append, rep_len]; omega)
              have W1 := Aside0.mk w1_
              clear w1_
              go_wp2_with ((with_reducible refine gate_builtin (b := .append) (xs := #[.tmp 64, .tmp 65]) rfl ?_); (try (refine gate_guard (by rfl) ?_; dsimp only)); at_builtin; refine Kd.N_append_rows k32 (w0 := w0) w0.heap.size rfl (.tmp 64) (.tmp 65) 35 32 (.agg #[(.bool false), (.slice none 0 0), (.string ⟨#[]⟩)]) 48 rfl Try.underlying35 info32 rfl (by decide) (by omega) u5 (out ++ (List.replicate m xx).flatten) xx _ _ _ okB (fun k => okB k ∧ some k ≠ u5.ownBlock) rfl rfl ?aO ?aR (fun _ hk => hk) ?aF ?aB ?aS ?aL ?_; (case aR => exact Kd.V_F HV5.out); (case aF => exact fun k hk => okB1.out k (Nat.le_trans HK5.out.1 hk)); (case aO => exact HN5.out); (case aB => exact HE5.out.below); (case aS => exact HE5.out.below.size); (case aL => have := HLM.out; omega); intro v6 w6 ho hb hg hat; have HN6 := Aside0.mk (show Kd.N k32 32 w6 w0.heap.size okB v6 (out ++ (List.replicate (m + 1) xx).flatten) from by rw [← rep_succ]; exact ho); have HE6 := Aside0.mk (ExpD.after HE5.out hb hg hat (Kd.N_typed HN5.out) (Kd.N_base ho)); have HV6 := Aside0.mk (Kd.V_after HV5.out hg hat); have HK6 := Aside0.mk (keep_own HK5.out hg FR5.out); have FR6 := Aside0.mk (fresh_after HK5.out.1 FR5.out hat); clear ho hb hg hat)
              go_roundw
              case rel => exact ⟨m + 1, by rw [W1.out], ⟨by omega⟩, ⟨HN6.out⟩, ⟨FR6.out⟩, ⟨HE6.out⟩, ⟨HV6.out⟩, ⟨HK6.out⟩⟩
              case measure => rw [W1.out]; simp only [intOf, Int.toNat_natCast]; omega
            have hm' : decide ((m : Int) < (tn : Int)) = false := by simp; omega
            obtain rfl : m = tn := by have := HMJ.out; omega
            clear w1_
            go_wp2
            go_roundw
            case rel => exact ⟨j + 1, out ++ rep (m : Int) xx, updD D1 n xx, by rw [wrap_succ hlt HM.out], ⟨by omega⟩, ⟨HNX.out⟩, ⟨by have := HN5.out; unfold rep; simpa using this⟩, ⟨FR5.out⟩, ⟨HE5.out⟩, ⟨HK5.out⟩⟩
            case measure => rw [wrap_succ hlt HM.out]; simp only [intOf, Int.toNat_natCast]; omega
      have hlt' : decide ((j : Int) < (l.length : Int)) = false := by simp; omega
      have hI := HI.out
      rw [List.drop_eq_nil_of_le (by omega), expL] at hI
      simp only [Option.some.injEq, Prod.mk.injEq] at hI
      obtain ⟨rfl, rfl⟩ := hI
      go_wp2
      go_ret
      obtain rfl := OKB.out
      exact ⟨_, rfl, HN.out, FR.out, HE2.out.mono (fun k hk _ => hk.1) (fun k hk => Or.inl (OK0.out k hk)) (fun hk => okB4.out g4 hk rfl), HK.out⟩
def Clone_Block.f (l0 : List (S32)) : Option ((List (S32))) := if l0.length < 2932031007402 then some l0 else none
set_option maxHeartbeats 1000000 in
set_option maxRecDepth 100000 in
theorem Clone_Block.calls (P0_ : Nat → Prop) (A0 : Option Addr) (c0 : Nat) (l0 : List (S32)) (r : List (S32)) (w : World) (hs0 : Kd.V k32 32 w w.heap.size (fun k_ => P0_ k_) (.slice A0 l0.length c0) l0) (h : Clone_Block.f l0 = some r) :
    Calls Try.prog 33 #[.slice A0 l0.length c0] w fun e w' => ∃ v0_ : Value, e = .returned (v0_) ∧ Kd.N k32 32 w' w.heap.size (fun k_ => (P0_ k_ ∨ w.heap.size ≤ k_)) v0_ r ∧ Below w.heap.size w w' := by
  unfold Clone_Block.f at h
  by_cases hl : l0.length < 2932031007402
  rotate_left
  · rw [if_neg hl] at h; cases h
  rw [if_pos hl] at h
  obtain rfl := Option.some.inj h
  have HL := Aside0.mk hl
  have HS := Aside0.mk hs0
  clear hs0 hl h
  have qT : ∀ (w : World) (a : Option Addr) (n c n' c' : Nat), (binOp .eql 35 (.slice a n c) (.slice none n' c')).run Try.prog w = .ok (.bool a.isNone) w := fun w a n c n' c' => Lib.run_eql_slice_nil w _ _ a n c n' c' Try.underlying35
  cases A0 with
  | none =>
    have h0 : l0 = [] := by
      have hc := (Kd.V_reads' HS.out).2.2
      obtain ⟨_, _, hn⟩ := hc
      cases l0 with
      | nil => rfl
      | cons x l => obtain ⟨ad, he, _⟩ := hn (by simp); cases he
    subst h0
    go_enter Try.func33, Try.ntmps33
    go_wp2
    go_ret
    exact ⟨_, rfl, Kd.N_nil _ _ _ _ _, Below.refl _ _⟩
  | some ad =>
    go_enter Try.func33, Try.ntmps33
    go_wp2_with (first | ((with_reducible refine gate_dst (N := 5) rfl ?_); refine Kd.N_lit k32 w.heap.size 32 ?hg (N' := 5) ?hd (xs := ([] : List (S32))) (inner := []) (ok := (fun k_ => (P0_ k_ ∨ w.heap.size ≤ k_))) (okp := (fun k_ => (P0_ k_ ∨ w.heap.size ≤ k_))) ?hr ?hp (fun _ hk => hk) (.inr (Nat.le_refl _)) (Below.refl _ _) (Nat.le_refl _) (by simp) ?_; (case hd => rfl); (case hg => rfl); (case hr => first | (go_simp; done) | (go_simp; rfl)); (case hp => exact (Reps.none _ _)); intro v5 w4 ho5 hb hg_ hnew_; have HO5 := Aside0.mk ho5; have HB4 := Aside0.mk hb; have HN5 := Aside0.mk (show ∃ b, v5.ownBlock = some b ∧ w.heap.size ≤ b from hnew_); have HS4 := Aside0.mk (Kd.V_elder' HS.out (Kd.N_base ho5) hb); clear hg_ hnew_ hb ho5) | ((with_reducible refine gate_builtin (b := .append) (xs := #[.tmp 5, .tmp 6]) rfl ?_); at_builtin; refine Kd.N_append_rows k32 (w0 := w) w.heap.size rfl (.tmp 5) (.tmp 6) 35 32 (.agg #[(.bool false), (.slice none 0 0), (.string ⟨#[]⟩)]) 48 rfl Try.underlying35 info32 rfl (by decide) (by omega) v5 [] l0 _ _ _ (fun k_ => (P0_ k_ ∨ w.heap.size ≤ k_)) (fun k_ => (fun k_ => (P0_ k_ ∨ w.heap.size ≤ k_)) k_ ∧ some k_ ≠ (v5 : Value).ownBlock) rfl rfl ?aO ?aR (fun _ hk => hk) ?aF ?aB ?aS ?aL ?_; (case aO => exact HO5.out); (case aR => exact Kd.V_F (Kd.V_mono HS4.out (fun k_ hk => ⟨.inl hk.1, hk.2⟩))); (case aF => exact fun k_ hk => .inr (Nat.le_trans HB4.out.size hk)); (case aB => exact HB4.out); (case aS => exact HB4.out.size); (case aL => have := HL.out; simp only [List.length_nil]; omega); intro v7 w5 ho7 hb hg_ hat_; have HO7 := Aside0.mk ho7; have HB5 := Aside0.mk hb; clear hg_ hat_ hb ho7))
    go_ret
    exact ⟨_, rfl, HO7.out, HB5.out⟩
def Clone_Word.f (l0 : List (S78)) : Option ((List (S78))) := if l0.length < 8796093022208 then some l0 else none
set_option maxHeartbeats 1000000 in
set_option maxRecDepth 100000 in
theorem Clone_Word.calls (A0 : Option Addr) (c0 : Nat) (l0 : List (S78)) (r : List (S78)) (w : World) (hr0 : Kd.C k78 w A0 l0.length l0) (hc0 : l0.length ≤ c0) (h : Clone_Word.f l0 = some r) :
    Calls Try.prog 65 #[.slice A0 l0.length c0] w fun e w' => ∃ v0_ : Value, e = .returned (v0_) ∧ Kd.R k78 78 w' w.heap.size (fun _ => True) v0_ r ∧ Below w.heap.size w w' := by
  unfold Clone_Word.f at h
  by_cases hl : l0.length < 8796093022208
  rotate_left
  · rw [if_neg hl] at h; cases h
  rw [if_pos hl] at h
  obtain rfl := Option.some.inj h
  have HL := Aside0.mk hl
  have HR := Aside0.mk hr0
  clear hr0 hl h
  have qT : ∀ (w : World) (a : Option Addr) (n c n' c' : Nat), (binOp .eql 30 (.slice a n c) (.slice none n' c')).run Try.prog w = .ok (.bool a.isNone) w := fun w a n c n' c' => Lib.run_eql_slice_nil w _ _ a n c n' c' Try.underlying30
  cases A0 with
  | none =>
    have h0 : l0 = [] := by
      obtain ⟨_, _, hn⟩ := HR.out
      cases l0 with
      | nil => rfl
      | cons x l => obtain ⟨ad, he, _⟩ := hn (by simp); cases he
    subst h0
    go_enter Try.func65, Try.ntmps65
    go_wp2
    go_ret
    exact ⟨_, rfl, Kd.R_nil _ _ _ _ _, Below.refl _ _⟩
  | some ad =>
    go_enter Try.func65, Try.ntmps65
    go_wp2_with (first | ((with_reducible refine gate_dst (N := 5) rfl ?_); refine Kd.R_lit k78 w.heap.size 78 ?hg (N := 5) ?hd (xs := ([] : List (S78))) (inner := []) (ok := (fun _ => True)) (okp := (fun _ => False)) ?hr ?hp (fun _ hk => hk.elim) trivial (Below.refl _ _) (Nat.le_refl _) (by simp) ?_; (case hd => rfl); (case hg => rfl); (case hr => first | (go_simp; done) | (go_simp; rfl)); (case hp => exact (Reps.none _ _)); intro v5 w4 ho5 hb hg_ hnew_; have HO5 := Aside0.mk ho5; have HB4 := Aside0.mk hb; have HR4 := Aside0.mk (Kd.C_below HR.out hb); clear hg_ hnew_ hb ho5) | ((with_reducible refine gate_builtin (b := .append) (xs := #[.tmp 5, .tmp 6]) rfl ?_); at_builtin; refine Kd.R_append_rows k78 (Rr := fun x c => k78.K w4 x c) (w0 := w) w.heap.size rfl (.tmp 5) (.tmp 6) 30 78 (.agg #[(.int .u8 0), (.int .i64 0)]) 16 rfl Try.underlying30 info78 rfl (by decide) (by omega) v5 [] l0 _ _ _ (fun _ => True) (fun _ => False) rfl rfl ?aO ?aR ?aK (fun _ hk => hk.elim) (fun _ _ => trivial) ?aB ?aS ?aL ?_; (case aO => exact HO5.out); (case aR => exact HR4.out); (case aK => exact fun x cs hk => by rw [k78_open hk]; exact k78_mkM _ _ _ _); (case aB => exact HB4.out); (case aS => exact HB4.out.size); (case aL => have := HL.out; simp only [List.length_nil]; omega); intro v7 w5 ho7 hb hg_ hat_; have HO7 := Aside0.mk ho7; have HB5 := Aside0.mk hb; clear hg_ hat_ hb ho7))
    go_ret
    exact ⟨_, rfl, HO7.out, HB5.out⟩
end Go.Proofs.Ytehkhbnhmehobaa.P
