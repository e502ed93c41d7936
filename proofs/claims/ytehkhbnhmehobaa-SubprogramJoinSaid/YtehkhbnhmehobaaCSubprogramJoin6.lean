/- The law swarflaw43.SubprogramJoin of the given program returns true for every input, and its arguments read behind the call as they read before.
   Conditions: none beyond the given statement Rows.SubprogramJoinSaid. -/
import Derived.Test.YtehkhbnhmehobaaRows
import Derived.WalkKit
import Derived.ProofKit
import Derived.OpenShut
import Derived.ShutString
import Derived.ChangeOld
import Derived.Below
import Derived.SizedLaws
import Derived.Carry
import Derived.Test.YtehkhbnhmehobaaCSubprogramJoin1
import Derived.Test.YtehkhbnhmehobaaCSubprogramJoin2
import Derived.Test.YtehkhbnhmehobaaCSubprogramJoin3
import Derived.Test.YtehkhbnhmehobaaCSubprogramJoin4
import Derived.Test.YtehkhbnhmehobaaCSubprogramJoin5
namespace Go.Proofs.Ytehkhbnhmehobaa.P
open Go.RowKit Go.Proofs.YtehkhbnhmehobaaW.PrintWords Go.Proofs.YtehkhbnhmehobaaW.PrintLast Go.Proofs.YtehkhbnhmehobaaW.PrintMore
set_option linter.unusedVariables false
set_option linter.unusedSimpArgs false
abbrev SubsO := Int → Option (List S32)
def checkedF (k : Nat) (l0 : List S32) (l1 : List S81) : Option (Int × SubsO × St3 × Int) :=
  (newF k l0 l1).bind fun q => if q.1 = 0 then (sumL k q.2.2.2.1 q.2.2.2.2 l0 0 0).bind fun s => if s.1 > 8 then some (3, q.2.1, q.2.2, 0) else if s.2 > 20000 then some (3, q.2.1, q.2.2, 0) else some (0, q.2.1, q.2.2, s.2) else some (q.1, q.2.1, q.2.2, 0)
def subprogram_Expand.f (k : Nat) (l0_0 : List (S32)) (l0_1 : List (S81)) : Option ((List (S32)) × Int) :=
  (checkedF k l0_0 l0_1).bind fun q => if q.1 = 0 then (expF k (fun y => (q.2.1 y).getD []) k l0_0 (fun _ => none)).bind fun r => if (decide (r.1.length < 1000000) && r.1.all (fun x => decide (x.f1.length < 1000000))) = true then some (r.1, 0) else none else some ([], q.1)
def CheckPost (w : World) (er size : Int) (M : SubsO) (S : St3) (e : Ending) (w' : World) : Prop := ∃ pp : Option Addr, e = .returned (.tuple #[.pointer pp, .int .i64 size, .int .i64 er]) ∧ Below w.heap.size w w' ∧ (er = 0 → ∃ gx g0 g1 g2 g3 g4, pp = some ⟨gx, 0, none⟩ ∧ ExpW w w' gx g0 g1 g2 g3 g4 (fun y => (M y).getD []) S)
theorem CheckPost.of {w w' : World} {er size : Int} {M : SubsO} {S : St3} (pp : Option Addr) (h1 : Below w.heap.size w w') (h2 : er = 0 → ∃ gx g0 g1 g2 g3 g4, pp = some ⟨gx, 0, none⟩ ∧ ExpW w w' gx g0 g1 g2 g3 g4 (fun y => (M y).getD []) S) : CheckPost w er size M S (.returned (.tuple #[.pointer pp, .int .i64 size, .int .i64 er])) w' := ⟨pp, rfl, h1, h2⟩
theorem ExpW.from {w w1 W : World} {gx g0 g1 g2 g3 g4 : Nat} {subs : Int → List S32} {S : St3} (h : ExpW w1 W gx g0 g1 g2 g3 g4 subs S) (hb : Below w.heap.size w w1) (hs : SubMap w W g0 subs) : ExpW w W gx g0 g1 g2 g3 g4 subs S := by
  have := hb.size
  have h1 := h.ge1
  have h2 := h.ge2
  have h3 := h.ge3
  have h4 := h.ge4
  exact { h with below := below_then hb hb.size h.below, sub := hs, ge1 := by omega, ge2 := by omega, ge3 := by omega, ge4 := by omega }
def CheckPost' (w : World) (er size : Int) (M : SubsO) (S : St3) (e : Ending) (w' : World) : Prop := ∃ pp : Option Addr, e = .returned (.tuple #[.pointer pp, .int .i64 size, .int .i64 er]) ∧ Below w.heap.size w w' ∧ (er = 0 → ∃ wg gx g0 g1 g2 g3 g4, Below w.heap.size w wg ∧ pp = some ⟨gx, 0, none⟩ ∧ ExpW wg w' gx g0 g1 g2 g3 g4 (fun y => (M y).getD []) S)
theorem CheckPost'.of {w w' : World} {er size : Int} {M : SubsO} {S : St3} (pp : Option Addr) (h1 : Below w.heap.size w w') (h2 : er = 0 → ∃ wg gx g0 g1 g2 g3 g4, Below w.heap.size w wg ∧ pp = some ⟨gx, 0, none⟩ ∧ ExpW wg w' gx g0 g1 g2 g3 g4 (fun y => (M y).getD []) S) : CheckPost' w er size M S (.returned (.tuple #[.pointer pp, .int .i64 size, .int .i64 er])) w' := ⟨pp, rfl, h1, h2⟩
set_option maxHeartbeats 4000000 in
set_option maxRecDepth 100000 in
theorem checked_calls (k : Nat) (A0 : Option Addr) (c0 : Nat) (l0 : List S32) (A1 : Option Addr) (c1 : Nat) (l1 : List S81) (er size : Int) (M : SubsO) (S : St3) (w : World) (hr0_0 : Kd.C k32 w A0 l0.length l0) (hc0_0 : l0.length ≤ c0) (hr0_1 : Kd.C k81 w A1 l1.length l1) (hc0_1 : l1.length ≤ c1) (h : checkedF k l0 l1 = some (er, M, S, size)) :
    Calls Try.prog 63 #[.agg #[.slice A0 l0.length c0, .slice A1 l1.length c1]] w (CheckPost' w er size M S) := by
  have hu54 := Try.underlying54
  unfold checkedF at h
  obtain ⟨⟨e0, M0, S0⟩, hn, h2⟩ := Option.bind_eq_some_iff.mp h
  have HR0 := Aside0.mk hr0_0
  have HC0 := Aside0.mk hc0_0
  have HR1 := Aside0.mk hr0_1
  have HC1 := Aside0.mk hc0_1
  have HN := Aside0.mk hn
  have H := Aside0.mk h2
  clear hr0_0 hc0_0 hr0_1 hc0_1 h hn h2
  by_cases he : e0 = 0
  · subst he
    have H2 := H.out
    simp only [if_true] at H2
    obtain ⟨⟨d, s⟩, hs, H3⟩ := Option.bind_eq_some_iff.mp H2
    have HS := Aside0.mk hs
    have HT := Aside0.mk H3
    clear H2 hs H3 H
    by_cases hd : d > 8
    · have H4 := HT.out
      simp only [if_pos hd, Option.some.injEq, Prod.mk.injEq] at H4
      obtain ⟨rfl, rfl, rfl, rfl⟩ := H4
      clear HT
      go_enter Try.func63, Try.ntmps63
      go_wp2_with (first | ((with_reducible refine gate_dst (N := 1) rfl ?_); refine yX 1 #[.slice A0 l0.length c0, .slice A1 l1.length c1] 54 ?_; intro gp hgp w1 hbox hb; have BP1 := Aside0.mk hbox; have HB1 := Aside0.mk hb; clear hgp hbox hb; have hz0_1 : w1.cell? ⟨gp, 0, none⟩ = some (.slice A0 l0.length c0) := (blk_cell BP1.out 0).trans rfl; have hz1_1 : w1.cell? ⟨gp, 1, none⟩ = some (.slice A1 l1.length c1) := (blk_cell BP1.out 1).trans rfl) | (go_at_call 94; (with_reducible refine (newExpander_calls k A0 c0 l0 A1 c1 l1 0 _ _ _ (Kd.C_below HR0.out HB1.out) HC0.out (Kd.C_below HR1.out HB1.out) HC1.out HN.out).mono ?_); rintro e2 w2 hpost; obtain ⟨pp, rfl, hb2, himp⟩ := hpost; have HB2 := Aside0.mk (below_then HB1.out HB1.out.size hb2); have BP2 := Aside0.mk (blk_below BP1.out hb2); obtain ⟨gx, g0, g1, g2, g3, g4, rfl, hew⟩ := himp rfl; have HE2 := Aside0.mk hew; clear himp hew hb2 hz0_1 hz1_1; have hz0_2 : w2.cell? ⟨gp, 0, none⟩ = some (.slice A0 l0.length c0) := (blk_cell BP2.out 0).trans rfl) | (go_at_call 95; (with_reducible refine (sum_calls k gx g0 g1 g2 g3 g4 _ _ A0 c0 l0 d s _ HE2.out.exp HE2.out.m2 HE2.out.m3 (Kd.C_below HR0.out HB2.out) HC0.out HS.out).mono ?_); rintro e3 w3 ⟨rfl, hb3⟩; have HB3 := Aside0.mk (below_then HB2.out HB2.out.size hb3); have HE3 := Aside0.mk (HE2.out.step hb3); clear hb3))
      refine bodyPost_ret (results_list (rs := [.tmp 2, .tmp 3, .tmp 4]) rfl (by simp) (.tmp (.tmp (.tmp .nil)))) rfl ?_
      exact CheckPost'.of none HB3.out (fun h => absurd h (by decide))
    by_cases hs2 : s > 20000
    · have H4 := HT.out
      simp only [if_neg hd, if_pos hs2, Option.some.injEq, Prod.mk.injEq] at H4
      obtain ⟨rfl, rfl, rfl, rfl⟩ := H4
      clear HT
      go_enter Try.func63, Try.ntmps63
      go_wp2_with (first | ((with_reducible refine gate_dst (N := 1) rfl ?_); refine yX 1 #[.slice A0 l0.length c0, .slice A1 l1.length c1] 54 ?_; intro gp hgp w1 hbox hb; have BP1 := Aside0.mk hbox; have HB1 := Aside0.mk hb; clear hgp hbox hb; have hz0_1 : w1.cell? ⟨gp, 0, none⟩ = some (.slice A0 l0.length c0) := (blk_cell BP1.out 0).trans rfl; have hz1_1 : w1.cell? ⟨gp, 1, none⟩ = some (.slice A1 l1.length c1) := (blk_cell BP1.out 1).trans rfl) | (go_at_call 94; (with_reducible refine (newExpander_calls k A0 c0 l0 A1 c1 l1 0 _ _ _ (Kd.C_below HR0.out HB1.out) HC0.out (Kd.C_below HR1.out HB1.out) HC1.out HN.out).mono ?_); rintro e2 w2 hpost; obtain ⟨pp, rfl, hb2, himp⟩ := hpost; have HB2 := Aside0.mk (below_then HB1.out HB1.out.size hb2); have BP2 := Aside0.mk (blk_below BP1.out hb2); obtain ⟨gx, g0, g1, g2, g3, g4, rfl, hew⟩ := himp rfl; have HE2 := Aside0.mk hew; clear himp hew hb2 hz0_1 hz1_1; have hz0_2 : w2.cell? ⟨gp, 0, none⟩ = some (.slice A0 l0.length c0) := (blk_cell BP2.out 0).trans rfl) | (go_at_call 95; (with_reducible refine (sum_calls k gx g0 g1 g2 g3 g4 _ _ A0 c0 l0 d s _ HE2.out.exp HE2.out.m2 HE2.out.m3 (Kd.C_below HR0.out HB2.out) HC0.out HS.out).mono ?_); rintro e3 w3 ⟨rfl, hb3⟩; have HB3 := Aside0.mk (below_then HB2.out HB2.out.size hb3); have HE3 := Aside0.mk (HE2.out.step hb3); clear hb3))
      refine bodyPost_ret (results_list (rs := [.tmp 2, .tmp 3, .tmp 4]) rfl (by simp) (.tmp (.tmp (.tmp .nil)))) rfl ?_
      exact CheckPost'.of none HB3.out (fun h => absurd h (by decide))
    have H4 := HT.out
    simp only [if_neg hd, if_neg hs2, Option.some.injEq, Prod.mk.injEq] at H4
    obtain ⟨rfl, rfl, rfl, rfl⟩ := H4
    clear HT
    go_enter Try.func63, Try.ntmps63
    go_wp2_with (first | ((with_reducible refine gate_dst (N := 1) rfl ?_); refine yX 1 #[.slice A0 l0.length c0, .slice A1 l1.length c1] 54 ?_; intro gp hgp w1 hbox hb; have BP1 := Aside0.mk hbox; have HB1 := Aside0.mk hb; clear hgp hbox hb; have hz0_1 : w1.cell? ⟨gp, 0, none⟩ = some (.slice A0 l0.length c0) := (blk_cell BP1.out 0).trans rfl; have hz1_1 : w1.cell? ⟨gp, 1, none⟩ = some (.slice A1 l1.length c1) := (blk_cell BP1.out 1).trans rfl) | (go_at_call 94; (with_reducible refine (newExpander_calls k A0 c0 l0 A1 c1 l1 0 _ _ _ (Kd.C_below HR0.out HB1.out) HC0.out (Kd.C_below HR1.out HB1.out) HC1.out HN.out).mono ?_); rintro e2 w2 hpost; obtain ⟨pp, rfl, hb2, himp⟩ := hpost; have HB2 := Aside0.mk (below_then HB1.out HB1.out.size hb2); have BP2 := Aside0.mk (blk_below BP1.out hb2); obtain ⟨gx, g0, g1, g2, g3, g4, rfl, hew⟩ := himp rfl; have HE2 := Aside0.mk hew; clear himp hew hb2 hz0_1 hz1_1; have hz0_2 : w2.cell? ⟨gp, 0, none⟩ = some (.slice A0 l0.length c0) := (blk_cell BP2.out 0).trans rfl) | (go_at_call 95; (with_reducible refine (sum_calls k gx g0 g1 g2 g3 g4 _ _ A0 c0 l0 d s _ HE2.out.exp HE2.out.m2 HE2.out.m3 (Kd.C_below HR0.out HB2.out) HC0.out HS.out).mono ?_); rintro e3 w3 ⟨rfl, hb3⟩; have HB3 := Aside0.mk (below_then HB2.out HB2.out.size hb3); have HE3 := Aside0.mk (HE2.out.step hb3); clear hb3))
    refine bodyPost_ret (results_list (rs := [.tmp 2, .tmp 3, .tmp 4]) rfl (by simp) (.tmp (.tmp (.tmp .nil)))) rfl ?_
    exact CheckPost'.of (some ⟨gx, 0, none⟩) HB3.out (fun _ => ⟨w1, gx, g0, g1, g2, g3, g4, HB1.out, rfl, HE3.out⟩)
  have H4 := H.out
  simp only [if_neg he, Option.some.injEq, Prod.mk.injEq] at H4
  obtain ⟨rfl, rfl, rfl, rfl⟩ := H4
  have hne : (e0 == 0) = false := beq_eq_false_iff_ne.mpr he
  have hne2 : (e0 != 0) = true := bne_iff_ne.mpr he
  have HE0 := Aside0.mk he
  clear H he
  go_enter Try.func63, Try.ntmps63
  go_wp2_with (first | ((with_reducible refine gate_dst (N := 1) rfl ?_); refine yX 1 #[.slice A0 l0.length c0, .slice A1 l1.length c1] 54 ?_; intro gp hgp w1 hbox hb; have BP1 := Aside0.mk hbox; have HB1 := Aside0.mk hb; clear hgp hbox hb; have hz0_1 : w1.cell? ⟨gp, 0, none⟩ = some (.slice A0 l0.length c0) := (blk_cell BP1.out 0).trans rfl; have hz1_1 : w1.cell? ⟨gp, 1, none⟩ = some (.slice A1 l1.length c1) := (blk_cell BP1.out 1).trans rfl) | (go_at_call 94; (with_reducible refine (newExpander_calls k A0 c0 l0 A1 c1 l1 e0 _ _ _ (Kd.C_below HR0.out HB1.out) HC0.out (Kd.C_below HR1.out HB1.out) HC1.out HN.out).mono ?_); rintro e2 w2 hpost; obtain ⟨pp, rfl, hb2, himp⟩ := hpost; have HB2 := Aside0.mk (below_then HB1.out HB1.out.size hb2); have BP2 := Aside0.mk (blk_below BP1.out hb2); clear himp hb2))
  refine bodyPost_ret (results_list (rs := [.tmp 2, .tmp 3, .tmp 4]) rfl (by simp) (.tmp (.tmp (.tmp .nil)))) rfl ?_
  exact CheckPost'.of none HB2.out (fun h => absurd h HE0.out)
theorem ExpW.expD {w W : World} {gx g0 g1 g2 g3 g4 : Nat} {subs : Int → List S32} {S : St3} (h : ExpW w W gx g0 g1 g2 g3 g4 subs S) : ExpD w W gx g0 g1 g2 g3 g4 subs (fun k => k < w.heap.size) (fun _ => none) := by
  have h4 := h.ge4
  refine { below := h.below, exp := h.exp, sub := ?_, done := ⟨_, h.m4, fun y => ⟨rfl, none, 0, rfl, Kd.V_nil _ _ _ _ _⟩⟩, n04 := h.n04, ge4 := h.ge4, lt4 := h.m4.lt, ok0 := fun _ hk => hk, ok4 := fun hk => by omega }
  obtain ⟨F, hm, hf⟩ := h.sub
  refine ⟨F, hm, fun y => ?_⟩
  obtain ⟨A, c, h1, h2, h3⟩ := hf y
  exact ⟨A, c, h1, Kd.V_mk h2 (Kd.C_F k32_heap h3)⟩
set_option maxHeartbeats 8000000 in
set_option maxRecDepth 100000 in
theorem subprogram_Expand.calls (k : Nat) (A0 : Option Addr) (c0 : Nat) (l0 : List S32) (A1 : Option Addr) (c1 : Nat) (l1 : List S81) (r1 : List (S32)) (r2 : Int) (w : World) (hr0_0 : Kd.C k32 w A0 l0.length l0) (hc0_0 : l0.length ≤ c0) (hr0_1 : Kd.C k81 w A1 l1.length l1) (hc0_1 : l1.length ≤ c1) (h : subprogram_Expand.f k l0 l1 = some (r1, r2)) :
    Calls Try.prog 28 #[.agg #[.slice A0 l0.length c0, .slice A1 l1.length c1]] w fun e w' => ∃ v0_ : Value, e = .returned (.tuple #[v0_, .int .i64 r2]) ∧ Kd.S k32 32 w' w.heap.size (fun _ => True) v0_ r1 ∧ Below w.heap.size w w' := by
  have hu54 := Try.underlying54
  have hu32 := Try.underlying32
  unfold subprogram_Expand.f at h
  obtain ⟨⟨e0, M0, S0, z0⟩, hn, h2⟩ := Option.bind_eq_some_iff.mp h
  have HR0 := Aside0.mk hr0_0
  have HC0 := Aside0.mk hc0_0
  have HR1 := Aside0.mk hr0_1
  have HC1 := Aside0.mk hc0_1
  have HQ := Aside0.mk hn
  have H := Aside0.mk h2
  clear hr0_0 hc0_0 hr0_1 hc0_1 h hn h2
  by_cases he : e0 = 0
  · subst he
    have H2 := H.out
    simp only [if_true] at H2
    obtain ⟨⟨rr, D1⟩, hx, H3⟩ := Option.bind_eq_some_iff.mp H2
    have HX := Aside0.mk hx
    by_cases hgd : (decide (rr.length < 1000000) && rr.all (fun x => decide (x.f1.length < 1000000))) = true
    rotate_left
    · simp only [if_neg hgd] at H3; cases H3
    simp only [if_pos hgd, Option.some.injEq, Prod.mk.injEq] at H3
    obtain ⟨rfl, rfl⟩ := H3
    rw [Bool.and_eq_true] at hgd
    have HLN := Aside0.mk (of_decide_eq_true hgd.1)
    have HWL := Aside0.mk (show ∀ x ∈ rr, x.f1.length < 1000000 from fun x hx => of_decide_eq_true (List.all_eq_true.mp hgd.2 x hx))
    clear H2 hx hgd H
    go_enter Try.func28, Try.ntmps28
    go_wp2_with (first | ((with_reducible refine gate_dst (N := 1) rfl ?_); refine yX 1 #[.slice A0 l0.length c0, .slice A1 l1.length c1] 54 ?_; intro gp hgp w1 hbox hb; have BP1 := Aside0.mk hbox; have HB1 := Aside0.mk hb; clear hgp hbox hb; have hz0_1 : w1.cell? ⟨gp, 0, none⟩ = some (.slice A0 l0.length c0) := (blk_cell BP1.out 0).trans rfl; have hz1_1 : w1.cell? ⟨gp, 1, none⟩ = some (.slice A1 l1.length c1) := (blk_cell BP1.out 1).trans rfl) | (go_at_call 63; (with_reducible refine (checked_calls k A0 c0 l0 A1 c1 l1 0 z0 M0 S0 _ (Kd.C_below HR0.out HB1.out) HC0.out (Kd.C_below HR1.out HB1.out) HC1.out HQ.out).mono ?_); rintro e2 w2 hpost; obtain ⟨pp, rfl, hb2, himp⟩ := hpost; have HB2 := Aside0.mk (below_then HB1.out HB1.out.size hb2); have BP2 := Aside0.mk (blk_below BP1.out hb2); obtain ⟨wg, gx, g0, g1, g2, g3, g4, hbg, rfl, hew⟩ := himp rfl; have HBG := Aside0.mk (below_then HB1.out HB1.out.size hbg); have HED := Aside0.mk (show ExpD wg w2 gx g0 g1 g2 g3 g4 (fun y => (M0 y).getD []) (fun k => k < wg.heap.size) (fun _ => none) from hew.expD); clear himp hew hb2 hbg hz0_1 hz1_1; have hz0_2 : w2.cell? ⟨gp, 0, none⟩ = some (.slice A0 l0.length c0) := (blk_cell BP2.out 0).trans rfl) | (go_at_call 64; (with_reducible refine (expanded_calls k wg gx g0 g1 g2 g3 g4 (fun y => (M0 y).getD []) k l0 A0 c0 (fun k => k < wg.heap.size) (fun _ => none) D1 rr _ HED.out (Kd.V_mk HC0.out (Kd.C_F k32_heap (Kd.C_below HR0.out HBG.out))) HX.out).mono ?_); rintro e3 w3 ⟨v3, rfl, hn3, _, he3, _⟩; obtain ⟨A3, c3, rfl⟩ := Kd.N_slice hn3; have HB3 := Aside0.mk (below_then HBG.out HBG.out.size he3.below); have HC3 := Aside0.mk (Kd.N_reads' hn3).2.2; clear hn3 he3))
    clear HED BP1 BP2 hz0_2
    go_loopw [24, 7] (fun i v w' => ∃ (j : Nat), i = .int .i64 j ∧ Aside0 (j ≤ rr.length) ∧ Aside0 (Kd.S k32 32 w' w3.heap.size (fun _ => True) v (rr.take j)) ∧ Aside0 (Below w3.heap.size w3 w')) (fun i _ _ => rr.length - (intOf i).toNat)
    case atStart => exact ⟨0, rfl, ⟨Nat.zero_le _⟩, ⟨by simpa using Kd.S_nil _ _ _ _ _⟩, ⟨Below.refl _ _⟩⟩
    case round =>
      obtain ⟨j, rfl, HJ, HO, HB⟩ := hrel
      by_cases hlt : j < rr.length
      · obtain ⟨ad, A4, c4, e, hx0, hx1, hx2, hl4, hk4⟩ := at_T32 (Kd.C_below HC3.out HB.out) (j : Int) (by omega) (by omega)
        cases e
        have hrd : rd_T32 rr (j : Int) = rr[j] := by simp [rd_T32, hlt]
        rw [hrd] at hx0 hx1 hx2 hl4 hk4
        have TK := Aside0.mk (List.take_succ_eq_append_getElem hlt)
        have HWX := HWL.out rr[j] (List.getElem_mem hlt)
        have HL4 := Aside0.mk hl4
        have HK4 := Aside0.mk hk4
        clear hrd hl4 hk4
        generalize rr[j] = x at *
        have HCW := Aside0.mk (show Clone_Word.f x.f1 = some x.f1 from by unfold Clone_Word.f; rw [if_pos (by omega)])
        clear HWX
        simp only [Int.toNat_natCast] at hx0 hx1 hx2
        have hlt' : decide ((j : Int) < (rr.length : Int)) = true := by simp; omega
        go_wp2_with (first | (go_at_call 65; (with_reducible refine (Clone_Word.calls A4 c4 x.f1 x.f1 _ (Kd.C_alloc HK4.out _) HL4.out HCW.out).mono ?_); rintro e5 w5 ⟨v5, rfl, hr5, hb5⟩; obtain ⟨A5, c5, rfl⟩ := Kd.R_slice hr5; have HB5a := Aside0.mk (below_then (below_alloc (Below.refl _ _) _) (below_alloc (Below.refl _ _) _).size hb5); have BK5 := Aside0.mk (blk_below (alloc_at _ _) hb5); have HB5 := Aside0.mk (below_then HB.out HB.out.size HB5a.out); have HW5 := Aside0.mk hr5; have HO5 := Aside0.mk (Kd.S_below (Kd.S_bound HO.out) HB5a.out); have LTO := Aside0.mk (Kd.S_lt HO.out); have GEW := Aside0.mk (show ∀ k, (Value.slice A5 x.f1.length c5).ownBlock = some k → wr.heap.size < k from fun k hk => Nat.lt_of_lt_of_le (below_alloc_lt wr _) (Kd.R_base hr5 k hk)); clear hr5 hb5; have hz0 : w5.cell? ⟨wr.heap.size, 0, none⟩ = some (.bool x.f0) := (blk_cell BK5.out 0).trans rfl; have hz1 : w5.cell? ⟨wr.heap.size, 1, none⟩ = some (.slice A4 x.f1.length c4) := (blk_cell BK5.out 1).trans rfl; have hz2 : w5.cell? ⟨wr.heap.size, 2, none⟩ = some (.string x.f2) := (blk_cell BK5.out 2).trans rfl; have hfr : w5.frozen? ⟨wr.heap.size, 1, none⟩ = false := blk_frozen BK5.out 1) | ((with_reducible refine gate_store (p := 31) rfl ?_); refine store_event (t := 30) (p := 31) (v := ?vo) (w1 := (w5.setCell ⟨wr.heap.size, 1, none⟩ (.slice A5 x.f1.length c5))) ?hg ?ho ?hn ?hr ?_; (case ho => rfl); (case hg => rfl); (case hn => rfl); (case hr => first | (go_simp; done) | (go_simp; rfl)); intro w6 e6; have BK6 := Aside0.mk (show w6.heap[wr.heap.size]? = some (.cells #[.bool x.f0, .slice A5 x.f1.length c5, .string x.f2] 32 (0, 0)) from by rw [e6]; exact blk_put BK5.out 1 _ rfl); have HB6 := Aside0.mk (show Below w3.heap.size w3 w6 from by rw [e6]; exact below_set HB5.out (HB.out.size)); have HW6 := Aside0.mk (show Kd.R k78 78 w6 w3.heap.size (fun k => some k = (Value.slice A5 x.f1.length c5).ownBlock) (.slice A5 x.f1.length c5) x.f1 from by rw [e6]; exact Kd.R_far (p := ⟨wr.heap.size, 1, none⟩) (Kd.R_tight rfl (Kd.R_lower HW5.out (Nat.le_trans HB.out.size (Nat.le_of_lt (below_alloc_lt wr _))))) (fun k hk e => by have := GEW.out k hk.symm; simp only at e; omega) _); have HO6 := Aside0.mk (show Kd.S k32 32 w6 w3.heap.size (fun k => True ∧ ¬ some k = (Value.slice A5 x.f1.length c5).ownBlock) u7 (rr.take j) from by rw [e6]; exact Kd.S_mono (Kd.S_far (p := ⟨wr.heap.size, 1, none⟩) HO5.out (fun k hk e => by have := hk.2.2.1; simp only at e; omega) _) (fun k hk => ⟨trivial, fun e => by have := GEW.out k e.symm; have := hk.2.2.1; omega⟩)); clear e6 hz0 hz1 hz2 hfr; have hz0 : w6.cell? ⟨wr.heap.size, 0, none⟩ = some (.bool x.f0) := (blk_cell BK6.out 0).trans rfl; have hz1 : w6.cell? ⟨wr.heap.size, 1, none⟩ = some (.slice A5 x.f1.length c5) := (blk_cell BK6.out 1).trans rfl; have hz2 : w6.cell? ⟨wr.heap.size, 2, none⟩ = some (.string x.f2) := (blk_cell BK6.out 2).trans rfl) | ((with_reducible refine gate_builtin (b := .append) (xs := #[.tmp 32, .tmp 34]) rfl ?_); (try (refine gate_guard (by rfl) ?_; dsimp only)); at_builtin; refine Kd.S_append k32 (w0 := w3) w3.heap.size rfl (.tmp 32) (.tmp 34) 35 32 (.agg #[(.bool false), (.slice none 0 0), (.string ⟨#[]⟩)]) 48 rfl Try.underlying35 info32 rfl (by decide) (by omega) u7 (rr.take j) x [.bool x.f0, .slice A5 x.f1.length c5, .string x.f2] (fun _ => True) (fun k => some k = (Value.slice A5 x.f1.length c5).ownBlock) rfl rfl ?aP (fun k hk => ⟨trivial, fun e => by have h1 := LTO.out k e.symm; have h2 := GEW.out k hk.symm; omega⟩) (fun _ _ => trivial) HO6.out HB6.out HB6.out.size ?aL ?_; (case aP => exact k32_mkM _ _ _ x HW6.out); (case aL => have := HLN.out; simp only [List.length_take]; omega); intro v7 w7 ho hb hg hat; have HO7 := Aside0.mk (show Kd.S k32 32 w7 w3.heap.size (fun _ => True) v7 (rr.take (j + 1)) from by rw [TK.out]; exact ho); have HB7 := Aside0.mk hb; clear ho hb hg hat))
        go_roundw
        case rel => exact ⟨j + 1, by rw [wrap_succ hlt (by have := HLN.out; omega)], ⟨by omega⟩, ⟨HO7.out⟩, ⟨HB7.out⟩⟩
        case measure => rw [wrap_succ hlt (by have := HLN.out; omega)]; simp only [intOf, Int.toNat_natCast]; omega
      have hlt' : decide ((j : Int) < (rr.length : Int)) = false := by simp; omega
      have HOx := Aside0.mk (show Kd.S k32 32 wr w3.heap.size (fun _ => True) u7 rr from by have h_ := HO.out; rw [List.take_of_length_le (by omega)] at h_; exact h_)
      clear HO
      go_wp2
      go_ret2
      exact ⟨_, rfl, Kd.S_lower HOx.out HB3.out.size, below_then HB3.out HB3.out.size HB.out⟩
  have H4 := H.out
  simp only [if_neg he, Option.some.injEq, Prod.mk.injEq] at H4
  obtain ⟨rfl, rfl⟩ := H4
  have hne : (e0 == 0) = false := beq_eq_false_iff_ne.mpr he
  have hne2 : (e0 != 0) = true := bne_iff_ne.mpr he
  clear H he
  go_enter Try.func28, Try.ntmps28
  go_wp2_with (first | ((with_reducible refine gate_dst (N := 1) rfl ?_); refine yX 1 #[.slice A0 l0.length c0, .slice A1 l1.length c1] 54 ?_; intro gp hgp w1 hbox hb; have BP1 := Aside0.mk hbox; have HB1 := Aside0.mk hb; clear hgp hbox hb; have hz0_1 : w1.cell? ⟨gp, 0, none⟩ = some (.slice A0 l0.length c0) := (blk_cell BP1.out 0).trans rfl; have hz1_1 : w1.cell? ⟨gp, 1, none⟩ = some (.slice A1 l1.length c1) := (blk_cell BP1.out 1).trans rfl) | (go_at_call 63; (with_reducible refine (checked_calls k A0 c0 l0 A1 c1 l1 e0 z0 M0 S0 _ (Kd.C_below HR0.out HB1.out) HC0.out (Kd.C_below HR1.out HB1.out) HC1.out HQ.out).mono ?_); rintro e2 w2 hpost; obtain ⟨pp, rfl, hb2, himp⟩ := hpost; have HB2 := Aside0.mk (below_then HB1.out HB1.out.size hb2); have BP2 := Aside0.mk (blk_below BP1.out hb2); clear himp hb2))
  go_ret2
  exact ⟨_, rfl, Kd.S_nil _ _ _ _ _, HB2.out⟩
end Go.Proofs.Ytehkhbnhmehobaa.P
namespace Go.Proofs.Ytehkhbnhmehobaa.P
open Go.RowKit Go.Proofs.YtehkhbnhmehobaaW.PrintWords Go.Proofs.YtehkhbnhmehobaaW.PrintLast Go.Proofs.YtehkhbnhmehobaaW.PrintMore
attribute [local go_sem] max2_int min2_int max_two min_two max_three min_three max_four min_four
set_option linter.unusedVariables false
set_option linter.unusedSimpArgs false
def swarflaw43_word.f (a0 : Int) (a1 : Int) : Option (Int × Int) := some (a0, wrap64 (1000 * a1))
set_option maxHeartbeats 8000000 in
set_option maxRecDepth 100000 in
theorem swarflaw43_word.calls (a0 : Int) (a1 : Int) (r1 : Int) (r2 : Int) (w : World) (h : swarflaw43_word.f a0 a1 = some (r1, r2)) :
  Calls Try.prog 44 #[.int .u8 a0, .int .i64 a1] w fun e w' => e = .returned (.agg #[.int .u8 r1, .int .i64 r2]) ∧ Below w.heap.size w w' := by
 have hu78 := Try.underlying78
 have HB := Aside0.mk (Below.refl w.heap.size w)
 have H : (some (a0, wrap64 (1000 * a1))) = some (r1, r2) := h
 clear h
 simp only [Option.some.injEq, Prod.mk.injEq] at H
 obtain ⟨rfl, rfl⟩ := H
 go_enter Try.func44, Try.ntmps44
 go_wp2_with (first | ((with_reducible refine gate_dst (N := 4) rfl ?_); refine yX 4 #[.int .u8 0, .int .i64 0] 78 ?_; intro gb447 hg w3 hbox hb; have BK447 := Aside0.mk (hbox); have GE447 := Aside0.mk ((yG hg : w.heap.size ≤ gb447)); replace HB := Aside0.mk (below_step yB hb); clear hb hbox hg; have hcz4_0 := yZ0 BK447.out; have hcz4_1 := yZ1 BK447.out; have hfz4_0 := blk_frozen BK447.out 0; have hfz4_1 := blk_frozen BK447.out 1))
 refine bodyPost_ret (results_cell_row rfl _ _ gb447 78 #[.int .u8 a0, .int .i64 (wrap64 (1000 * a1))] (0, 0) _ rfl (by refine yH ?_; refine blk_put (cs := #[.int .u8 a0, .int .i64 0]) ?_ 1 _ rfl; refine yH ?_; refine blk_put (cs := #[.int .u8 0, .int .i64 0]) ?_ 0 _ rfl; refine yH ?_; exact BK447.out) Try.underlying78 rfl (by kernel_rfl)) rfl ?_
 exact ⟨yE, yB⟩
end Go.Proofs.Ytehkhbnhmehobaa.P
namespace Go.Proofs.Ytehkhbnhmehobaa.P
open Go.RowKit Go.Proofs.YtehkhbnhmehobaaW.PrintWords Go.Proofs.YtehkhbnhmehobaaW.PrintLast Go.Proofs.YtehkhbnhmehobaaW.PrintMore
set_option linter.unusedVariables false
set_option linter.unusedSimpArgs false
def Blks (W : World) (L : List (Nat × Obj)) : Prop := ∀ p ∈ L, W.heap[p.1]? = some p.2
theorem Blks.below {W W' : World} {L : List (Nat × Obj)} (h : Blks W L) (hb : Below W.heap.size W W') : Blks W' L := fun p hp => by
  have := h p hp
  exact (hb.block p.1 (Array.getElem?_eq_some_iff.1 this).1).trans this
theorem Blks.nil (W : World) : Blks W [] := fun p hp => by cases hp
theorem Blks.cons {W : World} {L : List (Nat × Obj)} (h : Blks W L) {g : Nat} {o : Obj} (hg : W.heap[g]? = some o) : Blks W ((g, o) :: L) := fun p hp => by
  rcases List.mem_cons.mp hp with rfl | hp
  · exact hg
  exact h p hp
theorem size_alloc (W : World) (o : Obj) : (W.alloc o).heap.size = W.heap.size + 1 := by
  show (W.heap.push o).size = _
  simp
theorem Blks.alloc1 {W : World} {L : List (Nat × Obj)} (h : Blks W L) (o : Obj) : Blks (W.alloc o) ((W.heap.size, o) :: L) := (h.below (below_alloc (Below.refl _ _) o)).cons (alloc_at W o)
theorem Blks.alloc3 {W : World} {L : List (Nat × Obj)} (h : Blks W L) (o1 o2 o3 : Obj) : Blks (((W.alloc o1).alloc o2).alloc o3) ((W.heap.size + 1 + 1, o3) :: (W.heap.size + 1, o2) :: (W.heap.size, o1) :: L) := by
  have := ((h.alloc1 o1).alloc1 o2).alloc1 o3
  rw [size_alloc, size_alloc] at this
  exact this
theorem Blks.drew {W : World} {L : List (Nat × Obj)} (h : Blks W L) : Blks W.drew L := h
theorem Blks.at {W : World} {L : List (Nat × Obj)} (h : Blks W L) {g : Nat} {o : Obj} (hm : (g, o) ∈ L) : W.heap[g]? = some o := h _ hm
section
variable {P : Program} {ops : Array Oper} {Q : Exit → Act → World → Prop}
theorem lit_step {oi : Oper} {N : Option Tmp} {a : Act} {w w' : World} {K : Act → World → Prop} {v : Value} (hw : Region.wanted oi (yielded ops a.tmps) = true) (hN : oi.dst = N) (hrun : (execOp a.eval oi).run P w = .ok (.value v) w') (h : K (a.put N v) w') : if Region.wanted oi (yielded ops a.tmps) = true then Oper.wp P oi a w K Q else K (a.put N undef) w := by
  rw [if_pos hw]
  subst hN
  unfold Oper.wp
  rw [hrun]
  exact h
end
def encW : List S78 → List Value
  | [] => []
  | x :: l => .int .u8 x.f0 :: .int .i64 x.f1 :: encW l
theorem encW_at : ∀ (xs : List S78) (j : Nat) (x : S78), xs[j]? = some x → (encW xs)[j * 2]? = some (.int .u8 x.f0) ∧ (encW xs)[j * 2 + 1]? = some (.int .i64 x.f1)
  | [], j, x, h => by simp at h
  | y :: l, 0, x, h => by simp at h; subst h; exact ⟨rfl, rfl⟩
  | y :: l, j + 1, x, h => by
    have := encW_at l j x (by simpa using h)
    rw [show (j + 1) * 2 = j * 2 + 1 + 1 by omega]
    exact this
theorem C_words {W : World} {g : Nat} (xs : List S78) (h : W.heap[g]? = some (.cells (encW xs).toArray 78 (0, 0))) (hm : xs.length ≤ 9223372036854775807) : Kd.C k78 W (some ⟨g, 0, none⟩) xs.length xs := by
  refine ⟨rfl, hm, fun _ => ⟨⟨g, 0, none⟩, rfl, fun j x hj => ⟨[.int .u8 x.f0, .int .i64 x.f1], rfl, k78_mk W x, fun i u hu => ?_⟩⟩⟩
  obtain ⟨h1, h2⟩ := encW_at xs j x hj
  rw [show ((⟨g, 0, none⟩ : Addr).add (j * (k78).sz + i)) = ⟨g, j * 2 + i, none⟩ from by rw [show (k78).sz = 2 from rfl]; simp [Addr.add] <;> (intros; omega)]
  rcases i with _ | _ | i
  · simp at hu; subst hu
    refine (blk_cell h _).trans ?_
    simpa using h1
  · simp at hu; subst hu
    refine (blk_cell h _).trans ?_
    simpa using h2
  simp at hu
theorem C_sub1 {W : World} {g : Nat} {n : Int} {l : List S32} {A : Option Addr} {c : Nat} (h0 : W.cell? ⟨g, 0, none⟩ = some (.int .i64 n)) (h1 : W.cell? ⟨g, 1, none⟩ = some (.slice A l.length c)) (hl : l.length ≤ c) (hC : Kd.C k32 W A l.length l) : Kd.C k81 W (some ⟨g, 0, none⟩) 1 [⟨n, l⟩] := by
  refine ⟨rfl, by decide, fun _ => ⟨⟨g, 0, none⟩, rfl, fun j x hj => ?_⟩⟩
  rcases j with _ | j
  · simp at hj
    subst hj
    refine ⟨[.int .i64 n, .slice A l.length c], rfl, k81_mk W ⟨n, l⟩ hl hC, fun i u hu => ?_⟩
    rw [show ((⟨g, 0, none⟩ : Addr).add (0 * (k81).sz + i)) = ⟨g, i, none⟩ from by simp [Addr.add] <;> (intros; omega)]
    rcases i with _ | _ | i
    · simp at hu; subst hu; exact h0
    · simp at hu; subst hu; exact h1
    simp at hu
  simp at hj
theorem Blks.hd {W : World} {L : List (Nat × Obj)} {g : Nat} {o : Obj} (h : Blks W ((g, o) :: L)) : W.heap[g]? = some o := h _ List.mem_cons_self
theorem Blks.tl {W : World} {L : List (Nat × Obj)} {q : Nat × Obj} (h : Blks W (q :: L)) : Blks W L := fun p hp => h p (List.mem_cons_of_mem _ hp)
section
variable {P : Program} {ops : Array Oper} {Q : Exit → Act → World → Prop}
theorem store_step_ {oi : Oper} {a : Act} {w w' : World} {K : Act → World → Prop} (hw : Region.wanted oi (yielded ops a.tmps) = true) (hN : oi.dst = none) (hrun : (execOp a.eval oi).run P w = .ok .skip w') (h : K (a.put none undef) w') : if Region.wanted oi (yielded ops a.tmps) = true then Oper.wp P oi a w K Q else K (a.put none undef) w := by
  rw [if_pos hw]
  unfold Oper.wp
  rw [hrun]
  show K (a.put oi.dst undef) w'
  rw [hN]
  exact h
end
def encB : List (S32 × Option Addr × Nat) → List Value
  | [] => []
  | q :: l => .bool q.1.f0 :: .slice q.2.1 q.1.f1.length q.2.2 :: .string q.1.f2 :: encB l
theorem encB_at : ∀ (xs : List (S32 × Option Addr × Nat)) (j : Nat) (x : S32 × Option Addr × Nat), xs[j]? = some x → (encB xs)[j * 3]? = some (.bool x.1.f0) ∧ (encB xs)[j * 3 + 1]? = some (.slice x.2.1 x.1.f1.length x.2.2) ∧ (encB xs)[j * 3 + 2]? = some (.string x.1.f2)
  | [], j, x, h => by simp at h
  | y :: l, 0, x, h => by simp at h; subst h; exact ⟨rfl, rfl, rfl⟩
  | y :: l, j + 1, x, h => by
    have := encB_at l j x (by simpa using h)
    rw [show (j + 1) * 3 = j * 3 + 1 + 1 + 1 by omega]
    exact this
theorem C_blocks {W : World} {g : Nat} (xs : List (S32 × Option Addr × Nat)) (h : W.heap[g]? = some (.cells (encB xs).toArray 32 (0, 0))) (hm : xs.length ≤ 9223372036854775807) (hw : ∀ x ∈ xs, x.1.f1.length ≤ x.2.2 ∧ Kd.C k78 W x.2.1 x.1.f1.length x.1.f1) : Kd.C k32 W (some ⟨g, 0, none⟩) (xs.map (·.1)).length (xs.map (·.1)) := by
  refine ⟨rfl, by simpa using hm, fun _ => ⟨⟨g, 0, none⟩, rfl, fun j y hj => ?_⟩⟩
  rw [List.getElem?_map] at hj
  obtain ⟨x, hx, rfl⟩ := Option.map_eq_some_iff.mp hj
  obtain ⟨hl, hC⟩ := hw x (List.mem_of_getElem? hx)
  refine ⟨[.bool x.1.f0, .slice x.2.1 x.1.f1.length x.2.2, .string x.1.f2], rfl, k32_mk W x.1 hl hC, fun i u hu => ?_⟩
  obtain ⟨h1, h2, h3⟩ := encB_at xs j x hx
  rw [show ((⟨g, 0, none⟩ : Addr).add (j * (k32).sz + i)) = ⟨g, j * 3 + i, none⟩ from by rw [show (k32).sz = 3 from rfl]; simp [Addr.add] <;> (intros; omega)]
  rcases i with _ | _ | _ | i
  · simp at hu; subst hu
    refine (blk_cell h _).trans ?_
    simpa using h1
  · simp at hu; subst hu
    refine (blk_cell h _).trans ?_
    simpa using h2
  · simp at hu; subst hu
    refine (blk_cell h _).trans ?_
    simpa using h3
  simp at hu
theorem word_any (a0 a1 r : Int) (h : wrap64 (1000 * a1) = r) (w : World) : Calls Try.prog 44 #[.int .u8 a0, .int .i64 a1] w fun e w' => e = .returned (.agg #[.int .u8 a0, .int .i64 r]) ∧ Below w.heap.size w w' :=
  swarflaw43_word.calls a0 a1 a0 r w (by unfold swarflaw43_word.f; rw [h])
set_option maxHeartbeats 1000000 in
theorem words_any (A : Option Addr) (n c : Nat) (w : World) : Calls Try.prog 43 #[.slice A n c] w fun e w' => e = .returned (.agg #[.bool false, .slice A n c, .string (⟨#[]⟩ : ByteArray)]) ∧ Below w.heap.size w w' := by
  have hu32 := Try.underlying32
  have HB := Aside0.mk (Below.refl w.heap.size w)
  go_enter Try.func43, Try.ntmps43
  go_wp2_with ((with_reducible refine gate_dst (N := 2) rfl ?_); refine yX 2 #[.bool false, .slice none 0 0, .string (⟨#[]⟩ : ByteArray)] 32 ?_; intro gb hg w2 hbox hb; have BK := Aside0.mk hbox; have GE := Aside0.mk (show w.heap.size ≤ gb from by rw [hg]; exact Nat.le_refl _); have HB2 := Aside0.mk (below_step HB.out hb); clear hbox hg hb; have hz0 : w2.cell? ⟨gb, 0, none⟩ = some (.bool false) := (blk_cell BK.out 0).trans rfl; have hz1 : w2.cell? ⟨gb, 1, none⟩ = some (.slice none 0 0) := (blk_cell BK.out 1).trans rfl; have hz2 : w2.cell? ⟨gb, 2, none⟩ = some (.string (⟨#[]⟩ : ByteArray)) := (blk_cell BK.out 2).trans rfl; have hf0 := blk_frozen BK.out 0; have hf1 := blk_frozen BK.out 1; have hf2 := blk_frozen BK.out 2)
  refine bodyPost_ret (results_cell_row rfl _ _ gb 32 #[.bool false, .slice A n c, .string (⟨#[]⟩ : ByteArray)] (0, 0) _ rfl (by refine blk_put (cs := #[.bool false, .slice A n c, .string (⟨#[]⟩ : ByteArray)]) ?_ 2 _ rfl; refine blk_put (cs := #[.bool false, .slice none 0 0, .string (⟨#[]⟩ : ByteArray)]) ?_ 1 _ rfl; refine blk_put (cs := #[.bool false, .slice none 0 0, .string (⟨#[]⟩ : ByteArray)]) ?_ 0 _ rfl; exact BK.out) Try.underlying32 rfl (by kernel_rfl)) rfl ?_
  exact ⟨rfl, by repeat (with_reducible first | exact HB2.out | refine below_set ?_ GE.out)⟩
def BX (a n : Nat) : Obj := .cells #[.bool false, .slice (some ⟨a, 0, none⟩) n n, .string ⟨#[]⟩] 32 (0, 0)
def aw (a b : Int) : S78 := ⟨a, b⟩
def ab (l : List S78) : S32 := ⟨false, l, ⟨#[]⟩⟩
def rapid_ := ab [aw 71 0, aw 88 1000]
def feed_ := ab [aw 71 1000, aw 88 2000]
def end_ := ab [aw 77 30000]
def call_ := ab [aw 77 98000, aw 80 5000, aw 76 2000]
def o5_ := ab [aw 79 5000]
def ret_ := ab [aw 77 99000]
def call5_ := ab [aw 77 98000, aw 80 5000]
def again_ := ab [aw 77 98000, aw 80 7000]
theorem split_ex : subprogram_Split.f 60 [rapid_, call_, end_, o5_, feed_, ret_] = some ([rapid_, call_, end_], [⟨5, [feed_]⟩], 0) := by kernel_rfl
theorem expand_ex : subprogram_Expand.f 60 [rapid_, call_, end_] [⟨5, [feed_]⟩] = some ([rapid_, feed_, feed_, end_], 0) := by kernel_rfl
theorem expand_ex2 : subprogram_Expand.f 60 [rapid_, call_, end_] [⟨5, [call5_]⟩] = some ([], 12) := by kernel_rfl
theorem fold_ex : subprogram_Fold.f 60 [rapid_, feed_, call_, rapid_, feed_, end_] 7 2 = some ([again_, call_, again_, end_], [⟨7, [rapid_, feed_]⟩], 0) := by kernel_rfl
theorem same_ex : swarfref41_Same.f 60 [rapid_, feed_, feed_, end_] [rapid_, feed_, feed_, end_] = some true := by kernel_rfl
theorem same_ex2 : swarfref41_Same.f 60 [again_, call_, again_, end_] [again_, call_, again_, end_] = some true := by kernel_rfl
set_option maxHeartbeats 16000000 in
set_option maxRecDepth 100000 in
theorem awake43_calls (w : World) : Calls Try.prog 23 #[] w fun e w' => e = .returned (.bool true) ∧ Below w.heap.size w w' := by
  have hu32 := Try.underlying32
  have hu54 := Try.underlying54
  have hu81 := Try.underlying81
  have hu78 := Try.underlying78
  have HL := Aside0.mk (Blks.nil w)
  have HB := Aside0.mk (Below.refl w.heap.size w)
  go_enter Try.func23, Try.ntmps23
  go_wp2_with (first | (go_at_call 44; (with_reducible refine (word_any 71 0 0 (by kernel_rfl) _).mono ?_); rintro e_ w_ ⟨rfl, hb⟩; (first | (have HL_ := Aside0.mk (HL.out.below hb); have HB_ := Aside0.mk (below_then HB.out HB.out.size hb)) | (have HL_ := Aside0.mk ((HL.out.alloc1 _).below hb); have HB_ := Aside0.mk (below_then (below_alloc HB.out _) (below_alloc HB.out _).size hb)) | (have HL_ := Aside0.mk ((HL.out.alloc3 _ _ _).below hb); have HB_ := Aside0.mk (below_then (below_alloc (below_alloc (below_alloc HB.out _) _) _) (below_alloc (below_alloc (below_alloc HB.out _) _) _).size hb))); clear HL HB hb; have HL := HL_; have HB := HB_; clear HL_ HB_) | (go_at_call 44; (with_reducible refine (word_any 88 1 1000 (by kernel_rfl) _).mono ?_); rintro e_ w_ ⟨rfl, hb⟩; (first | (have HL_ := Aside0.mk (HL.out.below hb); have HB_ := Aside0.mk (below_then HB.out HB.out.size hb)) | (have HL_ := Aside0.mk ((HL.out.alloc1 _).below hb); have HB_ := Aside0.mk (below_then (below_alloc HB.out _) (below_alloc HB.out _).size hb)) | (have HL_ := Aside0.mk ((HL.out.alloc3 _ _ _).below hb); have HB_ := Aside0.mk (below_then (below_alloc (below_alloc (below_alloc HB.out _) _) _) (below_alloc (below_alloc (below_alloc HB.out _) _) _).size hb))); clear HL HB hb; have HL := HL_; have HB := HB_; clear HL_ HB_) | (go_at_call 44; (with_reducible refine (word_any 71 1 1000 (by kernel_rfl) _).mono ?_); rintro e_ w_ ⟨rfl, hb⟩; (first | (have HL_ := Aside0.mk (HL.out.below hb); have HB_ := Aside0.mk (below_then HB.out HB.out.size hb)) | (have HL_ := Aside0.mk ((HL.out.alloc1 _).below hb); have HB_ := Aside0.mk (below_then (below_alloc HB.out _) (below_alloc HB.out _).size hb)) | (have HL_ := Aside0.mk ((HL.out.alloc3 _ _ _).below hb); have HB_ := Aside0.mk (below_then (below_alloc (below_alloc (below_alloc HB.out _) _) _) (below_alloc (below_alloc (below_alloc HB.out _) _) _).size hb))); clear HL HB hb; have HL := HL_; have HB := HB_; clear HL_ HB_) | (go_at_call 44; (with_reducible refine (word_any 88 2 2000 (by kernel_rfl) _).mono ?_); rintro e_ w_ ⟨rfl, hb⟩; (first | (have HL_ := Aside0.mk (HL.out.below hb); have HB_ := Aside0.mk (below_then HB.out HB.out.size hb)) | (have HL_ := Aside0.mk ((HL.out.alloc1 _).below hb); have HB_ := Aside0.mk (below_then (below_alloc HB.out _) (below_alloc HB.out _).size hb)) | (have HL_ := Aside0.mk ((HL.out.alloc3 _ _ _).below hb); have HB_ := Aside0.mk (below_then (below_alloc (below_alloc (below_alloc HB.out _) _) _) (below_alloc (below_alloc (below_alloc HB.out _) _) _).size hb))); clear HL HB hb; have HL := HL_; have HB := HB_; clear HL_ HB_) | (go_at_call 44; (with_reducible refine (word_any 77 30 30000 (by kernel_rfl) _).mono ?_); rintro e_ w_ ⟨rfl, hb⟩; (first | (have HL_ := Aside0.mk (HL.out.below hb); have HB_ := Aside0.mk (below_then HB.out HB.out.size hb)) | (have HL_ := Aside0.mk ((HL.out.alloc1 _).below hb); have HB_ := Aside0.mk (below_then (below_alloc HB.out _) (below_alloc HB.out _).size hb)) | (have HL_ := Aside0.mk ((HL.out.alloc3 _ _ _).below hb); have HB_ := Aside0.mk (below_then (below_alloc (below_alloc (below_alloc HB.out _) _) _) (below_alloc (below_alloc (below_alloc HB.out _) _) _).size hb))); clear HL HB hb; have HL := HL_; have HB := HB_; clear HL_ HB_) | (go_at_call 44; (with_reducible refine (word_any 77 98 98000 (by kernel_rfl) _).mono ?_); rintro e_ w_ ⟨rfl, hb⟩; (first | (have HL_ := Aside0.mk (HL.out.below hb); have HB_ := Aside0.mk (below_then HB.out HB.out.size hb)) | (have HL_ := Aside0.mk ((HL.out.alloc1 _).below hb); have HB_ := Aside0.mk (below_then (below_alloc HB.out _) (below_alloc HB.out _).size hb)) | (have HL_ := Aside0.mk ((HL.out.alloc3 _ _ _).below hb); have HB_ := Aside0.mk (below_then (below_alloc (below_alloc (below_alloc HB.out _) _) _) (below_alloc (below_alloc (below_alloc HB.out _) _) _).size hb))); clear HL HB hb; have HL := HL_; have HB := HB_; clear HL_ HB_) | (go_at_call 44; (with_reducible refine (word_any 80 5 5000 (by kernel_rfl) _).mono ?_); rintro e_ w_ ⟨rfl, hb⟩; (first | (have HL_ := Aside0.mk (HL.out.below hb); have HB_ := Aside0.mk (below_then HB.out HB.out.size hb)) | (have HL_ := Aside0.mk ((HL.out.alloc1 _).below hb); have HB_ := Aside0.mk (below_then (below_alloc HB.out _) (below_alloc HB.out _).size hb)) | (have HL_ := Aside0.mk ((HL.out.alloc3 _ _ _).below hb); have HB_ := Aside0.mk (below_then (below_alloc (below_alloc (below_alloc HB.out _) _) _) (below_alloc (below_alloc (below_alloc HB.out _) _) _).size hb))); clear HL HB hb; have HL := HL_; have HB := HB_; clear HL_ HB_) | (go_at_call 44; (with_reducible refine (word_any 76 2 2000 (by kernel_rfl) _).mono ?_); rintro e_ w_ ⟨rfl, hb⟩; (first | (have HL_ := Aside0.mk (HL.out.below hb); have HB_ := Aside0.mk (below_then HB.out HB.out.size hb)) | (have HL_ := Aside0.mk ((HL.out.alloc1 _).below hb); have HB_ := Aside0.mk (below_then (below_alloc HB.out _) (below_alloc HB.out _).size hb)) | (have HL_ := Aside0.mk ((HL.out.alloc3 _ _ _).below hb); have HB_ := Aside0.mk (below_then (below_alloc (below_alloc (below_alloc HB.out _) _) _) (below_alloc (below_alloc (below_alloc HB.out _) _) _).size hb))); clear HL HB hb; have HL := HL_; have HB := HB_; clear HL_ HB_) | (go_at_call 44; (with_reducible refine (word_any 79 5 5000 (by kernel_rfl) _).mono ?_); rintro e_ w_ ⟨rfl, hb⟩; (first | (have HL_ := Aside0.mk (HL.out.below hb); have HB_ := Aside0.mk (below_then HB.out HB.out.size hb)) | (have HL_ := Aside0.mk ((HL.out.alloc1 _).below hb); have HB_ := Aside0.mk (below_then (below_alloc HB.out _) (below_alloc HB.out _).size hb)) | (have HL_ := Aside0.mk ((HL.out.alloc3 _ _ _).below hb); have HB_ := Aside0.mk (below_then (below_alloc (below_alloc (below_alloc HB.out _) _) _) (below_alloc (below_alloc (below_alloc HB.out _) _) _).size hb))); clear HL HB hb; have HL := HL_; have HB := HB_; clear HL_ HB_) | (go_at_call 44; (with_reducible refine (word_any 77 99 99000 (by kernel_rfl) _).mono ?_); rintro e_ w_ ⟨rfl, hb⟩; (first | (have HL_ := Aside0.mk (HL.out.below hb); have HB_ := Aside0.mk (below_then HB.out HB.out.size hb)) | (have HL_ := Aside0.mk ((HL.out.alloc1 _).below hb); have HB_ := Aside0.mk (below_then (below_alloc HB.out _) (below_alloc HB.out _).size hb)) | (have HL_ := Aside0.mk ((HL.out.alloc3 _ _ _).below hb); have HB_ := Aside0.mk (below_then (below_alloc (below_alloc (below_alloc HB.out _) _) _) (below_alloc (below_alloc (below_alloc HB.out _) _) _).size hb))); clear HL HB hb; have HL := HL_; have HB := HB_; clear HL_ HB_) | (go_at_call 44; (with_reducible refine (word_any 80 7 7000 (by kernel_rfl) _).mono ?_); rintro e_ w_ ⟨rfl, hb⟩; (first | (have HL_ := Aside0.mk (HL.out.below hb); have HB_ := Aside0.mk (below_then HB.out HB.out.size hb)) | (have HL_ := Aside0.mk ((HL.out.alloc1 _).below hb); have HB_ := Aside0.mk (below_then (below_alloc HB.out _) (below_alloc HB.out _).size hb)) | (have HL_ := Aside0.mk ((HL.out.alloc3 _ _ _).below hb); have HB_ := Aside0.mk (below_then (below_alloc (below_alloc (below_alloc HB.out _) _) _) (below_alloc (below_alloc (below_alloc HB.out _) _) _).size hb))); clear HL HB hb; have HL := HL_; have HB := HB_; clear HL_ HB_) | (go_at_call 43; (with_reducible refine (words_any _ _ _ _).mono ?_); rintro e_ w_ ⟨rfl, hb⟩; have HL_ := Aside0.mk (Blks.cons (HL.out.below (below_then (below_alloc (Below.refl _ _) _) (below_alloc (Below.refl _ _) _).size hb)) (blk_below (alloc_at _ _) hb)); have HB_ := Aside0.mk (below_then HB.out HB.out.size (below_then (below_alloc (Below.refl _ _) _) (below_alloc (Below.refl _ _) _).size hb)); clear HL HB hb; have HL := HL_; have HB := HB_; clear HL_ HB_))
  rename_i y10 y9 y8 y7 y6 y5 y4 y3 y2 y1 y0 K_ hK_
  have HL4 := Aside0.mk (HL.out.alloc1 (.cells #[.bool false, .slice (some ⟨y0.heap.size, 0, none⟩) 3 3, .string ⟨#[]⟩] 32 (0, 0)))
  have HB4 := Aside0.mk (below_alloc HB.out (.cells #[.bool false, .slice (some ⟨y0.heap.size, 0, none⟩) 3 3, .string ⟨#[]⟩] 32 (0, 0)))
  generalize w_.alloc (.cells #[.bool false, .slice (some ⟨y0.heap.size, 0, none⟩) 3 3, .string ⟨#[]⟩] 32 (0, 0)) = W4 at HL4 HB4 ⊢
  generalize y9.heap.size = a1 at HL4 ⊢
  generalize y6.heap.size = a2 at HL4 ⊢
  generalize y4.heap.size = a3 at HL4 ⊢
  generalize y0.heap.size = a4 at HL4 ⊢
  generalize y3.heap.size + 1 + 1 = b3 at HL4 ⊢
  generalize y3.heap.size + 1 = b2 at HL4 ⊢
  generalize y3.heap.size = b1 at HL4 ⊢
  generalize w_.heap.size = b4 at HL4 ⊢
  clear HL HB y10 y9 y8 y7 y6 y5 y4 y3 y2 y1 y0 w_
  have S_ : ∀ {W : World} {L : List (Nat × Obj)}, Blks W L → (∀ p ∈ [(b4, BX a4 3), (b3, BX a3 1), (b2, BX a2 2), (b1, BX a1 2)], p ∈ L) → Blks W [(b4, BX a4 3), (b3, BX a3 1), (b2, BX a2 2), (b1, BX a1 2)] := fun h hs p hp => h p (hs p hp)
  refine start_ (n := 12) (S := fun w' => Blks w' [(b4, BX a4 3), (b3, BX a3 1), (b2, BX a2 2), (b1, BX a1 2)]) (ds := []) #[false, false, false, false, false, false, false, false, false, false, false, false] (by kernel_rfl) rfl rfl (Blks.drew (S_ HL4.out (by simp [BX]))) (fun hHeld => ?_)
  have HL5 := Aside0.mk (show Blks W4.drew _ from HL4.out)
  have HB5 := Aside0.mk (below_drew1 HB4.out)
  clear HL4 HB4
  generalize W4.drew = W5 at HL5 HB5 hHeld ⊢
  refine take_ (i := 0) (N := some 31) (v := ?_) (a' := ?_) #[true, false, false, false, false, false, false, false, false, false, false, false] rfl rfl (by kernel_rfl) (fun _ _ _ h => h) (Or.inl ⟨by rfl, ?_⟩) hHeld ?_ ?_
  rotate_left
  · intro w' hS
    have hb_ := hS.at (g := b1) (o := BX a1 2) (by simp)
    have c0 : w'.cell? ⟨b1, 0, none⟩ = some (.bool false) := (blk_cell hb_ 0).trans rfl
    have c1 : w'.cell? ⟨b1, 1, none⟩ = some (.slice (some ⟨a1, 0, none⟩) 2 2) := (blk_cell hb_ 1).trans rfl
    have c2 : w'.cell? ⟨b1, 2, none⟩ = some (.string ⟨#[]⟩) := (blk_cell hb_ 2).trans rfl
    go_simp
    with_reducible rfl
  rotate_left
  · simp only [Act.put, List.setIfInBounds_toArray, List.set_cons_zero, List.set_cons_succ, i64_w, i32_w]
    rfl
  refine take_ (i := 1) (N := some 32) (v := ?_) (a' := ?_) #[true, true, false, false, false, false, false, false, false, false, false, false] rfl rfl (by kernel_rfl) (fun _ _ _ h => h) (Or.inl ⟨by rfl, ?_⟩) hHeld ?_ ?_
  rotate_left
  · intro w' hS
    have hb_ := hS.at (g := b4) (o := BX a4 3) (by simp)
    have c0 : w'.cell? ⟨b4, 0, none⟩ = some (.bool false) := (blk_cell hb_ 0).trans rfl
    have c1 : w'.cell? ⟨b4, 1, none⟩ = some (.slice (some ⟨a4, 0, none⟩) 3 3) := (blk_cell hb_ 1).trans rfl
    have c2 : w'.cell? ⟨b4, 2, none⟩ = some (.string ⟨#[]⟩) := (blk_cell hb_ 2).trans rfl
    go_simp
    with_reducible rfl
  rotate_left
  · simp only [Act.put, List.setIfInBounds_toArray, List.set_cons_zero, List.set_cons_succ, i64_w, i32_w]
    rfl
  refine take_ (i := 2) (N := some 33) (v := ?_) (a' := ?_) #[true, true, true, false, false, false, false, false, false, false, false, false] rfl rfl (by kernel_rfl) (fun _ _ _ h => h) (Or.inl ⟨by rfl, ?_⟩) hHeld ?_ ?_
  rotate_left
  · intro w' hS
    have hb_ := hS.at (g := b3) (o := BX a3 1) (by simp)
    have c0 : w'.cell? ⟨b3, 0, none⟩ = some (.bool false) := (blk_cell hb_ 0).trans rfl
    have c1 : w'.cell? ⟨b3, 1, none⟩ = some (.slice (some ⟨a3, 0, none⟩) 1 1) := (blk_cell hb_ 1).trans rfl
    have c2 : w'.cell? ⟨b3, 2, none⟩ = some (.string ⟨#[]⟩) := (blk_cell hb_ 2).trans rfl
    go_simp
    with_reducible rfl
  rotate_left
  · simp only [Act.put, List.setIfInBounds_toArray, List.set_cons_zero, List.set_cons_succ, i64_w, i32_w]
    rfl
  refine take_ (i := 6) (N := some 37) (v := ?_) (a' := ?_) #[true, true, true, false, false, false, true, false, false, false, false, false] rfl rfl (by kernel_rfl) (fun _ _ _ h => h) (Or.inl ⟨by rfl, ?_⟩) hHeld ?_ ?_
  rotate_left
  · intro w' hS
    have hb_ := hS.at (g := b2) (o := BX a2 2) (by simp)
    have c0 : w'.cell? ⟨b2, 0, none⟩ = some (.bool false) := (blk_cell hb_ 0).trans rfl
    have c1 : w'.cell? ⟨b2, 1, none⟩ = some (.slice (some ⟨a2, 0, none⟩) 2 2) := (blk_cell hb_ 1).trans rfl
    have c2 : w'.cell? ⟨b2, 2, none⟩ = some (.string ⟨#[]⟩) := (blk_cell hb_ 2).trans rfl
    go_simp
    with_reducible rfl
  rotate_left
  · simp only [Act.put, List.setIfInBounds_toArray, List.set_cons_zero, List.set_cons_succ, i64_w, i32_w]
    rfl
  refine yo 3 (some 34) (fun K hK => ?_)
  refine goes_ Try.func44 (by kernel_rfl) rfl #[.int .u8 79, .int .i64 5] (by rfl) rfl rfl (by (try simp only [List.map_toArray, List.map_cons, List.map_nil]); first | done | rfl) ?_
  refine (word_any 79 5 5000 (by kernel_rfl) _).mono ?_
  rintro e_ W6 ⟨rfl, hb_⟩
  refine ⟨_, rfl, ?_⟩
  clear hHeld
  have HL6 := Aside0.mk (HL5.out.below hb_)
  have HB6 := Aside0.mk (below_then HB5.out HB5.out.size hb_)
  clear hb_ HL5 HB5
  refine hK.out _ _ (S_ HL6.out (by simp [BX])) (fun hHeld => ?_)
  clear hK K
  refine yn 34 ?_
  refine yo 4 (some 35) (fun K hK => ?_)
  refine lit_step (v := .slice (some ⟨W6.heap.size, 0, none⟩) 1 1) (w' := W6.alloc (.cells #[.int .u8 79, .int .i64 5000] 78 (0, 0))) (by rfl) rfl (by first | (go_simp; done) | (go_simp; rfl)) ?_
  clear hHeld
  have HL7 := Aside0.mk (HL6.out.alloc1 (.cells #[.int .u8 79, .int .i64 5000] 78 (0, 0)))
  have HB7 := Aside0.mk (below_alloc HB6.out (.cells #[.int .u8 79, .int .i64 5000] 78 (0, 0)))
  generalize W6.alloc (.cells #[.int .u8 79, .int .i64 5000] 78 (0, 0)) = W7 at HL7 HB7 ⊢
  generalize W6.heap.size = a5 at HL7 ⊢
  clear HL6 HB6 W6
  refine hK.out _ _ (S_ HL7.out (by simp [BX])) (fun hHeld => ?_)
  clear hK K
  refine yn 35 ?_
  refine yo 5 (some 36) (fun K hK => ?_)
  refine goes_ Try.func43 (by kernel_rfl) rfl #[.slice (some ⟨a5, 0, none⟩) 1 1] (by rfl) rfl rfl (by (try simp only [List.map_toArray, List.map_cons, List.map_nil]); first | done | rfl) ?_
  refine (words_any _ _ _ _).mono ?_
  rintro e_ W8 ⟨rfl, hb_⟩
  refine ⟨_, rfl, ?_⟩
  clear hHeld
  have HL8 := Aside0.mk (HL7.out.below hb_)
  have HB8 := Aside0.mk (below_then HB7.out HB7.out.size hb_)
  clear hb_ HL7 HB7
  refine hK.out _ _ (S_ HL8.out (by simp [BX])) (fun hHeld => ?_)
  clear hK K
  refine yn 36 ?_
  refine yo 7 (some 38) (fun K hK => ?_)
  refine goes_ Try.func44 (by kernel_rfl) rfl #[.int .u8 77, .int .i64 99] (by rfl) rfl rfl (by (try simp only [List.map_toArray, List.map_cons, List.map_nil]); first | done | rfl) ?_
  refine (word_any 77 99 99000 (by kernel_rfl) _).mono ?_
  rintro e_ W9 ⟨rfl, hb_⟩
  refine ⟨_, rfl, ?_⟩
  clear hHeld
  have HL9 := Aside0.mk (HL8.out.below hb_)
  have HB9 := Aside0.mk (below_then HB8.out HB8.out.size hb_)
  clear hb_ HL8 HB8
  refine hK.out _ _ (S_ HL9.out (by simp [BX])) (fun hHeld => ?_)
  clear hK K
  refine yn 38 ?_
  refine yo 8 (some 39) (fun K hK => ?_)
  refine lit_step (v := .slice (some ⟨W9.heap.size, 0, none⟩) 1 1) (w' := W9.alloc (.cells #[.int .u8 77, .int .i64 99000] 78 (0, 0))) (by rfl) rfl (by first | (go_simp; done) | (go_simp; rfl)) ?_
  clear hHeld
  have HL10 := Aside0.mk (HL9.out.alloc1 (.cells #[.int .u8 77, .int .i64 99000] 78 (0, 0)))
  have HB10 := Aside0.mk (below_alloc HB9.out (.cells #[.int .u8 77, .int .i64 99000] 78 (0, 0)))
  generalize W9.alloc (.cells #[.int .u8 77, .int .i64 99000] 78 (0, 0)) = W10 at HL10 HB10 ⊢
  generalize W9.heap.size = a6 at HL10 ⊢
  clear HL9 HB9 W9
  refine hK.out _ _ (S_ HL10.out (by simp [BX])) (fun hHeld => ?_)
  clear hK K
  refine yn 39 ?_
  refine yo 9 (some 40) (fun K hK => ?_)
  refine goes_ Try.func43 (by kernel_rfl) rfl #[.slice (some ⟨a6, 0, none⟩) 1 1] (by rfl) rfl rfl (by (try simp only [List.map_toArray, List.map_cons, List.map_nil]); first | done | rfl) ?_
  refine (words_any _ _ _ _).mono ?_
  rintro e_ W11 ⟨rfl, hb_⟩
  refine ⟨_, rfl, ?_⟩
  clear hHeld
  have HL11 := Aside0.mk (HL10.out.below hb_)
  have HB11 := Aside0.mk (below_then HB10.out HB10.out.size hb_)
  clear hb_ HL10 HB10
  refine hK.out _ _ (S_ HL11.out (by simp [BX])) (fun hHeld => ?_)
  clear hK K
  refine yn 40 ?_
  refine yo 10 (some 41) (fun K hK => ?_)
  refine lit_step (v := .slice (some ⟨W11.heap.size, 0, none⟩) 6 6) (w' := W11.alloc (.cells #[.bool false, .slice (some ⟨a1, 0, none⟩) 2 2, .string ⟨#[]⟩, .bool false, .slice (some ⟨a4, 0, none⟩) 3 3, .string ⟨#[]⟩, .bool false, .slice (some ⟨a3, 0, none⟩) 1 1, .string ⟨#[]⟩, .bool false, .slice (some ⟨a5, 0, none⟩) 1 1, .string ⟨#[]⟩, .bool false, .slice (some ⟨a2, 0, none⟩) 2 2, .string ⟨#[]⟩, .bool false, .slice (some ⟨a6, 0, none⟩) 1 1, .string ⟨#[]⟩] 32 (0, 0))) (by rfl) rfl (by first | (go_simp; done) | (go_simp; rfl)) ?_
  clear hHeld
  have HL12 := Aside0.mk (HL11.out.alloc1 (.cells #[.bool false, .slice (some ⟨a1, 0, none⟩) 2 2, .string ⟨#[]⟩, .bool false, .slice (some ⟨a4, 0, none⟩) 3 3, .string ⟨#[]⟩, .bool false, .slice (some ⟨a3, 0, none⟩) 1 1, .string ⟨#[]⟩, .bool false, .slice (some ⟨a5, 0, none⟩) 1 1, .string ⟨#[]⟩, .bool false, .slice (some ⟨a2, 0, none⟩) 2 2, .string ⟨#[]⟩, .bool false, .slice (some ⟨a6, 0, none⟩) 1 1, .string ⟨#[]⟩] 32 (0, 0)))
  have HB12 := Aside0.mk (below_alloc HB11.out (.cells #[.bool false, .slice (some ⟨a1, 0, none⟩) 2 2, .string ⟨#[]⟩, .bool false, .slice (some ⟨a4, 0, none⟩) 3 3, .string ⟨#[]⟩, .bool false, .slice (some ⟨a3, 0, none⟩) 1 1, .string ⟨#[]⟩, .bool false, .slice (some ⟨a5, 0, none⟩) 1 1, .string ⟨#[]⟩, .bool false, .slice (some ⟨a2, 0, none⟩) 2 2, .string ⟨#[]⟩, .bool false, .slice (some ⟨a6, 0, none⟩) 1 1, .string ⟨#[]⟩] 32 (0, 0)))
  generalize W11.alloc (.cells #[.bool false, .slice (some ⟨a1, 0, none⟩) 2 2, .string ⟨#[]⟩, .bool false, .slice (some ⟨a4, 0, none⟩) 3 3, .string ⟨#[]⟩, .bool false, .slice (some ⟨a3, 0, none⟩) 1 1, .string ⟨#[]⟩, .bool false, .slice (some ⟨a5, 0, none⟩) 1 1, .string ⟨#[]⟩, .bool false, .slice (some ⟨a2, 0, none⟩) 2 2, .string ⟨#[]⟩, .bool false, .slice (some ⟨a6, 0, none⟩) 1 1, .string ⟨#[]⟩] 32 (0, 0)) = W12 at HL12 HB12 ⊢
  generalize W11.heap.size = al at HL12 ⊢
  clear HL11 HB11 W11
  refine hK.out _ _ (S_ HL12.out (by simp [BX])) (fun hHeld => ?_)
  clear hK K
  refine yn 41 ?_
  refine yp 11 5 ?_
  refine done_ (by kernel_rfl) ?_
  clear hHeld
  have Kal := Aside0.mk HL12.out.hd
  have Ka6 := Aside0.mk HL12.out.tl.hd
  have Ka5 := Aside0.mk HL12.out.tl.tl.hd
  have Kb4 := Aside0.mk HL12.out.tl.tl.tl.hd
  have Ka4 := Aside0.mk HL12.out.tl.tl.tl.tl.hd
  have Kb3 := Aside0.mk HL12.out.tl.tl.tl.tl.tl.hd
  have Kb2 := Aside0.mk HL12.out.tl.tl.tl.tl.tl.tl.hd
  have Kb1 := Aside0.mk HL12.out.tl.tl.tl.tl.tl.tl.tl.hd
  have Ka3 := Aside0.mk HL12.out.tl.tl.tl.tl.tl.tl.tl.tl.hd
  have Ka2 := Aside0.mk HL12.out.tl.tl.tl.tl.tl.tl.tl.tl.tl.hd
  have Ka1 := Aside0.mk HL12.out.tl.tl.tl.tl.tl.tl.tl.tl.tl.tl.hd
  have Ca1 := Aside0.mk (show 2 ≤ 2 ∧ Kd.C k78 W12 (some ⟨a1, 0, none⟩) 2 (rapid_).f1 from ⟨Nat.le_refl _, C_words [aw 71 0, aw 88 1000] Ka1.out (by decide)⟩)
  have Ca2 := Aside0.mk (show 2 ≤ 2 ∧ Kd.C k78 W12 (some ⟨a2, 0, none⟩) 2 (feed_).f1 from ⟨Nat.le_refl _, C_words [aw 71 1000, aw 88 2000] Ka2.out (by decide)⟩)
  have Ca3 := Aside0.mk (show 1 ≤ 1 ∧ Kd.C k78 W12 (some ⟨a3, 0, none⟩) 1 (end_).f1 from ⟨Nat.le_refl _, C_words [aw 77 30000] Ka3.out (by decide)⟩)
  have Ca4 := Aside0.mk (show 3 ≤ 3 ∧ Kd.C k78 W12 (some ⟨a4, 0, none⟩) 3 (call_).f1 from ⟨Nat.le_refl _, C_words [aw 77 98000, aw 80 5000, aw 76 2000] Ka4.out (by decide)⟩)
  have Ca5 := Aside0.mk (show 1 ≤ 1 ∧ Kd.C k78 W12 (some ⟨a5, 0, none⟩) 1 (o5_).f1 from ⟨Nat.le_refl _, C_words [aw 79 5000] Ka5.out (by decide)⟩)
  have Ca6 := Aside0.mk (show 1 ≤ 1 ∧ Kd.C k78 W12 (some ⟨a6, 0, none⟩) 1 (ret_).f1 from ⟨Nat.le_refl _, C_words [aw 77 99000] Ka6.out (by decide)⟩)
  have HVl := Aside0.mk (show Kd.V k32 32 W12 W12.heap.size (fun k_ => k_ < W12.heap.size) (.slice (some ⟨al, 0, none⟩) 6 6) [rapid_, call_, end_, o5_, feed_, ret_] from Kd.V_mk (Nat.le_refl 6) (Kd.C_F k32_heap (C_blocks [(rapid_, some ⟨a1, 0, none⟩, 2), (call_, some ⟨a4, 0, none⟩, 3), (end_, some ⟨a3, 0, none⟩, 1), (o5_, some ⟨a5, 0, none⟩, 1), (feed_, some ⟨a2, 0, none⟩, 2), (ret_, some ⟨a6, 0, none⟩, 1)] Kal.out (by simp) (fun x hx => by simp only [List.mem_cons, List.not_mem_nil, or_false] at hx; rcases hx with rfl | rfl | rfl | rfl | rfl | rfl; exact ⟨Ca1.out.1, Kd.C_below Ca1.out.2 (Below.refl _ _)⟩; exact ⟨Ca4.out.1, Kd.C_below Ca4.out.2 (Below.refl _ _)⟩; exact ⟨Ca3.out.1, Kd.C_below Ca3.out.2 (Below.refl _ _)⟩; exact ⟨Ca5.out.1, Kd.C_below Ca5.out.2 (Below.refl _ _)⟩; exact ⟨Ca2.out.1, Kd.C_below Ca2.out.2 (Below.refl _ _)⟩; exact ⟨Ca6.out.1, Kd.C_below Ca6.out.2 (Below.refl _ _)⟩))))
  have SPL := Aside0.mk (show Calls Try.prog 45 #[.slice (some ⟨al, 0, none⟩) 6 6] W12 _ from subprogram_Split.calls 60 (fun k_ => k_ < W12.heap.size) (some ⟨al, 0, none⟩) 6 [rapid_, call_, end_, o5_, feed_, ret_] [rapid_, call_, end_] [⟨5, [feed_]⟩] 0 W12 HVl.out split_ex)
  have HB12' := Aside0.mk (Below.refl W12.heap.size W12)
  go_wp2_with (first | (go_at_call 45; refine SPL.out.mono ?_; rintro e_ w13 ⟨v0, v1, rfl, hn0, hn1, hb⟩; obtain ⟨A0, c0, rfl⟩ := Kd.N_slice hn0; obtain ⟨g8, c8, e8, ge8, lt8, cells8, hg8⟩ := Kd.N_form hn1 (by decide); obtain rfl := e8; have HN0 := Aside0.mk hn0; have HN1 := Aside0.mk hn1; have GE8 := Aside0.mk ge8; have C8LE := Aside0.mk (Kd.N_reads' hn1).2.1; have BK8 := Aside0.mk hg8; have HB13 := Aside0.mk hb; clear hn0 hn1 ge8 lt8 hg8 hb) | (go_at_call 28; refine (show Calls Try.prog 28 #[.agg #[.slice A0 3 c0, .slice (some ⟨g8, 0, none⟩) 1 c8]] _ _ from subprogram_Expand.calls 60 A0 c0 [rapid_, call_, end_] (some ⟨g8, 0, none⟩) c8 [⟨5, [feed_]⟩] [rapid_, feed_, feed_, end_] 0 _ (Kd.C_alloc (Kd.N_reads' HN0.out).2.2 _) (Kd.N_reads' HN0.out).2.1 (Kd.C_alloc (Kd.N_reads' HN1.out).2.2 _) (Kd.N_reads' HN1.out).2.1 expand_ex).mono ?_; rintro e_ w14 ⟨v2, rfl, hs2, hb⟩; obtain ⟨A2, c2, rfl⟩ := Kd.R_slice (Kd.S_R hs2); have HS2 := Aside0.mk (Kd.R_reads' (Kd.S_R hs2)); have BK6 := Aside0.mk (blk_below (alloc_at w13 _) hb); have HB6 := Aside0.mk (below_then (below_alloc (Below.refl _ _) _) (below_alloc (Below.refl _ _) _).size hb); have HB14 := Aside0.mk (below_then HB13.out HB13.out.size HB6.out); have HN0' := Aside0.mk (Kd.N_below HN0.out HB6.out); have HN1' := Aside0.mk (Kd.N_below HN1.out HB6.out); have BK8' := Aside0.mk (blk_below BK8.out HB6.out); clear hs2 hb HN0 HN1 BK8 HB6; have xb10 : w14.cell? ⟨b1, 0, none⟩ = some (.bool false) := (blk_cell (blk_below Kb1.out HB14.out) 0).trans rfl; have xb11 : w14.cell? ⟨b1, 1, none⟩ = some (.slice (some ⟨a1, 0, none⟩) 2 2) := (blk_cell (blk_below Kb1.out HB14.out) 1).trans rfl; have xb12 : w14.cell? ⟨b1, 2, none⟩ = some (.string ⟨#[]⟩) := (blk_cell (blk_below Kb1.out HB14.out) 2).trans rfl; have xb20 : w14.cell? ⟨b2, 0, none⟩ = some (.bool false) := (blk_cell (blk_below Kb2.out HB14.out) 0).trans rfl; have xb21 : w14.cell? ⟨b2, 1, none⟩ = some (.slice (some ⟨a2, 0, none⟩) 2 2) := (blk_cell (blk_below Kb2.out HB14.out) 1).trans rfl; have xb22 : w14.cell? ⟨b2, 2, none⟩ = some (.string ⟨#[]⟩) := (blk_cell (blk_below Kb2.out HB14.out) 2).trans rfl; have xb30 : w14.cell? ⟨b3, 0, none⟩ = some (.bool false) := (blk_cell (blk_below Kb3.out HB14.out) 0).trans rfl; have xb31 : w14.cell? ⟨b3, 1, none⟩ = some (.slice (some ⟨a3, 0, none⟩) 1 1) := (blk_cell (blk_below Kb3.out HB14.out) 1).trans rfl; have xb32 : w14.cell? ⟨b3, 2, none⟩ = some (.string ⟨#[]⟩) := (blk_cell (blk_below Kb3.out HB14.out) 2).trans rfl; have hz6_0 : w14.cell? ⟨w13.heap.size, 0, none⟩ = some (.slice A0 3 c0) := (blk_cell BK6.out 0).trans rfl; have hz6_1 : w14.cell? ⟨w13.heap.size, 1, none⟩ = some (.slice (some ⟨g8, 0, none⟩) 1 c8) := (blk_cell BK6.out 1).trans rfl; have SAMEC := Aside0.mk (show Calls Try.prog 19 #[.slice A2 4 c2, .slice (some ⟨w14.heap.size, 0, none⟩) 4 4] (w14.alloc (.cells #[.bool false, .slice (some ⟨a1, 0, none⟩) 2 2, .string ⟨#[]⟩, .bool false, .slice (some ⟨a2, 0, none⟩) 2 2, .string ⟨#[]⟩, .bool false, .slice (some ⟨a2, 0, none⟩) 2 2, .string ⟨#[]⟩, .bool false, .slice (some ⟨a3, 0, none⟩) 1 1, .string ⟨#[]⟩] 32 (0, 0))) _ from swarfref41_Same.calls 60 A2 c2 [rapid_, feed_, feed_, end_] (some ⟨w14.heap.size, 0, none⟩) 4 [rapid_, feed_, feed_, end_] true _ (Kd.C_alloc HS2.out.2.2 _) HS2.out.2.1 (C_blocks [(rapid_, some ⟨a1, 0, none⟩, 2), (feed_, some ⟨a2, 0, none⟩, 2), (feed_, some ⟨a2, 0, none⟩, 2), (end_, some ⟨a3, 0, none⟩, 1)] (show (w14.alloc (.cells #[.bool false, .slice (some ⟨a1, 0, none⟩) 2 2, .string ⟨#[]⟩, .bool false, .slice (some ⟨a2, 0, none⟩) 2 2, .string ⟨#[]⟩, .bool false, .slice (some ⟨a2, 0, none⟩) 2 2, .string ⟨#[]⟩, .bool false, .slice (some ⟨a3, 0, none⟩) 1 1, .string ⟨#[]⟩] 32 (0, 0))).heap[w14.heap.size]? = some (.cells (encB [(rapid_, some ⟨a1, 0, none⟩, 2), (feed_, some ⟨a2, 0, none⟩, 2), (feed_, some ⟨a2, 0, none⟩, 2), (end_, some ⟨a3, 0, none⟩, 1)]).toArray 32 (0, 0)) from alloc_at w14 _) (by simp) (fun x hx => by simp only [List.mem_cons, List.not_mem_nil, or_false] at hx; rcases hx with rfl | rfl | rfl | rfl; exact ⟨Ca1.out.1, Kd.C_below Ca1.out.2 (below_alloc HB14.out _)⟩; exact ⟨Ca2.out.1, Kd.C_below Ca2.out.2 (below_alloc HB14.out _)⟩; exact ⟨Ca2.out.1, Kd.C_below Ca2.out.2 (below_alloc HB14.out _)⟩; exact ⟨Ca3.out.1, Kd.C_below Ca3.out.2 (below_alloc HB14.out _)⟩)) (Nat.le_refl 4) same_ex)) | (go_at_call 19; refine SAMEC.out.mono ?_; rintro e_ w15 ⟨rfl, hb⟩; have HB7 := Aside0.mk (below_then (below_alloc (Below.refl _ _) _) (below_alloc (Below.refl _ _) _).size hb); have HB15 := Aside0.mk (below_then HB14.out HB14.out.size HB7.out); have BK6' := Aside0.mk (blk_below BK6.out HB7.out); have HN0'' := Aside0.mk (Kd.N_below HN0'.out HB7.out); have HN1'' := Aside0.mk (Kd.N_below HN1'.out HB7.out); have BK8'' := Aside0.mk (blk_below BK8'.out HB7.out); clear hb BK6 HN0' HN1' BK8' HB7 SAMEC))
  generalize w13.heap.size = b6 at BK6' ⊢
  clear HL12 HB12' SPL HVl HS2
  refine start_ (n := 10) (S := fun w' => w'.cell? ⟨b6, 1, none⟩ = some (.slice (some ⟨g8, 0, none⟩) 1 c8)) (ds := []) #[false, false, false, false, false, false, false, false, false, false] (by kernel_rfl) rfl rfl ((blk_cell (show w15.drew.heap[b6]? = _ from BK6'.out) 1).trans rfl) (fun hHeld => ?_)
  have hb_ := below_drew1 (Below.refl w15.heap.size w15)
  have HB_16 := Aside0.mk (below_then HB15.out HB15.out.size hb_)
  have BKP_16 := Aside0.mk (blk_below BK6'.out hb_)
  have HN0_16 := Aside0.mk (Kd.N_below HN0''.out hb_)
  have HN1_16 := Aside0.mk (Kd.N_below HN1''.out hb_)
  have BK8_16 := Aside0.mk (blk_below BK8''.out hb_)
  clear HB15 BK6' HN0'' HN1'' BK8''
  clear hb_
  generalize w15.drew = W16 at * 
  refine yp 0 74 ?_
  refine take_ (i := 1) (N := some 75) (v := ?_) (a' := ?_) #[true, true, false, false, false, false, false, false, false, false] rfl rfl (by kernel_rfl) (fun _ _ _ h => h) (Or.inl ⟨by rfl, ?_⟩) hHeld ?_ ?_
  rotate_left
  · intro w' hS
    go_simp
    with_reducible rfl
  rotate_left
  · simp only [Act.put, List.setIfInBounds_toArray, List.set_cons_zero, List.set_cons_succ, i64_w, i32_w]
    rfl
  refine yo 2 (some 76) (fun K hK => ?_)
  refine goes_ Try.func44 (by kernel_rfl) rfl #[.int .u8 77, .int .i64 98] (by rfl) rfl rfl (by (try simp only [List.map_toArray, List.map_cons, List.map_nil]); first | done | rfl) ?_
  refine (word_any 77 98 98000 (by kernel_rfl) _).mono ?_
  rintro e_ W17 ⟨rfl, hb_⟩
  refine ⟨_, rfl, ?_⟩
  clear hHeld
  have HB_17 := Aside0.mk (below_then HB_16.out HB_16.out.size hb_)
  have BKP_17 := Aside0.mk (blk_below BKP_16.out hb_)
  have HN0_17 := Aside0.mk (Kd.N_below HN0_16.out hb_)
  have HN1_17 := Aside0.mk (Kd.N_below HN1_16.out hb_)
  have BK8_17 := Aside0.mk (blk_below BK8_16.out hb_)
  clear HB_16 BKP_16 HN0_16 HN1_16 BK8_16
  clear hb_
  refine hK.out _ _ ((blk_cell BKP_17.out 1).trans rfl) (fun hHeld => ?_)
  clear hK K
  refine yn 76 ?_
  refine yo 3 (some 77) (fun K hK => ?_)
  refine goes_ Try.func44 (by kernel_rfl) rfl #[.int .u8 80, .int .i64 5] (by rfl) rfl rfl (by (try simp only [List.map_toArray, List.map_cons, List.map_nil]); first | done | rfl) ?_
  refine (word_any 80 5 5000 (by kernel_rfl) _).mono ?_
  rintro e_ W18 ⟨rfl, hb_⟩
  refine ⟨_, rfl, ?_⟩
  clear hHeld
  have HB_18 := Aside0.mk (below_then HB_17.out HB_17.out.size hb_)
  have BKP_18 := Aside0.mk (blk_below BKP_17.out hb_)
  have HN0_18 := Aside0.mk (Kd.N_below HN0_17.out hb_)
  have HN1_18 := Aside0.mk (Kd.N_below HN1_17.out hb_)
  have BK8_18 := Aside0.mk (blk_below BK8_17.out hb_)
  clear HB_17 BKP_17 HN0_17 HN1_17 BK8_17
  clear hb_
  refine hK.out _ _ ((blk_cell BKP_18.out 1).trans rfl) (fun hHeld => ?_)
  clear hK K
  refine yn 77 ?_
  refine yo 4 (some 78) (fun K hK => ?_)
  refine lit_step (v := .slice (some ⟨W18.heap.size, 0, none⟩) 2 2) (w' := W18.alloc (.cells #[.int .u8 77, .int .i64 98000, .int .u8 80, .int .i64 5000] 78 (0, 0))) (by rfl) rfl (by first | (go_simp; done) | (go_simp; rfl)) ?_
  clear hHeld
  have hb_ := below_alloc (Below.refl W18.heap.size W18) (.cells #[.int .u8 77, .int .i64 98000, .int .u8 80, .int .i64 5000] 78 (0, 0))
  have Ka7_19 := Aside0.mk (alloc_at W18 (.cells #[.int .u8 77, .int .i64 98000, .int .u8 80, .int .i64 5000] 78 (0, 0)))
  have HB_19 := Aside0.mk (below_then HB_18.out HB_18.out.size hb_)
  have BKP_19 := Aside0.mk (blk_below BKP_18.out hb_)
  have HN0_19 := Aside0.mk (Kd.N_below HN0_18.out hb_)
  have HN1_19 := Aside0.mk (Kd.N_below HN1_18.out hb_)
  have BK8_19 := Aside0.mk (blk_below BK8_18.out hb_)
  clear HB_18 BKP_18 HN0_18 HN1_18 BK8_18
  clear hb_
  generalize W18.alloc (.cells #[.int .u8 77, .int .i64 98000, .int .u8 80, .int .i64 5000] 78 (0, 0)) = W19 at * 
  generalize W18.heap.size = a7 at * 
  refine hK.out _ _ ((blk_cell BKP_19.out 1).trans rfl) (fun hHeld => ?_)
  clear hK K
  refine yn 78 ?_
  refine yo 5 (some 79) (fun K hK => ?_)
  refine goes_ Try.func43 (by kernel_rfl) rfl #[.slice (some ⟨a7, 0, none⟩) 2 2] (by rfl) rfl rfl (by (try simp only [List.map_toArray, List.map_cons, List.map_nil]); first | done | rfl) ?_
  refine (words_any _ _ _ _).mono ?_
  rintro e_ W20 ⟨rfl, hb_⟩
  refine ⟨_, rfl, ?_⟩
  clear hHeld
  have HB_20 := Aside0.mk (below_then HB_19.out HB_19.out.size hb_)
  have BKP_20 := Aside0.mk (blk_below BKP_19.out hb_)
  have HN0_20 := Aside0.mk (Kd.N_below HN0_19.out hb_)
  have HN1_20 := Aside0.mk (Kd.N_below HN1_19.out hb_)
  have BK8_20 := Aside0.mk (blk_below BK8_19.out hb_)
  have Ka7_20 := Aside0.mk (blk_below Ka7_19.out hb_)
  clear HB_19 BKP_19 HN0_19 HN1_19 BK8_19 Ka7_19
  clear hb_
  refine hK.out _ _ ((blk_cell BKP_20.out 1).trans rfl) (fun hHeld => ?_)
  clear hK K
  refine yn 79 ?_
  refine yo 6 (some 80) (fun K hK => ?_)
  refine lit_step (v := .slice (some ⟨W20.heap.size, 0, none⟩) 1 1) (w' := W20.alloc (.cells #[.bool false, .slice (some ⟨a7, 0, none⟩) 2 2, .string ⟨#[]⟩] 32 (0, 0))) (by rfl) rfl (by first | (go_simp; done) | (go_simp; rfl)) ?_
  clear hHeld
  have hb_ := below_alloc (Below.refl W20.heap.size W20) (.cells #[.bool false, .slice (some ⟨a7, 0, none⟩) 2 2, .string ⟨#[]⟩] 32 (0, 0))
  have Ka8_21 := Aside0.mk (alloc_at W20 (.cells #[.bool false, .slice (some ⟨a7, 0, none⟩) 2 2, .string ⟨#[]⟩] 32 (0, 0)))
  have HB_21 := Aside0.mk (below_then HB_20.out HB_20.out.size hb_)
  have BKP_21 := Aside0.mk (blk_below BKP_20.out hb_)
  have HN0_21 := Aside0.mk (Kd.N_below HN0_20.out hb_)
  have HN1_21 := Aside0.mk (Kd.N_below HN1_20.out hb_)
  have BK8_21 := Aside0.mk (blk_below BK8_20.out hb_)
  have Ka7_21 := Aside0.mk (blk_below Ka7_20.out hb_)
  clear HB_20 BKP_20 HN0_20 HN1_20 BK8_20 Ka7_20
  clear hb_
  generalize W20.alloc (.cells #[.bool false, .slice (some ⟨a7, 0, none⟩) 2 2, .string ⟨#[]⟩] 32 (0, 0)) = W21 at * 
  generalize W20.heap.size = a8 at * 
  refine hK.out _ _ ((blk_cell BKP_21.out 1).trans rfl) (fun hHeld => ?_)
  clear hK K
  refine yn 80 ?_
  refine yp 7 81 ?_
  refine yp 8 82 ?_
  obtain ⟨ad8, A8, c8', e8, hx8_, hy8_, hl8, hk8⟩ := at_T81 (Kd.N_reads' HN1_21.out).2.2 0 (by decide) (by decide)
  injection e8 with e8
  subst e8
  have hx8 : W21.cell? ⟨g8, 0, none⟩ = some (.int .i64 5) := hx8_
  have hy8 : W21.cell? ⟨g8, 1, none⟩ = some (.slice A8 1 c8') := hy8_
  clear hx8_ hy8_
  have hf8 := blk_frozen BK8_21.out 1
  refine yo 9 (none) (fun K hK => ?_)
  refine store_step_ (w' := W21.setCell ⟨g8, 1, none⟩ (.slice (some ⟨a8, 0, none⟩) 1 1)) (by rfl) rfl (by first | (go_simp; done) | (go_simp; rfl)) ?_
  clear hHeld
  have HBs := Aside0.mk (show Below W12.heap.size W12 (W21.setCell ⟨g8, 1, none⟩ (.slice (some ⟨a8, 0, none⟩) 1 1)) from below_set HB_21.out GE8.out)
  have BKPs := Aside0.mk (blk_far (p := ⟨g8, 1, none⟩) BKP_21.out (fun e_ => by subst e_; have h_ := BKP_21.out.symm.trans BK8_21.out; injection h_ with h_; injection h_ with _ h2_ _; exact absurd h2_ (by decide)) (.slice (some ⟨a8, 0, none⟩) 1 1))
  have Ka7s := Aside0.mk (blk_far (p := ⟨g8, 1, none⟩) Ka7_21.out (fun e_ => by subst e_; have h_ := Ka7_21.out.symm.trans BK8_21.out; injection h_ with h_; injection h_ with _ h2_ _; exact absurd h2_ (by decide)) (.slice (some ⟨a8, 0, none⟩) 1 1))
  have Ka8s := Aside0.mk (blk_far (p := ⟨g8, 1, none⟩) Ka8_21.out (fun e_ => by subst e_; have h_ := Ka8_21.out.symm.trans BK8_21.out; injection h_ with h_; injection h_ with _ h2_ _; exact absurd h2_ (by decide)) (.slice (some ⟨a8, 0, none⟩) 1 1))
  have HN0s := Aside0.mk (Kd.N_far (p := ⟨g8, 1, none⟩) HN0_21.out (fun k_ hk_ e_ => hk_.2 (by rw [e_]; rfl)) (.slice (some ⟨a8, 0, none⟩) 1 1))
  have hs0 : (W21.setCell ⟨g8, 1, none⟩ (.slice (some ⟨a8, 0, none⟩) 1 1)).cell? ⟨g8, 0, none⟩ = some (.int .i64 5) := by
    have h1 := (blk_cell BK8_21.out 0).symm.trans hx8
    refine (blk_cell (blk_put BK8_21.out 1 _ rfl) 0).trans ?_
    simpa using h1
  have hs1 : (W21.setCell ⟨g8, 1, none⟩ (.slice (some ⟨a8, 0, none⟩) 1 1)).cell? ⟨g8, 1, none⟩ = some (.slice (some ⟨a8, 0, none⟩) 1 1) := by
    have h1 := (blk_cell BK8_21.out 1).symm.trans hy8
    refine (blk_cell (blk_put BK8_21.out 1 _ rfl) 1).trans ?_
    have h2 := (Array.getElem?_eq_some_iff.1 h1).1
    simp [h2]
  generalize W21.setCell ⟨g8, 1, none⟩ (.slice (some ⟨a8, 0, none⟩) 1 1) = W22 at *
  have CS := Aside0.mk (C_sub1 (l := [call5_]) hs0 hs1 (Nat.le_refl 1) (C_blocks [(call5_, some ⟨a7, 0, none⟩, 2)] Ka8s.out (by simp) (fun x hx => by simp only [List.mem_cons, List.not_mem_nil, or_false] at hx; rcases hx with rfl; exact ⟨Nat.le_refl 2, C_words [aw 77 98000, aw 80 5000] Ka7s.out (by decide)⟩)))
  clear hx8 hy8 hl8 hk8 hf8 hs0 hs1 HB_21 BKP_21 HN0_21 HN1_21 BK8_21 Ka7_21 Ka8_21
  refine hK.out _ _ ((blk_cell BKPs.out 1).trans rfl) (fun hHeld => ?_)
  clear hK K
  refine norm_ (a' := ?_) ?_ ?_
  rotate_left
  · show Act.put _ none _ = _
    rfl
  refine done_ (by kernel_rfl) ?_
  clear hHeld
  have hz6_0 : W22.cell? ⟨b6, 0, none⟩ = some (.slice A0 3 c0) := (blk_cell BKPs.out 0).trans rfl
  have hz6_1 : W22.cell? ⟨b6, 1, none⟩ = some (.slice (some ⟨g8, 0, none⟩) 1 c8) := (blk_cell BKPs.out 1).trans rfl
  go_wp2_with (fail)
  clear hz6_0 hz6_1
  refine (show Calls Try.prog 28 #[.agg #[.slice A0 3 c0, .slice (some ⟨g8, 0, none⟩) 1 c8]] W22 _ from subprogram_Expand.calls 60 A0 c0 [rapid_, call_, end_] (some ⟨g8, 0, none⟩) c8 [⟨5, [call5_]⟩] [] 12 W22 (Kd.N_reads' HN0s.out).2.2 (Kd.N_reads' HN0s.out).2.1 CS.out C8LE.out expand_ex2).mono ?_
  rintro e_ W23 ⟨v3, rfl, hs3, hb_⟩
  obtain ⟨A3, c3, rfl⟩ := Kd.R_slice (Kd.S_R hs3)
  have HB23 := Aside0.mk (below_then HBs.out HBs.out.size hb_)
  clear hs3 hb_ HN0s CS HBs BKPs Ka7s Ka8s
  have yb10 : W23.cell? ⟨b1, 0, none⟩ = some (.bool false) := (blk_cell (blk_below Kb1.out HB23.out) 0).trans rfl
  have yb11 : W23.cell? ⟨b1, 1, none⟩ = some (.slice (some ⟨a1, 0, none⟩) 2 2) := (blk_cell (blk_below Kb1.out HB23.out) 1).trans rfl
  have yb12 : W23.cell? ⟨b1, 2, none⟩ = some (.string ⟨#[]⟩) := (blk_cell (blk_below Kb1.out HB23.out) 2).trans rfl
  have yb20 : W23.cell? ⟨b2, 0, none⟩ = some (.bool false) := (blk_cell (blk_below Kb2.out HB23.out) 0).trans rfl
  have yb21 : W23.cell? ⟨b2, 1, none⟩ = some (.slice (some ⟨a2, 0, none⟩) 2 2) := (blk_cell (blk_below Kb2.out HB23.out) 1).trans rfl
  have yb22 : W23.cell? ⟨b2, 2, none⟩ = some (.string ⟨#[]⟩) := (blk_cell (blk_below Kb2.out HB23.out) 2).trans rfl
  have yb30 : W23.cell? ⟨b3, 0, none⟩ = some (.bool false) := (blk_cell (blk_below Kb3.out HB23.out) 0).trans rfl
  have yb31 : W23.cell? ⟨b3, 1, none⟩ = some (.slice (some ⟨a3, 0, none⟩) 1 1) := (blk_cell (blk_below Kb3.out HB23.out) 1).trans rfl
  have yb32 : W23.cell? ⟨b3, 2, none⟩ = some (.string ⟨#[]⟩) := (blk_cell (blk_below Kb3.out HB23.out) 2).trans rfl
  have yb40 : W23.cell? ⟨b4, 0, none⟩ = some (.bool false) := (blk_cell (blk_below Kb4.out HB23.out) 0).trans rfl
  have yb41 : W23.cell? ⟨b4, 1, none⟩ = some (.slice (some ⟨a4, 0, none⟩) 3 3) := (blk_cell (blk_below Kb4.out HB23.out) 1).trans rfl
  have yb42 : W23.cell? ⟨b4, 2, none⟩ = some (.string ⟨#[]⟩) := (blk_cell (blk_below Kb4.out HB23.out) 2).trans rfl
  go_wp2_with (fail)
  clear yb10 yb11 yb12 yb20 yb21 yb22 yb30 yb31 yb32 yb40 yb41 yb42
  refine (show Calls Try.prog 32 #[.slice (some ⟨W23.heap.size, 0, none⟩) 6 6, .int .i64 7, .int .i64 2] (W23.alloc (.cells #[.bool false, .slice (some ⟨a1, 0, none⟩) 2 2, .string ⟨#[]⟩, .bool false, .slice (some ⟨a2, 0, none⟩) 2 2, .string ⟨#[]⟩, .bool false, .slice (some ⟨a4, 0, none⟩) 3 3, .string ⟨#[]⟩, .bool false, .slice (some ⟨a1, 0, none⟩) 2 2, .string ⟨#[]⟩, .bool false, .slice (some ⟨a2, 0, none⟩) 2 2, .string ⟨#[]⟩, .bool false, .slice (some ⟨a3, 0, none⟩) 1 1, .string ⟨#[]⟩] 32 (0, 0))) _ from subprogram_Fold.calls 60 (fun k_ => k_ < (W23.alloc (.cells #[.bool false, .slice (some ⟨a1, 0, none⟩) 2 2, .string ⟨#[]⟩, .bool false, .slice (some ⟨a2, 0, none⟩) 2 2, .string ⟨#[]⟩, .bool false, .slice (some ⟨a4, 0, none⟩) 3 3, .string ⟨#[]⟩, .bool false, .slice (some ⟨a1, 0, none⟩) 2 2, .string ⟨#[]⟩, .bool false, .slice (some ⟨a2, 0, none⟩) 2 2, .string ⟨#[]⟩, .bool false, .slice (some ⟨a3, 0, none⟩) 1 1, .string ⟨#[]⟩] 32 (0, 0))).heap.size) (some ⟨W23.heap.size, 0, none⟩) 6 [rapid_, feed_, call_, rapid_, feed_, end_] 7 2 [again_, call_, again_, end_] [⟨7, [rapid_, feed_]⟩] 0 (W23.alloc (.cells #[.bool false, .slice (some ⟨a1, 0, none⟩) 2 2, .string ⟨#[]⟩, .bool false, .slice (some ⟨a2, 0, none⟩) 2 2, .string ⟨#[]⟩, .bool false, .slice (some ⟨a4, 0, none⟩) 3 3, .string ⟨#[]⟩, .bool false, .slice (some ⟨a1, 0, none⟩) 2 2, .string ⟨#[]⟩, .bool false, .slice (some ⟨a2, 0, none⟩) 2 2, .string ⟨#[]⟩, .bool false, .slice (some ⟨a3, 0, none⟩) 1 1, .string ⟨#[]⟩] 32 (0, 0))) (Kd.V_mk (Nat.le_refl 6) (Kd.C_F k32_heap (C_blocks [(rapid_, some ⟨a1, 0, none⟩, 2), (feed_, some ⟨a2, 0, none⟩, 2), (call_, some ⟨a4, 0, none⟩, 3), (rapid_, some ⟨a1, 0, none⟩, 2), (feed_, some ⟨a2, 0, none⟩, 2), (end_, some ⟨a3, 0, none⟩, 1)] (show (W23.alloc (.cells #[.bool false, .slice (some ⟨a1, 0, none⟩) 2 2, .string ⟨#[]⟩, .bool false, .slice (some ⟨a2, 0, none⟩) 2 2, .string ⟨#[]⟩, .bool false, .slice (some ⟨a4, 0, none⟩) 3 3, .string ⟨#[]⟩, .bool false, .slice (some ⟨a1, 0, none⟩) 2 2, .string ⟨#[]⟩, .bool false, .slice (some ⟨a2, 0, none⟩) 2 2, .string ⟨#[]⟩, .bool false, .slice (some ⟨a3, 0, none⟩) 1 1, .string ⟨#[]⟩] 32 (0, 0))).heap[W23.heap.size]? = some (.cells (encB [(rapid_, some ⟨a1, 0, none⟩, 2), (feed_, some ⟨a2, 0, none⟩, 2), (call_, some ⟨a4, 0, none⟩, 3), (rapid_, some ⟨a1, 0, none⟩, 2), (feed_, some ⟨a2, 0, none⟩, 2), (end_, some ⟨a3, 0, none⟩, 1)]).toArray 32 (0, 0)) from alloc_at W23 _) (by simp) (fun x hx => by simp only [List.mem_cons, List.not_mem_nil, or_false] at hx; rcases hx with rfl | rfl | rfl | rfl | rfl | rfl; exact ⟨Ca1.out.1, Kd.C_below Ca1.out.2 (below_alloc HB23.out _)⟩; exact ⟨Ca2.out.1, Kd.C_below Ca2.out.2 (below_alloc HB23.out _)⟩; exact ⟨Ca4.out.1, Kd.C_below Ca4.out.2 (below_alloc HB23.out _)⟩; exact ⟨Ca1.out.1, Kd.C_below Ca1.out.2 (below_alloc HB23.out _)⟩; exact ⟨Ca2.out.1, Kd.C_below Ca2.out.2 (below_alloc HB23.out _)⟩; exact ⟨Ca3.out.1, Kd.C_below Ca3.out.2 (below_alloc HB23.out _)⟩)))) fold_ex).mono ?_
  rintro e_ W24 ⟨v4, v5, rfl, hn4, hn5, hb_⟩
  obtain ⟨A4, c4, rfl⟩ := Kd.N_slice hn4
  obtain ⟨g5, c5, e5_, _, _, _, _⟩ := Kd.N_form hn5 (by decide)
  obtain rfl := e5_
  have HN4 := Aside0.mk hn4
  have HN5 := Aside0.mk hn5
  have HB24 := Aside0.mk (below_then (below_alloc HB23.out _) (below_alloc HB23.out _).size hb_)
  clear hn4 hn5 hb_ HB23
  go_wp2_with (fail)
  have HBx := HB24
  clear HB24
  refine (word_any 77 98 98000 (by kernel_rfl) _).mono ?_
  rintro e_ W25 ⟨rfl, hb_⟩
  have B12 := Aside0.mk (blk_below (alloc_at W24 _) hb_)
  have hb2_ := below_then (below_alloc (Below.refl W24.heap.size W24) _) (below_alloc (Below.refl W24.heap.size W24) _).size hb_
  have HBx' := Aside0.mk (below_then HBx.out HBx.out.size hb2_)
  have HN4' := Aside0.mk (Kd.N_below HN4.out hb2_)
  have HN5' := Aside0.mk (Kd.N_below HN5.out hb2_)
  clear HBx HN4 HN5
  have HBx := HBx'
  have HN4 := HN4'
  have HN5 := HN5'
  clear HBx' HN4' HN5'
  clear hb_ hb2_
  generalize W24.heap.size = b12 at *
  go_wp2_with (fail)
  refine (word_any 80 7 7000 (by kernel_rfl) _).mono ?_
  rintro e_ W26 ⟨rfl, hb_⟩
  have hb2_ := hb_
  have HBx' := Aside0.mk (below_then HBx.out HBx.out.size hb2_)
  have HN4' := Aside0.mk (Kd.N_below HN4.out hb2_)
  have HN5' := Aside0.mk (Kd.N_below HN5.out hb2_)
  have B12' := Aside0.mk (blk_below B12.out hb2_)
  clear HBx HN4 HN5 B12
  have HBx := HBx'
  have HN4 := HN4'
  have HN5 := HN5'
  have B12 := B12'
  clear HBx' HN4' HN5' B12'
  clear hb_ hb2_
  go_wp2_with (fail)
  refine (words_any _ _ _ _).mono ?_
  rintro e_ W27 ⟨rfl, hb_⟩
  have B9 := Aside0.mk (blk_below (alloc_at W26 _) hb_)
  have hb2_ := below_then (below_alloc (Below.refl W26.heap.size W26) _) (below_alloc (Below.refl W26.heap.size W26) _).size hb_
  have HBx' := Aside0.mk (below_then HBx.out HBx.out.size hb2_)
  have HN4' := Aside0.mk (Kd.N_below HN4.out hb2_)
  have HN5' := Aside0.mk (Kd.N_below HN5.out hb2_)
  have B12' := Aside0.mk (blk_below B12.out hb2_)
  clear HBx HN4 HN5 B12
  have HBx := HBx'
  have HN4 := HN4'
  have HN5 := HN5'
  have B12 := B12'
  clear HBx' HN4' HN5' B12'
  clear hb_ hb2_
  generalize W26.heap.size = a9 at *
  have hw0 : (W27.alloc (.cells #[.bool false, .slice (some ⟨a9, 0, none⟩) 2 2, .string ⟨#[]⟩] 32 (0, 0))).cell? ⟨b12, 0, none⟩ = some (.slice A4 4 c4) := (blk_cell (blk_alloc B12.out _) 0).trans rfl
  have hw1 : (W27.alloc (.cells #[.bool false, .slice (some ⟨a9, 0, none⟩) 2 2, .string ⟨#[]⟩] 32 (0, 0))).cell? ⟨b12, 1, none⟩ = some (.slice (some ⟨g5, 0, none⟩) 1 c5) := (blk_cell (blk_alloc B12.out _) 1).trans rfl
  obtain ⟨ad5, A9, c9, e5, hx5_, hy5_, hl5, hk5⟩ := at_T81 (Kd.C_alloc (Kd.N_reads' HN5.out).2.2 (.cells #[.bool false, .slice (some ⟨a9, 0, none⟩) 2 2, .string ⟨#[]⟩] 32 (0, 0))) 0 (by decide) (by decide)
  injection e5 with e5
  subst e5
  have hx5 : (W27.alloc (.cells #[.bool false, .slice (some ⟨a9, 0, none⟩) 2 2, .string ⟨#[]⟩] 32 (0, 0))).cell? ⟨g5, 0, none⟩ = some (.int .i64 7) := hx5_
  clear hx5_ hy5_ hl5 hk5
  have zb30 : (W27.alloc (.cells #[.bool false, .slice (some ⟨a9, 0, none⟩) 2 2, .string ⟨#[]⟩] 32 (0, 0))).cell? ⟨b3, 0, none⟩ = some (.bool false) := (blk_cell (blk_below Kb3.out (below_alloc HBx.out _)) 0).trans rfl
  have zb31 : (W27.alloc (.cells #[.bool false, .slice (some ⟨a9, 0, none⟩) 2 2, .string ⟨#[]⟩] 32 (0, 0))).cell? ⟨b3, 1, none⟩ = some (.slice (some ⟨a3, 0, none⟩) 1 1) := (blk_cell (blk_below Kb3.out (below_alloc HBx.out _)) 1).trans rfl
  have zb32 : (W27.alloc (.cells #[.bool false, .slice (some ⟨a9, 0, none⟩) 2 2, .string ⟨#[]⟩] 32 (0, 0))).cell? ⟨b3, 2, none⟩ = some (.string ⟨#[]⟩) := (blk_cell (blk_below Kb3.out (below_alloc HBx.out _)) 2).trans rfl
  have zb40 : (W27.alloc (.cells #[.bool false, .slice (some ⟨a9, 0, none⟩) 2 2, .string ⟨#[]⟩] 32 (0, 0))).cell? ⟨b4, 0, none⟩ = some (.bool false) := (blk_cell (blk_below Kb4.out (below_alloc HBx.out _)) 0).trans rfl
  have zb41 : (W27.alloc (.cells #[.bool false, .slice (some ⟨a9, 0, none⟩) 2 2, .string ⟨#[]⟩] 32 (0, 0))).cell? ⟨b4, 1, none⟩ = some (.slice (some ⟨a4, 0, none⟩) 3 3) := (blk_cell (blk_below Kb4.out (below_alloc HBx.out _)) 1).trans rfl
  have zb42 : (W27.alloc (.cells #[.bool false, .slice (some ⟨a9, 0, none⟩) 2 2, .string ⟨#[]⟩] 32 (0, 0))).cell? ⟨b4, 2, none⟩ = some (.string ⟨#[]⟩) := (blk_cell (blk_below Kb4.out (below_alloc HBx.out _)) 2).trans rfl
  go_wp2_with (fail)
  clear hw0 hw1 hx5 zb30 zb31 zb32 zb40 zb41 zb42
  have Ca9 := Aside0.mk (show 2 ≤ 2 ∧ Kd.C k78 W27 (some ⟨a9, 0, none⟩) 2 again_.f1 from ⟨Nat.le_refl _, C_words [aw 77 98000, aw 80 7000] B9.out (by decide)⟩)
  refine (show Calls Try.prog 19 #[.slice A4 4 c4, .slice (some ⟨W27.heap.size + 1, 0, none⟩) 4 4] ((W27.alloc (.cells #[.bool false, .slice (some ⟨a9, 0, none⟩) 2 2, .string ⟨#[]⟩] 32 (0, 0))).alloc (.cells #[.bool false, .slice (some ⟨a9, 0, none⟩) 2 2, .string ⟨#[]⟩, .bool false, .slice (some ⟨a4, 0, none⟩) 3 3, .string ⟨#[]⟩, .bool false, .slice (some ⟨a9, 0, none⟩) 2 2, .string ⟨#[]⟩, .bool false, .slice (some ⟨a3, 0, none⟩) 1 1, .string ⟨#[]⟩] 32 (0, 0))) _ from swarfref41_Same.calls 60 A4 c4 [again_, call_, again_, end_] (some ⟨W27.heap.size + 1, 0, none⟩) 4 [again_, call_, again_, end_] true _ (Kd.C_alloc (Kd.C_alloc (Kd.N_reads' HN4.out).2.2 _) _) (Kd.N_reads' HN4.out).2.1 (C_blocks [(again_, some ⟨a9, 0, none⟩, 2), (call_, some ⟨a4, 0, none⟩, 3), (again_, some ⟨a9, 0, none⟩, 2), (end_, some ⟨a3, 0, none⟩, 1)] (show ((W27.alloc (.cells #[.bool false, .slice (some ⟨a9, 0, none⟩) 2 2, .string ⟨#[]⟩] 32 (0, 0))).alloc (.cells #[.bool false, .slice (some ⟨a9, 0, none⟩) 2 2, .string ⟨#[]⟩, .bool false, .slice (some ⟨a4, 0, none⟩) 3 3, .string ⟨#[]⟩, .bool false, .slice (some ⟨a9, 0, none⟩) 2 2, .string ⟨#[]⟩, .bool false, .slice (some ⟨a3, 0, none⟩) 1 1, .string ⟨#[]⟩] 32 (0, 0))).heap[W27.heap.size + 1]? = some (.cells (encB [(again_, some ⟨a9, 0, none⟩, 2), (call_, some ⟨a4, 0, none⟩, 3), (again_, some ⟨a9, 0, none⟩, 2), (end_, some ⟨a3, 0, none⟩, 1)]).toArray 32 (0, 0)) from by rw [← size_alloc W27 (.cells #[.bool false, .slice (some ⟨a9, 0, none⟩) 2 2, .string ⟨#[]⟩] 32 (0, 0))]; exact alloc_at _ _) (by simp) (fun x hx => by simp only [List.mem_cons, List.not_mem_nil, or_false] at hx; rcases hx with rfl | rfl | rfl | rfl; exact ⟨Ca9.out.1, Kd.C_below Ca9.out.2 (below_alloc (below_alloc (Below.refl _ _) _) _)⟩; exact ⟨Ca4.out.1, Kd.C_below Ca4.out.2 (below_alloc (below_alloc HBx.out _) _)⟩; exact ⟨Ca9.out.1, Kd.C_below Ca9.out.2 (below_alloc (below_alloc (Below.refl _ _) _) _)⟩; exact ⟨Ca3.out.1, Kd.C_below Ca3.out.2 (below_alloc (below_alloc HBx.out _) _)⟩)) (Nat.le_refl 4) same_ex2).mono ?_
  rintro e_ W29 ⟨rfl, hb_⟩
  have hb2_ := below_then (below_alloc (below_alloc (Below.refl W27.heap.size W27) _) _) (below_alloc (below_alloc (Below.refl W27.heap.size W27) _) _).size hb_
  have HBy := Aside0.mk (below_then HBx.out HBx.out.size hb2_)
  have HN5' := Aside0.mk (Kd.N_below HN5.out hb2_)
  have B12' := Aside0.mk (blk_below B12.out hb2_)
  clear hb_ hb2_ HBx HN5 B12 HN4 B9 Ca9
  have HN5 := HN5'
  have B12 := B12'
  clear HN5' B12'
  have hw0 : W29.cell? ⟨b12, 0, none⟩ = some (.slice A4 4 c4) := (blk_cell B12.out 0).trans rfl
  have hw1 : W29.cell? ⟨b12, 1, none⟩ = some (.slice (some ⟨g5, 0, none⟩) 1 c5) := (blk_cell B12.out 1).trans rfl
  obtain ⟨ad5, A9, c9, e5, hx5_, hy5_, hl5, hk5⟩ := at_T81 (Kd.N_reads' HN5.out).2.2 0 (by decide) (by decide)
  injection e5 with e5
  subst e5
  have hx5 : W29.cell? ⟨g5, 0, none⟩ = some (.int .i64 7) := hx5_
  clear hx5_ hy5_ hl5 hk5
  go_wp2_with (fail)
  go_ret
  exact ⟨rfl, below_then HB12.out HB12.out.size HBy.out⟩
def swarflaw43_awake.f : Option (Bool) := some true
theorem swarflaw43_awake.calls (r : Bool) (w : World) (h : swarflaw43_awake.f = some r) : Calls Try.prog 23 #[] w fun e w' => e = .returned (.bool r) ∧ Below w.heap.size w w' := by
  obtain rfl := Option.some.inj h
  exact awake43_calls w
end Go.Proofs.Ytehkhbnhmehobaa.P
namespace Go.Proofs.Ytehkhbnhmehobaa.P
open Go.RowKit Go.Proofs.YtehkhbnhmehobaaW.PrintWords Go.Proofs.YtehkhbnhmehobaaW.PrintLast Go.Proofs.YtehkhbnhmehobaaW.PrintMore
attribute [local go_sem] max2_int min2_int max_two min_two max_three min_three max_four min_four
set_option linter.unusedVariables false
set_option linter.unusedSimpArgs false
def swarflaw43_SubprogramJoin.j0 : Nat → Bool → List (S32) → List (S58) → Option (Bool)
 | 0, _, _, _ => none
 | k + 1, x14, x956000, x956001 => if x14 = true then ((swarflaw43_awake.f).bind fun t958 => (some t958)) else ((swarflaw43_own.f k x956000 x956001).bind fun bt959 => ((subprogram_Join.f k bt959.1 bt959.2).bind fun t965 => ((swarfref43_Join.f k x956000 x956001).bind fun t968 => ((swarfref41_Same.f k t965 t968).bind fun t971 => (if t971 = true then ((swarfref43_Check.f k x956000 x956001).bind fun bt972 => (if bt972.2 = 1 then (some true) else ((subprogram_Split.f k t965).bind fun bt974 => (if bt974.2.2 = 0 then ((swarflaw43_back.f k bt974.1 bt974.2.1).bind fun bt982 => ((swarfref43_Same.f k bt982.1 bt982.2 x956000 x956001).bind fun t988 => (some t988))) else (none))))) else (none))))))
def swarflaw43_SubprogramJoin.f (k : Nat) (l0_0 : List (S32)) (l0_1 : List (S58)) : Option (Bool) := (swarflaw43_awake.f).bind fun t956 => (if t956 = true then ((swarflaw43_few.f k l0_0 l0_1).bind fun t957 => (swarflaw43_SubprogramJoin.j0 k (!t957) l0_0 l0_1)) else (swarflaw43_SubprogramJoin.j0 k true l0_0 l0_1))
def swarflaw43_SubprogramJoin.T10 : Bool × List (List Nat × List Nat) := (true, [([], []), ([0], [0]), ([1], [1]), ([2], [2]), ([3, 2, 2], [2, 3]), ([2], [2]), ([4, 5, 4, 2], [2, 4, 5]), ([2, 6], [2, 6]), ([7, 6, 0, 1, 2, 3, 4, 5, 6, 7], [7])])
def swarflaw43_SubprogramJoin.B10 : List Nat := [0, 1, 3, 7, 15, 7, 63, 127, 255]
theorem swarflaw43_SubprogramJoin.tab10 : rtab .any (opsOf Try.f12 10) = swarflaw43_SubprogramJoin.T10 := by kernel_rfl
theorem swarflaw43_SubprogramJoin.bits10 : waitsOk swarflaw43_SubprogramJoin.T10.2 swarflaw43_SubprogramJoin.B10 = true := by kernel_rfl
set_option maxHeartbeats 8000000 in
set_option maxRecDepth 100000 in
theorem swarflaw43_SubprogramJoin.calls (k : Nat) (A0_0 : Option Addr) (c0_0 : Nat) (l0_0 : List (S32)) (A0_1 : Option Addr) (c0_1 : Nat) (l0_1 : List (S58)) (r : Bool) (w : World) (hr0_0 : Kd.C k32 w A0_0 l0_0.length l0_0) (hc0_0 : l0_0.length ≤ c0_0) (hr0_1 : Kd.C k58 w A0_1 l0_1.length l0_1) (hc0_1 : l0_1.length ≤ c0_1) (h : swarflaw43_SubprogramJoin.f k l0_0 l0_1 = some r) :
  Calls Try.prog 12 #[.agg #[.slice A0_0 l0_0.length c0_0, .slice A0_1 l0_1.length c0_1]] w fun e w' => e = .returned (.bool r) ∧ Below w.heap.size w w' := by
 have hu48 := Try.underlying48
 have hu54 := Try.underlying54
 have HR0_0 := Aside0.mk hr0_0
 have HC0_0 := Aside0.mk hc0_0
 clear hr0_0 hc0_0
 have HR0_1 := Aside0.mk hr0_1
 have HC0_1 := Aside0.mk hc0_1
 clear hr0_1 hc0_1
 have HB := Aside0.mk (Below.refl w.heap.size w)
 have H : ((swarflaw43_awake.f).bind fun t956 => (if t956 = true then ((swarflaw43_few.f k l0_0 l0_1).bind fun t957 => (swarflaw43_SubprogramJoin.j0 k (!t957) l0_0 l0_1)) else (swarflaw43_SubprogramJoin.j0 k true l0_0 l0_1))) = some r := h
 clear h
 have HC2 := Aside0.mk H
 clear H
 go_enter Try.func12, Try.ntmps12
 go_upto_region 1 with (first | ((with_reducible refine gate_dst (N := 1) rfl ?_); refine yX 1 #[.slice A0_0 l0_0.length c0_0, .slice A0_1 l0_1.length c0_1] 48 ?_; intro gb955 hg w3 hbox hb; have BK955 := Aside0.mk (hbox); have GW955 := Aside0.mk ((yG hg : w.heap.size ≤ gb955)); have GE955 := Aside0.mk ((yG hg : w.heap.size ≤ gb955)); replace HB := Aside0.mk (below_step yB hb); clear hb hbox hg))
 (try simp only [Act.put, List.setIfInBounds_toArray, List.set_cons_zero, List.set_cons_succ])
 go_cut [14] (fun v14 wc => ∃ (kq : Nat) (x14_1 : Bool), v14 = .bool x14_1 ∧ Aside0 (swarflaw43_SubprogramJoin.j0 kq x14_1 l0_0 l0_1 = some r) ∧ Aside0 (kq ≤ k) ∧ Aside0 (wc.heap[gb955]? = some (.cells #[(.slice A0_0 l0_0.length c0_0), (.slice A0_1 l0_1.length c0_1)] 48 (0, 0))) ∧ Aside0 (Below w.heap.size w wc))
 case first =>
  have H := HC2.out
  clear HC2
  replace H := Option.bind_eq_some_iff.mp H
  obtain ⟨t956, A40, H⟩ := H
  have A4 := Aside0.mk A40
  clear A40
  by_cases c5 : t956 = true
  ·subst c5
   rw [if_pos rfl] at H
   replace H := Option.bind_eq_some_iff.mp H
   obtain ⟨t957, A60, H⟩ := H
   have A6 := Aside0.mk A60
   clear A60
   have H' := Aside0.mk H
   clear H
   go_wp2_with (first | ((with_reducible refine gate_callee (f := 23) rfl ?_); refine goesL_ (some 8) rfl rfl Try.func23 (by kernel_rfl) rfl #[] rfl yQ ?_; (with_reducible refine (swarflaw43_awake.calls  true _ A4.out).mono ?_); rintro e w7 ⟨rfl, hb⟩; refine ⟨_, rfl, ?_⟩; replace BK955 := Aside0.mk (blk_below (g := gb955) yK hb); replace HB := Aside0.mk (below_step yB hb); (try clear hb); have hcz8_0 := yZ0 BK955.out; have hcz8_1 := yZ1 BK955.out; have hfz8_0 := blk_frozen BK955.out 0; have hfz8_1 := blk_frozen BK955.out 1) | (go_at_call 27; (with_reducible refine (swarflaw43_few.calls k _ _ l0_0 _ _ l0_1 t957 _ ?side1 ?side2 ?side3 ?side4 A6.out).mono ?_); (case side1 => exact yC HR0_0.out); (case side2 => exact HC0_0.out); (case side3 => exact yC HR0_1.out); (case side4 => exact HC0_1.out); rintro e w9 ⟨rfl, hb⟩; replace BK955 := Aside0.mk (blk_below (g := gb955) yK hb); replace HB := Aside0.mk (below_step yB hb); (try clear hb)))
   go_meet
   case rel => exact ⟨_, (!t957), yS, H', ⟨by first | omega | exact Nat.le_refl _⟩, ⟨by refine yH ?_; exact BK955.out⟩, ⟨yB⟩⟩
  replace c5 := Bool.eq_false_iff.mpr c5
  subst c5
  replace H : (swarflaw43_SubprogramJoin.j0 k true l0_0 l0_1) = some r := by rw [if_neg (show ¬ (false = true) by decide)] at H; exact H
  have H' := Aside0.mk H
  clear H
  go_wp2_with (first | ((with_reducible refine gate_callee (f := 23) rfl ?_); refine goesL_ (some 8) rfl rfl Try.func23 (by kernel_rfl) rfl #[] rfl yQ ?_; (with_reducible refine (swarflaw43_awake.calls  false _ A4.out).mono ?_); rintro e w10 ⟨rfl, hb⟩; refine ⟨_, rfl, ?_⟩; replace BK955 := Aside0.mk (blk_below (g := gb955) yK hb); replace HB := Aside0.mk (below_step yB hb); (try clear hb)))
  go_meet
  case rel => exact ⟨_, (true), yS, H', ⟨by first | omega | exact Nat.le_refl _⟩, ⟨by refine yH ?_; exact BK955.out⟩, ⟨yB⟩⟩
 case rest =>
  clear HC2
  try clear c1
  try clear c2
  try clear p2
  try clear c5
  try clear hcz8_0
  try clear hcz8_1
  try clear hfz8_0
  try clear hfz8_1
  obtain ⟨kq, x14_1, rfl, HA, HJ1, BK955, HB⟩ := hcut
  cases kq with
  | zero => exact absurd HA.out (by simp [swarflaw43_SubprogramJoin.j0])
  | succ kj1 =>
   have H := HA.out
   clear HA
   simp only [swarflaw43_SubprogramJoin.j0] at H
   by_cases c11 : x14_1 = true
   ·subst c11
    rw [if_pos rfl] at H
    replace H := Option.bind_eq_some_iff.mp H
    obtain ⟨t958, A120, H⟩ := H
    have A12 := Aside0.mk A120
    clear A120
    obtain rfl := Option.some.inj H
    go_wp2_with (first | ((with_reducible refine gate_callee (f := 23) rfl ?_); refine goesL_ (some 15) rfl rfl Try.func23 (by kernel_rfl) rfl #[] rfl yQ ?_; (with_reducible refine (swarflaw43_awake.calls  t958 _ A12.out).mono ?_); rintro e w13 ⟨rfl, hb⟩; refine ⟨_, rfl, ?_⟩; replace BK955 := Aside0.mk (blk_below (g := gb955) yK hb); replace HB := Aside0.mk (below_step yB hb); (try clear hb)))
    go_ret
    exact ⟨yE, yB⟩
   replace c11 := Bool.eq_false_iff.mpr c11
   subst c11
   replace H : ((swarflaw43_own.f kj1 l0_0 l0_1).bind fun bt959 => ((subprogram_Join.f kj1 bt959.1 bt959.2).bind fun t965 => ((swarfref43_Join.f kj1 l0_0 l0_1).bind fun t968 => ((swarfref41_Same.f kj1 t965 t968).bind fun t971 => (if t971 = true then ((swarfref43_Check.f kj1 l0_0 l0_1).bind fun bt972 => (if bt972.2 = 1 then (some true) else ((subprogram_Split.f kj1 t965).bind fun bt974 => (if bt974.2.2 = 0 then ((swarflaw43_back.f kj1 bt974.1 bt974.2.1).bind fun bt982 => ((swarfref43_Same.f kj1 bt982.1 bt982.2 l0_0 l0_1).bind fun t988 => (some t988))) else (none))))) else (none)))))) = some r := by rw [if_neg (show ¬ (false = true) by decide)] at H; exact H
   replace H := Option.bind_eq_some_iff.mp H
   obtain ⟨⟨t959, t962⟩, A140, H⟩ := H
   have A14 := Aside0.mk A140
   clear A140
   replace H := Option.bind_eq_some_iff.mp H
   obtain ⟨t965, A150, H⟩ := H
   have A15 := Aside0.mk A150
   clear A150
   replace H := Option.bind_eq_some_iff.mp H
   obtain ⟨t968, A160, H⟩ := H
   have A16 := Aside0.mk A160
   clear A160
   replace H := Option.bind_eq_some_iff.mp H
   obtain ⟨t971, A170, H⟩ := H
   have A17 := Aside0.mk A170
   clear A170
   by_cases c18 : t971 = true
   ·subst c18
    rw [if_pos rfl] at H
    replace H := Option.bind_eq_some_iff.mp H
    obtain ⟨⟨t972, t973⟩, A190, H⟩ := H
    have A19 := Aside0.mk A190
    clear A190
    by_cases c20 : t973 = 1
    ·rw [if_pos c20] at H
     have c20b0 : (t973 == 1) = true := beq_iff_eq.mpr c20
     have c20b1 : (t973 != 1) = false := bne_eq_false_iff_eq.mpr c20
     clear c20
     obtain rfl := Option.some.inj H
     have hcz21_0 := yZ0 BK955.out
     have hcz21_1 := yZ1 BK955.out
     have hfz21_0 := blk_frozen BK955.out 0
     have hfz21_1 := blk_frozen BK955.out 1
     go_wp2_with (first | ((with_reducible refine gate_callee (f := 29) rfl ?_); refine goesL_ (some 17) rfl rfl Try.func29 (by kernel_rfl) rfl #[.agg #[.slice A0_0 l0_0.length c0_0, .slice A0_1 l0_1.length c0_1]] rfl yQ ?_; (with_reducible refine (swarflaw43_own.calls kj1 (fun k_ => k_ < w.heap.size) _ _ l0_0 (fun k_ => k_ < w.heap.size) _ _ l0_1 t959 t962 _ ?side1 ?side2 A14.out).mono ?_); (case side1 => exact Kd.V_mk HC0_0.out (Kd.F_below (Kd.C_F k32_heap HR0_0.out) yB)); (case side2 => exact Kd.V_mk HC0_1.out (Kd.F_below (Kd.C_F k58_heap HR0_1.out) yB)); rintro e w22 ⟨v960, v963, rfl, ho0, ho1, hb⟩; refine ⟨_, rfl, ?_⟩; have HO961 := Aside0.mk (Kd.N_lower (Kd.N_mono (ok' := fun k_ => some k_ ≠ (v963 : Value).ownBlock ∧ k_ ≠ gb955) ho0 (fun k_ hk_ => ⟨hk_.2, Or.elim hk_.1 (fun hs_ => Or.elim hs_ (fun hs_ => fun e_ => Nat.not_le.2 hs_ (by rw [e_]; exact GW955.out)) (fun hs_ => fun e_ => Nat.not_le.2 hs_ (by rw [e_]; exact GW955.out))) (fun hn_ => (Kd.freshB (g := gb955) yK k_ hn_))⟩)) (below_size yB)); have HO964 := Aside0.mk (Kd.N_lower (Kd.N_mono (ok' := fun k_ => some k_ ≠ (v960 : Value).ownBlock ∧ k_ ≠ gb955) ho1 (fun k_ hk_ => ⟨hk_.2, Or.elim hk_.1 (fun hs_ => Or.elim hs_ (fun hs_ => fun e_ => Nat.not_le.2 hs_ (by rw [e_]; exact GW955.out)) (fun hs_ => fun e_ => Nat.not_le.2 hs_ (by rw [e_]; exact GW955.out))) (fun hn_ => (Kd.freshB (g := gb955) yK k_ hn_))⟩)) (below_size yB)); replace BK955 := Aside0.mk (blk_below (g := gb955) yK hb); replace HB := Aside0.mk (below_step yB hb); (try clear hb); (try clear ho0); (try clear ho1); obtain ⟨Ao23, co23, eo23⟩ := Kd.N_slice HO961.out; subst eo23; obtain ⟨Ao24, co24, eo24⟩ := Kd.N_slice HO964.out; subst eo24) | ((with_reducible refine gate_callee (f := 47) rfl ?_); refine goesL_ (some 18) rfl rfl Try.func47 (by kernel_rfl) rfl #[.agg #[.slice Ao23 t959.length co23, .slice Ao24 t962.length co24]] rfl yQ ?_; (with_reducible refine (subprogram_Join.calls kj1 (fun k_ => (some k_ ≠ (.slice Ao24 t962.length co24 : Value).ownBlock ∧ k_ ≠ gb955)) _ _ t959 (fun k_ => (some k_ ≠ (.slice Ao23 t959.length co23 : Value).ownBlock ∧ k_ ≠ gb955)) _ _ t962 t965 _ ?side1 ?side2 A15.out).mono ?_); (case side1 => exact Kd.N_V (HO961.out)); (case side2 => exact Kd.N_V (HO964.out)); rintro e w25 ⟨v966, rfl, ho0, hb⟩; refine ⟨_, rfl, ?_⟩; replace HO961 := Aside0.mk (Kd.N_elder' (yN HO961.out) (by first | exact Kd.N_base ho0 | exact Kd.S_base ho0) hb); replace HO964 := Aside0.mk (Kd.N_elder' (yN HO964.out) (by first | exact Kd.N_base ho0 | exact Kd.S_base ho0) hb); have HO967 := Aside0.mk (Kd.N_lower (Kd.N_mono (ok' := fun k_ => k_ ≠ gb955) ho0 (fun k_ hk_ => Or.elim hk_ (fun hs_ => Or.elim hs_ (fun hs_ => hs_.2) (fun hs_ => hs_.2)) (fun hn_ => (Kd.freshB (g := gb955) yK k_ hn_)))) (below_size yB)); replace BK955 := Aside0.mk (blk_below (g := gb955) yK hb); replace HB := Aside0.mk (below_step yB hb); (try clear hb); (try clear ho0); have hcz26_0 := yZ0 BK955.out; have hcz26_1 := yZ1 BK955.out; have hfz26_0 := blk_frozen BK955.out 0; have hfz26_1 := blk_frozen BK955.out 1) | ((with_reducible refine gate_callee (f := 48) rfl ?_); refine goesL_ (some 21) rfl rfl Try.func48 (by kernel_rfl) rfl #[.agg #[.slice A0_0 l0_0.length c0_0, .slice A0_1 l0_1.length c0_1]] rfl yQ ?_; (with_reducible refine (swarfref43_Join.calls kj1 (fun k_ => k_ < w.heap.size) _ _ l0_0 (fun k_ => k_ < w.heap.size) _ _ l0_1 t968 _ ?side1 ?side2 A16.out).mono ?_); (case side1 => exact Kd.V_mk HC0_0.out (Kd.F_below (Kd.C_F k32_heap HR0_0.out) yB)); (case side2 => exact Kd.V_mk HC0_1.out (Kd.F_below (Kd.C_F k58_heap HR0_1.out) yB)); rintro e w27 ⟨v969, rfl, ho0, hb⟩; refine ⟨_, rfl, ?_⟩; have HO970 := Aside0.mk (Kd.N_lower (Kd.N_mono (ok' := fun k_ => some k_ ≠ (.slice Ao23 t959.length co23 : Value).ownBlock ∧ some k_ ≠ (.slice Ao24 t962.length co24 : Value).ownBlock ∧ some k_ ≠ (v966 : Value).ownBlock ∧ k_ ≠ gb955) ho0 (fun k_ hk_ => ⟨Or.elim hk_ (fun hs_ => Or.elim hs_ (fun hs_ => fun e_ => Nat.not_le.2 hs_ (Kd.N_base HO961.out k_ e_.symm)) (fun hs_ => fun e_ => Nat.not_le.2 hs_ (Kd.N_base HO961.out k_ e_.symm))) (fun hn_ => (Kd.fresh' (Kd.N_lt (yN HO961.out)) k_ hn_)), Or.elim hk_ (fun hs_ => Or.elim hs_ (fun hs_ => fun e_ => Nat.not_le.2 hs_ (Kd.N_base HO964.out k_ e_.symm)) (fun hs_ => fun e_ => Nat.not_le.2 hs_ (Kd.N_base HO964.out k_ e_.symm))) (fun hn_ => (Kd.fresh' (Kd.N_lt (yN HO964.out)) k_ hn_)), Or.elim hk_ (fun hs_ => Or.elim hs_ (fun hs_ => fun e_ => Nat.not_le.2 hs_ (Kd.N_base HO967.out k_ e_.symm)) (fun hs_ => fun e_ => Nat.not_le.2 hs_ (Kd.N_base HO967.out k_ e_.symm))) (fun hn_ => (Kd.fresh' (Kd.N_lt (yN HO967.out)) k_ hn_)), Or.elim hk_ (fun hs_ => Or.elim hs_ (fun hs_ => fun e_ => Nat.not_le.2 hs_ (by rw [e_]; exact GW955.out)) (fun hs_ => fun e_ => Nat.not_le.2 hs_ (by rw [e_]; exact GW955.out))) (fun hn_ => (Kd.freshB (g := gb955) yK k_ hn_))⟩)) (below_size yB)); replace HO961 := Aside0.mk (Kd.N_elder' (yN HO961.out) (by first | exact Kd.N_base ho0 | exact Kd.S_base ho0) hb); replace HO964 := Aside0.mk (Kd.N_elder' (yN HO964.out) (by first | exact Kd.N_base ho0 | exact Kd.S_base ho0) hb); replace HO967 := Aside0.mk (Kd.N_elder' (yN HO967.out) (by first | exact Kd.N_base ho0 | exact Kd.S_base ho0) hb); replace BK955 := Aside0.mk (blk_below (g := gb955) yK hb); replace HB := Aside0.mk (below_step yB hb); (try clear hb); (try clear ho0); obtain ⟨Ao28, co28, eo28⟩ := Kd.N_slice HO967.out; subst eo28; obtain ⟨Ao29, co29, eo29⟩ := Kd.N_slice HO970.out; subst eo29) | ((with_reducible refine gate_callee (f := 19) rfl ?_); refine goesL_ (some 22) rfl rfl Try.func19 (by kernel_rfl) rfl #[.slice Ao28 t965.length co28, .slice Ao29 t968.length co29] rfl yQ ?_; (with_reducible refine (swarfref41_Same.calls kj1 _ _ t965 _ _ t968 true _ ?side1 ?side2 ?side3 ?side4 A17.out).mono ?_); (case side1 => repeat (first | exact (Kd.N_reads' HO967.out).2.2 | (with_reducible refine Kd.C_alloc ?_ _) | (with_reducible refine Kd.C_drewN ?_ _) | (with_reducible refine Kd.C_drew ?_))); (case side2 => exact (Kd.N_reads' HO967.out).2.1); (case side3 => repeat (first | exact (Kd.N_reads' HO970.out).2.2 | (with_reducible refine Kd.C_alloc ?_ _) | (with_reducible refine Kd.C_drewN ?_ _) | (with_reducible refine Kd.C_drew ?_))); (case side4 => exact (Kd.N_reads' HO970.out).2.1); rintro e w30 ⟨rfl, hb⟩; refine ⟨_, rfl, ?_⟩; replace HO961 := Aside0.mk (Kd.N_below (yN HO961.out) hb); replace HO964 := Aside0.mk (Kd.N_below (yN HO964.out) hb); replace HO967 := Aside0.mk (Kd.N_below (yN HO967.out) hb); replace HO970 := Aside0.mk (Kd.N_below (yN HO970.out) hb); replace BK955 := Aside0.mk (blk_below (g := gb955) yK hb); replace HB := Aside0.mk (below_step yB hb); (try clear hb); have hcz31_0 := yZ0 BK955.out; have hcz31_1 := yZ1 BK955.out; have hfz31_0 := blk_frozen BK955.out 0; have hfz31_1 := blk_frozen BK955.out 1) | ((with_reducible refine gate_callee (f := 37) rfl ?_); refine goesL_ (some 26) rfl rfl Try.func37 (by kernel_rfl) rfl #[.agg #[.slice A0_0 l0_0.length c0_0, .slice A0_1 l0_1.length c0_1]] rfl yQ ?_; (with_reducible refine (swarfref43_Check.calls kj1 _ _ l0_0 _ _ l0_1 t972 t973 _ ?side1 ?side2 ?side3 ?side4 A19.out).mono ?_); (case side1 => exact yC HR0_0.out); (case side2 => exact HC0_0.out); (case side3 => exact yC HR0_1.out); (case side4 => exact HC0_1.out); rintro e w32 ⟨rfl, hb⟩; refine ⟨_, rfl, ?_⟩; replace HO961 := Aside0.mk (Kd.N_below (yN HO961.out) hb); replace HO964 := Aside0.mk (Kd.N_below (yN HO964.out) hb); replace HO967 := Aside0.mk (Kd.N_below (yN HO967.out) hb); replace HO970 := Aside0.mk (Kd.N_below (yN HO970.out) hb); replace BK955 := Aside0.mk (blk_below (g := gb955) yK hb); replace HB := Aside0.mk (below_step yB hb); (try clear hb)))
     go_ret
     exact ⟨yE, yB⟩
    rw [if_neg c20] at H
    have c20b0 : (t973 == 1) = false := beq_eq_false_iff_ne.mpr c20
    have c20b1 : (t973 != 1) = true := bne_iff_ne.mpr c20
    replace H := Option.bind_eq_some_iff.mp H
    obtain ⟨⟨t974, t977, t980⟩, A330, H⟩ := H
    have A33 := Aside0.mk A330
    clear A330
    by_cases c34 : t980 = 0
    ·rw [if_pos c34] at H
     have c34b0 : (t980 == 0) = true := beq_iff_eq.mpr c34
     have c34b1 : (t980 != 0) = false := bne_eq_false_iff_eq.mpr c34
     clear c34
     replace H := Option.bind_eq_some_iff.mp H
     obtain ⟨⟨t982, t985⟩, A350, H⟩ := H
     have A35 := Aside0.mk A350
     clear A350
     replace H := Option.bind_eq_some_iff.mp H
     obtain ⟨t988, A360, H⟩ := H
     have A36 := Aside0.mk A360
     clear A360
     obtain rfl := Option.some.inj H
     have hcz37_0 := yZ0 BK955.out
     have hcz37_1 := yZ1 BK955.out
     have hfz37_0 := blk_frozen BK955.out 0
     have hfz37_1 := blk_frozen BK955.out 1
     try go_wp2_with (first | ((with_reducible refine gate_callee (f := 29) rfl ?_); refine goesL_ (some 17) rfl rfl Try.func29 (by kernel_rfl) rfl #[.agg #[.slice A0_0 l0_0.length c0_0, .slice A0_1 l0_1.length c0_1]] rfl yQ ?_; (with_reducible refine (swarflaw43_own.calls kj1 (fun k_ => k_ < w.heap.size) _ _ l0_0 (fun k_ => k_ < w.heap.size) _ _ l0_1 t959 t962 _ ?side1 ?side2 A14.out).mono ?_); (case side1 => exact Kd.V_mk HC0_0.out (Kd.F_below (Kd.C_F k32_heap HR0_0.out) yB)); (case side2 => exact Kd.V_mk HC0_1.out (Kd.F_below (Kd.C_F k58_heap HR0_1.out) yB)); rintro e w38 ⟨v960, v963, rfl, ho0, ho1, hb⟩; refine ⟨_, rfl, ?_⟩; have HO961 := Aside0.mk (Kd.N_lower (Kd.N_mono (ok' := fun k_ => some k_ ≠ (v963 : Value).ownBlock ∧ k_ ≠ gb955) ho0 (fun k_ hk_ => ⟨hk_.2, Or.elim hk_.1 (fun hs_ => Or.elim hs_ (fun hs_ => fun e_ => Nat.not_le.2 hs_ (by rw [e_]; exact GW955.out)) (fun hs_ => fun e_ => Nat.not_le.2 hs_ (by rw [e_]; exact GW955.out))) (fun hn_ => (Kd.freshB (g := gb955) yK k_ hn_))⟩)) (below_size yB)); have HO964 := Aside0.mk (Kd.N_lower (Kd.N_mono (ok' := fun k_ => some k_ ≠ (v960 : Value).ownBlock ∧ k_ ≠ gb955) ho1 (fun k_ hk_ => ⟨hk_.2, Or.elim hk_.1 (fun hs_ => Or.elim hs_ (fun hs_ => fun e_ => Nat.not_le.2 hs_ (by rw [e_]; exact GW955.out)) (fun hs_ => fun e_ => Nat.not_le.2 hs_ (by rw [e_]; exact GW955.out))) (fun hn_ => (Kd.freshB (g := gb955) yK k_ hn_))⟩)) (below_size yB)); replace BK955 := Aside0.mk (blk_below (g := gb955) yK hb); replace HB := Aside0.mk (below_step yB hb); (try clear hb); (try clear ho0); (try clear ho1); obtain ⟨Ao39, co39, eo39⟩ := Kd.N_slice HO961.out; subst eo39; obtain ⟨Ao40, co40, eo40⟩ := Kd.N_slice HO964.out; subst eo40) | ((with_reducible refine gate_callee (f := 47) rfl ?_); refine goesL_ (some 18) rfl rfl Try.func47 (by kernel_rfl) rfl #[.agg #[.slice Ao39 t959.length co39, .slice Ao40 t962.length co40]] rfl yQ ?_; (with_reducible refine (subprogram_Join.calls kj1 (fun k_ => (some k_ ≠ (.slice Ao40 t962.length co40 : Value).ownBlock ∧ k_ ≠ gb955)) _ _ t959 (fun k_ => (some k_ ≠ (.slice Ao39 t959.length co39 : Value).ownBlock ∧ k_ ≠ gb955)) _ _ t962 t965 _ ?side1 ?side2 A15.out).mono ?_); (case side1 => exact Kd.N_V (HO961.out)); (case side2 => exact Kd.N_V (HO964.out)); rintro e w41 ⟨v966, rfl, ho0, hb⟩; refine ⟨_, rfl, ?_⟩; replace HO961 := Aside0.mk (Kd.N_elder' (yN HO961.out) (by first | exact Kd.N_base ho0 | exact Kd.S_base ho0) hb); replace HO964 := Aside0.mk (Kd.N_elder' (yN HO964.out) (by first | exact Kd.N_base ho0 | exact Kd.S_base ho0) hb); have HO967 := Aside0.mk (Kd.N_lower (Kd.N_mono (ok' := fun k_ => k_ ≠ gb955) ho0 (fun k_ hk_ => Or.elim hk_ (fun hs_ => Or.elim hs_ (fun hs_ => hs_.2) (fun hs_ => hs_.2)) (fun hn_ => (Kd.freshB (g := gb955) yK k_ hn_)))) (below_size yB)); replace BK955 := Aside0.mk (blk_below (g := gb955) yK hb); replace HB := Aside0.mk (below_step yB hb); (try clear hb); (try clear ho0); have hcz42_0 := yZ0 BK955.out; have hcz42_1 := yZ1 BK955.out; have hfz42_0 := blk_frozen BK955.out 0; have hfz42_1 := blk_frozen BK955.out 1) | ((with_reducible refine gate_callee (f := 48) rfl ?_); refine goesL_ (some 21) rfl rfl Try.func48 (by kernel_rfl) rfl #[.agg #[.slice A0_0 l0_0.length c0_0, .slice A0_1 l0_1.length c0_1]] rfl yQ ?_; (with_reducible refine (swarfref43_Join.calls kj1 (fun k_ => k_ < w.heap.size) _ _ l0_0 (fun k_ => k_ < w.heap.size) _ _ l0_1 t968 _ ?side1 ?side2 A16.out).mono ?_); (case side1 => exact Kd.V_mk HC0_0.out (Kd.F_below (Kd.C_F k32_heap HR0_0.out) yB)); (case side2 => exact Kd.V_mk HC0_1.out (Kd.F_below (Kd.C_F k58_heap HR0_1.out) yB)); rintro e w43 ⟨v969, rfl, ho0, hb⟩; refine ⟨_, rfl, ?_⟩; have HO970 := Aside0.mk (Kd.N_lower (Kd.N_mono (ok' := fun k_ => some k_ ≠ (.slice Ao39 t959.length co39 : Value).ownBlock ∧ some k_ ≠ (.slice Ao40 t962.length co40 : Value).ownBlock ∧ some k_ ≠ (v966 : Value).ownBlock ∧ k_ ≠ gb955) ho0 (fun k_ hk_ => ⟨Or.elim hk_ (fun hs_ => Or.elim hs_ (fun hs_ => fun e_ => Nat.not_le.2 hs_ (Kd.N_base HO961.out k_ e_.symm)) (fun hs_ => fun e_ => Nat.not_le.2 hs_ (Kd.N_base HO961.out k_ e_.symm))) (fun hn_ => (Kd.fresh' (Kd.N_lt (yN HO961.out)) k_ hn_)), Or.elim hk_ (fun hs_ => Or.elim hs_ (fun hs_ => fun e_ => Nat.not_le.2 hs_ (Kd.N_base HO964.out k_ e_.symm)) (fun hs_ => fun e_ => Nat.not_le.2 hs_ (Kd.N_base HO964.out k_ e_.symm))) (fun hn_ => (Kd.fresh' (Kd.N_lt (yN HO964.out)) k_ hn_)), Or.elim hk_ (fun hs_ => Or.elim hs_ (fun hs_ => fun e_ => Nat.not_le.2 hs_ (Kd.N_base HO967.out k_ e_.symm)) (fun hs_ => fun e_ => Nat.not_le.2 hs_ (Kd.N_base HO967.out k_ e_.symm))) (fun hn_ => (Kd.fresh' (Kd.N_lt (yN HO967.out)) k_ hn_)), Or.elim hk_ (fun hs_ => Or.elim hs_ (fun hs_ => fun e_ => Nat.not_le.2 hs_ (by rw [e_]; exact GW955.out)) (fun hs_ => fun e_ => Nat.not_le.2 hs_ (by rw [e_]; exact GW955.out))) (fun hn_ => (Kd.freshB (g := gb955) yK k_ hn_))⟩)) (below_size yB)); replace HO961 := Aside0.mk (Kd.N_elder' (yN HO961.out) (by first | exact Kd.N_base ho0 | exact Kd.S_base ho0) hb); replace HO964 := Aside0.mk (Kd.N_elder' (yN HO964.out) (by first | exact Kd.N_base ho0 | exact Kd.S_base ho0) hb); replace HO967 := Aside0.mk (Kd.N_elder' (yN HO967.out) (by first | exact Kd.N_base ho0 | exact Kd.S_base ho0) hb); replace BK955 := Aside0.mk (blk_below (g := gb955) yK hb); replace HB := Aside0.mk (below_step yB hb); (try clear hb); (try clear ho0); obtain ⟨Ao44, co44, eo44⟩ := Kd.N_slice HO967.out; subst eo44; obtain ⟨Ao45, co45, eo45⟩ := Kd.N_slice HO970.out; subst eo45) | ((with_reducible refine gate_callee (f := 19) rfl ?_); refine goesL_ (some 22) rfl rfl Try.func19 (by kernel_rfl) rfl #[.slice Ao44 t965.length co44, .slice Ao45 t968.length co45] rfl yQ ?_; (with_reducible refine (swarfref41_Same.calls kj1 _ _ t965 _ _ t968 true _ ?side1 ?side2 ?side3 ?side4 A17.out).mono ?_); (case side1 => repeat (first | exact (Kd.N_reads' HO967.out).2.2 | (with_reducible refine Kd.C_alloc ?_ _) | (with_reducible refine Kd.C_drewN ?_ _) | (with_reducible refine Kd.C_drew ?_))); (case side2 => exact (Kd.N_reads' HO967.out).2.1); (case side3 => repeat (first | exact (Kd.N_reads' HO970.out).2.2 | (with_reducible refine Kd.C_alloc ?_ _) | (with_reducible refine Kd.C_drewN ?_ _) | (with_reducible refine Kd.C_drew ?_))); (case side4 => exact (Kd.N_reads' HO970.out).2.1); rintro e w46 ⟨rfl, hb⟩; refine ⟨_, rfl, ?_⟩; replace HO961 := Aside0.mk (Kd.N_below (yN HO961.out) hb); replace HO964 := Aside0.mk (Kd.N_below (yN HO964.out) hb); replace HO967 := Aside0.mk (Kd.N_below (yN HO967.out) hb); replace HO970 := Aside0.mk (Kd.N_below (yN HO970.out) hb); replace BK955 := Aside0.mk (blk_below (g := gb955) yK hb); replace HB := Aside0.mk (below_step yB hb); (try clear hb); have hcz47_0 := yZ0 BK955.out; have hcz47_1 := yZ1 BK955.out; have hfz47_0 := blk_frozen BK955.out 0; have hfz47_1 := blk_frozen BK955.out 1) | ((with_reducible refine gate_callee (f := 37) rfl ?_); refine goesL_ (some 26) rfl rfl Try.func37 (by kernel_rfl) rfl #[.agg #[.slice A0_0 l0_0.length c0_0, .slice A0_1 l0_1.length c0_1]] rfl yQ ?_; (with_reducible refine (swarfref43_Check.calls kj1 _ _ l0_0 _ _ l0_1 t972 t973 _ ?side1 ?side2 ?side3 ?side4 A19.out).mono ?_); (case side1 => exact yC HR0_0.out); (case side2 => exact HC0_0.out); (case side3 => exact yC HR0_1.out); (case side4 => exact HC0_1.out); rintro e w48 ⟨rfl, hb⟩; refine ⟨_, rfl, ?_⟩; replace HO961 := Aside0.mk (Kd.N_below (yN HO961.out) hb); replace HO964 := Aside0.mk (Kd.N_below (yN HO964.out) hb); replace HO967 := Aside0.mk (Kd.N_below (yN HO967.out) hb); replace HO970 := Aside0.mk (Kd.N_below (yN HO970.out) hb); replace BK955 := Aside0.mk (blk_below (g := gb955) yK hb); replace HB := Aside0.mk (below_step yB hb); (try clear hb)) | ((with_reducible refine gate_callee (f := 45) rfl ?_); refine goesL_ (some 33) rfl rfl Try.func45 (by kernel_rfl) rfl #[.slice Ao44 t965.length co44] rfl yQ ?_; (with_reducible refine (subprogram_Split.calls kj1 (fun k_ => (k_ ≠ gb955 ∧ some k_ ≠ (.slice Ao45 t968.length co45 : Value).ownBlock)) _ _ t965 t974 t977 t980 _ ?side1 A33.out).mono ?_); (case side1 => exact Kd.N_V (HO967.out)); rintro e w49 ⟨v975, v978, rfl, ho0, ho1, hb⟩; refine ⟨_, rfl, ?_⟩; replace HO961 := Aside0.mk (Kd.N_mono (Kd.N_told (Kd.N_told (Kd.N_old (yN HO961.out) hb) (by first | exact Kd.N_base ho0 | exact Kd.S_base ho0)) (Kd.N_base ho1)) (fun _ h_ => h_.1)); replace HO964 := Aside0.mk (Kd.N_mono (Kd.N_told (Kd.N_told (Kd.N_old (yN HO964.out) hb) (by first | exact Kd.N_base ho0 | exact Kd.S_base ho0)) (Kd.N_base ho1)) (fun _ h_ => h_.1)); replace HO967 := Aside0.mk (Kd.N_mono (Kd.N_told (Kd.N_told (Kd.N_old (yN HO967.out) hb) (by first | exact Kd.N_base ho0 | exact Kd.S_base ho0)) (Kd.N_base ho1)) (fun _ h_ => h_.1)); have HO976 := Aside0.mk (Kd.N_lower (Kd.N_mono (ok' := fun k_ => some k_ ≠ (v978 : Value).ownBlock ∧ some k_ ≠ (.slice Ao45 t968.length co45 : Value).ownBlock ∧ k_ ≠ gb955) ho0 (fun k_ hk_ => ⟨hk_.2, Or.elim hk_.1 (fun hs_ => hs_.2) (fun hn_ => (Kd.fresh' (Kd.N_lt (yN HO970.out)) k_ hn_)), Or.elim hk_.1 (fun hs_ => hs_.1) (fun hn_ => (Kd.freshB (g := gb955) yK k_ hn_))⟩)) (below_size yB)); have HO979 := Aside0.mk (Kd.N_lower (Kd.N_mono (ok' := fun k_ => some k_ ≠ (v975 : Value).ownBlock ∧ some k_ ≠ (.slice Ao45 t968.length co45 : Value).ownBlock ∧ k_ ≠ gb955) ho1 (fun k_ hk_ => ⟨hk_.2, Or.elim hk_.1 (fun hs_ => hs_.2) (fun hn_ => (Kd.fresh' (Kd.N_lt (yN HO970.out)) k_ hn_)), Or.elim hk_.1 (fun hs_ => hs_.1) (fun hn_ => (Kd.freshB (g := gb955) yK k_ hn_))⟩)) (below_size yB)); replace HO970 := Aside0.mk (Kd.N_mono (Kd.N_told (Kd.N_told (Kd.N_old (yN HO970.out) hb) (by first | exact Kd.N_base ho0 | exact Kd.S_base ho0)) (Kd.N_base ho1)) (fun _ h_ => h_.1)); replace BK955 := Aside0.mk (blk_below (g := gb955) yK hb); replace HB := Aside0.mk (below_step yB hb); (try clear hb); (try clear ho0); (try clear ho1)) | ((with_reducible refine gate_dst (N := 6) rfl ?_); refine yX 6 #[.slice none 0 0, .slice none 0 0] 54 ?_; intro gb981 hg w50 hbox hb; replace HO961 := Aside0.mk (Kd.N_below (Kd.N_elderB (yN HO961.out) gb981 (Nat.le_of_eq hg.symm)) hb); replace HO964 := Aside0.mk (Kd.N_below (Kd.N_elderB (yN HO964.out) gb981 (Nat.le_of_eq hg.symm)) hb); replace HO967 := Aside0.mk (Kd.N_below (Kd.N_elderB (yN HO967.out) gb981 (Nat.le_of_eq hg.symm)) hb); replace HO970 := Aside0.mk (Kd.N_below (Kd.N_elderB (yN HO970.out) gb981 (Nat.le_of_eq hg.symm)) hb); replace HO976 := Aside0.mk (Kd.N_below (Kd.N_elderB (yN HO976.out) gb981 (Nat.le_of_eq hg.symm)) hb); replace HO979 := Aside0.mk (Kd.N_below (Kd.N_elderB (yN HO979.out) gb981 (Nat.le_of_eq hg.symm)) hb); have BK981 := Aside0.mk (hbox); have GE981 := Aside0.mk ((yG hg : w.heap.size ≤ gb981)); replace HB := Aside0.mk (below_step yB hb); have NB955_981 := Aside0.mk ((yJ hg yK : gb955 ≠ gb981)); have NB981_955 := Aside0.mk ((yI hg yK : gb981 ≠ gb955)); replace BK955 := Aside0.mk (blk_below (g := gb955) yK hb); clear hb hbox hg; obtain ⟨Ao51, co51, eo51⟩ := Kd.N_slice HO976.out; subst eo51; have hnb52 := NB981_955.out; have hnc52 := NB955_981.out; have hcz53_0 := yZ0 BK981.out; have hcz53_1 := yZ1 BK981.out; have hfz53_0 := blk_frozen BK981.out 0; have hfz53_1 := blk_frozen BK981.out 1; obtain ⟨Ao54, co54, eo54⟩ := Kd.N_slice HO979.out; subst eo54))
     have n0_ : Aside0 (Kd.N k32 32 ((w50.setCell ⟨gb981, 0, none⟩ (.slice Ao51 t974.length co51)).setCell ⟨gb981, 1, none⟩ (.slice Ao54 t977.length co54)) w.heap.size (fun k_ => some k_ ≠ (.slice Ao40 t962.length co40 : Value).ownBlock ∧ some k_ ≠ (.slice Ao44 t965.length co44 : Value).ownBlock ∧ some k_ ≠ (.slice Ao45 t968.length co45 : Value).ownBlock ∧ some k_ ≠ (.slice Ao51 t974.length co51 : Value).ownBlock ∧ some k_ ≠ (.slice Ao54 t977.length co54 : Value).ownBlock ∧ k_ ≠ gb955 ∧ k_ ≠ gb981) (.slice Ao39 t959.length co39) t959) := ⟨by refine yN ?_; exact Kd.N_mono (Kd.N_far (p := ⟨gb981, 1, none⟩) (Kd.N_far (p := ⟨gb981, 0, none⟩) (Kd.N_mono HO961.out (fun k_ hk => (⟨hk, hk.2⟩ : _ ∧ k_ ≠ gb981))) (fun _ hk => hk.2) (.slice Ao51 t974.length co51)) (fun _ hk => hk.2) (.slice Ao54 t977.length co54)) (fun _ hk => ⟨hk.1.1.1.1.1.1.1, ⟨hk.1.1.1.1.1.2, ⟨hk.1.1.1.1.2, ⟨hk.1.1.1.2, ⟨hk.1.1.2, ⟨hk.1.1.1.1.1.1.2, hk.1.2⟩⟩⟩⟩⟩⟩)⟩
     have n1_ : Aside0 (Kd.N k81 81 ((w50.setCell ⟨gb981, 0, none⟩ (.slice Ao51 t974.length co51)).setCell ⟨gb981, 1, none⟩ (.slice Ao54 t977.length co54)) w.heap.size (fun k_ => some k_ ≠ (.slice Ao39 t959.length co39 : Value).ownBlock ∧ some k_ ≠ (.slice Ao44 t965.length co44 : Value).ownBlock ∧ some k_ ≠ (.slice Ao45 t968.length co45 : Value).ownBlock ∧ some k_ ≠ (.slice Ao51 t974.length co51 : Value).ownBlock ∧ some k_ ≠ (.slice Ao54 t977.length co54 : Value).ownBlock ∧ k_ ≠ gb955 ∧ k_ ≠ gb981) (.slice Ao40 t962.length co40) t962) := ⟨by refine yN ?_; exact Kd.N_mono (Kd.N_far (p := ⟨gb981, 1, none⟩) (Kd.N_far (p := ⟨gb981, 0, none⟩) (Kd.N_mono HO964.out (fun k_ hk => (⟨hk, hk.2⟩ : _ ∧ k_ ≠ gb981))) (fun _ hk => hk.2) (.slice Ao51 t974.length co51)) (fun _ hk => hk.2) (.slice Ao54 t977.length co54)) (fun _ hk => ⟨hk.1.1.1.1.1.1.1, ⟨hk.1.1.1.1.1.2, ⟨hk.1.1.1.1.2, ⟨hk.1.1.1.2, ⟨hk.1.1.2, ⟨hk.1.1.1.1.1.1.2, hk.1.2⟩⟩⟩⟩⟩⟩)⟩
     have n2_ : Aside0 (Kd.N k32 32 ((w50.setCell ⟨gb981, 0, none⟩ (.slice Ao51 t974.length co51)).setCell ⟨gb981, 1, none⟩ (.slice Ao54 t977.length co54)) w.heap.size (fun k_ => some k_ ≠ (.slice Ao45 t968.length co45 : Value).ownBlock ∧ some k_ ≠ (.slice Ao51 t974.length co51 : Value).ownBlock ∧ some k_ ≠ (.slice Ao54 t977.length co54 : Value).ownBlock ∧ k_ ≠ gb955 ∧ k_ ≠ gb981) (.slice Ao44 t965.length co44) t965) := ⟨by refine yN ?_; exact Kd.N_mono (Kd.N_far (p := ⟨gb981, 1, none⟩) (Kd.N_far (p := ⟨gb981, 0, none⟩) (Kd.N_mono HO967.out (fun k_ hk => (⟨hk, hk.2⟩ : _ ∧ k_ ≠ gb981))) (fun _ hk => hk.2) (.slice Ao51 t974.length co51)) (fun _ hk => hk.2) (.slice Ao54 t977.length co54)) (fun _ hk => ⟨hk.1.1.1.1.2, ⟨hk.1.1.1.2, ⟨hk.1.1.2, ⟨hk.1.1.1.1.1, hk.1.2⟩⟩⟩⟩)⟩
     have n3_ : Aside0 (Kd.N k32 32 ((w50.setCell ⟨gb981, 0, none⟩ (.slice Ao51 t974.length co51)).setCell ⟨gb981, 1, none⟩ (.slice Ao54 t977.length co54)) w.heap.size (fun k_ => some k_ ≠ (.slice Ao39 t959.length co39 : Value).ownBlock ∧ some k_ ≠ (.slice Ao40 t962.length co40 : Value).ownBlock ∧ some k_ ≠ (.slice Ao44 t965.length co44 : Value).ownBlock ∧ some k_ ≠ (.slice Ao51 t974.length co51 : Value).ownBlock ∧ some k_ ≠ (.slice Ao54 t977.length co54 : Value).ownBlock ∧ k_ ≠ gb955 ∧ k_ ≠ gb981) (.slice Ao45 t968.length co45) t968) := ⟨by refine yN ?_; exact Kd.N_mono (Kd.N_far (p := ⟨gb981, 1, none⟩) (Kd.N_far (p := ⟨gb981, 0, none⟩) (Kd.N_mono HO970.out (fun k_ hk => (⟨hk, hk.2⟩ : _ ∧ k_ ≠ gb981))) (fun _ hk => hk.2) (.slice Ao51 t974.length co51)) (fun _ hk => hk.2) (.slice Ao54 t977.length co54)) (fun _ hk => ⟨hk.1.1.1.1.1, ⟨hk.1.1.1.1.2.1, ⟨hk.1.1.1.1.2.2.1, ⟨hk.1.1.1.2, ⟨hk.1.1.2, ⟨hk.1.1.1.1.2.2.2, hk.1.2⟩⟩⟩⟩⟩⟩)⟩
     have n4_ : Aside0 (Kd.N k32 32 ((w50.setCell ⟨gb981, 0, none⟩ (.slice Ao51 t974.length co51)).setCell ⟨gb981, 1, none⟩ (.slice Ao54 t977.length co54)) w.heap.size (fun k_ => some k_ ≠ (.slice Ao45 t968.length co45 : Value).ownBlock ∧ some k_ ≠ (.slice Ao54 t977.length co54 : Value).ownBlock ∧ k_ ≠ gb955 ∧ k_ ≠ gb981) (.slice Ao51 t974.length co51) t974) := ⟨by refine yN ?_; exact Kd.N_mono (Kd.N_far (p := ⟨gb981, 1, none⟩) (Kd.N_far (p := ⟨gb981, 0, none⟩) (Kd.N_mono HO976.out (fun k_ hk => (⟨hk, hk.2⟩ : _ ∧ k_ ≠ gb981))) (fun _ hk => hk.2) (.slice Ao51 t974.length co51)) (fun _ hk => hk.2) (.slice Ao54 t977.length co54)) (fun _ hk => ⟨hk.1.1.2.1, ⟨hk.1.1.1, ⟨hk.1.1.2.2, hk.1.2⟩⟩⟩)⟩
     have n5_ : Aside0 (Kd.N k81 81 ((w50.setCell ⟨gb981, 0, none⟩ (.slice Ao51 t974.length co51)).setCell ⟨gb981, 1, none⟩ (.slice Ao54 t977.length co54)) w.heap.size (fun k_ => some k_ ≠ (.slice Ao45 t968.length co45 : Value).ownBlock ∧ some k_ ≠ (.slice Ao51 t974.length co51 : Value).ownBlock ∧ k_ ≠ gb955 ∧ k_ ≠ gb981) (.slice Ao54 t977.length co54) t977) := ⟨by refine yN ?_; exact Kd.N_mono (Kd.N_far (p := ⟨gb981, 1, none⟩) (Kd.N_far (p := ⟨gb981, 0, none⟩) (Kd.N_mono HO979.out (fun k_ hk => (⟨hk, hk.2⟩ : _ ∧ k_ ≠ gb981))) (fun _ hk => hk.2) (.slice Ao51 t974.length co51)) (fun _ hk => hk.2) (.slice Ao54 t977.length co54)) (fun _ hk => ⟨hk.1.1.2.1, ⟨hk.1.1.1, ⟨hk.1.1.2.2, hk.1.2⟩⟩⟩)⟩
     have n6_ : Aside0 (((w50.setCell ⟨gb981, 0, none⟩ (.slice Ao51 t974.length co51)).setCell ⟨gb981, 1, none⟩ (.slice Ao54 t977.length co54)).heap[gb955]? = some (.cells #[.slice A0_0 l0_0.length c0_0, .slice A0_1 l0_1.length c0_1] 48 (0, 0))) := ⟨by refine yH ?_; refine blk_far ?_ NB955_981.out _; refine yH ?_; refine blk_far ?_ NB955_981.out _; refine yH ?_; exact BK955.out⟩
     have n7_ : Aside0 (((w50.setCell ⟨gb981, 0, none⟩ (.slice Ao51 t974.length co51)).setCell ⟨gb981, 1, none⟩ (.slice Ao54 t977.length co54)).heap[gb981]? = some (.cells #[.slice Ao51 t974.length co51, .slice Ao54 t977.length co54] 54 (0, 0))) := ⟨by refine yH ?_; refine blk_put (cs := #[.slice Ao51 t974.length co51, .slice none 0 0]) ?_ 1 _ rfl; refine yH ?_; refine blk_put (cs := #[.slice none 0 0, .slice none 0 0]) ?_ 0 _ rfl; refine yH ?_; exact BK981.out⟩
     have n8_ : Aside0 (Below w.heap.size w ((w50.setCell ⟨gb981, 0, none⟩ (.slice Ao51 t974.length co51)).setCell ⟨gb981, 1, none⟩ (.slice Ao54 t977.length co54))) := ⟨yB⟩
     (try clear HO961)
     (try clear HO964)
     (try clear HO967)
     (try clear HO970)
     (try clear HO976)
     (try clear HO979)
     (try clear BK955)
     (try clear BK981)
     (try clear HB)
     generalize ((w50.setCell ⟨gb981, 0, none⟩ (.slice Ao51 t974.length co51)).setCell ⟨gb981, 1, none⟩ (.slice Ao54 t977.length co54)) = w55 at n0_ n1_ n2_ n3_ n4_ n5_ n6_ n7_ n8_ ⊢
     have HO961 := n0_
     have HO964 := n1_
     have HO967 := n2_
     have HO970 := n3_
     have HO976 := n4_
     have HO979 := n5_
     have BK955 := n6_
     have BK981 := n7_
     have HB := n8_
     clear n0_ n1_ n2_ n3_ n4_ n5_ n6_ n7_ n8_
     replace HO961 := Aside0.mk (Kd.N_drew HO961.out)
     replace HO964 := Aside0.mk (Kd.N_drew HO964.out)
     replace HO967 := Aside0.mk (Kd.N_drew HO967.out)
     replace HO970 := Aside0.mk (Kd.N_drew HO970.out)
     replace HO976 := Aside0.mk (Kd.N_drew HO976.out)
     replace HO979 := Aside0.mk (Kd.N_drew HO979.out)
     replace BK955 := Aside0.mk (blk_drew BK955.out)
     replace BK981 := Aside0.mk (blk_drew BK981.out)
     replace HB := Aside0.mk (below_drew1 HB.out)
     refine start_ (n := 9) (S := fun w' => w'.cell? ⟨gb981, 0, none⟩ = some (.slice Ao51 t974.length co51) ∧ w'.cell? ⟨gb981, 1, none⟩ = some (.slice Ao54 t977.length co54) ∧ w'.cell? ⟨gb955, 0, none⟩ = some (.slice A0_0 l0_0.length c0_0) ∧ w'.cell? ⟨gb955, 1, none⟩ = some (.slice A0_1 l0_1.length c0_1)) (ds := []) #[false, false, false, false, false, false, false, false, false] (by kernel_rfl) rfl rfl ⟨(blk_cell BK981.out 0).trans rfl, (blk_cell BK981.out 1).trans rfl, (blk_cell BK955.out 0).trans rfl, (blk_cell BK955.out 1).trans rfl⟩ (fun hHeld => ?_); refine with_tabW swarflaw43_SubprogramJoin.tab10 swarflaw43_SubprogramJoin.bits10 (fun HT_ HW_ => ?_)
     generalize w55.drew = w56 at HO961 HO964 HO967 HO970 HO976 HO979 BK955 BK981 HB hHeld ⊢
     refine yp 0 36 ?_
     refine yp 1 37 ?_
     refine yp 2 38 ?_
     refine yt 3 39 hHeld ?_
     refine yt 5 41 hHeld ?_
     refine yo 4 (some 40) (fun K hK => ?_)
     refine goes_ Try.func36 (by kernel_rfl) rfl #[.agg #[.slice Ao51 t974.length co51, .slice Ao54 t977.length co54]] (by rfl) rfl rfl yQ ?_
     with_reducible refine (swarflaw43_back.calls kj1 (fun k_ => (some k_ ≠ (.slice Ao45 t968.length co45 : Value).ownBlock ∧ (some k_ ≠ (.slice Ao54 t977.length co54 : Value).ownBlock ∧ (k_ ≠ gb955 ∧ k_ ≠ gb981)))) _ _ t974 (fun k_ => (some k_ ≠ (.slice Ao45 t968.length co45 : Value).ownBlock ∧ (some k_ ≠ (.slice Ao51 t974.length co51 : Value).ownBlock ∧ (k_ ≠ gb955 ∧ k_ ≠ gb981)))) _ _ t977 t982 t985 _ ?side1 ?side2 A35.out).mono ?_
     (case side1 => exact Kd.N_V (HO976.out))
     (case side2 => exact Kd.N_V (HO979.out))
     rintro e w57 ⟨v983, v986, rfl, ho0, ho1, hb⟩
     refine ⟨_, rfl, ?_⟩
     replace HO961 := Aside0.mk (Kd.N_elder' (yN HO961.out) (Kd.N_base ho1) hb)
     replace HO964 := Aside0.mk (Kd.N_elder' (yN HO964.out) (Kd.N_base ho1) hb)
     replace HO967 := Aside0.mk (Kd.N_elder' (yN HO967.out) (Kd.N_base ho1) hb)
     replace HO976 := Aside0.mk (Kd.N_elder' (yN HO976.out) (Kd.N_base ho1) hb)
     replace HO979 := Aside0.mk (Kd.N_elder' (yN HO979.out) (Kd.N_base ho1) hb)
     have HO984 := Aside0.mk (Kd.V_lower (Kd.V_mono (ok' := fun k_ => some k_ ≠ (v986 : Value).ownBlock ∧ some k_ ≠ (.slice Ao45 t968.length co45 : Value).ownBlock ∧ k_ ≠ gb955 ∧ k_ ≠ gb981) ho0 (fun k_ hk_ => ⟨hk_.2, Or.elim hk_.1 (fun hs_ => Or.elim hs_ (fun hs_ => hs_.1) (fun hs_ => hs_.1)) (fun hn_ => (Kd.fresh' (Kd.N_lt (yN HO970.out)) k_ hn_)), Or.elim hk_.1 (fun hs_ => Or.elim hs_ (fun hs_ => hs_.2.2.1) (fun hs_ => hs_.2.2.1)) (fun hn_ => (Kd.freshB (g := gb955) yK k_ hn_)), Or.elim hk_.1 (fun hs_ => Or.elim hs_ (fun hs_ => hs_.2.2.2) (fun hs_ => hs_.2.2.2)) (fun hn_ => (Kd.freshB (g := gb981) yK k_ hn_))⟩)) (below_size yB))
     have HO987 := Aside0.mk (Kd.N_lower (Kd.N_mono (ok' := fun k_ => some k_ ≠ (.slice Ao45 t968.length co45 : Value).ownBlock ∧ k_ ≠ gb955 ∧ k_ ≠ gb981) ho1 (fun k_ hk_ => ⟨Or.elim hk_ (fun hs_ => Or.elim hs_ (fun hs_ => hs_.1) (fun hs_ => hs_.1)) (fun hn_ => (Kd.fresh' (Kd.N_lt (yN HO970.out)) k_ hn_)), Or.elim hk_ (fun hs_ => Or.elim hs_ (fun hs_ => hs_.2.2.1) (fun hs_ => hs_.2.2.1)) (fun hn_ => (Kd.freshB (g := gb955) yK k_ hn_)), Or.elim hk_ (fun hs_ => Or.elim hs_ (fun hs_ => hs_.2.2.2) (fun hs_ => hs_.2.2.2)) (fun hn_ => (Kd.freshB (g := gb981) yK k_ hn_))⟩)) (below_size yB))
     replace HO970 := Aside0.mk (Kd.N_elder' (yN HO970.out) (Kd.N_base ho1) hb)
     replace BK955 := Aside0.mk (blk_below (g := gb955) yK hb)
     replace BK981 := Aside0.mk (blk_below (g := gb981) yK hb)
     replace HB := Aside0.mk (below_step yB hb)
     (try clear hb)
     (try clear ho0)
     (try clear ho1)
     obtain ⟨Ao58, co58, eo58⟩ := Kd.V_slice HO984.out
     (first | subst eo58 | (injection eo58 with f1_ f2_ f3_; have f4_ := f1_.symm; have f5_ := f3_.symm; clear f1_ f2_ f3_; subst f4_; subst f5_))
     obtain ⟨Ao59, co59, eo59⟩ := Kd.N_slice HO987.out
     (first | subst eo59 | (injection eo59 with f1_ f2_ f3_; have f4_ := f1_.symm; have f5_ := f3_.symm; clear f1_ f2_ f3_; subst f4_; subst f5_))
     refine hK.out _ _ ⟨(blk_cell BK981.out 0).trans rfl, (blk_cell BK981.out 1).trans rfl, (blk_cell BK955.out 0).trans rfl, (blk_cell BK955.out 1).trans rfl⟩ (fun hHeld => ?_)
     clear hK K
     refine yn 40 ?_
     refine yo 6 (some 42) (fun K hK => ?_)
     refine goes_ Try.func35 (by kernel_rfl) rfl #[.agg #[.slice Ao58 t982.length co58, .slice Ao59 t985.length co59], .agg #[.slice A0_0 l0_0.length c0_0, .slice A0_1 l0_1.length c0_1]] (by rfl) rfl rfl yQ ?_
     with_reducible refine (swarfref43_Same.calls kj1 _ _ t982 _ _ t985 _ _ l0_0 _ _ l0_1 t988 _ ?side1 ?side2 ?side3 ?side4 ?side5 ?side6 ?side7 ?side8 A36.out).mono ?_
     (case side1 => repeat (first | exact (Kd.V_reads' HO984.out).2.2 | (with_reducible refine Kd.C_alloc ?_ _) | (with_reducible refine Kd.C_drewN ?_ _) | (with_reducible refine Kd.C_drew ?_)))
     (case side2 => exact (Kd.V_reads' HO984.out).2.1)
     (case side3 => repeat (first | exact (Kd.N_reads' HO987.out).2.2 | (with_reducible refine Kd.C_alloc ?_ _) | (with_reducible refine Kd.C_drewN ?_ _) | (with_reducible refine Kd.C_drew ?_)))
     (case side4 => exact (Kd.N_reads' HO987.out).2.1)
     (case side5 => exact yC HR0_0.out)
     (case side6 => exact HC0_0.out)
     (case side7 => exact yC HR0_1.out)
     (case side8 => exact HC0_1.out)
     rintro e w60 ⟨rfl, hb⟩
     refine ⟨_, rfl, ?_⟩
     replace HO961 := Aside0.mk (Kd.N_below (yN HO961.out) hb)
     replace HO964 := Aside0.mk (Kd.N_below (yN HO964.out) hb)
     replace HO967 := Aside0.mk (Kd.N_below (yN HO967.out) hb)
     replace HO970 := Aside0.mk (Kd.N_below (yN HO970.out) hb)
     replace HO976 := Aside0.mk (Kd.N_below (yN HO976.out) hb)
     replace HO979 := Aside0.mk (Kd.N_below (yN HO979.out) hb)
     replace HO984 := Aside0.mk (Kd.V_below (yV HO984.out) hb)
     replace HO987 := Aside0.mk (Kd.N_below (yN HO987.out) hb)
     replace BK955 := Aside0.mk (blk_below (g := gb955) yK hb)
     replace BK981 := Aside0.mk (blk_below (g := gb981) yK hb)
     replace HB := Aside0.mk (below_step yB hb)
     (try clear hb)
     refine hK.out _ _ ⟨(blk_cell BK981.out 0).trans rfl, (blk_cell BK981.out 1).trans rfl, (blk_cell BK955.out 0).trans rfl, (blk_cell BK955.out 1).trans rfl⟩ (fun hHeld => ?_)
     clear hK K
     refine yn 42 ?_
     refine yp 7 43 ?_
     refine yp 8 2 ?_
     refine done_ (done_of HT_.out (by kernel_rfl)) ?_
     try go_wp2
     go_ret
     exact ⟨yE, yB⟩
    rw [if_neg c34] at H
    have c34b0 : (t980 == 0) = false := beq_eq_false_iff_ne.mpr c34
    have c34b1 : (t980 != 0) = true := bne_iff_ne.mpr c34
    exact absurd H (by simp)
   replace c18 := Bool.eq_false_iff.mpr c18
   subst c18
   replace H : (none) = some r := by rw [if_neg (show ¬ (false = true) by decide)] at H; exact H
   exact absurd H (by simp)
end Go.Proofs.Ytehkhbnhmehobaa.P
namespace Go.Proofs.Ytehkhbnhmehobaa.P
open Go.RowKit Go.Proofs.YtehkhbnhmehobaaW.PrintWords Go.Proofs.YtehkhbnhmehobaaW.PrintLast Go.Proofs.YtehkhbnhmehobaaW.PrintMore
set_option linter.unusedVariables false
set_option linter.unusedSimpArgs false
theorem pure_SubprogramJoin (p : List Bk × List Rb) (hp : okProg p) : ∃ k, swarflaw43_SubprogramJoin.f k p.1 p.2 = some true := by
  obtain ⟨m, s⟩ := p
  refine Ev.get (g := fun k => swarflaw43_SubprogramJoin.f k m s) ?_
  obtain ⟨r, h1, h2⟩ := few_ev m s hp
  have aw : swarflaw43_awake.f = some true := rfl
  unfold swarflaw43_SubprogramJoin.f
  rw [aw]
  refine Ev.bind Ev.some (Ev.pos rfl (Ev.bind h1 (Ev.step (fun k => by rw [swarflaw43_SubprogramJoin.j0]) ?_)))
  cases r with
  | false =>
    refine Ev.pos rfl ?_
    rw [aw]
    exact Ev.bind Ev.some Ev.some
  | true =>
    have hg := h2 rfl
    have hm : m.length ≤ 1000000 := by have := hg.1.1; omega
    have hs : s.length ≤ 1000000 := by have := hg.2.1; omega
    have hk : ∀ x ∈ s, x.f1.length ≤ 1000000 := fun x hx => by have := (hg.2.2 x hx).1; omega
    have hsz := joinT_size s (fun x hx => (hg.2.2 x hx).1)
    have hall : ∀ b ∈ m ++ joinT s, b.f1.length ≤ 9223372036854775807 := fun b hb => by
      rcases List.mem_append.mp hb with hb | hb
      · have := (hg.1.2 b hb).len; omega
      have := joinT_len s (fun x hx => (hg.2.2 x hx).2) b hb; omega
    have hsame := Same_f (m ++ joinT s) (m ++ joinT s) (by rw [List.length_append]; have := hg.2.1; omega) hall
    rw [decide_eq_true rfl] at hsame
    obtain ⟨r, hc, hc'⟩ := check_ev hg
    refine Ev.neg (by decide) (Ev.bind (own_ev m s hm hs hk) (Ev.bind (joinO_ev m s hm hs hk) (Ev.bind (joinR_ev m s hm hs hk) (Ev.bind hsame (Ev.pos rfl (Ev.bind hc ?_))))))
    by_cases h : r.2 = 1
    · exact Ev.pos h Ev.some
    have hpp := hc' h
    refine Ev.neg h (Ev.bind (split_ev hg hpp) (Ev.pos rfl (Ev.bind (back_ev _ _ (by rw [List.length_map]; exact hs)) ?_)))
    rw [sOf_back]
    refine Ev.bind (SameR_refl _ _ ⟨show m.length ≤ _ by omega, fun b hb => by have := (hg.1.2 b hb).len; omega⟩ hs (fun x hx => ⟨by have := hk x hx; omega, fun b hb => by have := ((hg.2.2 x hx).2 b hb).len; omega⟩)) Ev.some
end Go.Proofs.Ytehkhbnhmehobaa.P
namespace Go.Proofs.Ytehkhbnhmehobaa.subprogramJoin
open Go.ChangeShapes Go.WideShapes Go.ChangeAt Go.RowKit
open Go.ChangeMaps (open_string shut_string)
set_option linter.unusedVariables false
theorem own : ownKnob Try.prog.godebug = none := by kernel_rfl
theorem laidOut : laidOutB Try.prog = true := by kernel_rfl
set_option maxRecDepth 100000 in
theorem lifted (os : Os) (started : os.Started) (H : Type) (enc : TypeId × Value → H) :
    ReturnsInHanded {} Try.checked os 12 .any (Rows.subprogramJoinSpec.pre6 enc Try.prog Try.f12 Rows.subprogramJoinRow.domain false) (Rows.subprogramJoinSpec.post enc Try.prog Try.f12 false true false false) := by
  refine returnsInHanded_of_change_sized (C := Try.checked) own started (by kernel_rfl) Try.func12
    (ChangeSpec.witness6 (enc := enc) (C := Try.checked) false ⟨#[], #[.agg #[.slice none 0 0, .slice none 0 0]], []⟩ 8 (by kernel_rfl) (by kernel_rfl) (by kernel_rfl) (by kernel_rfl)) ?_
  intro W base args ds gs before hval0 hW hcnd hsz0 _
  have hsz : (DataW.weightsEach Try.prog (Try.f12.params.toList ++ Rows.subprogramJoinSpec.plain.varTypes Try.prog) (ds ++ gs)).all (· ≤ reachBytes) = true := hsz0
  have hval : ∀ (j : Nat) t v, Try.f12.params[j]? = some t → args[j]? = some v → Value.okWide Try.prog W .any base t v := hval0
  have hW' := hW
  obtain ⟨p, q, hA0, hV, rfl, hfz, hnd⟩ := hW
  have hA : DataW.TrodAll enc Try.prog W 0 (fun _ => true) true Try.f12.params.toList args.toList ds p := hA0
  rw [Try.params12] at hA hval hsz
  obtain ⟨v0, vs0, d0, ds0, p0, q0, hargs, rfl, rfl, h0, r0⟩ := trodAll_cons hA
  obtain ⟨rfl, rfl, rfl⟩ := trodAll_nil r0
  obtain rfl : args = #[v0] := by cases args; simp_all
  obtain ⟨rfl, rfl⟩ := trodVars_none hV
  have k0 := h0
  have lt0 : ∀ x ∈ p0, x.block < W.heap.size := by obtain ⟨m, hm⟩ := k0; exact DataW.trod_lt m _ _ _ hm
  obtain ⟨b0, A0, c0, B0, d0_, rfl, l0, r0_, n0, s0_, w0⟩ := P.arg_Prog (hval 0 48 v0 rfl rfl) h0
  clear hA0 hval0 hsz0 hsz
  obtain ⟨k_, pure_⟩ := P.pure_SubprogramJoin b0 w0
  refine (P.swarflaw43_SubprogramJoin.calls k_ A0 c0 b0.1 B0 d0_ b0.2 true W r0_ l0 s0_ n0 pure_).mono fun e W' ⟨he, bel⟩ => ?_
  subst he
  exact ⟨_, rfl, _, _, _, [], _, [], hW', trodAll_mk1 (shut_bool Try.underlying4 _), (trodAll_cons_mk (Below.trod laidOut (by kernel_rfl) (of_decide_eq_true (by kernel_rfl)) k0 bel lt0) trodAll_mk0), rfl, bel.frame _, fun h => by cases h⟩
theorem over : Rows.subprogramJoinRow.holds Try.pinned (OpenSpec.ofChange Rows.subprogramJoinSpec) :=
  OpenClaim.holds_of_wide 12 Try.f12 rfl rfl rfl rfl rfl rfl rfl ⟨rfl, rfl, rfl, rfl, rfl⟩ rfl rfl rfl rfl rfl (by kernel_rfl) Try.func12 (by kernel_rfl)
    (of_decide_eq_true (by kernel_rfl)) (by unfold Func.isWrapper; first | (rw [if_pos (by decide +kernel)]; kernel_rfl) | (rw [if_neg (by decide +kernel)]; exact ⟨rfl, rfl⟩))
    (fun os started H enc _ => lifted os started H enc)
theorem proved : Rows.SubprogramJoinSaid := over
#print axioms proved
end Go.Proofs.Ytehkhbnhmehobaa.subprogramJoin
namespace Go.Proofs.Ytehkhbnhmehobaa
theorem subprogramJoin_holds : Rows.SubprogramJoinSaid := subprogramJoin.proved
end Go.Proofs.Ytehkhbnhmehobaa
